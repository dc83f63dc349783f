import PyProof.Rows.All
import HandS.ForMost
import KE.SortData
import KE.DataEq
import KE.DataCmp
import KE.DataMinMax
import KE.DataIsa
import KE.DataAny
import HandS.Set
import HandS.SetFor
import HandS.Strs
import HandS.SetTxt0
import HandS.ForExc
import HandS.Conv
import HandS.Dict
import HandS.TupMul
import HandS.TupAny
import HandS.TupLe
import HandS.TupLen
import HandS.Flow
import HandS.WordsExc
import HandS.Text
import HandS.IsInst
import KE.KRevSl
import HandS.DictTup
import KE.KDictSum
import KE.KDictCopyH
import KE.KDictWalk
import HandS.Style
import HandS.HotCalls
import HandS.ExcIs
import HandS.TupSets
import KE.KDictPairs
import HandS.Defaults
import HandS.TryOnly
import PyProof.ExcBaseAll.ValueError
import Wide.All
import OpenK.AllK
import Wide.FinOn
import KE.KStateDown
import HandS.Ends
import HandS.Head0
import HandS.Head1
import HandS.Head2
import HandS.HeadEnd
import HandS.HeadHook1
import HandS.HeadHook2
import PySem.Challenge.RW_makegreet_k04_whole_more_offered
set_option Elab.async false
set_option linter.all false
set_option autoImplicit false
set_option maxRecDepth 100000
set_option maxHeartbeats 0
-- ## Core
/-! # Core: a small language without places, and what it means, over plain data -/
namespace G6
open PySem

/-! ## what the names hold -/
inductive Sl where
  | un
  | v (d : PyData)
  | m (d : PyData)
  | b (d : PyData)
  | f (x : Str)
abbrev Rho := List Sl
inductive Pv where
  | dat (d : PyData)
  | at (i : Nat)
  | fn (x : Str)
  | tmp (d : PyData)
inductive Av where
  | d (x : PyData)
  | f (x : Str)
inductive Out where
  | ret (d : PyData) (io : PyData)
  | exc (c : Str) (io : PyData)
  | bad
abbrev Fenv := Str → List Av → Out
inductive R (α : Type) where
  | ok (a : α) (ρ : Rho)
  | ex (c : Str) (ρ : Rho)
  | bad
def R.bind {α β : Type} (r : R α) (k : α → Rho → R β) : R β := match r with
  | .ok a ρ => k a ρ
  | .ex c ρ => .ex c ρ
  | .bad => .bad
/-- the data that a slot holds -/
def rd (ρ : Rho) (i : Nat) : Option PyData := match ρ[i]? with
  | some (.v d) => some d
  | some (.m d) => some d
  | some (.b d) => some d
  | _ => none
def res (ρ : Rho) : Pv → Option PyData
  | .dat d => some d
  | .at i => rd ρ i
  | .fn _ => none
  | .tmp d => some d

/-! ## operations on data -/
def depthOk (d : PyData) : Bool := decide (d.depth ≤ 100)
def kindTuple : PyData → Bool
  | .tuple _ => true
  | _ => false
def noDict : PyData → Bool
  | .dict _ => false
  | _ => true
/-- a key of a dict: a text, or a tuple of whole numbers -/
def keyStr : PyData → Option Str
  | .str s => some s
  | _ => none
def intsOf : List PyData → Option (List Int)
  | [] => some []
  | .int i :: r => (intsOf r).map (i :: ·)
  | _ => none
def keyTup : PyData → Option (List Int)
  | .tuple ds => intsOf ds
  | _ => none
/-- a store into a dict's rows: in its place, or behind all -/
def putRow (k v : PyData) (q : List (PyData × PyData)) : List (PyData × PyData) :=
  if q.any (fun r => PyData.eqv r.1 k) = true then q.map (fun r => if PyData.eqv r.1 k = true then (r.1, v) else r) else q ++ [(k, v)]
/-- a dict whose keys are tuples of whole numbers begins with a row of None -/
def tupDict : List (PyData × PyData) → Bool
  | (.none, _) :: _ => true
  | _ => false
def rowsD : List (PyData × PyData) → List (PyData × PyData)
  | (.none, _) :: r => r
  | r => r
def keyFits (q : List (PyData × PyData)) (k : PyData) : Bool := if tupDict q then (keyTup k).isSome else (keyStr k).isSome
def dictKeys (q : List (PyData × PyData)) : List PyData := (rowsD q).map (·.1)
def dfind (q : List (PyData × PyData)) (k : PyData) : Option PyData := ((rowsD q).find? fun r => PyData.eqv r.1 k).map (·.2)
/-- the items of a list or a tuple -/
def itemsOf : PyData → Option (List PyData)
  | .list xs => some xs
  | .tuple xs => some xs
  | _ => none
/-- the items of what a loop walks -/
def walkOf : PyData → Option (List PyData)
  | .list xs => some xs
  | .tuple xs => some xs
  | .str s => if s.length ≤ sizeLine then some (s.cps.toList.map fun c => .str ⟨#[c]⟩) else none
  | _ => none
def truth : PyData → Option Bool
  | .none => some false
  | .bool b => some b
  | .int i => some (i != 0)
  | .str s => if s.length ≤ sizeLine then some (s.length != 0) else none
  | .list xs => some (!xs.isEmpty)
  | .tuple xs => some (!xs.isEmpty)
  | .dict _ => none
def bools : List PyData → Option (List Bool)
  | [] => some []
  | .bool b :: r => (bools r).map (b :: ·)
  | _ => none
def alikeList (ds : List PyData) : Bool := ds.all fun x => ds.all fun y => PySem.W.alike x y
def sortKind : PyData → Bool
  | .none => false
  | .tuple _ => false
  | _ => true
def sortData (ds : List PyData) : List PyData := ds.mergeSort (PySem.W.dataLe false id)
def sortOp (ds : List PyData) : Option PyData :=
  if alikeList ds && (ds.all kindTuple || ds.all sortKind) && ds.all depthOk && decide (ds.length ≤ sizeLine) then some (.list (sortData ds)) else none
def strsOf : List PyData → Option (List Str)
  | [] => some []
  | .str s :: r => (strsOf r).map (s :: ·)
  | _ => none
def notNone : PyData → Bool
  | .none => false
  | _ => true
inductive Ty where
  | str | int | bool | tuple | list
  deriving DecidableEq
def isTy : Ty → PyData → Bool
  | .str, .str _ => true
  | .int, .int _ => true
  | .int, .bool _ => true
  | .bool, .bool _ => true
  | .tuple, .tuple _ => true
  | .list, .list _ => true
  | _, _ => false
/-- the first of each kind of a list of texts, as they come -/
def dedup : List Str → List Str
  | [] => []
  | x :: r => x :: (dedup r).filter fun y => decide (y ≠ x)
/-- two small whole numbers -/
def pairD : PyData → Option (Int × Int)
  | .tuple [.int a, .int b] => if 0 ≤ a ∧ a < 64 ∧ 0 ≤ b ∧ b < 64 then some (a, b) else none
  | _ => none
def pairsD : List PyData → Option (List (Int × Int))
  | [] => some []
  | x :: r => match pairD x with
    | some p => (pairsD r).map (p :: ·)
    | none => none
def dedupP : List (Int × Int) → List (Int × Int)
  | [] => []
  | x :: r => x :: (dedupP r).filter fun y => decide (y ≠ x)
def leP (a b : Int × Int) : Bool := decide (a.1 < b.1 ∨ (a.1 = b.1 ∧ a.2 ≤ b.2))
def pairSet (ps : List (Int × Int)) : List PyData := ((dedupP ps).mergeSort leP).map fun p => .tuple [.int p.1, .int p.2]

inductive Op1 where
  | len | sorted | list | tuple | all | any | max | min | int | str | neg | isNone | notNone | isi (t : Ty) | rev | ssort | slen | skeys | sitems | rngT | rngL | isB (b neg : Bool)
  deriving DecidableEq
def lenD : PyData → Option PyData
  | .list xs => some (.int xs.length)
  | .tuple xs => some (.int xs.length)
  | .str s => if s.length ≤ sizeLine then some (.int s.length) else none
  | .dict ((.none, _) :: r) => some (.int r.length)
  | _ => none
def sortedD : PyData → Option PyData
  | .list xs => sortOp xs
  | .tuple xs => sortOp xs
  | _ => none
/-- sorted(d.keys()), sorted(d.items()) -/
def skeysD : PyData → Option PyData
  | .dict q => sortOp (dictKeys q)
  | _ => none
def sitemsD : PyData → Option PyData
  | .dict q => sortOp ((rowsD q).map fun r => .tuple [r.1, r.2])
  | _ => none
def listD : PyData → Option PyData
  | .list xs => some (.list xs)
  | .tuple xs => some (.list xs)
  | .dict q => some (.list (dictKeys q))
  | _ => none
def tupleD : PyData → Option PyData
  | .list xs => some (.tuple xs)
  | .tuple xs => some (.tuple xs)
  | .str s => if s.length ≤ sizeLine then some (.tuple (s.cps.toList.map fun c => .str ⟨#[c]⟩)) else none
  | _ => none
def allD : PyData → Option PyData
  | .list xs => (bools xs).map fun bs => .bool (bs.all id)
  | _ => none
def anyD : PyData → Option PyData
  | .list xs => (bools xs).map fun bs => .bool (bs.any id)
  | _ => none
def mmOk (xs : List PyData) : Bool := alikeList xs && xs.all notNone && xs.all depthOk
def maxOp : PyData → Option PyData
  | .list (x :: xs) => if mmOk (x :: xs) then some (PySem.W.maxD x xs) else none
  | _ => none
def minOp : PyData → Option PyData
  | .list (x :: xs) => if mmOk (x :: xs) then some (PySem.W.minD x xs) else none
  | _ => none
def intD : PyData → Option PyData
  | .int i => some (.int i)
  | .bool b => some (.int (if b then 1 else 0))
  | .str s => if s.length ≤ 640 then (PySem.intText? s).map .int else none
  | _ => none
def strD : PyData → Option PyData
  | .int i => if i.natAbs.log2 < 1920 then some (.str (toString i)) else none
  | _ => none
def negD : PyData → Option PyData
  | .int i => some (.int (-i))
  | _ => none
def isNoneD : PyData → Bool
  | .none => true
  | _ => false
def revD : PyData → Option PyData
  | .list xs => some (.list xs.reverse)
  | _ => none
/-- sorted(set(x)), len(set(x)): x a list or tuple of texts, or of tuples of whole numbers -/
def strSet (ss : List Str) : List PyData := sortData ((dedup ss).map .str)
def ssortD (d : PyData) : Option PyData := match itemsOf d with
  | some xs => match strsOf xs with
    | some ss => if ss.length < 64 then some (.list (strSet ss)) else none
    | none => match d with
      | .list _ => match pairsD xs with
        | some ps => if ps.length < 64 then some (.list (pairSet ps)) else none
        | none => none
      | _ => none
  | none => none
def slenD (d : PyData) : Option PyData := match itemsOf d with
  | some xs => match strsOf xs with
    | some ss => if ss.length < 64 then some (.int (dedup ss).length) else none
    | none => none
  | none => none
/-- tuple(range(n)), list(range(n)) -/
def intsD (lo : Int) (n : Nat) : List PyData := (List.range n).map fun i : Nat => .int (lo + (i : Int))
def inRange (i : Int) : Bool := decide (-1000 ≤ i) && decide (i ≤ 1000)
def rngTD : PyData → Option PyData
  | .int j => if inRange j then some (.tuple (intsD 0 j.toNat)) else none
  | _ => none
def rngLD : PyData → Option PyData
  | .int j => if inRange j then some (.list (intsD 0 j.toNat)) else none
  | _ => none
/-- x is True, x is not False .. of a truth -/
def isBD (b neg : Bool) : PyData → Option PyData
  | .bool c => some (.bool (if neg then !decide (c = b) else decide (c = b)))
  | _ => none
def sem1 : Op1 → PyData → Option PyData
  | .len => lenD
  | .sorted => sortedD
  | .list => listD
  | .tuple => tupleD
  | .all => allD
  | .any => anyD
  | .max => maxOp
  | .min => minOp
  | .int => intD
  | .str => strD
  | .neg => negD
  | .isNone => fun d => some (.bool (isNoneD d))
  | .notNone => fun d => some (.bool (!isNoneD d))
  | .isi t => fun d => if noDict d then some (.bool (isTy t d)) else none
  | .rev => revD
  | .ssort => ssortD
  | .slen => slenD
  | .skeys => skeysD
  | .sitems => sitemsD
  | .rngT => rngTD
  | .rngL => rngLD
  | .isB b neg => isBD b neg

inductive Op2 where
  | add | sub | mul | mod | pow | eq | ne | lt | le | gt | ge | isin | notin | idx
  deriving DecidableEq
def inData (x : PyData) (c : PyData) : Option Bool := match c with
  | .list xs => if noDict x && depthOk x then some (xs.any fun y => PyData.eqv y x) else none
  | .tuple xs => if noDict x && depthOk x then some (xs.any fun y => PyData.eqv y x) else none
  | .str z => match x with
    | .str s => some (!(Builtin.Str.occurrences z s 0 z.length 1).isEmpty)
    | _ => none
  | .dict q => if keyFits q x then some (dfind q x).isSome else none
  | _ => none
def cmpOk (a b : PyData) : Bool := PySem.W.alike a b && notNone a && depthOk a
def smallInt (i : Int) : Bool := decide (-(2 ^ 64) < i) && decide (i < 2 ^ 64)
def addD : PyData → PyData → Option PyData
  | .int i, .int j => some (.int (i + j))
  | .str s, .str t => if s.length + t.length ≤ sizeLine then some (.str (s ++ t)) else none
  | .tuple xs, .tuple ys => if xs.length + ys.length ≤ sizeLine then some (.tuple (xs ++ ys)) else none
  | .list xs, .list ys => if xs.length + ys.length ≤ sizeLine then some (.list (xs ++ ys)) else none
  | _, _ => none
def subD : PyData → PyData → Option PyData
  | .int i, .int j => some (.int (i - j))
  | _, _ => none
/-- a row of an offer's table; such a table -/
def rowB : PyData → Bool
  | .tuple [.tuple [.int _, .int _], .tuple _] => true
  | _ => false
def rowsB (ds : List PyData) : Bool := !ds.isEmpty && ds.all rowB
/-- dict(rows): rows of a tuple of whole numbers and any data -/
def rowKV : PyData → Option (PyData × PyData)
  | .tuple [k, v] => if (keyTup k).isSome then some (k, v) else none
  | _ => none
def rowsKV : List PyData → Option (List (PyData × PyData))
  | [] => some []
  | x :: r => match rowKV x with
    | some p => (rowsKV r).map (p :: ·)
    | none => none
def putAllD (rows : List (PyData × PyData)) : List (PyData × PyData) := rows.foldl (fun acc r => putRow r.1 r.2 acc) [(.none, .none)]
def dctD : PyData → Option PyData
  | .list ds => (rowsKV ds).map fun r => .dict (putAllD r)
  | .tuple ds => if rowsB ds then (rowsKV ds).map fun r => .dict (putAllD r) else none
  | _ => none
/-- d.get(k, x) -/
def getD (d : PyData) : PyData → PyData → Option PyData
  | .dict q, k => if keyFits q k then some ((dfind q k).getD d) else none
  | _, _ => none
def isDct : PyData → Bool
  | .dict _ => true
  | _ => false
def mulD : PyData → PyData → Option PyData
  | .int i, .int j => if smallInt i || smallInt j then some (.int (i * j)) else none
  | .tuple xs, .int k => if -1000 ≤ k ∧ k ≤ 1000 ∧ xs.length ≤ 1000 ∧ (rowsB xs = false ∨ k ≤ 1) then some (.tuple (List.replicate k.toNat xs).flatten) else none
  | .list xs, .int k => if -1000 ≤ k ∧ k ≤ 1000 ∧ xs.length ≤ 1000 then some (.list (List.replicate k.toNat xs).flatten) else none
  | _, _ => none
def modD : PyData → PyData → Option PyData
  | .int i, .int j => if 0 < j then some (.int (i % j)) else none
  | _, _ => none
def powD : PyData → PyData → Option PyData
  | .int i, .int j => if 0 ≤ j ∧ j ≤ 1000000 ∧ i.natAbs < 2 ^ 64 then some (.int (i ^ j.toNat)) else none
  | _, _ => none
def eqD (a b : PyData) : Option Bool := if noDict a && noDict b && (depthOk a || depthOk b) then some (PyData.eqv a b) else none
def ltD (a b : PyData) : Option Bool := if cmpOk a b then some (PySem.W.dataLt a b) else none
def gtD (a b : PyData) : Option Bool := if cmpOk a b then some (PySem.W.dataLt b a) else none
def idxD : PyData → PyData → Option PyData
  | .list xs, .int i => L2.atI xs i
  | .tuple xs, .int i => L2.atI xs i
  | .str z, .int i => if z.length ≤ sizeLine then (L2.atI z.cps.toList i).map fun c => .str ⟨#[c]⟩ else none
  | .dict q, k => if keyFits q k then dfind q k else none
  | _, _ => none
def sem2 : Op2 → PyData → PyData → Option PyData
  | .add => addD
  | .sub => subD
  | .mul => mulD
  | .mod => modD
  | .pow => powD
  | .eq => fun a b => (eqD a b).map .bool
  | .ne => fun a b => (eqD a b).map fun k => .bool (!k)
  | .lt => fun a b => (ltD a b).map .bool
  | .gt => fun a b => (gtD a b).map .bool
  | .le => fun a b => (gtD a b).map fun k => .bool (!k)
  | .ge => fun a b => (ltD a b).map fun k => .bool (!k)
  | .isin => fun x c => (inData x c).map .bool
  | .notin => fun x c => (inData x c).map fun k => .bool (!k)
  | .idx => idxD

inductive M1 where
  | join | split | part
  deriving DecidableEq
def joinD (sep : Str) (b : PyData) : Option PyData := match itemsOf b with
  | some ds => match strsOf ds with
    | some ys => if (ys.map (·.length)).sum + ys.length * sep.length ≤ 1000000 then some (.str (PySem.Txt.join sep ys)) else none
    | none => none
  | none => none
def splitD (z : Str) : PyData → Option PyData
  | .str sep => if (sep.length == 0) = false ∧ z.length + 2 ≤ sizeLine then some (.list ((PySem.Txt.split z sep).map .str)) else none
  | _ => none
def partD (z : Str) : PyData → Option PyData
  | .str sep => if (sep.length == 0) = false ∧ z.length ≤ sizeLine then some (.tuple [.str (PySem.Txt.partition z sep).1, .str (PySem.Txt.partition z sep).2.1, .str (PySem.Txt.partition z sep).2.2]) else none
  | _ => none
def semM : M1 → Str → PyData → Option PyData
  | .join => joinD
  | .split => splitD
  | .part => partD

/-! ## the language -/
mutual
inductive E where
  | var (i : Nat)
  | pk (i : Nat)
  | cst (d : PyData)
  | glb (x : Str) (d : PyData)
  | fnv (x : Str)
  | tup (es : Es)
  | lst (es : Es)
  | op1 (o : Op1) (a : E)
  | op2 (o : Op2) (a b : E)
  | chn (o p : Op2) (a b c : E)
  | and (a b : E)
  | or (a b : E)
  | not (a : E)
  | ite (c a b : E)
  | slc (a : E) (lo hi : Eo)
  | call (f : Str) (io : Option Nat) (es : Es)
  | callv (i : Nat) (fs : List Str) (es : Es)
  | callt (fs : List Str) (i : E) (es : Es)
  | lc (elt : E) (tg : List Nat) (src : Src) (cond : Eo)
  | met (m : M1) (a b : E)
  | pop (i : Nat) (a : E)
  | dct (a : E)
  | dget1 (o k : E)
  | dget2 (o k d : E)
inductive Es where
  | nil
  | cons (e : E) (es : Es)
inductive Eo where
  | no
  | so (e : E)
inductive Src where
  | of (e : E)
  | rng1 (a : E)
  | rng2 (a b : E)
  | enm (a : E)
end
mutual
inductive S where
  | set (i : Nat) (e : E)
  | setm (i : Nat) (e : E)
  | dnew (i : Nat) (tk : Bool)
  | unp (is : List Nat) (e : E)
  | par (is : List Nat) (es : Es)
  | parmm (i j : Nat) (xs ys : List PyData)
  | parvm (i j : Nat) (e : E) (ys : List PyData)
  | par3 (i j l : Nat) (es : Es)
  | parc (is : List Nat) (es : Es)
  | unpl (is : List Nat) (e : E)
  | tryw (body : Ss) (c : Str) (i : Nat) (f : Str) (tab : List (Str × Int))
  | app (i : Nat) (e : E)
  | ext (i : Nat) (e : E)
  | dput (i : Nat) (k e : E)
  | dsd (i : Nat) (k e : E)
  | dset (i : Nat) (a : E)
  | dset2 (i j : Nat) (a b : E)
  | ret (e : E)
  | retn
  | rse (c : Str)
  | ite (c : E) (a b : Ss)
  | loop (tg : List Nat) (src : Src) (body : Ss)
  | wh (c : E) (body : Ss)
  | brk
  | cnt
  | pas
  | exp (e : E)
inductive Ss where
  | nil
  | cons (s : S) (r : Ss)
end

/-! ## what it means -/
def alls : List Pv → Option (List PyData)
  | [] => some []
  | .dat d :: r => (alls r).map (d :: ·)
  | _ => none
/-- a target's names get the item -/
def bindT (tg : List Nat) (x : PyData) (ρ : Rho) : Option Rho := match tg with
  | [i] => some (ρ.set i (.v x))
  | [i, j] => match x with
    | .tuple [a, b] => some ((ρ.set i (.v a)).set j (.v b))
    | _ => none
  | _ => none
def wipeR (ρ : Rho) : List Nat → Rho
  | [] => ρ
  | i :: r => (wipeR ρ r).set i .un
/-- these slots are no lists of this frame's own -/
def plainSl : Sl → Bool
  | .m _ => false
  | .b _ => false
  | _ => true
def plainAt (ρ : Rho) (i : Nat) : Bool := match ρ[i]? with
  | some s => plainSl s
  | none => false
/-- the slots tg as they stood in ρ₀ -/
def backR (ρ₀ ρ : Rho) : List Nat → Rho
  | [] => ρ
  | i :: r => (backR ρ₀ ρ r).set i ((ρ₀[i]?).getD .un)
def enumD : Nat → List PyData → List PyData
  | _, [] => []
  | k, d :: r => .tuple [.int k, d] :: enumD (k + 1) r
/-- the turns of a comprehension: f tests and reckons, none: the test says no -/
def lcL (f : Rho → R (Option PyData)) (tg : List Nat) : List PyData → Rho → List PyData → R (List PyData)
  | [], ρ, acc => .ok acc ρ
  | x :: r, ρ, acc => match bindT tg x ρ with
    | none => .bad
    | some ρ1 => match f ρ1 with
      | .ok o ρ2 => if tg.all (plainAt ρ2) then lcL f tg r (wipeR ρ2 tg) (acc ++ o.toList) else .bad
      | _ => .bad
def argsAt (ρ : Rho) (io : Option Nat) : Nat → List Pv → Option (List Av)
  | _, [] => some []
  | k, p :: r => match (if io = some k then (match p with
      | .at i => (match ρ[i]? with
        | some (.m d) => some (Av.d d)
        | some (.b d) => some (Av.d d)
        | _ => none)
      | _ => none) else (match p with
      | .dat d => some (Av.d d)
      | .fn x => some (Av.f x)
      | .tmp _ => none
      | .at _ => none)) with
    | none => none
    | some a => (argsAt ρ io (k + 1) r).map (a :: ·)
/-- what the callee left of the list that it was lent -/
def putIo (ρ : Rho) (io : Option Nat) (ps : List Pv) (d : PyData) : Rho := match io with
  | none => ρ
  | some k => match ps[k]? with
    | some (.at i) => (match ρ[i]? with
      | some (.m _) => ρ.set i (.m d)
      | some (.b _) => ρ.set i (.b d)
      | _ => ρ)
    | _ => ρ
def callK (Φ : Fenv) (f : Str) (io : Option Nat) (ps : List Pv) (ρ : Rho) : R Pv := match argsAt ρ io 0 ps with
  | none => .bad
  | some as => match Φ f as with
    | .ret d x => .ok (.dat d) (putIo ρ io ps x)
    | .exc c x => .ex c (putIo ρ io ps x)
    | .bad => .bad
def isLst : PyData → Bool
  | .list _ => true
  | _ => false
def cutD (xs : List PyData) (lo hi : Option Int) : List PyData := (xs.drop (HT.sIx xs.length 0 lo)).take (HT.sIx xs.length xs.length hi - HT.sIx xs.length 0 lo)
def sliceD (d : PyData) (lo hi : Option Int) : Option PyData := match d with
  | .list xs => some (.list (cutD xs lo hi))
  | .tuple xs => some (.tuple (cutD xs lo hi))
  | .str z => if z.length ≤ sizeLine then some (.str (L2.cutS z lo hi)) else none
  | _ => none
def dataOf (r : R Pv) : R PyData := r.bind fun p ρ => match p with
  | .dat d => .ok d ρ
  | _ => .bad
def resOf (r : R Pv) : R PyData := r.bind fun p ρ => match res ρ p with
  | some d => .ok d ρ
  | none => .bad
def tst (r : R Pv) : R Bool := (resOf r).bind fun d ρ => match truth d with
  | some b => .ok b ρ
  | none => .bad
def lift (o : Option PyData) (ρ : Rho) : R Pv := match o with
  | some d => .ok (.dat d) ρ
  | none => .bad
def lift2 (f : PyData → PyData → Option PyData) (p q : Pv) (ρ : Rho) : R Pv := match res ρ p, res ρ q with
  | some a, some b => lift (f a b) ρ
  | _, _ => .bad
/-- a list, a dict of one's own (or a lent one) -/
def mutL (ρ : Rho) (i : Nat) : Bool := match ρ[i]? with
  | some (.m (.list _)) => true
  | some (.b (.list _)) => true
  | _ => false
def mutD (ρ : Rho) (i : Nat) : Bool := match ρ[i]? with
  | some (.m (.dict _)) => true
  | some (.b (.dict _)) => true
  | _ => false
/-- the list at i loses its item k -/
def popAt (ρ : Rho) (i : Nat) (k : PyData) : Option (PyData × Rho) := match k with
  | .int j => if 0 ≤ j ∧ j < 1000 then (match ρ[i]? with
    | some (.m (.list xs)) => (xs[j.toNat]?).map fun y => (y, ρ.set i (.m (.list (xs.eraseIdx j.toNat))))
    | some (.b (.list xs)) => (xs[j.toNat]?).map fun y => (y, ρ.set i (.b (.list (xs.eraseIdx j.toNat))))
    | _ => none) else none
  | _ => none
mutual
def den (Φ : Fenv) : E → Rho → R Pv
  | .var i, ρ => match ρ[i]? with
    | some (.v d) => .ok (.dat d) ρ
    | some (.m d) => if isLst d then .ok (.dat d) (ρ.set i (.v d)) else .bad
    | some (.f x) => .ok (.fn x) ρ
    | _ => .bad
  | .pk i, ρ => match ρ[i]? with
    | some (.v d) => .ok (.dat d) ρ
    | some (.m _) => .ok (.at i) ρ
    | some (.b _) => .ok (.at i) ρ
    | _ => .bad
  | .cst d, ρ => .ok (.dat d) ρ
  | .glb _ d, ρ => .ok (.dat d) ρ
  | .fnv x, ρ => .ok (.fn x) ρ
  | .tup es, ρ => (dens Φ es ρ).bind fun ps ρ1 => match alls ps with
    | some ds => .ok (.dat (.tuple ds)) ρ1
    | none => .bad
  | .lst es, ρ => (dens Φ es ρ).bind fun ps ρ1 => match alls ps with
    | some ds => .ok (.dat (.list ds)) ρ1
    | none => .bad
  | .op1 o a, ρ => (den Φ a ρ).bind fun p ρ1 => match res ρ1 p with
    | some d => lift (sem1 o d) ρ1
    | none => .bad
  | .op2 o a b, ρ => (den Φ a ρ).bind fun p ρ1 => (den Φ b ρ1).bind fun q ρ2 => lift2 (sem2 o) p q ρ2
  | .chn o o' a b c, ρ => (den Φ a ρ).bind fun p ρ1 => (dataOf (den Φ b ρ1)).bind fun y ρ2 => match res ρ2 p with
    | some x => match sem2 o x y with
      | some (.bool true) => (den Φ c ρ2).bind fun r ρ3 => match res ρ3 r with
        | some z => lift (sem2 o' y z) ρ3
        | none => .bad
      | some (.bool false) => .ok (.dat (.bool false)) ρ2
      | _ => .bad
    | none => .bad
  | .and a b, ρ => (dataOf (den Φ a ρ)).bind fun d ρ1 => match truth d with
    | some true => den Φ b ρ1
    | some false => .ok (.dat d) ρ1
    | none => .bad
  | .or a b, ρ => (dataOf (den Φ a ρ)).bind fun d ρ1 => match truth d with
    | some true => .ok (.dat d) ρ1
    | some false => den Φ b ρ1
    | none => .bad
  | .not a, ρ => (resOf (den Φ a ρ)).bind fun d ρ1 => match truth d with
    | some b => .ok (.dat (.bool (!b))) ρ1
    | none => .bad
  | .ite c a b, ρ => (resOf (den Φ c ρ)).bind fun d ρ1 => match truth d with
    | some true => den Φ a ρ1
    | some false => den Φ b ρ1
    | none => .bad
  | .slc a lo hi, ρ => (den Φ a ρ).bind fun p ρ1 => (deno Φ lo ρ1).bind fun l ρ2 => (deno Φ hi ρ2).bind fun h ρ3 => match res ρ3 p with
    | some d => lift (sliceD d l h) ρ3
    | none => .bad
  | .call f io es, ρ => (dens Φ es ρ).bind fun ps ρ1 => callK Φ f io ps ρ1
  | .callv i fs es, ρ => match ρ[i]? with
    | some (.f x) => if fs.contains x then (dens Φ es ρ).bind fun ps ρ1 => callK Φ x none ps ρ1 else .bad
    | _ => .bad
  | .callt fs i es, ρ => (resOf (den Φ i ρ)).bind fun d ρ1 => match d with
    | .int k => match L2.atI fs k with
      | some f => (dens Φ es ρ1).bind fun ps ρ2 => callK Φ f none ps ρ2
      | none => .bad
    | _ => .bad
  | .lc elt tg src cond, ρ => (dsrc Φ src ρ).bind fun xs ρ1 =>
    if tg.all (plainAt ρ1) then
      match lcL (fun ρ2 => (match cond with
          | .no => (R.ok true ρ2 : R Bool)
          | .so c => tst (den Φ c ρ2)).bind fun b ρ3 => if b then (dataOf (den Φ elt ρ3)).bind fun d ρ4 => .ok (some d) ρ4 else .ok none ρ3) tg xs (wipeR ρ1 tg) [] with
      | .ok ds ρ2 => .ok (.dat (.list ds)) (backR ρ1 ρ2 tg)
      | _ => .bad
    else .bad
  | .met m a b, ρ => (dataOf (den Φ a ρ)).bind fun x ρ1 => match x with
    | .str z => (den Φ b ρ1).bind fun q ρ2 => match res ρ2 q with
      | some y => lift (semM m z y) ρ2
      | none => .bad
    | _ => .bad
  | .pop i a, ρ => if mutL ρ i then (dataOf (den Φ a ρ)).bind fun k ρ1 => match popAt ρ1 i k with
    | some (y, ρ2) => .ok (.dat y) ρ2
    | none => .bad else .bad
  | .dct a, ρ => (den Φ a ρ).bind fun p ρ1 => match (res ρ1 p).bind dctD with
    | some q => .ok (.tmp q) ρ1
    | none => .bad
  | .dget1 o k, ρ => (den Φ o ρ).bind fun p ρ1 => if (res ρ1 p).any isDct then (den Φ k ρ1).bind fun q ρ2 => lift2 (getD .none) p q ρ2 else .bad
  | .dget2 o k d, ρ => (den Φ o ρ).bind fun p ρ1 => if (res ρ1 p).any isDct then (dataOf (den Φ k ρ1)).bind fun y ρ2 => (dataOf (den Φ d ρ2)).bind fun z ρ3 => match res ρ3 p with
    | some x => lift (getD z x y) ρ3
    | none => .bad else .bad
def dens (Φ : Fenv) : Es → Rho → R (List Pv)
  | .nil, ρ => .ok [] ρ
  | .cons e es, ρ => (den Φ e ρ).bind fun p ρ1 => (dens Φ es ρ1).bind fun ps ρ2 => .ok (p :: ps) ρ2
def deno (Φ : Fenv) : Eo → Rho → R (Option Int)
  | .no, ρ => .ok none ρ
  | .so e, ρ => (dataOf (den Φ e ρ)).bind fun d ρ1 => match d with
    | .int i => .ok (some i) ρ1
    | _ => .bad
def dsrc (Φ : Fenv) : Src → Rho → R (List PyData)
  | .of e, ρ => (dataOf (den Φ e ρ)).bind fun d ρ1 => match walkOf d with
    | some xs => .ok xs ρ1
    | none => .bad
  | .rng1 a, ρ => (resOf (den Φ a ρ)).bind fun d ρ1 => match d with
    | .int j => if inRange j then .ok (intsD 0 j.toNat) ρ1 else .bad
    | _ => .bad
  | .rng2 a b, ρ => (den Φ a ρ).bind fun p ρ1 => (den Φ b ρ1).bind fun q ρ2 => match res ρ2 p, res ρ2 q with
    | some (.int i), some (.int j) => if inRange i && inRange j then .ok (intsD i (j - i).toNat) ρ2 else .bad
    | _, _ => .bad
  | .enm e, ρ => (dataOf (den Φ e ρ)).bind fun d ρ1 => match d with
    | .list xs => .ok (enumD 0 xs) ρ1
    | _ => .bad
end

/-! ## statements -/
inductive Fl where
  | nx (ρ : Rho)
  | rt (d : PyData) (ρ : Rho)
  | br (ρ : Rho)
  | ct (ρ : Rho)
  | ex (c : Str) (ρ : Rho)
  | bad
def Fl.seq (f : Fl) (k : Rho → Fl) : Fl := match f with
  | .nx ρ => k ρ
  | f => f
/-- an expression, then on -/
def R.fl {α : Type} (r : R α) (k : α → Rho → Fl) : Fl := match r with
  | .ok a ρ => k a ρ
  | .ex c ρ => .ex c ρ
  | .bad => .bad
/-- a slot that may be stored to: it is not a lent list -/
def freeAt (ρ : Rho) (i : Nat) : Bool := match ρ[i]? with
  | some (.b _) => false
  | some _ => true
  | none => false
def putV (ρ : Rho) (i : Nat) (p : Pv) : Option Rho := if freeAt ρ i then (match p with
  | .dat d => some (ρ.set i (.v d))
  | .fn x => some (ρ.set i (.f x))
  | .tmp _ => none
  | .at _ => none) else none
def putsV (ρ : Rho) : List Nat → List PyData → Option Rho
  | [], [] => some ρ
  | i :: is, d :: ds => if freeAt ρ i then putsV (ρ.set i (.v d)) is ds else none
  | _, _ => none
/-- a list of one's own (or a lent one) is changed -/
def chg (ρ : Rho) (i : Nat) (f : PyData → Option PyData) : Option Rho := match ρ[i]? with
  | some (.m d) => (f d).map fun d' => ρ.set i (.m d')
  | some (.b d) => (f d).map fun d' => ρ.set i (.b d')
  | _ => none
def appD (x : PyData) : PyData → Option PyData
  | .list xs => if xs.length < sizeLine then some (.list (xs ++ [x])) else none
  | _ => none
def extD (y : PyData) : PyData → Option PyData
  | .list xs => match y with
    | .list ys => if xs.length + ys.length ≤ sizeLine then some (.list (xs ++ ys)) else none
    | _ => none
  | _ => none
def dputD (k v : PyData) : PyData → Option PyData
  | .dict q => if keyFits q k && decide (q.length < 1000) then some (.dict (putRow k v q)) else none
  | _ => none
/-- d.setdefault(k, v) -/
def dsdD (k v : PyData) : PyData → Option PyData
  | .dict q => if tupDict q && keyFits q k && decide (q.length < 1000) then some (.dict (if (dfind q k).isSome then q else putRow k v q)) else none
  | _ => none
def forL (body : Rho → Fl) (tg : List Nat) : List PyData → Rho → Fl
  | [], ρ => .nx ρ
  | x :: r, ρ => if tg.all (freeAt ρ) then (match bindT tg x ρ with
    | none => .bad
    | some ρ1 => match body ρ1 with
      | .nx ρ2 => forL body tg r ρ2
      | .ct ρ2 => forL body tg r ρ2
      | .br ρ2 => .nx ρ2
      | f => f) else .bad
def whL (c : Rho → R Bool) (body : Rho → Fl) : Nat → Rho → Fl
  | 0, _ => .bad
  | n + 1, ρ => (c ρ).fl fun b ρ1 => if b then (match body ρ1 with
      | .nx ρ2 => whL c body n ρ2
      | .ct ρ2 => whL c body n ρ2
      | .br ρ2 => .nx ρ2
      | f => f) else .nx ρ1
mutual
def exS (Φ : Fenv) : S → Rho → Fl
  | .set i e, ρ => (den Φ e ρ).fl fun p ρ1 => match putV ρ1 i p with
    | some ρ2 => .nx ρ2
    | none => .bad
  | .setm i e, ρ => (dataOf (den Φ e ρ)).fl fun d ρ1 => if freeAt ρ1 i && isLst d then .nx (ρ1.set i (.m d)) else .bad
  | .dnew i tk, ρ => if freeAt ρ i then .nx (ρ.set i (.m (.dict (if tk then [(.none, .none)] else [])))) else .bad
  | .unp is e, ρ => (dataOf (den Φ e ρ)).fl fun d ρ1 => match d with
    | .tuple ds => match putsV ρ1 is ds with
      | some ρ2 => .nx ρ2
      | none => .bad
    | _ => .bad
  | .par is es, ρ => (dens Φ es ρ).fl fun ps ρ1 => match alls ps with
    | some ds => match putsV ρ1 is ds with
      | some ρ2 => .nx ρ2
      | none => .bad
    | none => .bad
  | .parmm i j xs ys, ρ => if freeAt ρ i && freeAt ρ j && decide (i ≠ j) then .nx ((ρ.set i (.m (.list xs))).set j (.m (.list ys))) else .bad
  | .parvm i j e ys, ρ => (dataOf (den Φ e ρ)).fl fun d ρ1 => if freeAt ρ1 i && freeAt ρ1 j && decide (i ≠ j) then .nx ((ρ1.set i (.v d)).set j (.m (.list ys))) else .bad
  | .par3 i j l es, ρ => (dens Φ es ρ).fl fun ps ρ1 => match alls ps with
    | some ds => match putsV ρ1 [i, j, l] ds with
      | some ρ2 => .nx ρ2
      | none => .bad
    | none => .bad
  | .parc is es, ρ => (dens Φ es ρ).fl fun ps ρ1 => match alls ps with
    | some ds => match putsV ρ1 is ds with
      | some ρ2 => .nx ρ2
      | none => .bad
    | none => .bad
  | .unpl is e, ρ => (dataOf (den Φ e ρ)).fl fun d ρ1 => match d with
    | .list ds => match putsV ρ1 is ds with
      | some ρ2 => .nx ρ2
      | none => .bad
    | _ => .bad
  | .tryw body _ i _ tab, ρ => match exSs Φ body ρ with
    | .ex k ρ' => match tab.lookup k with
      | some j => if plainAt ρ' i then .rt (.tuple [.str "refused", .int j]) (ρ'.set i .un) else .bad
      | none => .bad
    | fl => fl
  | .app i e, ρ => if mutL ρ i then (dataOf (den Φ e ρ)).fl fun d ρ1 => match chg ρ1 i (appD d) with
    | some ρ2 => .nx ρ2
    | none => .bad else .bad
  | .ext i e, ρ => if mutL ρ i then (dataOf (den Φ e ρ)).fl fun d ρ1 => match chg ρ1 i (extD d) with
    | some ρ2 => .nx ρ2
    | none => .bad else .bad
  | .dput i k e, ρ => (dataOf (den Φ e ρ)).fl fun d ρ1 => if mutD ρ1 i then (dataOf (den Φ k ρ1)).fl fun kd ρ2 => match chg ρ2 i (dputD kd d) with
    | some ρ3 => .nx ρ3
    | none => .bad else .bad
  | .dsd i k e, ρ => if mutD ρ i then (dataOf (den Φ k ρ)).fl fun kd ρ1 => (dataOf (den Φ e ρ1)).fl fun d ρ2 => match chg ρ2 i (dsdD kd d) with
    | some ρ3 => .nx ρ3
    | none => .bad else .bad
  | .dset i a, ρ => (den Φ a ρ).fl fun p ρ1 => match (res ρ1 p).bind dctD with
    | some d => if freeAt ρ1 i then .nx (ρ1.set i (.m d)) else .bad
    | none => .bad
  | .dset2 i j a b, ρ => (den Φ a ρ).fl fun p ρ1 => match (res ρ1 p).bind dctD with
    | some d => (den Φ b ρ1).fl fun q ρ2 => match (res ρ2 q).bind dctD with
      | some e => if freeAt ρ2 i && freeAt ρ2 j && decide (i ≠ j) then .nx ((ρ2.set i (.m d)).set j (.m e)) else .bad
      | none => .bad
    | none => .bad
  | .ret e, ρ => (dataOf (den Φ e ρ)).fl fun d ρ1 => .rt d ρ1
  | .retn, ρ => .rt .none ρ
  | .rse c, ρ => .ex c ρ
  | .ite c a b, ρ => (tst (den Φ c ρ)).fl fun k ρ1 => if k then exSs Φ a ρ1 else exSs Φ b ρ1
  | .loop tg src body, ρ => (dsrc Φ src ρ).fl fun xs ρ1 => forL (exSs Φ body) tg xs ρ1
  | .wh c body, ρ => whL (fun ρ1 => tst (den Φ c ρ1)) (exSs Φ body) 200 ρ
  | .brk, ρ => .br ρ
  | .cnt, ρ => .ct ρ
  | .pas, ρ => .nx ρ
  | .exp e, ρ => (den Φ e ρ).fl fun _ ρ1 => .nx ρ1
def exSs (Φ : Fenv) : Ss → Rho → Fl
  | .nil, ρ => .nx ρ
  | .cons s r, ρ => (exS Φ s ρ).seq fun ρ1 => exSs Φ r ρ1
end

/-! ## functions -/
structure Fn where
  np : Nat
  ns : Nat
  io : Option Nat
  body : Ss
def entry (io : Option Nat) : Nat → List Av → Rho
  | _, [] => []
  | k, .d x :: r => (if io = some k then .b x else .v x) :: entry io (k + 1) r
  | k, .f x :: r => .f x :: entry io (k + 1) r
def ioOut (io : Option Nat) (ρ : Rho) : Option PyData := match io with
  | none => some .none
  | some j => match ρ[j]? with
    | some (.b d) => some d
    | _ => none
def outOf (io : Option Nat) : Fl → Out
  | .rt d ρ => match ioOut io ρ with
    | some x => .ret d x
    | none => .bad
  | .nx ρ => match ioOut io ρ with
    | some x => .ret .none x
    | none => .bad
  | .ex c ρ => match ioOut io ρ with
    | some x => .exc c x
    | none => .bad
  | _ => .bad
def runFn (Φ : Fenv) (fn : Fn) (as : List Av) : Out :=
  if as.length = fn.np then outOf fn.io (exSs Φ fn.body (entry fn.io 0 as ++ List.replicate (fn.ns - fn.np) .un)) else .bad
def Phi (T : Str → Option Fn) : Nat → Fenv
  | 0 => fun _ _ => .bad
  | n + 1 => fun f as => match T f with
    | some fn => runFn (Phi T n) fn as
    | none => .bad
end G6
-- ## Fns
/-! # Fns: the Core of each def (printed by gen.py) -/
namespace G6
open PySem
def c_is_feature : Fn := ⟨1, 2, none, (.cons (.ret (.and (.op1 (.isi .str) (.pk 0)) (.and (.chn .le .le (.cst (.int 1)) (.op1 .len (.pk 0)) (.glb "LONGEST" (.int 6))) (.op1 .all (.lc (.op2 .isin (.pk 1) (.glb "LETTERS" (.str "abcdefghijklmnopqrstuvwxyz"))) [1] (.of (.var 0)) .no))))) .nil)⟩
def c_is_whole : Fn := ⟨2, 2, none, (.cons (.ret (.and (.op1 (.isi .int) (.pk 0)) (.and (.not (.op1 (.isi .bool) (.pk 0))) (.chn .le .le (.cst (.int 0)) (.var 0) (.pk 1))))) .nil)⟩
def c_is_version : Fn := ⟨1, 2, none, (.cons (.ret (.and (.op1 (.isi .tuple) (.pk 0)) (.and (.op2 .eq (.op1 .len (.pk 0)) (.cst (.int 2))) (.op1 .all (.lc (.call "is_whole" none (.cons (.var 1) (.cons (.glb "GREAT" (.int 99)) .nil))) [1] (.of (.var 0)) .no))))) .nil)⟩
def c_are_features : Fn := ⟨1, 2, none, (.cons (.ite (.or (.not (.op1 (.isi .tuple) (.pk 0))) (.or (.op2 .gt (.op1 .len (.pk 0)) (.glb "FEATURES" (.int 6))) (.not (.op1 .all (.lc (.call "is_feature" none (.cons (.var 1) .nil)) [1] (.of (.var 0)) .no))))) (.cons (.ret (.cst (.bool false))) .nil) .nil) (.cons (.ret (.op2 .eq (.op1 .list (.pk 0)) (.op1 .ssort (.pk 0)))) .nil))⟩
def c_are_pairs : Fn := ⟨1, 3, none, (.cons (.ite (.or (.not (.op1 (.isi .tuple) (.pk 0))) (.op2 .gt (.op1 .len (.pk 0)) (.glb "PAIRS" (.int 8)))) (.cons (.ret (.cst (.bool false))) .nil) .nil) (.cons (.loop [1] (.of (.var 0)) (.cons (.ite (.or (.not (.op1 (.isi .tuple) (.pk 1))) (.or (.op2 .ne (.op1 .len (.pk 1)) (.cst (.int 2))) (.not (.op1 .all (.lc (.call "is_feature" none (.cons (.var 2) .nil)) [2] (.of (.var 1)) .no))))) (.cons (.ret (.cst (.bool false))) .nil) .nil) (.cons (.ite (.op2 .eq (.op2 .idx (.pk 1) (.cst (.int 0))) (.op2 .idx (.pk 1) (.cst (.int 1)))) (.cons (.ret (.cst (.bool false))) .nil) .nil) .nil))) (.cons (.ret (.cst (.bool true))) .nil)))⟩
def c_are_rules : Fn := ⟨1, 2, none, (.cons (.ite (.or (.not (.op1 (.isi .tuple) (.pk 0))) (.or (.op2 .ne (.op1 .len (.pk 0)) (.cst (.int 3))) (.or (.not (.call "are_pairs" none (.cons (.op2 .idx (.pk 0) (.cst (.int 0))) .nil))) (.not (.call "are_pairs" none (.cons (.op2 .idx (.pk 0) (.cst (.int 1))) .nil)))))) (.cons (.ret (.cst (.bool false))) .nil) .nil) (.cons (.ite (.or (.not (.op1 (.isi .tuple) (.op2 .idx (.pk 0) (.cst (.int 2))))) (.or (.op2 .gt (.op1 .len (.op2 .idx (.pk 0) (.cst (.int 2)))) (.glb "FEATURES" (.int 6))) (.not (.op1 .all (.lc (.call "is_feature" none (.cons (.var 1) .nil)) [1] (.of (.op2 .idx (.pk 0) (.cst (.int 2)))) .no))))) (.cons (.ret (.cst (.bool false))) .nil) .nil) (.cons (.ret (.op2 .eq (.op1 .slen (.op2 .idx (.pk 0) (.cst (.int 2)))) (.op1 .len (.op2 .idx (.pk 0) (.cst (.int 2)))))) .nil)))⟩
def c_need_rules : Fn := ⟨1, 1, none, (.cons (.ite (.not (.call "are_rules" none (.cons (.var 0) .nil))) (.cons (.rse "NoRules") .nil) .nil) .nil)⟩
def c_is_row : Fn := ⟨1, 1, none, (.cons (.ret (.and (.op1 (.isi .tuple) (.pk 0)) (.and (.op2 .eq (.op1 .len (.pk 0)) (.cst (.int 2))) (.and (.call "is_version" none (.cons (.op2 .idx (.pk 0) (.cst (.int 0))) .nil)) (.call "are_features" none (.cons (.op2 .idx (.pk 0) (.cst (.int 1))) .nil)))))) .nil)⟩
def c_is_offer : Fn := ⟨1, 3, none, (.cons (.ite (.or (.not (.op1 (.isi .tuple) (.pk 0))) (.or (.op2 .ne (.op1 .len (.pk 0)) (.cst (.int 4))) (.not (.op1 (.isi .tuple) (.op2 .idx (.pk 0) (.cst (.int 0))))))) (.cons (.ret (.cst (.bool false))) .nil) .nil) (.cons (.ite (.or (.not (.chn .le .le (.cst (.int 1)) (.op1 .len (.op2 .idx (.pk 0) (.cst (.int 0)))) (.glb "ROWS" (.int 6)))) (.not (.op1 .all (.lc (.call "is_row" none (.cons (.var 2) .nil)) [2] (.of (.op2 .idx (.pk 0) (.cst (.int 0)))) .no)))) (.cons (.ret (.cst (.bool false))) .nil) .nil) (.cons (.ite (.not (.op1 .all (.lc (.op2 .lt (.op2 .idx (.op2 .idx (.op2 .idx (.pk 0) (.cst (.int 0))) (.pk 1)) (.cst (.int 0))) (.op2 .idx (.op2 .idx (.op2 .idx (.pk 0) (.cst (.int 0))) (.op2 .add (.pk 1) (.cst (.int 1)))) (.cst (.int 0)))) [1] (.rng1 (.op2 .sub (.op1 .len (.op2 .idx (.pk 0) (.cst (.int 0)))) (.cst (.int 1)))) .no))) (.cons (.ret (.cst (.bool false))) .nil) .nil) (.cons (.ret (.and (.call "is_version" none (.cons (.op2 .idx (.pk 0) (.cst (.int 1))) .nil)) (.and (.call "are_features" none (.cons (.op2 .idx (.pk 0) (.cst (.int 2))) .nil)) (.call "are_features" none (.cons (.op2 .idx (.pk 0) (.cst (.int 3))) .nil))))) .nil))))⟩
def c_need_offer : Fn := ⟨1, 1, none, (.cons (.ite (.not (.call "is_offer" none (.cons (.var 0) .nil))) (.cons (.rse "NoOffer") .nil) .nil) .nil)⟩
def c_law_cell_at : Fn := ⟨2, 2, none, (.cons (.ite (.op2 .lt (.pk 1) (.op1 .len (.pk 0))) (.cons (.ret (.op2 .idx (.pk 0) (.pk 1))) .nil) .nil) (.cons (.ite (.op2 .eq (.pk 0) (.lst .nil)) (.cons (.ret (.cst (.int 0))) .nil) .nil) (.cons (.ret (.op2 .add (.op2 .mul (.op2 .idx (.pk 0) (.op2 .mod (.pk 1) (.op1 .len (.pk 0)))) (.cst (.int 31))) (.pk 1))) .nil)))⟩
def c_law_mixed : Fn := ⟨3, 4, none, (.cons (.set 3 (.op2 .mod (.op2 .mul (.op2 .add (.op2 .add (.call "_law_cell_at" none (.cons (.var 0) (.cons (.var 1) .nil))) (.op2 .mul (.cst (.int 7919)) (.pk 1))) (.cst (.int 1))) (.cst (.int 48271))) (.cst (.int 2147483647)))) (.cons (.ret (.op2 .mod (.op2 .mod (.op2 .add (.op2 .add (.op2 .mul (.pk 3) (.pk 3)) (.op2 .mul (.cst (.int 7)) (.pk 3))) (.pk 1)) (.cst (.int 2147483629))) (.pk 2))) .nil))⟩
def c_law_word : Fn := ⟨2, 4, none, (.cons (.set 2 (.cst (.str ""))) (.cons (.loop [3] (.rng1 (.op2 .idx (.lst (.cons (.cst (.int 1)) (.cons (.cst (.int 2)) (.cons (.cst (.int 3)) (.cons (.cst (.int 6)) (.cons (.cst (.int 1)) (.cons (.cst (.int 4)) .nil))))))) (.call "_law_mixed" none (.cons (.var 0) (.cons (.var 1) (.cons (.cst (.int 6)) .nil)))))) (.cons (.set 2 (.op2 .add (.pk 2) (.op2 .idx (.cst (.str "abcdefghijklmnopqrstuvwxyz")) (.call "_law_mixed" none (.cons (.var 0) (.cons (.op2 .add (.op2 .add (.pk 1) (.cst (.int 1))) (.pk 3)) (.cons (.cst (.int 26)) .nil))))))) .nil)) (.cons (.ret (.var 2)) .nil)))⟩
def c_law_pool : Fn := ⟨2, 4, none, (.cons (.dnew 2 false) (.cons (.loop [3] (.rng1 (.cst (.int 6))) (.cons (.dput 2 (.call "_law_word" none (.cons (.var 0) (.cons (.op2 .add (.pk 1) (.op2 .mul (.cst (.int 10)) (.pk 3))) .nil))) (.cst (.bool true))) .nil)) (.cons (.ret (.op1 .sorted (.op1 .list (.pk 2)))) .nil)))⟩
def c_law_some : Fn := ⟨4, 6, none, (.cons (.ret (.op1 .tuple (.lc (.var 5) [4, 5] (.enm (.var 2)) (.so (.op2 .lt (.call "_law_mixed" none (.cons (.var 0) (.cons (.op2 .add (.pk 1) (.pk 4)) (.cons (.cst (.int 6)) .nil)))) (.pk 3)))))) .nil)⟩
def c_law_offer : Fn := ⟨3, 10, none, (.cons (.dnew 3 true) (.cons (.loop [4] (.rng1 (.op2 .add (.cst (.int 1)) (.call "_law_mixed" none (.cons (.var 0) (.cons (.var 1) (.cons (.cst (.int 4)) .nil)))))) (.cons (.set 8 (.op2 .add (.op2 .add (.pk 1) (.cst (.int 10))) (.op2 .mul (.cst (.int 12)) (.pk 4)))) (.cons (.set 9 (.tup (.cons (.op2 .add (.cst (.int 1)) (.call "_law_mixed" none (.cons (.var 0) (.cons (.var 8) (.cons (.cst (.int 2)) .nil))))) (.cons (.call "_law_mixed" none (.cons (.var 0) (.cons (.op2 .add (.pk 8) (.cst (.int 1))) (.cons (.cst (.int 3)) .nil)))) .nil)))) (.cons (.dput 3 (.var 9) (.call "_law_some" none (.cons (.var 0) (.cons (.op2 .add (.pk 8) (.cst (.int 2))) (.cons (.var 2) (.cons (.cst (.int 5)) .nil)))))) .nil)))) (.cons (.set 5 (.op2 .idx (.lst (.cons (.tup (.cons (.cst (.int 0)) (.cons (.cst (.int 0)) .nil))) (.cons (.tup (.cons (.cst (.int 1)) (.cons (.cst (.int 0)) .nil))) (.cons (.tup (.cons (.cst (.int 1)) (.cons (.cst (.int 1)) .nil))) (.cons (.tup (.cons (.cst (.int 2)) (.cons (.cst (.int 0)) .nil))) .nil))))) (.op2 .mod (.call "_law_mixed" none (.cons (.var 0) (.cons (.op2 .add (.pk 1) (.cst (.int 1))) (.cons (.cst (.int 8)) .nil)))) (.cst (.int 4))))) (.cons (.ite (.op2 .gt (.call "_law_mixed" none (.cons (.var 0) (.cons (.op2 .add (.pk 1) (.cst (.int 2))) (.cons (.cst (.int 3)) .nil)))) (.cst (.int 0))) (.cons (.set 5 (.tup (.cons (.cst (.int 0)) (.cons (.cst (.int 0)) .nil)))) .nil) .nil) (.cons (.set 6 (.call "_law_some" none (.cons (.var 0) (.cons (.op2 .add (.pk 1) (.cst (.int 70))) (.cons (.var 2) (.cons (.op2 .idx (.lst (.cons (.cst (.int 0)) (.cons (.cst (.int 0)) (.cons (.cst (.int 1)) .nil)))) (.call "_law_mixed" none (.cons (.var 0) (.cons (.op2 .add (.pk 1) (.cst (.int 3))) (.cons (.cst (.int 3)) .nil))))) .nil)))))) (.cons (.set 7 (.call "_law_some" none (.cons (.var 0) (.cons (.op2 .add (.pk 1) (.cst (.int 80))) (.cons (.var 2) (.cons (.op2 .idx (.lst (.cons (.cst (.int 0)) (.cons (.cst (.int 0)) (.cons (.cst (.int 1)) .nil)))) (.call "_law_mixed" none (.cons (.var 0) (.cons (.op2 .add (.pk 1) (.cst (.int 4))) (.cons (.cst (.int 3)) .nil))))) .nil)))))) (.cons (.ret (.tup (.cons (.op1 .tuple (.lc (.tup (.cons (.var 9) (.cons (.op2 .idx (.pk 3) (.pk 9)) .nil))) [9] (.of (.op1 .sorted (.op1 .list (.pk 3)))) .no)) (.cons (.var 5) (.cons (.var 6) (.cons (.var 7) .nil)))))) .nil)))))))⟩
def c_law_pairs : Fn := ⟨4, 8, none, (.cons (.setm 4 (.lst .nil)) (.cons (.loop [5] (.rng1 (.call "_law_mixed" none (.cons (.var 0) (.cons (.var 1) (.cons (.op2 .add (.pk 3) (.cst (.int 1))) .nil))))) (.cons (.set 6 (.op2 .idx (.pk 2) (.call "_law_mixed" none (.cons (.var 0) (.cons (.op2 .add (.op2 .add (.pk 1) (.cst (.int 1))) (.op2 .mul (.cst (.int 2)) (.pk 5))) (.cons (.op1 .len (.pk 2)) .nil)))))) (.cons (.set 7 (.op2 .idx (.pk 2) (.call "_law_mixed" none (.cons (.var 0) (.cons (.op2 .add (.op2 .add (.pk 1) (.cst (.int 2))) (.op2 .mul (.cst (.int 2)) (.pk 5))) (.cons (.op1 .len (.pk 2)) .nil)))))) (.cons (.ite (.op2 .ne (.pk 6) (.pk 7)) (.cons (.app 4 (.tup (.cons (.var 6) (.cons (.var 7) .nil)))) .nil) .nil) .nil)))) (.cons (.ret (.op1 .tuple (.pk 4))) .nil)))⟩
def c_law_rules : Fn := ⟨3, 6, none, (.cons (.setm 3 (.lst .nil)) (.cons (.loop [4] (.rng1 (.call "_law_mixed" none (.cons (.var 0) (.cons (.var 1) (.cons (.cst (.int 5)) .nil))))) (.cons (.set 5 (.op2 .idx (.pk 2) (.call "_law_mixed" none (.cons (.var 0) (.cons (.op2 .add (.op2 .add (.pk 1) (.cst (.int 1))) (.pk 4)) (.cons (.op1 .len (.pk 2)) .nil)))))) (.cons (.ite (.op2 .notin (.pk 5) (.pk 3)) (.cons (.app 3 (.var 5)) .nil) .nil) .nil))) (.cons (.ret (.tup (.cons (.call "_law_pairs" none (.cons (.var 0) (.cons (.op2 .add (.pk 1) (.cst (.int 10))) (.cons (.var 2) (.cons (.cst (.int 4)) .nil))))) (.cons (.call "_law_pairs" none (.cons (.var 0) (.cons (.op2 .add (.pk 1) (.cst (.int 30))) (.cons (.var 2) (.cons (.cst (.int 3)) .nil))))) (.cons (.op1 .tuple (.pk 3)) .nil))))) .nil)))⟩
def c_features_at : Fn := ⟨2, 4, none, (.cons (.loop [2, 3] (.of (.op2 .idx (.pk 0) (.cst (.int 0)))) (.cons (.ite (.op2 .eq (.pk 2) (.pk 1)) (.cons (.ret (.var 3)) .nil) .nil) .nil)) (.cons (.ret (.cst .none)) .nil))⟩
def c_closure : Fn := ⟨2, 7, none, (.cons (.set 2 (.op1 .ssort (.pk 1))) (.cons (.set 3 (.lst .nil)) (.cons (.wh (.op2 .ne (.pk 3) (.pk 2)) (.cons (.set 3 (.var 2)) (.cons (.set 4 (.lc (.var 6) [5, 6] (.of (.op2 .idx (.pk 0) (.cst (.int 0)))) (.so (.op2 .isin (.pk 5) (.pk 2))))) (.cons (.set 2 (.op1 .ssort (.op2 .add (.pk 2) (.pk 4)))) .nil)))) (.cons (.ret (.var 2)) .nil))))⟩
def c_barred_pair : Fn := ⟨2, 4, none, (.cons (.loop [2, 3] (.of (.op2 .idx (.pk 0) (.cst (.int 1)))) (.cons (.ite (.and (.op2 .isin (.pk 2) (.pk 1)) (.op2 .isin (.pk 3) (.pk 1))) (.cons (.ret (.tup (.cons (.var 2) (.cons (.var 3) .nil)))) .nil) .nil) .nil)) (.cons (.ret (.cst .none)) .nil))⟩
def c_common : Fn := ⟨2, 6, none, (.cons (.set 2 (.lc (.var 5) [5] (.of (.call "features_at" none (.cons (.op2 .idx (.pk 0) (.cst (.int 0))) (.cons (.var 1) .nil)))) .no)) (.cons (.loop [3] (.of (.var 0)) (.cons (.set 4 (.call "features_at" none (.cons (.var 3) (.cons (.var 1) .nil)))) (.cons (.set 2 (.lc (.var 5) [5] (.of (.var 2)) (.so (.and (.op2 .isin (.pk 5) (.pk 4)) (.op2 .notin (.pk 5) (.op2 .idx (.pk 3) (.cst (.int 3)))))))) .nil))) (.cons (.ret (.var 2)) .nil)))⟩
def c_musts : Fn := ⟨1, 4, none, (.cons (.dnew 1 false) (.cons (.loop [2] (.of (.var 0)) (.cons (.loop [3] (.of (.op2 .idx (.pk 2) (.cst (.int 2)))) (.cons (.dput 1 (.var 3) (.cst (.bool true))) .nil)) .nil)) (.cons (.ret (.op1 .sorted (.op1 .list (.pk 1)))) .nil)))⟩
def c_is_fit : Fn := ⟨3, 4, none, (.cons (.ite (.or (.not (.op1 .all (.lc (.op2 .isin (.pk 3) (.pk 1)) [3] (.of (.var 2)) .no))) (.op1 .notNone (.call "barred_pair" none (.cons (.var 0) (.cons (.var 2) .nil))))) (.cons (.ret (.cst (.bool false))) .nil) .nil) (.cons (.ret (.op2 .eq (.call "closure" none (.cons (.var 0) (.cons (.var 2) .nil))) (.op1 .sorted (.pk 2)))) .nil))⟩
def c_versions_of : Fn := ⟨1, 5, none, (.cons (.set 1 (.lc (.var 3) [3, 4] (.of (.op2 .idx (.op2 .idx (.pk 0) (.cst (.int 0))) (.cst (.int 0)))) .no)) (.cons (.loop [2] (.of (.var 0)) (.cons (.set 1 (.lc (.var 3) [3] (.of (.var 1)) (.so (.op1 .notNone (.call "features_at" none (.cons (.var 2) (.cons (.var 3) .nil))))))) .nil)) (.cons (.ret (.op1 .rev (.pk 1))) .nil)))⟩
def c_order_of : Fn := ⟨2, 3, none, (.cons (.ret (.op2 .add (.lc (.var 2) [2] (.of (.op2 .idx (.pk 0) (.cst (.int 2)))) (.so (.op2 .isin (.pk 2) (.pk 1)))) (.lc (.var 2) [2] (.of (.var 1)) (.so (.op2 .notin (.pk 2) (.op2 .idx (.pk 0) (.cst (.int 2)))))))) .nil)⟩
def c_best_at : Fn := ⟨3, 7, none, (.cons (.set 3 (.call "common" none (.cons (.var 0) (.cons (.var 2) .nil)))) (.cons (.set 4 (.call "closure" none (.cons (.var 1) (.cons (.call "musts" none (.cons (.var 0) .nil)) .nil)))) (.cons (.ite (.not (.call "is_fit" none (.cons (.var 1) (.cons (.var 3) (.cons (.var 4) .nil))))) (.cons (.ret (.cst .none)) .nil) .nil) (.cons (.loop [5] (.of (.call "order_of" none (.cons (.var 1) (.cons (.var 3) .nil)))) (.cons (.set 6 (.call "closure" none (.cons (.var 1) (.cons (.op2 .add (.pk 4) (.lst (.cons (.var 5) .nil))) .nil)))) (.cons (.ite (.call "is_fit" none (.cons (.var 1) (.cons (.var 3) (.cons (.var 6) .nil)))) (.cons (.set 4 (.var 6)) .nil) .nil) .nil))) (.cons (.ret (.op1 .tuple (.pk 4))) .nil)))))⟩
def c_best_of : Fn := ⟨2, 6, none, (.cons (.set 2 (.op1 .max (.lc (.op2 .idx (.pk 5) (.cst (.int 1))) [5] (.of (.var 0)) .no))) (.cons (.loop [3] (.of (.call "versions_of" none (.cons (.var 0) .nil))) (.cons (.ite (.op2 .ge (.pk 3) (.pk 2)) (.cons (.set 4 (.call "best_at" none (.cons (.var 0) (.cons (.var 1) (.cons (.var 3) .nil))))) (.cons (.ite (.op1 .notNone (.pk 4)) (.cons (.ret (.tup (.cons (.var 3) (.cons (.var 4) .nil)))) .nil) .nil) .nil)) .nil) .nil)) (.cons (.ret (.cst .none)) .nil)))⟩
def c_choose : Fn := ⟨3, 3, none, (.cons (.exp (.call "need_offer" none (.cons (.var 0) .nil))) (.cons (.exp (.call "need_offer" none (.cons (.var 1) .nil))) (.cons (.exp (.call "need_rules" none (.cons (.var 2) .nil))) (.cons (.ret (.call "best_of" none (.cons (.lst (.cons (.var 0) (.cons (.var 1) .nil))) (.cons (.var 2) .nil)))) .nil))))⟩
def c_law_known : Fn := ⟨2, 3, none, (.cons (.ret (.lc (.op2 .idx (.pk 2) (.cst (.int 1))) [2] (.of (.op2 .idx (.pk 0) (.cst (.int 0)))) (.so (.op2 .eq (.op2 .idx (.pk 2) (.cst (.int 0))) (.pk 1))))) .nil)⟩
def c_law_fits : Fn := ⟨4, 8, none, (.cons (.loop [4] (.of (.var 0)) (.cons (.set 5 (.call "_law_known" none (.cons (.var 4) (.cons (.var 2) .nil)))) (.cons (.ite (.or (.op2 .eq (.pk 5) (.lst .nil)) (.or (.op2 .lt (.pk 2) (.op2 .idx (.pk 4) (.cst (.int 1)))) (.not (.op1 .all (.lc (.op2 .isin (.pk 6) (.pk 3)) [6] (.of (.op2 .idx (.pk 4) (.cst (.int 2)))) .no))))) (.cons (.ret (.cst (.bool false))) .nil) .nil) (.cons (.ite (.not (.op1 .all (.lc (.and (.op2 .isin (.pk 6) (.op2 .idx (.pk 5) (.cst (.int 0)))) (.op2 .notin (.pk 6) (.op2 .idx (.pk 4) (.cst (.int 3))))) [6] (.of (.var 3)) .no))) (.cons (.ret (.cst (.bool false))) .nil) .nil) .nil)))) (.cons (.ite (.not (.op1 .all (.lc (.op2 .isin (.pk 7) (.pk 3)) [6, 7] (.of (.op2 .idx (.pk 1) (.cst (.int 0)))) (.so (.op2 .isin (.pk 6) (.pk 3)))))) (.cons (.ret (.cst (.bool false))) .nil) .nil) (.cons (.ret (.not (.op1 .any (.lc (.and (.op2 .isin (.pk 6) (.pk 3)) (.op2 .isin (.pk 7) (.pk 3))) [6, 7] (.of (.op2 .idx (.pk 1) (.cst (.int 1)))) .no)))) .nil)))⟩
def l_fits_both_1 : E := (.lc (.op2 .idx (.pk 6) (.cst (.int 1))) [6] (.of (.var 4)) .no)
def l_fits_both_2 : E := (.lc (.op2 .isin (.pk 5) (.op2 .idx (.pk 3) (.cst (.int 1)))) [5] (.of (.call "musts" none (.cons (.var 4) .nil))) .no)
def c_fits_both : Fn := ⟨4, 7, none, (.cons (.ite (.or (.not (.op1 (.isi .tuple) (.pk 3))) (.or (.op2 .ne (.op1 .len (.pk 3)) (.cst (.int 2))) (.or (.not (.call "is_version" none (.cons (.op2 .idx (.pk 3) (.cst (.int 0))) .nil))) (.not (.call "are_features" none (.cons (.op2 .idx (.pk 3) (.cst (.int 1))) .nil)))))) (.cons (.ret (.cst (.bool false))) .nil) .nil) (.cons (.set 4 (.lst (.cons (.var 0) (.cons (.var 1) .nil)))) (.cons (.ite (.or (.op2 .notin (.op2 .idx (.pk 3) (.cst (.int 0))) (.call "versions_of" none (.cons (.var 4) .nil))) (.op2 .lt (.op2 .idx (.pk 3) (.cst (.int 0))) (.op1 .max l_fits_both_1))) (.cons (.ret (.cst (.bool false))) .nil) .nil) (.cons (.ite (.not (.op1 .all l_fits_both_2)) (.cons (.ret (.cst (.bool false))) .nil) .nil) (.cons (.ret (.call "is_fit" none (.cons (.var 2) (.cons (.call "common" none (.cons (.var 4) (.cons (.op2 .idx (.pk 3) (.cst (.int 0))) .nil))) (.cons (.op1 .list (.op2 .idx (.pk 3) (.cst (.int 1)))) .nil))))) .nil)))))⟩
def c_is_choice : Fn := ⟨4, 4, none, (.cons (.exp (.call "need_offer" none (.cons (.var 0) .nil))) (.cons (.exp (.call "need_offer" none (.cons (.var 1) .nil))) (.cons (.exp (.call "need_rules" none (.cons (.var 2) .nil))) (.cons (.ret (.call "fits_both" none (.cons (.var 0) (.cons (.var 1) (.cons (.var 2) (.cons (.var 3) .nil)))))) .nil))))⟩
def l_law_wider_1 : E := (.lc (.var 10) [10] (.of (.op2 .idx (.pk 3) (.cst (.int 0)))) .no)
def l_law_wider_2 : E := (.lc (.tup (.cons (.var 9) (.cons (.op2 .idx (.pk 5) (.pk 9)) .nil))) [9] (.of (.op1 .sorted (.op1 .list (.pk 5)))) .no)
def c_law_wider : Fn := ⟨4, 11, none, (.cons (.set 4 (.call "_law_mixed" none (.cons (.var 0) (.cons (.var 1) (.cons (.cst (.int 5)) .nil))))) (.cons (.dset 5 l_law_wider_1) (.cons (.ite (.op2 .eq (.pk 4) (.cst (.int 0))) (.cons (.set 9 (.tup (.cons (.op2 .add (.cst (.int 1)) (.call "_law_mixed" none (.cons (.var 0) (.cons (.op2 .add (.pk 1) (.cst (.int 1))) (.cons (.cst (.int 3)) .nil))))) (.cons (.call "_law_mixed" none (.cons (.var 0) (.cons (.op2 .add (.pk 1) (.cst (.int 2))) (.cons (.cst (.int 4)) .nil)))) .nil)))) (.cons (.dsd 5 (.var 9) (.call "_law_some" none (.cons (.var 0) (.cons (.op2 .add (.pk 1) (.cst (.int 3))) (.cons (.var 2) (.cons (.cst (.int 5)) .nil)))))) .nil)) .nil) (.cons (.ite (.op2 .eq (.pk 4) (.cst (.int 1))) (.cons (.set 9 (.op2 .idx (.op1 .sorted (.op1 .list (.pk 5))) (.call "_law_mixed" none (.cons (.var 0) (.cons (.op2 .add (.pk 1) (.cst (.int 1))) (.cons (.op1 .len (.pk 5)) .nil)))))) (.cons (.dput 5 (.var 9) (.op1 .tuple (.op1 .ssort (.op2 .add (.op2 .idx (.pk 5) (.pk 9)) (.tup (.cons (.op2 .idx (.pk 2) (.call "_law_mixed" none (.cons (.var 0) (.cons (.op2 .add (.pk 1) (.cst (.int 2))) (.cons (.op1 .len (.pk 2)) .nil))))) .nil)))))) .nil)) .nil) (.cons (.set 6 (.op2 .idx (.lst (.cons (.op2 .idx (.pk 3) (.cst (.int 1))) (.cons (.tup (.cons (.cst (.int 0)) (.cons (.cst (.int 0)) .nil))) .nil))) (.op1 .int (.op2 .eq (.pk 4) (.cst (.int 2)))))) (.cons (.set 7 (.op2 .idx (.lst (.cons (.op2 .idx (.pk 3) (.cst (.int 2))) (.cons (.slc (.op2 .idx (.pk 3) (.cst (.int 2))) (.so (.cst (.int 1))) .no) .nil))) (.op1 .int (.op2 .eq (.pk 4) (.cst (.int 3)))))) (.cons (.set 8 (.op2 .idx (.lst (.cons (.op2 .idx (.pk 3) (.cst (.int 3))) (.cons (.slc (.op2 .idx (.pk 3) (.cst (.int 3))) (.so (.cst (.int 1))) .no) .nil))) (.op1 .int (.op2 .eq (.pk 4) (.cst (.int 4)))))) (.cons (.ret (.tup (.cons (.op1 .tuple l_law_wider_2) (.cons (.var 6) (.cons (.var 7) (.cons (.var 8) .nil)))))) .nil))))))))⟩
end G6
-- ## P1
/-! # P1: reckoning with Core -/
namespace G6
open PySem
theorem Phi_succ {T : Str → Option Fn} {f : Str} {fn : Fn} (h : T f = some fn) (n : Nat) (as : List Av) : Phi T (n + 1) f as = runFn (Phi T n) fn as := by
  show (match T f with
    | some fn => runFn (Phi T n) fn as
    | none => .bad) = _
  rw [h]
theorem run1 {Φ : Fenv} {fn : Fn} {as : List Av} (ρ : Rho) (hl : as.length = fn.np) (hρ : entry fn.io 0 as ++ List.replicate (fn.ns - fn.np) .un = ρ) : runFn Φ fn as = outOf fn.io (exSs Φ fn.body ρ) := by
  unfold runFn
  rw [if_pos hl, hρ]
/-! ### comprehensions that change nothing -/
def condF' (Φ : Fenv) (cond : Eo) (ρ : Rho) : R Bool := match cond with
  | .no => .ok true ρ
  | .so c => tst (den Φ c ρ)
def lcF' (Φ : Fenv) (cond : Eo) (elt : E) (ρ : Rho) : R (Option PyData) := (condF' Φ cond ρ).bind fun b ρ3 => if b then (dataOf (den Φ elt ρ3)).bind fun d ρ4 => .ok (some d) ρ4 else .ok none ρ3
theorem den_lc' {Φ : Fenv} {elt : E} {tg : List Nat} {src : Src} {cond : Eo} {ρ : Rho} : den Φ (.lc elt tg src cond) ρ = (dsrc Φ src ρ).bind fun xs ρ1 => if tg.all (plainAt ρ1) then (match lcL (lcF' Φ cond elt) tg xs (wipeR ρ1 tg) [] with
      | .ok ds ρ2 => .ok (.dat (.list ds)) (backR ρ1 ρ2 tg)
      | _ => .bad) else .bad := by
  conv => lhs; unfold den
  rfl
theorem lcL_pure {f : Rho → R (Option PyData)} {tg : List Nat} {ρ : Rho} {g : PyData → Option PyData} : ∀ {xs acc : List PyData}, (∀ x ∈ xs, ∃ ρ1, bindT tg x ρ = some ρ1 ∧ f ρ1 = .ok (g x) ρ1 ∧ tg.all (plainAt ρ1) = true ∧ wipeR ρ1 tg = ρ) → lcL f tg xs ρ acc = .ok (acc ++ xs.filterMap g) ρ
  | [], acc, _ => by simp [lcL]
  | x :: r, acc, h => by
    obtain ⟨ρ1, h1, h2, h3, h4⟩ := h x List.mem_cons_self
    unfold lcL
    rw [h1]
    dsimp only
    rw [h2]
    dsimp only
    rw [if_pos h3, h4, lcL_pure fun y hy => h y (List.mem_cons_of_mem _ hy)]
    congr 1
    cases e : g x with
    | none => simp [e]
    | some y => simp [e]
theorem den_lc1 {Φ : Fenv} {elt : E} {i : Nat} {src : Src} {cond : Eo} {ρ : Rho} {xs : List PyData} {g : PyData → Option PyData} (hs : dsrc Φ src ρ = .ok xs ρ) (hp : plainAt ρ i = true)
    (hx : ∀ x ∈ xs, lcF' Φ cond elt (ρ.set i (.v x)) = .ok (g x) (ρ.set i (.v x))) : den Φ (.lc elt [i] src cond) ρ = .ok (.dat (.list (xs.filterMap g))) ρ := by
  have hi : i < ρ.length := by
    unfold plainAt at hp
    cases e : ρ[i]? with
    | none => rw [e] at hp; cases hp
    | some s => exact (List.getElem?_eq_some_iff.mp e).1
  rw [den_lc', hs]
  simp only [R.bind, List.all_cons, List.all_nil, hp, Bool.and_true, if_true]
  rw [lcL_pure (g := g)]
  · simp only [List.nil_append, backR, wipeR, List.set_set]
    congr 1
    cases e : ρ[i]? with
    | none => rw [List.getElem?_eq_none_iff] at e; omega
    | some s =>
      simp only [Option.getD_some]
      rw [List.getElem?_eq_getElem hi] at e
      cases e
      exact List.set_getElem_self hi
  · intro x hx'
    refine ⟨ρ.set i (.v x), ?_, hx x hx', ?_, ?_⟩
    · simp only [bindT, wipeR, List.set_set]
    · simp only [List.all_cons, List.all_nil, Bool.and_true, plainAt, List.getElem?_set_self hi, plainSl]
    · simp only [wipeR, List.set_set]
/-! ### typed: a comprehension over ys -/
theorem lcL_typed {β : Type} {enc : β → PyData} {c : β → Bool} {e : β → PyData} {f : Rho → R (Option PyData)} {tg : List Nat} {ρ : Rho} : ∀ {ys : List β} {acc : List PyData}, (∀ y ∈ ys, ∃ ρ1, bindT tg (enc y) ρ = some ρ1 ∧ f ρ1 = .ok (if c y then some (e y) else none) ρ1 ∧ tg.all (plainAt ρ1) = true ∧ wipeR ρ1 tg = ρ) →
    lcL f tg (ys.map enc) ρ acc = .ok (acc ++ (ys.filter c).map e) ρ
  | [], acc, _ => by simp [lcL]
  | y :: r, acc, h => by
    obtain ⟨ρ1, h1, h2, h3, h4⟩ := h y List.mem_cons_self
    rw [List.map_cons]
    unfold lcL
    rw [h1]
    dsimp only
    rw [h2]
    dsimp only
    rw [if_pos h3, h4, lcL_typed fun z hz => h z (List.mem_cons_of_mem _ hz)]
    congr 1
    cases hc : c y <;> simp [hc]
theorem plain_len {ρ : Rho} {k : Nat} (hp : plainAt ρ k = true) : k < ρ.length := by
  unfold plainAt at hp
  cases e : ρ[k]? with
  | none => rw [e] at hp; cases hp
  | some s => exact (List.getElem?_eq_some_iff.mp e).1
section
variable {Φ : Fenv} {elt : E} {src : Src} {cond : Eo} {ρ : Rho} {β : Type} {enc : β → PyData} {ys : List β} {c : β → Bool} {e : β → PyData}
theorem lcF_of {ρ1 : Rho} {b : Bool} {d : PyData} (hc : condF' Φ cond ρ1 = .ok b ρ1) (he : b = true → dataOf (den Φ elt ρ1) = .ok d ρ1) : lcF' Φ cond elt ρ1 = .ok (if b then some d else none) ρ1 := by
  unfold lcF'
  rw [hc]
  cases b with
  | false => rfl
  | true =>
    simp only [R.bind, if_true]
    rw [he rfl]
theorem lcT1 {i : Nat} (hs : dsrc Φ src ρ = .ok (ys.map enc) ρ) (hp : plainAt ρ i = true) (hc : ∀ y ∈ ys, condF' Φ cond (ρ.set i (.v (enc y))) = .ok (c y) (ρ.set i (.v (enc y))))
    (he : ∀ y ∈ ys, c y = true → dataOf (den Φ elt (ρ.set i (.v (enc y)))) = .ok (e y) (ρ.set i (.v (enc y)))) : den Φ (.lc elt [i] src cond) ρ = .ok (.dat (.list ((ys.filter c).map e))) ρ := by
  have hi := plain_len hp
  rw [den_lc', hs]
  simp only [R.bind, List.all_cons, List.all_nil, hp, Bool.and_true, if_true]
  rw [lcL_typed (c := c) (e := e)]
  · simp only [List.nil_append, backR, wipeR, List.set_set]
    congr 1
    rw [List.getElem?_eq_getElem hi]
    exact List.set_getElem_self hi
  · intro y hy
    refine ⟨ρ.set i (.v (enc y)), ?_, lcF_of (hc y hy) (he y hy), ?_, ?_⟩
    · simp only [bindT, wipeR, List.set_set]
    · simp only [List.all_cons, List.all_nil, Bool.and_true, plainAt, List.getElem?_set_self hi, plainSl]
    · simp only [wipeR, List.set_set]
theorem lcT1n {i : Nat} (hs : dsrc Φ src ρ = .ok (ys.map enc) ρ) (hp : plainAt ρ i = true) (he : ∀ y ∈ ys, dataOf (den Φ elt (ρ.set i (.v (enc y)))) = .ok (e y) (ρ.set i (.v (enc y)))) : den Φ (.lc elt [i] src .no) ρ = .ok (.dat (.list (ys.map e))) ρ := by
  have := lcT1 (c := fun _ => true) (cond := .no) hs hp (fun _ _ => rfl) (fun y hy _ => he y hy)
  rw [List.filter_eq_self.mpr (fun _ _ => rfl)] at this
  exact this
theorem lcT2 {i j : Nat} {a b : β → PyData} (hij : i ≠ j) (hn : ∀ y ∈ ys, enc y = .tuple [a y, b y]) (hs : dsrc Φ src ρ = .ok (ys.map enc) ρ) (hp : plainAt ρ i = true) (hq : plainAt ρ j = true) (hc : ∀ y ∈ ys, condF' Φ cond ((ρ.set i (.v (a y))).set j (.v (b y))) = .ok (c y) ((ρ.set i (.v (a y))).set j (.v (b y))))
    (he : ∀ y ∈ ys, c y = true → dataOf (den Φ elt ((ρ.set i (.v (a y))).set j (.v (b y)))) = .ok (e y) ((ρ.set i (.v (a y))).set j (.v (b y)))) : den Φ (.lc elt [i, j] src cond) ρ = .ok (.dat (.list ((ys.filter c).map e))) ρ := by
  have hi := plain_len hp
  have hj := plain_len hq
  rw [den_lc', hs]
  simp only [R.bind, List.all_cons, List.all_nil, hp, hq, Bool.and_true, if_true]
  rw [lcL_typed (c := c) (e := e)]
  · simp only [List.nil_append, backR, wipeR]
    congr 1
    have e1 : (ρ[i]?).getD .un = ρ[i] := by rw [List.getElem?_eq_getElem hi]; rfl
    have e2 : (ρ[j]?).getD .un = ρ[j] := by rw [List.getElem?_eq_getElem hj]; rfl
    rw [e1, e2]
    apply List.ext_getElem?
    intro k
    by_cases ki : i = k
    · subst ki
      simp [List.getElem?_set, hi]
    · by_cases kj : j = k
      · subst kj
        simp [List.getElem?_set, hj, ki]
      · simp [List.getElem?_set, ki, kj]
  · intro y hy
    refine ⟨(ρ.set i (.v (a y))).set j (.v (b y)), ?_, lcF_of (hc y hy) (he y hy), ?_, ?_⟩
    · rw [hn y hy]
      simp only [bindT, wipeR, Option.some.injEq]
      apply List.ext_getElem?
      intro k
      by_cases ki : i = k
      · subst ki
        simp [List.getElem?_set, hi, Ne.symm hij]
      · by_cases kj : j = k
        · subst kj
          simp [List.getElem?_set, hj, ki]
        · simp [List.getElem?_set, ki, kj]
    · simp only [List.all_cons, List.all_nil, Bool.and_true, plainAt, Bool.and_eq_true]
      refine ⟨?_, ?_⟩
      · rw [List.getElem?_set_ne (Ne.symm hij), List.getElem?_set_self hi]
        rfl
      · rw [List.getElem?_set_self (by simpa using hj)]
        rfl
    · simp only [wipeR]
      apply List.ext_getElem?
      intro k
      by_cases ki : i = k
      · subst ki
        simp [List.getElem?_set, hi, Ne.symm hij]
      · by_cases kj : j = k
        · subst kj
          simp [List.getElem?_set, hj, ki]
        · simp [List.getElem?_set, ki, kj]
theorem lcT2n {i j : Nat} {a b : β → PyData} (hij : i ≠ j) (hn : ∀ y ∈ ys, enc y = .tuple [a y, b y]) (hs : dsrc Φ src ρ = .ok (ys.map enc) ρ) (hp : plainAt ρ i = true) (hq : plainAt ρ j = true)
    (he : ∀ y ∈ ys, dataOf (den Φ elt ((ρ.set i (.v (a y))).set j (.v (b y)))) = .ok (e y) ((ρ.set i (.v (a y))).set j (.v (b y)))) : den Φ (.lc elt [i, j] src .no) ρ = .ok (.dat (.list (ys.map e))) ρ := by
  have := lcT2 (c := fun _ => true) (cond := .no) hij hn hs hp hq (fun _ _ => rfl) (fun y hy _ => he y hy)
  rw [List.filter_eq_self.mpr (fun _ _ => rfl)] at this
  exact this
end
/-! ### typed: a loop over ys -/
inductive Stp (α : Type) where
  | go (a : α)
  | brk (a : α)
  | stop (d : PyData)
def foldS {α β : Type} (step : α → β → Stp α) : List β → α → Stp α
  | [], a => .go a
  | y :: r, a => match step a y with
    | .go a' => foldS step r a'
    | .brk a' => .go a'
    | .stop d => .stop d
def StpOk {α : Type} (Rp : α → Rho → Prop) (f : Fl) : Stp α → Prop
  | .go a => ∃ ρ, (f = .nx ρ ∨ f = .ct ρ) ∧ Rp a ρ
  | .brk a => ∃ ρ, f = .br ρ ∧ Rp a ρ
  | .stop d => ∃ ρ, f = .rt d ρ
def EndOk {α : Type} (Rp : α → Rho → Prop) (f : Fl) : Stp α → Prop
  | .stop d => ∃ ρ, f = .rt d ρ
  | .go a => ∃ ρ, f = .nx ρ ∧ Rp a ρ
  | .brk a => ∃ ρ, f = .nx ρ ∧ Rp a ρ
theorem forT {α β : Type} {enc : β → PyData} {body : Rho → Fl} {tg : List Nat} {Rp : α → Rho → Prop} {step : α → β → Stp α} : ∀ {ys : List β} {a : α} {ρ : Rho}, Rp a ρ → (∀ a y ρ, y ∈ ys → Rp a ρ → tg.all (freeAt ρ) = true ∧ ∃ ρ1, bindT tg (enc y) ρ = some ρ1 ∧ StpOk Rp (body ρ1) (step a y)) → EndOk Rp (forL body tg (ys.map enc) ρ) (foldS step ys a)
  | [], a, ρ, h, _ => ⟨ρ, rfl, h⟩
  | y :: r, a, ρ, h, hs => by
    obtain ⟨h1, ρ1, h2, h3⟩ := hs a y ρ List.mem_cons_self h
    rw [List.map_cons]
    unfold forL foldS
    rw [if_pos h1, h2]
    dsimp only
    cases e : step a y with
    | go a' =>
      rw [e] at h3
      obtain ⟨ρ2, h4, h5⟩ := h3
      rcases h4 with h4 | h4 <;> rw [h4] <;> exact forT h5 fun a y ρ hy => hs a y ρ (List.mem_cons_of_mem _ hy)
    | brk a' =>
      rw [e] at h3
      obtain ⟨ρ2, h4, h5⟩ := h3
      rw [h4]
      exact ⟨ρ2, rfl, h5⟩
    | stop d =>
      rw [e] at h3
      obtain ⟨ρ2, h4⟩ := h3
      rw [h4]
      exact ⟨ρ2, rfl⟩
def freeSl : Sl → Bool
  | .b _ => false
  | _ => true
theorem freeAt_eq (ρ : Rho) (i : Nat) : freeAt ρ i = (match ρ[i]? with
    | some s => freeSl s
    | none => false) := by
  unfold freeAt
  cases ρ[i]? with
  | none => rfl
  | some s => cases s <;> rfl
theorem plain_free {s : Sl} (h : plainSl s = true) : freeSl s = true := by cases s <;> first | rfl | cases h
theorem fs_un : freeSl .un = true := rfl
theorem fs_v (d : PyData) : freeSl (.v d) = true := rfl
theorem fs_m (d : PyData) : freeSl (.m d) = true := rfl
theorem fs_f (x : Str) : freeSl (.f x) = true := rfl
theorem ps_un : plainSl .un = true := rfl
theorem ps_v (d : PyData) : plainSl (.v d) = true := rfl
theorem ps_f (x : Str) : plainSl (.f x) = true := rfl
theorem ps_m (d : PyData) : plainSl (.m d) = false := rfl
end G6
-- ## P2
/-! # P2: Core, step by step, for simp -/
namespace G6
open PySem
section
variable {Φ : Fenv} {ρ : Rho}
theorem e_var {i : Nat} : den Φ (.var i) ρ = (match ρ[i]? with
    | some (.v d) => .ok (.dat d) ρ
    | some (.m d) => if isLst d then .ok (.dat d) (ρ.set i (.v d)) else .bad
    | some (.f x) => .ok (.fn x) ρ
    | _ => .bad) := by first | (simp only [den]; done) | (simp only [den]; rfl)
theorem e_pk {i : Nat} : den Φ (.pk i) ρ = (match ρ[i]? with
    | some (.v d) => .ok (.dat d) ρ
    | some (.m _) => .ok (.at i) ρ
    | some (.b _) => .ok (.at i) ρ
    | _ => .bad) := by first | (simp only [den]; done) | (simp only [den]; rfl)
theorem e_cst {d : PyData} : den Φ (.cst d) ρ = .ok (.dat d) ρ := by first | (simp only [den]; done) | (simp only [den]; rfl)
theorem e_glb {x : Str} {d : PyData} : den Φ (.glb x d) ρ = .ok (.dat d) ρ := by first | (simp only [den]; done) | (simp only [den]; rfl)
theorem e_fnv {x : Str} : den Φ (.fnv x) ρ = .ok (.fn x) ρ := by first | (simp only [den]; done) | (simp only [den]; rfl)
theorem e_tup {es : Es} : den Φ (.tup es) ρ = (dens Φ es ρ).bind fun ps ρ1 => (match alls ps with
    | some ds => .ok (.dat (.tuple ds)) ρ1
    | none => .bad) := by first | (simp only [den]; done) | (simp only [den]; rfl)
theorem e_lst {es : Es} : den Φ (.lst es) ρ = (dens Φ es ρ).bind fun ps ρ1 => (match alls ps with
    | some ds => .ok (.dat (.list ds)) ρ1
    | none => .bad) := by first | (simp only [den]; done) | (simp only [den]; rfl)
theorem e_op1 {o : Op1} {a : E} : den Φ (.op1 o a) ρ = (den Φ a ρ).bind fun p ρ1 => (match res ρ1 p with
    | some d => lift (sem1 o d) ρ1
    | none => .bad) := by first | (simp only [den]; done) | (simp only [den]; rfl)
theorem e_op2 {o : Op2} {a b : E} : den Φ (.op2 o a b) ρ = (den Φ a ρ).bind fun p ρ1 => (den Φ b ρ1).bind fun q ρ2 => lift2 (sem2 o) p q ρ2 := by first | (simp only [den]; done) | (simp only [den]; rfl)
theorem e_chn {o o' : Op2} {a b c : E} : den Φ (.chn o o' a b c) ρ = (den Φ a ρ).bind fun p ρ1 => (dataOf (den Φ b ρ1)).bind fun y ρ2 => (match res ρ2 p with
    | some x => match sem2 o x y with
      | some (.bool true) => (den Φ c ρ2).bind fun r ρ3 => match res ρ3 r with
        | some z => lift (sem2 o' y z) ρ3
        | none => .bad
      | some (.bool false) => .ok (.dat (.bool false)) ρ2
      | _ => .bad
    | none => .bad) := by first | (simp only [den]; done) | (simp only [den]; rfl)
theorem e_and {a b : E} : den Φ (.and a b) ρ = (dataOf (den Φ a ρ)).bind fun d ρ1 => (match truth d with
    | some true => den Φ b ρ1
    | some false => .ok (.dat d) ρ1
    | none => .bad) := by first | (simp only [den]; done) | (simp only [den]; rfl)
theorem e_or {a b : E} : den Φ (.or a b) ρ = (dataOf (den Φ a ρ)).bind fun d ρ1 => (match truth d with
    | some true => .ok (.dat d) ρ1
    | some false => den Φ b ρ1
    | none => .bad) := by first | (simp only [den]; done) | (simp only [den]; rfl)
theorem e_not {a : E} : den Φ (.not a) ρ = (resOf (den Φ a ρ)).bind fun d ρ1 => (match truth d with
    | some b => .ok (.dat (.bool (!b))) ρ1
    | none => .bad) := by first | (simp only [den]; done) | (simp only [den]; rfl)
theorem e_ite {c a b : E} : den Φ (.ite c a b) ρ = (resOf (den Φ c ρ)).bind fun d ρ1 => (match truth d with
    | some true => den Φ a ρ1
    | some false => den Φ b ρ1
    | none => .bad) := by first | (simp only [den]; done) | (simp only [den]; rfl)
theorem e_slc {a : E} {lo hi : Eo} : den Φ (.slc a lo hi) ρ = (den Φ a ρ).bind fun p ρ1 => (deno Φ lo ρ1).bind fun l ρ2 => (deno Φ hi ρ2).bind fun h ρ3 => (match res ρ3 p with
    | some d => lift (sliceD d l h) ρ3
    | none => .bad) := by first | (simp only [den]; done) | (simp only [den]; rfl)
theorem e_call {f : Str} {io : Option Nat} {es : Es} : den Φ (.call f io es) ρ = (dens Φ es ρ).bind fun ps ρ1 => callK Φ f io ps ρ1 := by first | (simp only [den]; done) | (simp only [den]; rfl)
theorem e_met {m : M1} {a b : E} : den Φ (.met m a b) ρ = (dataOf (den Φ a ρ)).bind fun x ρ1 => (match x with
    | .str z => (den Φ b ρ1).bind fun q ρ2 => match res ρ2 q with
      | some y => lift (semM m z y) ρ2
      | none => .bad
    | _ => .bad) := by first | (simp only [den]; done) | (simp only [den]; rfl)
end
/-! ### statements -/
/-- a loop's body, kept shut -/
def loopB (Φ : Fenv) (body : Ss) : Rho → Fl := exSs Φ body
def testB (Φ : Fenv) (c : E) (ρ : Rho) : R Bool := tst (den Φ c ρ)
section
variable {Φ : Fenv} {ρ : Rho}
theorem x_set {i : Nat} {e : E} : exS Φ (.set i e) ρ = ((den Φ e ρ).fl fun p ρ1 => match putV ρ1 i p with
    | some ρ2 => .nx ρ2
    | none => .bad) := by first | (simp only [exS, loopB, testB]; done) | (simp only [exS, loopB, testB]; rfl) | rfl
theorem x_setm {i : Nat} {e : E} : exS Φ (.setm i e) ρ = ((dataOf (den Φ e ρ)).fl fun d ρ1 => if freeAt ρ1 i && isLst d then .nx (ρ1.set i (.m d)) else .bad) := by first | (simp only [exS, loopB, testB]; done) | (simp only [exS, loopB, testB]; rfl) | rfl
theorem x_dnew {i : Nat} {tk : Bool} : exS Φ (.dnew i tk) ρ = (if freeAt ρ i then .nx (ρ.set i (.m (.dict (if tk then [(.none, .none)] else [])))) else .bad) := by first | (simp only [exS, loopB, testB]; done) | (simp only [exS, loopB, testB]; rfl) | rfl
theorem x_unp {is : List Nat} {e : E} : exS Φ (.unp is e) ρ = ((dataOf (den Φ e ρ)).fl fun d ρ1 => match d with
    | .tuple ds => match putsV ρ1 is ds with
      | some ρ2 => .nx ρ2
      | none => .bad
    | _ => .bad) := by first | (simp only [exS, loopB, testB]; done) | (simp only [exS, loopB, testB]; rfl) | rfl
theorem x_par {is : List Nat} {es : Es} : exS Φ (.par is es) ρ = ((dens Φ es ρ).fl fun ps ρ1 => match alls ps with
    | some ds => match putsV ρ1 is ds with
      | some ρ2 => .nx ρ2
      | none => .bad
    | none => .bad) := by first | (simp only [exS, loopB, testB]; done) | (simp only [exS, loopB, testB]; rfl) | rfl
theorem x_app {i : Nat} {e : E} : exS Φ (.app i e) ρ = (if mutL ρ i then (dataOf (den Φ e ρ)).fl fun d ρ1 => match chg ρ1 i (appD d) with
    | some ρ2 => .nx ρ2
    | none => .bad else .bad) := by first | (simp only [exS, loopB, testB]; done) | (simp only [exS, loopB, testB]; rfl) | rfl
theorem x_ext {i : Nat} {e : E} : exS Φ (.ext i e) ρ = (if mutL ρ i then (dataOf (den Φ e ρ)).fl fun d ρ1 => match chg ρ1 i (extD d) with
    | some ρ2 => .nx ρ2
    | none => .bad else .bad) := by first | (simp only [exS, loopB, testB]; done) | (simp only [exS, loopB, testB]; rfl) | rfl
theorem x_dput {i : Nat} {k e : E} : exS Φ (.dput i k e) ρ = ((dataOf (den Φ e ρ)).fl fun d ρ1 => if mutD ρ1 i then (dataOf (den Φ k ρ1)).fl fun kd ρ2 => match chg ρ2 i (dputD kd d) with
    | some ρ3 => .nx ρ3
    | none => .bad else .bad) := by first | (simp only [exS, loopB, testB]; done) | (simp only [exS, loopB, testB]; rfl) | rfl
theorem x_ret {e : E} : exS Φ (.ret e) ρ = ((dataOf (den Φ e ρ)).fl fun d ρ1 => .rt d ρ1) := by first | (simp only [exS, loopB, testB]; done) | (simp only [exS, loopB, testB]; rfl) | rfl
theorem x_retn  : exS Φ .retn ρ = (.rt .none ρ) := by first | (simp only [exS, loopB, testB]; done) | (simp only [exS, loopB, testB]; rfl) | rfl
theorem x_rse {c : Str} : exS Φ (.rse c) ρ = (.ex c ρ) := by first | (simp only [exS, loopB, testB]; done) | (simp only [exS, loopB, testB]; rfl) | rfl
theorem x_ite {c : E} {a b : Ss} : exS Φ (.ite c a b) ρ = ((tst (den Φ c ρ)).fl fun k ρ1 => if k then exSs Φ a ρ1 else exSs Φ b ρ1) := by first | (simp only [exS, loopB, testB]; done) | (simp only [exS, loopB, testB]; rfl) | rfl
theorem x_loop {tg : List Nat} {src : Src} {body : Ss} : exS Φ (.loop tg src body) ρ = ((dsrc Φ src ρ).fl fun xs ρ1 => forL (loopB Φ body) tg xs ρ1) := by first | (simp only [exS, loopB, testB]; done) | (simp only [exS, loopB, testB]; rfl) | rfl
theorem x_wh {c : E} {body : Ss} : exS Φ (.wh c body) ρ = (whL (fun ρ1 => testB Φ c ρ1) (loopB Φ body) 200 ρ) := by first | (simp only [exS, loopB, testB]; done) | (simp only [exS, loopB, testB]; rfl) | rfl
theorem x_brk  : exS Φ .brk ρ = (.br ρ) := by first | (simp only [exS, loopB, testB]; done) | (simp only [exS, loopB, testB]; rfl) | rfl
theorem x_cnt  : exS Φ .cnt ρ = (.ct ρ) := by first | (simp only [exS, loopB, testB]; done) | (simp only [exS, loopB, testB]; rfl) | rfl
theorem x_pas  : exS Φ .pas ρ = (.nx ρ) := by first | (simp only [exS, loopB, testB]; done) | (simp only [exS, loopB, testB]; rfl) | rfl
theorem e_callt {fs : List Str} {i : E} {es : Es} : den Φ (.callt fs i es) ρ = (resOf (den Φ i ρ)).bind fun d ρ1 => (match d with
    | .int k => match L2.atI fs k with
      | some f => (dens Φ es ρ1).bind fun ps ρ2 => callK Φ f none ps ρ2
      | none => .bad
    | _ => .bad) := by first | (simp only [den]; done) | (simp only [den]; rfl)
theorem x_par3 {i j l : Nat} {es : Es} : exS Φ (.par3 i j l es) ρ = ((dens Φ es ρ).fl fun ps ρ1 => match alls ps with
    | some ds => match putsV ρ1 [i, j, l] ds with
      | some ρ2 => .nx ρ2
      | none => .bad
    | none => .bad) := by first | (simp only [exS]; done) | (simp only [exS]; rfl)
theorem x_parc {is : List Nat} {es : Es} : exS Φ (.parc is es) ρ = ((dens Φ es ρ).fl fun ps ρ1 => match alls ps with
    | some ds => match putsV ρ1 is ds with
      | some ρ2 => .nx ρ2
      | none => .bad
    | none => .bad) := by first | (simp only [exS]; done) | (simp only [exS]; rfl)
theorem x_unpl {is : List Nat} {e : E} : exS Φ (.unpl is e) ρ = ((dataOf (den Φ e ρ)).fl fun d ρ1 => match d with
    | .list ds => match putsV ρ1 is ds with
      | some ρ2 => .nx ρ2
      | none => .bad
    | _ => .bad) := by first | (simp only [exS]; done) | (simp only [exS]; rfl)
theorem x_tryw {body : Ss} {c f : Str} {i : Nat} {tab : List (Str × Int)} : exS Φ (.tryw body c i f tab) ρ = (match exSs Φ body ρ with
    | .ex k ρ' => match tab.lookup k with
      | some j => if plainAt ρ' i then .rt (.tuple [.str "refused", .int j]) (ρ'.set i .un) else .bad
      | none => .bad
    | fl => fl) := by first | (simp only [exS]; done) | (simp only [exS]; rfl)
theorem x_exp {e : E} : exS Φ (.exp e) ρ = ((den Φ e ρ).fl fun _ ρ1 => .nx ρ1) := by first | (simp only [exS, loopB, testB]; done) | (simp only [exS, loopB, testB]; rfl) | rfl
theorem x_nil : exSs Φ .nil ρ = .nx ρ := by simp only [exSs]
theorem x_cons {s : S} {r : Ss} : exSs Φ (.cons s r) ρ = (exS Φ s ρ).seq fun ρ1 => exSs Φ r ρ1 := by simp only [exSs]
end
/-- one call of a def without lent lists, its arguments data -/
theorem callK_d {Φ : Fenv} {f : Str} {ps : List Pv} {ρ : Rho} {ds : List PyData} (h : alls ps = some ds) {d : PyData} (e : Φ f (ds.map .d) = .ret d .none) : callK Φ f none ps ρ = .ok (.dat d) ρ := by
  have ha : ∀ (k : Nat) (ps : List Pv) (ds : List PyData), alls ps = some ds → argsAt ρ none k ps = some (ds.map .d) := fun k ps => by
    induction ps generalizing k with
    | nil => intro ds h; simp only [alls, Option.some.injEq] at h; subst h; rfl
    | cons p r ih =>
      intro ds h
      cases p with
      | dat d =>
        simp only [alls, Option.map_eq_some_iff] at h
        obtain ⟨ds', h1, rfl⟩ := h
        simp only [argsAt, ih _ _ h1]
        rfl
      | «at» i => cases h
      | tmp i => cases h
      | fn x => cases h
  unfold callK
  rw [ha 0 ps ds h]
  dsimp only
  rw [e]
  rfl
theorem callK_1 {Φ : Fenv} {f : Str} {a d : PyData} {ρ : Rho} (e : Φ f [.d a] = .ret d .none) : callK Φ f none [.dat a] ρ = .ok (.dat d) ρ := callK_d (ds := [a]) rfl e
theorem callK_2 {Φ : Fenv} {f : Str} {a b d : PyData} {ρ : Rho} (e : Φ f [.d a, .d b] = .ret d .none) : callK Φ f none [.dat a, .dat b] ρ = .ok (.dat d) ρ := callK_d (ds := [a, b]) rfl e
theorem callK_3 {Φ : Fenv} {f : Str} {a b c d : PyData} {ρ : Rho} (e : Φ f [.d a, .d b, .d c] = .ret d .none) : callK Φ f none [.dat a, .dat b, .dat c] ρ = .ok (.dat d) ρ := callK_d (ds := [a, b, c]) rfl e
theorem callK_4 {Φ : Fenv} {f : Str} {a b c g d : PyData} {ρ : Rho} (e : Φ f [.d a, .d b, .d c, .d g] = .ret d .none) : callK Φ f none [.dat a, .dat b, .dat c, .dat g] ρ = .ok (.dat d) ρ := callK_d (ds := [a, b, c, g]) rfl e
local macro_rules | `(tactic| simp_arith! [$ts,*]) => `(tactic| simp only [e_var, e_pk, e_cst, e_glb, e_fnv, e_tup, e_lst, e_op1, e_op2, e_chn, e_and, e_or, e_not, e_ite, e_slc, e_call, e_met, dens, deno, dsrc, x_set, x_setm, x_dnew, x_unp, x_par, x_app, x_ext, x_dput, x_ret, x_retn, x_rse, x_ite, x_loop, x_wh, x_brk, x_cnt, x_pas, x_exp, x_par3, x_parc, x_unpl, x_tryw, e_callt, x_nil, x_cons, R.bind, R.fl, Fl.seq, dataOf, resOf, res, rd, tst, truth, lift, lift2, sem1, sem2, alls, outOf, ioOut, putV, putsV, freeAt_eq, fs_un, fs_v, fs_m, fs_f, plainAt, ps_un, ps_v, ps_f, ps_m, mutL, mutD, chg, lcF', condF', List.getElem?_cons_zero, List.getElem?_cons_succ, List.set_cons_zero, List.set_cons_succ, if_true, if_false, Bool.false_eq_true, reduceCtorEq, Option.map_some, Option.map_none, noDict, isTy, isNoneD, Bool.and_true, Bool.true_and, Bool.not_true, Bool.not_false, lenD, listD, tupleD, idxD, isLst, $ts,*])
/-! ### words -/
def letter (c : Nat) : Bool := decide (97 ≤ c) && decide (c ≤ 122)
def isWord (s : Str) : Bool := decide (1 ≤ s.length) && decide (s.length ≤ 6) && s.cps.toList.all letter
theorem letters_in : ∀ k < 26, inData (.str ⟨#[97 + k]⟩) (.str "abcdefghijklmnopqrstuvwxyz") = some true := by decide +kernel
theorem letter_in {c : Nat} (h : letter c = true) : inData (.str ⟨#[c]⟩) (.str "abcdefghijklmnopqrstuvwxyz") = some true := by
  simp only [letter, Bool.and_eq_true, decide_eq_true_eq] at h
  have := letters_in (c - 97) (by omega)
  rw [show 97 + (c - 97) = c by omega] at this
  exact this
theorem isWord_len {s : Str} (h : isWord s = true) : 1 ≤ s.length ∧ s.length ≤ 6 ∧ s.length ≤ sizeLine := by
  simp only [isWord, Bool.and_eq_true, decide_eq_true_eq] at h
  exact ⟨h.1.1, h.1.2, Nat.le_trans h.1.2 (by rw [sizeLine_eq]; decide)⟩
/-! ### whole numbers compared -/
theorem gt_int (i j : Int) : gtD (.int i) (.int j) = some (decide (j < i)) := by
  unfold gtD
  rw [if_pos (by rfl), PySem.W.dataLt_int]
theorem lt_int (i j : Int) : ltD (.int i) (.int j) = some (decide (i < j)) := by
  unfold ltD
  rw [if_pos (by rfl), PySem.W.dataLt_int]
theorem eq_int (i j : Int) : eqD (.int i) (.int j) = some (decide (i = j)) := by
  unfold eqD
  rw [if_pos (by rfl)]
  by_cases e : i = j <;> simp [PyData.eqv, e]
theorem eq_str (a b : Str) : eqD (.str a) (.str b) = some (decide (a = b)) := by
  unfold eqD
  rw [if_pos (by rfl)]
  by_cases e : a = b <;> simp [PyData.eqv, e]
section
variable {Φ : Fenv}
theorem run_is_feature {s : Str} (h : isWord s = true) : runFn Φ c_is_feature [.d (.str s)] = .ret (.bool true) .none := by
  obtain ⟨h1, h2, hz⟩ := isWord_len h
  have h3 : s.cps.toList.all letter = true := by simp only [isWord, Bool.and_eq_true] at h; exact h.2
  rw [run1 [.v (.str s), .un] rfl rfl]
  have hlc := den_lc1 (Φ := Φ) (elt := .op2 .isin (.pk 1) (.glb "LETTERS" (.str "abcdefghijklmnopqrstuvwxyz"))) (i := 1) (src := .of (.var 0)) (cond := .no) (ρ := [.v (.str s), .un]) (xs := s.cps.toList.map fun c => .str ⟨#[c]⟩) (g := fun _ => some (.bool true)) (by simp_arith! [walkOf, hz]) rfl (fun x hx => by
    obtain ⟨c, hc, rfl⟩ := List.mem_map.mp hx
    have := letter_in (List.all_eq_true.mp h3 c hc)
    simp_arith! [this])
  have n1 : ¬ ((s.length : Int) < 1) := by omega
  have n2 : ¬ ((6 : Int) < s.length) := by omega
  have hb : bools (List.filterMap (fun x => some (PyData.bool true)) (List.map (fun c => PyData.str { cps := #[c] }) s.cps.toList)) = some (s.cps.toList.map fun _ => true) := by
    generalize s.cps.toList = l
    induction l with
    | nil => rfl
    | cons c r ih =>
      simp only [List.map_cons, List.filterMap_cons] at ih ⊢
      simp only [bools, ih, Option.map_some]
  simp_arith! [c_is_feature, hlc, hz, gt_int, n1, n2, decide_false, allD, hb]
  simp
end
end G6
-- ## SetStr
/-! # SetStr: sets of texts -/
namespace G6
open PySem PySem.Spec PyProof.Rows L2
def keyS (e : Int × Value) : Str := match e.2 with
  | .str k _ => k
  | _ => Str.empty
def GoodS (w : World) (e : Int × Value) : Prop := ∃ k tk, e.2 = Value.str k tk ∧ e.1 = hashStr w k
/-- the set at a holds the texts ks -/
def SetS (w : World) (h : Heap) (a : Addr) (ks : List Str) : Prop :=
  ∃ o es ep t, h.get? a = some o ∧ o.ExactSet ∧ o.data = .set es ep t ∧ (∀ e ∈ es.toList, GoodS w e) ∧ (es.toList.map keyS).Perm ks ∧ es.size < scanBound ∧ t.fits es.size = true ∧ Ris t.place.toList ∧ (w.params.followText "set-order" = true ∨ t.led = true)
def stepS (ks : List Str) (k : Str) : List Str := if k ∈ ks then ks else ks ++ [k]
section
variable {P : Program} {w : World} {h h' : Heap} {a : Addr} {ks : List Str}
theorem isS (k : Str) (u : Tok) : (PySem.strKind P w).is k (.str k u) = true := by
  show Value.isStrOf k (.str k u) = true
  simp [Value.isStrOf]
theorem SetS.at (R : SetS w h a ks) (k : ∀ o, h.get? a = some o → h'.get? a = some o) : SetS w h' a ks := by
  obtain ⟨o, es, ep, t, ho, r⟩ := R
  exact ⟨o, es, ep, t, k o ho, r⟩
theorem goodS_elems {l : List (Int × Value)} (g : ∀ e ∈ l, GoodS w e) : ElemsOf (strKind P w) l := fun e he => by
  obtain ⟨k, tk, h1, h2⟩ := g e he
  exact ⟨⟨k, by rw [h1]; exact isS k tk, h2⟩, by rw [h1] <;> rfl⟩
theorem goodS_is {e : Int × Value} (g : GoodS w e) (k : Str) : (strKind P w).is k e.2 = true ↔ keyS e = k := by
  obtain ⟨k0, tk, h1, _⟩ := g
  unfold keyS
  rw [h1]
  constructor
  · intro q
    obtain ⟨t, e⟩ := Value.isStrOf_shape (show Value.isStrOf k (.str k0 tk) = true from q)
    cases e
    rfl
  · intro q
    have q : k0 = k := q
    subst q
    exact isS k0 tk
theorem goodS_mem {l : List (Int × Value)} (g : ∀ e ∈ l, GoodS w e) (k : Str) : k ∈ l.map keyS ↔ ∃ e ∈ l, (strKind P w).is k e.2 = true := by
  rw [List.mem_map]
  constructor
  · rintro ⟨e, he, q⟩
    exact ⟨e, he, (goodS_is (g e he) k).2 q⟩
  · rintro ⟨e, he, q⟩
    exact ⟨e, he, (goodS_is (g e he) k).1 q⟩
end
section
variable {P : Program} {w : World} {A : Around} {E : Value → Shared → Prop} {s : Shared} {a : Addr} {ks : List Str}
theorem setS_tail {g : Bool → Sem Unit} (hg : ∀ (b : Bool) (s₁ : Shared) (Q' : Unit → Shared → Prop), Q' () s₁ → wpAny (model P w) A (g b) Q' E s₁)
    {o : Obj} {es : Array (Int × Value)} {ep : Nat} {t : SetTable} (ho : s.heap.get? a = some o) (hex : o.ExactSet) (hd : o.data = .set es ep t)
    {es1 : Array (Int × Value)} {t2 : SetTable} (g1 : ∀ e ∈ es1.toList, GoodS w e) (p1 : (es1.toList.map keyS).Perm ks)
    (hb1 : es1.size < scanBound) (hf2 : t2.fits es1.size = true) (hr : Ris t2.place.toList) (hl : w.params.followText "set-order" = true ∨ t2.led = true) {wasDummy : Bool} {R : Option Bool → Shared → Prop}
    (hR : ∀ h', Heap.SameBut a s.heap h' → SetS w h' a ks → R (some true) { s with heap := h' }) :
    wpAny (model P w) A (do
        storeSet a es1 t2
        if (!wasDummy && t2.tooFull) = true then do
            g (relayAll t2 es1 (SetTable.grown es1.size)).2.2
            storeSet a (relayAll t2 es1 (SetTable.grown es1.size)).1 (relayAll t2 es1 (SetTable.grown es1.size)).2.1
            pure (some true)
          else pure (some true)) R E s := by
  refine wpAny_bind (wpAny_storeSet_of ho hd ?_ (fits_of_scanBound hb1))
  have ho1 := store_at (es' := es1) (t' := t2) ho hd
  have sb1 := Heap.SameBut.update s.heap a (Obj.putSet es1 t2)
  split
  · have pm := relayAll_perm t2 es1 (SetTable.grown es1.size)
    have hf3 := relayAll_fits t2 es1 (SetTable.grown es1.size)
    have hr3 := relayAll_ris t2 es1 (SetTable.grown es1.size)
    have hl3 := relayAll_led t2 es1 (SetTable.grown es1.size)
    generalize relayAll t2 es1 (SetTable.grown es1.size) = Z at pm hf3 hr3 hl3 ⊢
    obtain ⟨es2, t3, gave⟩ := Z
    dsimp only at pm hf3 hr3 hl3 ⊢
    have hsz : es2.size = es1.size := by rw [← Array.length_toList, pm.length_eq, Array.length_toList]
    have hb2 : es2.size < scanBound := by rw [hsz]; exact hb1
    refine wpAny_bind (hg _ _ _ ?_)
    refine wpAny_bind (wpAny_storeSet_of ho1 rfl ?_ (fits_of_scanBound hb2))
    have ho2 := store_at (es' := es2) (t' := t3) ho1 rfl
    refine wpAny_pure (hR _ (sb1.trans (Heap.SameBut.update _ a _)) ?_)
    exact ⟨_, es2, _, t3, ho2, hex, rfl, fun e he => g1 e (pm.mem_iff.mp he), (pm.map keyS).trans p1, hb2, hf3, hr3, hl.imp id fun z => by rw [hl3]; exact z⟩
  · exact wpAny_pure (hR _ sb1 ⟨_, es1, _, t2, ho1, hex, rfl, g1, p1, hb1, hf2, hr, hl⟩)
theorem setS_add {k : Str} {tk : Tok} {Q : Bool → Shared → Prop} (R : SetS w s.heap a ks) (room : ks.length + 1 < scanBound)
    (hQ : ∀ b h', Heap.SameBut a s.heap h' → SetS w h' a (stepS ks k) → Q b { s with heap := h' }) :
    wpAny (model P w) A (setAddHashed a (.str k tk) ((strKind P w).hash k)) Q E s := by
  obtain ⟨o, es, ep, t, ho, hex, hd, g, pk, hb, hf, hr, hl⟩ := R
  have hkey : (strKind P w).is k (.str k tk) = true := isS k tk
  have hsc : (Value.str k tk).scannable = true := rfl
  have hel : ElemsOf (strKind P w) es.toList := goodS_elems g
  unfold setAddHashed setAddHashedIn
  refine wpAny_holding (wpAny_bind (wpAny_setState_of ho hd hf ?_))
  dsimp only
  rw [byScan_of hsc hb hel]
  simp only [↓reduceIte]
  unfold setAddByScan
  refine wpAny_bind ?_
  refine wpAny_bind (wpAny_rule ?_)
  refine wpAny_bind (wpAny_setScan_of hkey ho hd hf hel ?_)
  cases hfi : List.findIdx? (fun e => (strKind P w).is k e.2) es.toList with
  | some j =>
    dsimp only
    obtain ⟨hj, pj, _⟩ := List.findIdx?_eq_some_iff_getElem.mp hfi
    have hk : k ∈ ks := pk.mem_iff.mp ((goodS_mem (P := P) (w := w) g k).2 ⟨es.toList[j], List.getElem_mem hj, pj⟩)
    refine wpAny_pure (wpAny_pure ?_)
    refine hQ _ s.heap (Heap.SameBut.refl a s.heap) ⟨o, es, ep, t, ho, hex, hd, g, ?_, hb, hf, hr, hl⟩
    unfold stepS
    rw [if_pos hk]
    exact pk
  | none =>
    dsimp only
    have hnk : k ∉ ks := fun z => by
      obtain ⟨e, he, q⟩ := (goodS_mem (P := P) (w := w) g k).1 (pk.mem_iff.mpr z)
      have c := List.findIdx?_eq_none_iff.mp hfi e he
      rw [q] at c
      cases c
    have hgw : ∀ (b : Bool) {s₁ : Shared} {Q' : Unit → Shared → Prop}, Q' () s₁ → wpAny (model P w) A (match b with | true => rule "set.scan.the-table-gave-way" | false => pure ()) Q' E s₁ :=
      fun b s₁ Q' q => by cases b <;> first | exact wpAny_pure q | exact wpAny_rule q
    have pm := layNew_perm t es ((strKind P w).hash k) (.str k tk)
    have hf1 := layNew_fits t es ((strKind P w).hash k) (.str k tk)
    have hr1 := layNew_ris t es ((strKind P w).hash k) (.str k tk) hr
    have hl1 := layNew_led t es ((strKind P w).hash k) (.str k tk)
    generalize layNew t es ((strKind P w).hash k) (.str k tk) = Z at pm hf1 hr1 hl1 ⊢
    obtain ⟨es1, t1, wasDummy, gave⟩ := Z
    dsimp only at pm hf1 hr1 hl1 ⊢
    rw [Array.toList_push] at pm
    have pc : es1.toList.Perm (((strKind P w).hash k, Value.str k tk) :: es.toList) := pm.trans (List.perm_append_singleton _ _)
    have p1 : (es1.toList.map keyS).Perm (stepS ks k) := by
      unfold stepS
      rw [if_neg hnk]
      have q := pm.map keyS
      rw [List.map_append] at q
      exact q.trans (pk.append_right _)
    have g1 : ∀ e ∈ es1.toList, GoodS w e := fun e he => by
      rcases List.mem_cons.mp (pc.mem_iff.mp he) with z | z
      · rw [z]; exact ⟨k, tk, rfl, rfl⟩
      · exact g e z
    have hn : es.size = ks.length := by rw [← Array.length_toList, ← List.length_map (f := keyS), pk.length_eq]
    have hsz : es1.size = ks.length + 1 := by rw [← Array.length_toList, pc.length_eq, List.length_cons, Array.length_toList, hn]
    have hb1 : es1.size < scanBound := by rw [hsz]; exact room
    have hled : w.params.followText "set-order" = true ∨ t1.led = true := hl.imp id fun z => by rw [hl1]; exact z
    refine wpAny_bind (hgw _ ?_)
    split
    · refine wpAny_bind ?_
      rw [hashByValue_scannable 8 hsc]
      refine wpAny_pure ?_
      refine setS_tail ?_ ho hex hd g1 p1 hb1 ?_ ?_ ?_ ?_
      · intro b s₁ Q' q; cases b <;> first | exact wpAny_pure q | exact wpAny_rule q
      · first | (split <;> first | exact hf1 | exact SetTable.fits_plain_off hf1) | exact hf1
      · first | (split <;> exact hr1) | exact hr1
      · first | (split <;> exact hled) | exact hled
      · intro h' sb r; dsimp only; exact wpAny_pure (hQ _ h' sb r)
    · refine wpAny_bind (wpAny_pure ?_)
      simp only [↓reduceIte]
      refine setS_tail ?_ ho hex hd g1 p1 hb1 hf1 hr1 hled ?_
      · intro b s₁ Q' q; cases b <;> first | exact wpAny_pure q | exact wpAny_rule q
      · intro h' sb r; dsimp only; exact wpAny_pure (hQ _ h' sb r)
theorem setS_new {h : Heap} (ho : h.get? a = some { cls := .type "set", dict := none, data := .set #[] 0 (.fresh 0 0 (!w.params.followText "set-order")) }) : SetS w h a [] :=
  ⟨_, #[], 0, _, ho, ⟨rfl, rfl, rfl⟩, rfl, (fun e he => by simp at he), (by simp), (by decide), (by rfl), List.Pairwise.nil, by
    show _ ∨ (!w.params.followText "set-order") = true
    cases w.params.followText "set-order"
    · exact .inr rfl
    · exact .inl rfl⟩
theorem stepS_len (ks : List Str) (k : Str) : (stepS ks k).length ≤ ks.length + 1 := by
  unfold stepS
  split <;> simp
theorem foldS_len : ∀ (ss ks : List Str), (ss.foldl stepS ks).length ≤ ks.length + ss.length
  | [], ks => by simp
  | k :: r, ks => by
    have h1 := foldS_len r (stepS ks k)
    have h2 := stepS_len ks k
    simp only [List.foldl_cons, List.length_cons]
    omega
theorem set_update_strs {I : Addr} {fp wr : List Addr} {G : Array GenState → Array GenState → Prop} {n : Nat} {Pv : Nat → Value → Prop} {St : Nat → Shared → Prop} {R : Result → Shared → Prop}
    (W : WalksS P w A.in1 I fp wr G n Pv St) (S : Addr) (hSf : S ∉ fp) (ns : List Str) (hn : n = ns.length) (hb : ns.length + 1 < scanBound) (hval : ∀ i v, Pv i v → ∃ k t, ns[i]? = some k ∧ v = .str k t) :
    ∀ (k i : Nat) (s : Shared), n - i = k → i ≤ n → St i s → SetS w s.heap S ((ns.take i).foldl stepS []) →
      (∀ s', Moved (S :: wr) G s s' → SetS w s'.heap S (ns.foldl stepS []) → R (.ok (.ret .none)) s') →
      codeAny (model P w) A (.builtin "set.update.loop" ⟨[.ref S, .ref I], []⟩) R s := by
  have hSw : S ∉ wr := fun h => hSf (W.sub _ h)
  have hsub : ∀ b ∈ wr, b ∈ S :: wr := fun b hb => List.mem_cons_of_mem _ hb
  intro k
  induction k with
  | zero =>
    intro i s hk' hi hst hS hR
    have hin : i = n := by omega
    subst hin
    refine codeAny_builtin F.entry_set_update_loop ?_
    rw [Around.under_plainId F.plain_set_update_loop _]
    show wpAny _ A.in1 (pyNext (.ref I) >>= _) _ _ s
    refine wpAny_bind (W.done s _ _ hst fun s' hm => ?_)
    show wpAny _ A.in1 (ret Value.none) _ _ s'
    have e : ns.take i = ns := List.take_of_length_le (by omega)
    rw [e] at hS
    exact wpAny_pure (hR s' (hm.mono hsub) (hS.at fun o e => hm.heap S o hSw e))
  | succ k ih =>
    intro i s hk' hi hst hS hR
    have hlt : i < n := by omega
    refine codeAny_builtin F.entry_set_update_loop ?_
    rw [Around.under_plainId F.plain_set_update_loop _]
    show wpAny _ A.in1 (pyNext (.ref I) >>= _) _ _ s
    refine wpAny_bind (W.item i s _ _ hlt hst fun v s' hP hst' hm => ?_)
    obtain ⟨z, t, hz, rfl⟩ := hval i v hP
    have hS' : SetS w s'.heap S ((ns.take i).foldl stepS []) := hS.at fun o e => hm.heap S o hSw e
    have hlen := foldS_len (ns.take i) []
    have htl : (ns.take i).length ≤ i := by simp; omega
    show wpAny _ A.in1 (holding [Value.str z t] (setAdd S (.str z t)) >>= _) _ _ s'
    refine wpAny_bind (wpAny_holding ?_)
    unfold setAdd
    refine wpAny_holding ?_
    refine wpAny_bind ((strKind P w).pyHash (k := z) (isS _ _) ?_)
    refine setS_add (s := { s' with toks := s'.toks + 1 }) hS' (by simp only [List.length_nil] at hlen; omega) fun _ h' hsb hS2 => ?_
    have hS3 : SetS w h' S ((ns.take (i + 1)).foldl stepS []) := by
      rw [List.take_add_one, hz, Option.toList_some, List.foldl_append]
      exact hS2
    refine wpAny_pure ⟨plainId_quiet F.plain_set_update_loop _, ih (i + 1) _ (by omega) hlt (W.frame _ s' _ _ hst' (Nat.le_succ _) fun b hb o e => ?_) hS3 fun s'' hm'' hS'' => ?_⟩
    · rw [hsb.2 b (fun h : b = S => hSf (by rw [← h]; exact hb))]; exact e
    · refine hR s'' (Moved.trans W.gtrans ((hm.mono hsub).then_heap (Nat.le_succ _) fun b o hb e => ?_) hm'') hS''
      rw [hsb.2 b (fun h : b = S => hb (by rw [h]; exact List.mem_cons_self))]; exact e
set_option maxRecDepth 100000 in
set_option maxHeartbeats 3200000 in
theorem call_setS_list {l : Addr} {items : Array Value} (ns : List Str) {Q : Value → Shared → Prop} (hh : A.handled = none) (hl : s.heap.IsList l items) (hit : StrsAre items.toList ns) (hb : ns.length + 1 < scanBound)
    (h : ∀ (h' : Heap) (tk : Nat), SetS w h' s.heap.objs.size (ns.foldl stepS []) → (∀ b o, s.heap.get? b = some o → h'.get? b = some o) → Q (.ref s.heap.objs.size) { s with heap := h', toks := tk }) :
    wpAny (model P w) A (call (.type "set") [.ref l]) Q E s := by
  have hisz : items.size = ns.length := by
    have q := PyProof.Rows.StrsAre.len_eq hit
    rw [Array.length_toList] at q
    exact q
  obtain ⟨c, tl, hmro⟩ := F.called_set.mro
  have hmade := F.called_set.made
  have hsub := F.called_set.sub
  refine wpAny_call (codeAny_of_tree ?_)
  show wpAny _ _ (callAny (.type "set") _) _ _ _
  refine wpAny_pure ⟨Code.quiet_builtin _ (by decide +kernel), codeAny_builtin F.entry_type_call ?_⟩
  rw [Around.under_plain (weight_type_call_type "set" [.ref l] []) rfl]
  have h1 := F.called_set.notType
  have h2 := F.called_set.canCreate
  have hct := F.typeCall_set_1 (.ref l)
  repeat (any_goals (first | assumption | wp_step))
  refine codeAny_mono (code_set_led1 (.ref l) (E := E) (Q₁ := fun obj s₁ => obj = .ref s.heap.objs.size ∧ s₁ = { s with heap := s.heap.push { cls := .type "set", dict := none, data := .set #[] 0 (.fresh 0 0 (!w.params.followText "set-order")) } }) ⟨rfl, rfl⟩) fun r s₁ hr => ?_
  cases r with
  | error e => exact hr
  | ok fl =>
    cases fl with
    | ret obj =>
      obtain ⟨rfl, rfl⟩ := hr
      have hS : (s.heap.push { cls := .type "set", dict := none, data := .set #[] 0 (.fresh 0 0 (!w.params.followText "set-order")) }).get? s.heap.objs.size = some { cls := .type "set", dict := none, data := .set #[] 0 (.fresh 0 0 (!w.params.followText "set-order")) } := Heap.get?_push_size _ rfl
      have hT : Shared.TypeIs { s with heap := s.heap.push { cls := .type "set", dict := none, data := .set #[] 0 (.fresh 0 0 (!w.params.followText "set-order")) } } (.ref s.heap.objs.size) "set" := ⟨_, hS, rfl⟩
      have hli := F.called_set.init.lookup
      have hbi := F.called_set.init.bind (.ref s.heap.objs.size)
      repeat (any_goals (first | assumption | wp_step))
      refine codeAny_mono (codeAny_call_builtin (R := wants (fun r s₂ => r = .none ∧ ∃ h' tk, s₂ = { s with heap := h', toks := tk } ∧ SetS w h' s.heap.objs.size (ns.foldl stepS []) ∧
          (∀ b o, s.heap.get? b = some o → h'.get? b = some o)) E) F.called_set.init.plain F.entry_set_init (check_set_init_1 hT ?_)) fun r₂ s₂ hr₂ => ?_
      · obtain ⟨ol, hol, hcl, nl, hdl⟩ := hl
        obtain ⟨ocls, odict, odata, oslots⟩ := ol
        simp only at hcl hdl
        subst hcl; subst hdl
        have hol' : (s.heap.push { cls := .type "set", dict := none, data := .set #[] 0 (.fresh 0 0 (!w.params.followText "set-order")) }).get? l = some { cls := .type "list", dict := odict, data := .seq items nl, slots := oslots } := Heap.get?_push_of_some _ hol
        have hsls := PySem.F.sub_list_set
        have hslf := PySem.F.sub_list_frozenset
        have hne : (Value.type "list" == Value.type "dict") = false := by decide
        have hl1 : (s.heap.push { cls := .type "set", dict := none, data := .set #[] 0 (.fresh 0 0 (!w.params.followText "set-order")) }).IsList l items := ⟨_, hol', rfl, nl, rfl⟩
        unfold Builtin.«set.__init__» noKeywords Builtin.Frozenset.updateFrom
        generalize hPI : pyIter = PI
        wp_walk
        subst hPI
        refine wpAny_pyIter_list hl1 ?_
        refine wpAny_bind (wpAny_runValue ?_)
        have hlS : l < s.heap.objs.size := Heap.lt_size hol
        have hh3 : A.in1.in1.in1.handled = none := by simp [hh]
        have hneI : l ≠ (s.heap.push { cls := .type "set", dict := none, data := .set #[] 0 (.fresh 0 0 (!w.params.followText "set-order")) }).objs.size := by
          rw [Heap.size_push]; exact Nat.ne_of_lt (Nat.lt_succ_of_lt hlS)
        have hSf : s.heap.objs.size ∉ [(s.heap.push { cls := .type "set", dict := none, data := .set #[] 0 (.fresh 0 0 (!w.params.followText "set-order")) }).objs.size, l] := by
          rw [Heap.size_push]; simp only [List.mem_cons, List.mem_singleton, List.not_mem_nil, or_false, not_or]
          exact ⟨Nat.ne_of_lt (Nat.lt_succ_self _), Nat.ne_of_gt hlS⟩
        have hval : ∀ (i : Nat) (v : Value), items[i]? = some v → ∃ k t, ns[i]? = some k ∧ v = .str k t := fun i v hv => by
          have hi : i < ns.length := by rw [← hisz]; exact (Array.getElem?_eq_some_iff.mp hv).1
          obtain ⟨t, e⟩ := SS.strs_at hit i v (by rw [Array.getElem?_toList]; exact hv)
          refine ⟨ns[i], t, List.getElem?_eq_getElem hi, ?_⟩
          rw [e, List.getD_eq_getElem?_getD, List.getElem?_eq_getElem hi] <;> rfl
        refine set_update_strs ((Walks.list hh3 _ l hneI items).toS) s.heap.objs.size
          hSf ns hisz hb hval (items.size - 0) 0 _ (by omega) (Nat.zero_le _)
          ⟨⟨_, Heap.get?_push_size _ rfl, rfl, rfl⟩, (hl1.push _)⟩ ?hS0 ?hR
        case hS0 =>
          have hget : ((s.heap.push { cls := .type "set", dict := none, data := .set #[] 0 (.fresh 0 0 (!w.params.followText "set-order")) }).push { cls := .type "list_iterator", data := .fields #[.ref l, .int 0 0] }).get? s.heap.objs.size = some { cls := .type "set", dict := none, data := .set #[] 0 (.fresh 0 0 (!w.params.followText "set-order")) } := Heap.get?_push_of_some _ hS
          exact setS_new hget
        case hR =>
          intro s' hm hS'
          obtain ⟨h', g2, d', tk', os'⟩ := s'
          have eg : g2 = s.gens := hm.gens
          have ed : d' = s.drawn := hm.drawn
          have eo : os' = s.os := hm.os
          subst eg; subst ed; subst eo
          show wpAny _ _ _ _ _ _
          refine wpAny_pure ?_
          show wpAny _ _ (ret Value.none) _ _ _
          refine wpAny_pure ⟨rfl, h', tk', rfl, hS', fun b o e => ?_⟩
          have hb0 : b < s.heap.objs.size := Heap.lt_size e
          have hb1 : b ≠ s.heap.objs.size := Nat.ne_of_lt hb0
          have hb2 : b ≠ (s.heap.push { cls := .type "set", dict := none, data := .set #[] 0 (.fresh 0 0 (!w.params.followText "set-order")) }).objs.size := by
            rw [Heap.size_push]; exact Nat.ne_of_lt (Nat.lt_succ_of_lt hb0)
          exact hm.heap b o (by simp only [List.mem_cons, List.mem_singleton, List.not_mem_nil, or_false, not_or]; exact ⟨hb1, hb2⟩) (Heap.get?_push_of_some _ (Heap.get?_push_of_some _ e))
      · cases r₂ with
        | error e => exact hr₂
        | ok fl₂ =>
          cases fl₂ with
          | ret r =>
            obtain ⟨rfl, h', tk, rfl, hS', hk'⟩ := hr₂
            repeat (any_goals (first | assumption | wp_step))
            exact h _ _ hS' hk'
          | _ => exact hr₂.elim
    | _ => exact hr.elim
set_option maxRecDepth 100000 in
set_option maxHeartbeats 3200000 in
theorem call_setS_tuple {l : Addr} {items : Array Value} (ns : List Str) {Q : Value → Shared → Prop} (hh : A.handled = none) (hl : s.heap.IsTuple l items) (hit : StrsAre items.toList ns) (hb : ns.length + 1 < scanBound)
    (h : ∀ (h' : Heap) (tk : Nat), SetS w h' s.heap.objs.size (ns.foldl stepS []) → (∀ b o, s.heap.get? b = some o → h'.get? b = some o) → Q (.ref s.heap.objs.size) { s with heap := h', toks := tk }) :
    wpAny (model P w) A (call (.type "set") [.ref l]) Q E s := by
  have hisz : items.size = ns.length := by
    have q := PyProof.Rows.StrsAre.len_eq hit
    rw [Array.length_toList] at q
    exact q
  obtain ⟨c, tl, hmro⟩ := F.called_set.mro
  have hmade := F.called_set.made
  have hsub := F.called_set.sub
  refine wpAny_call (codeAny_of_tree ?_)
  show wpAny _ _ (callAny (.type "set") _) _ _ _
  refine wpAny_pure ⟨Code.quiet_builtin _ (by decide +kernel), codeAny_builtin F.entry_type_call ?_⟩
  rw [Around.under_plain (weight_type_call_type "set" [.ref l] []) rfl]
  have h1 := F.called_set.notType
  have h2 := F.called_set.canCreate
  have hct := F.typeCall_set_1 (.ref l)
  repeat (any_goals (first | assumption | wp_step))
  refine codeAny_mono (code_set_led1 (.ref l) (E := E) (Q₁ := fun obj s₁ => obj = .ref s.heap.objs.size ∧ s₁ = { s with heap := s.heap.push { cls := .type "set", dict := none, data := .set #[] 0 (.fresh 0 0 (!w.params.followText "set-order")) } }) ⟨rfl, rfl⟩) fun r s₁ hr => ?_
  cases r with
  | error e => exact hr
  | ok fl =>
    cases fl with
    | ret obj =>
      obtain ⟨rfl, rfl⟩ := hr
      have hS : (s.heap.push { cls := .type "set", dict := none, data := .set #[] 0 (.fresh 0 0 (!w.params.followText "set-order")) }).get? s.heap.objs.size = some { cls := .type "set", dict := none, data := .set #[] 0 (.fresh 0 0 (!w.params.followText "set-order")) } := Heap.get?_push_size _ rfl
      have hT : Shared.TypeIs { s with heap := s.heap.push { cls := .type "set", dict := none, data := .set #[] 0 (.fresh 0 0 (!w.params.followText "set-order")) } } (.ref s.heap.objs.size) "set" := ⟨_, hS, rfl⟩
      have hli := F.called_set.init.lookup
      have hbi := F.called_set.init.bind (.ref s.heap.objs.size)
      repeat (any_goals (first | assumption | wp_step))
      refine codeAny_mono (codeAny_call_builtin (R := wants (fun r s₂ => r = .none ∧ ∃ h' tk, s₂ = { s with heap := h', toks := tk } ∧ SetS w h' s.heap.objs.size (ns.foldl stepS []) ∧
          (∀ b o, s.heap.get? b = some o → h'.get? b = some o)) E) F.called_set.init.plain F.entry_set_init (check_set_init_1 hT ?_)) fun r₂ s₂ hr₂ => ?_
      · obtain ⟨ol, hol, hcl, nl, hdl⟩ := hl
        obtain ⟨ocls, odict, odata, oslots⟩ := ol
        simp only at hcl hdl
        subst hcl; subst hdl
        have hol' : (s.heap.push { cls := .type "set", dict := none, data := .set #[] 0 (.fresh 0 0 (!w.params.followText "set-order")) }).get? l = some { cls := .type "tuple", dict := odict, data := .seq items nl, slots := oslots } := Heap.get?_push_of_some _ hol
        have hsls := PySem.F.sub_tuple_set
        have hslf := PySem.F.sub_tuple_frozenset
        have hne : (Value.type "tuple" == Value.type "dict") = false := by decide
        have hl1 : (s.heap.push { cls := .type "set", dict := none, data := .set #[] 0 (.fresh 0 0 (!w.params.followText "set-order")) }).IsTuple l items := ⟨_, hol', rfl, nl, rfl⟩
        unfold Builtin.«set.__init__» noKeywords Builtin.Frozenset.updateFrom
        generalize hPI : pyIter = PI
        wp_walk
        subst hPI
        refine wpAny_pyIter_tuple hl1 ?_
        refine wpAny_bind (wpAny_runValue ?_)
        have hlS : l < s.heap.objs.size := Heap.lt_size hol
        have hh3 : A.in1.in1.in1.handled = none := by simp [hh]
        have hneI : l ≠ (s.heap.push { cls := .type "set", dict := none, data := .set #[] 0 (.fresh 0 0 (!w.params.followText "set-order")) }).objs.size := by
          rw [Heap.size_push]; exact Nat.ne_of_lt (Nat.lt_succ_of_lt hlS)
        have hSf : s.heap.objs.size ∉ [(s.heap.push { cls := .type "set", dict := none, data := .set #[] 0 (.fresh 0 0 (!w.params.followText "set-order")) }).objs.size, l] := by
          rw [Heap.size_push]; simp only [List.mem_cons, List.mem_singleton, List.not_mem_nil, or_false, not_or]
          exact ⟨Nat.ne_of_lt (Nat.lt_succ_self _), Nat.ne_of_gt hlS⟩
        have hval : ∀ (i : Nat) (v : Value), items[i]? = some v → ∃ k t, ns[i]? = some k ∧ v = .str k t := fun i v hv => by
          have hi : i < ns.length := by rw [← hisz]; exact (Array.getElem?_eq_some_iff.mp hv).1
          obtain ⟨t, e⟩ := SS.strs_at hit i v (by rw [Array.getElem?_toList]; exact hv)
          refine ⟨ns[i], t, List.getElem?_eq_getElem hi, ?_⟩
          rw [e, List.getD_eq_getElem?_getD, List.getElem?_eq_getElem hi] <;> rfl
        refine set_update_strs ((Walks.tuple hh3 _ l hneI items).toS) s.heap.objs.size
          hSf ns hisz hb hval (items.size - 0) 0 _ (by omega) (Nat.zero_le _)
          ⟨⟨_, Heap.get?_push_size _ rfl, rfl, rfl⟩, (hl1.push _)⟩ ?hS0 ?hR
        case hS0 =>
          have hget : ((s.heap.push { cls := .type "set", dict := none, data := .set #[] 0 (.fresh 0 0 (!w.params.followText "set-order")) }).push { cls := .type "tuple_iterator", data := .fields #[.ref l, .int 0 0] }).get? s.heap.objs.size = some { cls := .type "set", dict := none, data := .set #[] 0 (.fresh 0 0 (!w.params.followText "set-order")) } := Heap.get?_push_of_some _ hS
          exact setS_new hget
        case hR =>
          intro s' hm hS'
          obtain ⟨h', g2, d', tk', os'⟩ := s'
          have eg : g2 = s.gens := hm.gens
          have ed : d' = s.drawn := hm.drawn
          have eo : os' = s.os := hm.os
          subst eg; subst ed; subst eo
          show wpAny _ _ _ _ _ _
          refine wpAny_pure ?_
          show wpAny _ _ (ret Value.none) _ _ _
          refine wpAny_pure ⟨rfl, h', tk', rfl, hS', fun b o e => ?_⟩
          have hb0 : b < s.heap.objs.size := Heap.lt_size e
          have hb1 : b ≠ s.heap.objs.size := Nat.ne_of_lt hb0
          have hb2 : b ≠ (s.heap.push { cls := .type "set", dict := none, data := .set #[] 0 (.fresh 0 0 (!w.params.followText "set-order")) }).objs.size := by
            rw [Heap.size_push]; exact Nat.ne_of_lt (Nat.lt_succ_of_lt hb0)
          exact hm.heap b o (by simp only [List.mem_cons, List.mem_singleton, List.not_mem_nil, or_false, not_or]; exact ⟨hb1, hb2⟩) (Heap.get?_push_of_some _ (Heap.get?_push_of_some _ e))
      · cases r₂ with
        | error e => exact hr₂
        | ok fl₂ =>
          cases fl₂ with
          | ret r =>
            obtain ⟨rfl, h', tk, rfl, hS', hk'⟩ := hr₂
            repeat (any_goals (first | assumption | wp_step))
            exact h _ _ hS' hk'
          | _ => exact hr₂.elim
    | _ => exact hr.elim
end
end G6
-- ## Rel
/-! # Rel: the machine's heap bears the plain data -/
namespace G6
open PySem PySem.Spec PyProof.Rows L2

abbrev ASet := Addr → Prop
abbrev St := L2.St
open Classical in
noncomputable def Hid (H : Hp) (S : ASet) : Hp := fun a => if S a then none else H a
theorem Hid_iff {H : Hp} {S : ASet} {a : Addr} {o : HO} : Hid H S a = some o ↔ H a = some o ∧ ¬ S a := by
  unfold Hid
  split <;> simp_all
def Sub (H H' : Hp) : Prop := ∀ a o, H a = some o → H' a = some o
theorem Sub.refl (H : Hp) : Sub H H := fun _ _ h => h
theorem Sub.trans {H H1 H2 : Hp} (a : Sub H H1) (b : Sub H1 H2) : Sub H H2 := fun x o h => b x o (a x o h)
theorem Sub.new {H : Hp} {p : Addr} {o : HO} (h : H p = none) : Sub H (upd H p o) := fun a u e => by
  rw [upd_ne (ne_of_none e h)]; exact e
theorem Sub.hid {H : Hp} (S : ASet) : Sub (Hid H S) H := fun a o h => (Hid_iff.mp h).1
theorem Sub.hids {H H' : Hp} {S : ASet} (h : Sub H H') : Sub (Hid H S) (Hid H' S) := fun a o e => by
  rw [Hid_iff] at *; exact ⟨h a o e.1, e.2⟩
theorem Sub.less {H : Hp} {S S' : ASet} (h : ∀ a, S' a → S a) : Sub (Hid H S) (Hid H S') := fun a o e => by
  rw [Hid_iff] at *; exact ⟨e.1, fun z => e.2 (h a z)⟩

/-! ### data in a heap: tuples are tracked ones -/
/-- a tuple's object; of a table it is known that it has no dict -/
def TupAt (H : Hp) (a : Addr) (xs : List V) (ds : List PyData) : Prop := (rowsB ds = false ∧ H a = some (.tup xs)) ∨ (rowsB ds = true ∧ ∃ o : Obj, o.dict = none ∧ H a = some (.frz o (.tup xs)))
theorem TupAt.sqT {K : PySem.W.Frag} {H : Hp} {a : Addr} {xs : List V} {ds : List PyData} (h : TupAt H a xs ds) : SqT K H a xs := by
  rcases h with ⟨_, h⟩ | ⟨_, o, _, h⟩
  · exact SqT.of h
  · exact .inl (.inr ⟨o, h⟩)
theorem TupAt.sub {H H' : Hp} {a : Addr} {xs : List V} {ds : List PyData} (s : Sub H H') (h : TupAt H a xs ds) : TupAt H' a xs ds := by
  rcases h with ⟨e, h⟩ | ⟨e, o, d, h⟩
  · exact .inl ⟨e, s _ _ h⟩
  · exact .inr ⟨e, o, d, s _ _ h⟩
theorem TupAt.plain {H : Hp} {a : Addr} {xs : List V} {ds : List PyData} (h : TupAt H a xs ds) (e : rowsB ds = false) : H a = some (.tup xs) := by
  rcases h with ⟨_, h⟩ | ⟨e', _⟩
  · exact h
  · rw [e] at e'; cases e'
theorem rowsB_rep {ds : List PyData} {n : Nat} (hn : 1 ≤ n) (h : rowsB ds = false) : rowsB (List.replicate n ds).flatten = false := by
  unfold rowsB at h ⊢
  cases ds with
  | nil =>
    have : (List.replicate n ([] : List PyData)).flatten = [] := by
      rw [List.flatten_eq_nil_iff]
      intro l hl
      exact List.eq_of_mem_replicate hl
    rw [this]
    rfl
  | cons d r =>
    simp only [List.isEmpty_cons, Bool.not_false, Bool.true_and] at h
    have : (List.replicate n (d :: r)).flatten.all rowB = false := by
      obtain ⟨m, rfl⟩ : ∃ m, n = m + 1 := ⟨n - 1, by omega⟩
      rw [List.replicate_succ, List.flatten_cons, List.all_append, h]
      rfl
    rw [this, Bool.and_false]
theorem rowsB_ints : ∀ ns : List Int, rowsB (ns.map .int) = false
  | [] => rfl
  | n :: r => rfl
theorem rowsB_intsD (lo : Int) (n : Nat) : rowsB (intsD lo n) = false := by
  unfold intsD
  cases List.range n <;> rfl
mutual
inductive Dp (K : PySem.W.Frag) (H : Hp) : V → PyData → Prop
  | non : Dp K H .non .none
  | bl (b : Bool) : Dp K H (.bl b) (.bool b)
  | int (i : Int) : Dp K H (.int i) (.int i)
  | str (x : Str) : Dp K H (.str x) (.str x)
  | lst {a : Addr} {xs : List V} {ds : List PyData} : SqL K H a xs → DpAll K H xs ds → Dp K H (.ref a) (.list ds)
  | tup {a : Addr} {xs : List V} {ds : List PyData} : TupAt H a xs ds → DpAll K H xs ds → Dp K H (.ref a) (.tuple ds)
inductive DpAll (K : PySem.W.Frag) (H : Hp) : List V → List PyData → Prop
  | nil : DpAll K H [] []
  | cons {v : V} {vs : List V} {d : PyData} {ds : List PyData} : Dp K H v d → DpAll K H vs ds → DpAll K H (v :: vs) (d :: ds)
end
mutual
theorem Dp.to {K : PySem.W.Frag} {H : Hp} : ∀ {v : V} (d : PyData), Dp K H v d → L2.Dp K H v d
  | _, .none, h => by cases h; exact .non
  | _, .bool b, h => by cases h; exact .bl b
  | _, .int i, h => by cases h; exact .int i
  | _, .str x, h => by cases h; exact .str x
  | _, .list ds, h => by cases h with | lst h1 h2 => exact .lst h1 (DpAll.to ds h2)
  | _, .tuple ds, h => by cases h with | tup h1 h2 => exact .tup h1.sqT (DpAll.to ds h2)
  | _, .dict _, h => by cases h
theorem DpAll.to {K : PySem.W.Frag} {H : Hp} : ∀ {vs : List V} (ds : List PyData), DpAll K H vs ds → L2.DpAll K H vs ds
  | _, [], h => by cases h; exact .nil
  | _, d :: ds, h => by cases h with | cons h1 h2 => exact .cons (Dp.to d h1) (DpAll.to ds h2)
end

section
variable {K : PySem.W.Frag} {H H' : Hp}
theorem Rd.sub {a : Addr} {u : HO} (s : Sub H H') (h : Rd H a u) : Rd H' a u := by
  rcases h with h | ⟨o, h⟩
  · exact .inl (s _ _ h)
  · exact .inr ⟨o, s _ _ h⟩
theorem SqL_sub {a : Addr} {xs : List V} (s : Sub H H') (h : SqL K H a xs) : SqL K H' a xs := by
  rcases h with h | h
  · exact .inl (Rd.sub s h)
  · exact .inr h
theorem SqT_sub {a : Addr} {xs : List V} (s : Sub H H') (h : SqT K H a xs) : SqT K H' a xs := by
  rcases h with h | h
  · exact .inl (Rd.sub s h)
  · exact .inr h
mutual
theorem Dp_sub (s : Sub H H') : ∀ {v : V} (d : PyData), Dp K H v d → Dp K H' v d
  | _, .none, h => by cases h; exact .non
  | _, .bool b, h => by cases h; exact .bl b
  | _, .int i, h => by cases h; exact .int i
  | _, .str x, h => by cases h; exact .str x
  | _, .list ds, h => by cases h with | lst h1 h2 => exact .lst (SqL_sub s h1) (DpAll_sub s ds h2)
  | _, .tuple ds, h => by cases h with | tup h1 h2 => exact .tup (h1.sub s) (DpAll_sub s ds h2)
  | _, .dict _, h => by cases h
theorem DpAll_sub (s : Sub H H') : ∀ {vs : List V} (ds : List PyData), DpAll K H vs ds → DpAll K H' vs ds
  | _, [], h => by cases h; exact .nil
  | _, d :: ds, h => by cases h with | cons h1 h2 => exact .cons (Dp_sub s d h1) (DpAll_sub s ds h2)
end
theorem DpAll_length : ∀ {vs : List V} {ds : List PyData}, DpAll K H vs ds → vs.length = ds.length
  | _, _, .nil => rfl
  | _, _, .cons _ h => by simp [DpAll_length h]
theorem DpAll_append : ∀ {vs ws : List V} {ds es : List PyData}, DpAll K H vs ds → DpAll K H ws es → DpAll K H (vs ++ ws) (ds ++ es)
  | _, _, _, _, .nil, h => h
  | _, _, _, _, .cons a b, h => .cons a (DpAll_append b h)
theorem DpAll_get : ∀ {vs : List V} {ds : List PyData} {i : Nat} {d : PyData}, DpAll K H vs ds → ds[i]? = some d → ∃ v, vs[i]? = some v ∧ Dp K H v d
  | _, _, _, _, .nil, e => by simp at e
  | _, _, 0, _, .cons a _, e => by simp at e; subst e; exact ⟨_, rfl, a⟩
  | _, _, i + 1, d, .cons _ b, e => by
    obtain ⟨v, h1, h2⟩ := DpAll_get (i := i) (d := d) b (by simpa using e)
    exact ⟨v, by simpa using h1, h2⟩
theorem DpAll_get' : ∀ {vs : List V} {ds : List PyData} {i : Nat} {v : V}, DpAll K H vs ds → vs[i]? = some v → ∃ d, ds[i]? = some d ∧ Dp K H v d
  | _, _, _, _, .nil, e => by simp at e
  | _, _, 0, _, .cons a _, e => by simp at e; subst e; exact ⟨_, rfl, a⟩
  | _, _, i + 1, d, .cons _ b, e => by
    obtain ⟨v, h1, h2⟩ := DpAll_get' (i := i) (v := d) b (by simpa using e)
    exact ⟨v, by simpa using h1, h2⟩
theorem DpAll_drop : ∀ (n : Nat) {vs : List V} {ds : List PyData}, DpAll K H vs ds → DpAll K H (vs.drop n) (ds.drop n)
  | 0, _, _, h => h
  | _ + 1, _, _, .nil => .nil
  | n + 1, _, _, .cons _ h => DpAll_drop n h
theorem DpAll_take : ∀ (n : Nat) {vs : List V} {ds : List PyData}, DpAll K H vs ds → DpAll K H (vs.take n) (ds.take n)
  | 0, _, _, _ => .nil
  | _ + 1, _, _, .nil => .nil
  | n + 1, _, _, .cons a h => .cons a (DpAll_take n h)
theorem DpAll_rev : ∀ {vs : List V} {ds : List PyData}, DpAll K H vs ds → DpAll K H vs.reverse ds.reverse
  | _, _, .nil => .nil
  | _, _, .cons a h => by simp only [List.reverse_cons]; exact DpAll_append (DpAll_rev h) (.cons a .nil)
mutual
theorem Dp_plain : ∀ {v : V} (d : PyData), Dp K H v d → d.plain = true
  | _, .none, h => rfl
  | _, .bool b, h => rfl
  | _, .int i, h => rfl
  | _, .str x, h => rfl
  | _, .list ds, h => by cases h with | lst h1 h2 => simp only [PyData.plain]; exact DpAll_plain ds h2
  | _, .tuple ds, h => by cases h with | tup h1 h2 => simp only [PyData.plain]; exact DpAll_plain ds h2
  | _, .dict _, h => by cases h
theorem DpAll_plain : ∀ {vs : List V} (ds : List PyData), DpAll K H vs ds → PyData.plainAll ds = true
  | _, [], h => rfl
  | _, d :: ds, h => by
    cases h with
    | cons h1 h2 =>
      simp only [PyData.plainAll, Dp_plain d h1, DpAll_plain ds h2, Bool.and_self]
end
end

/-! ### lists and dicts of one's own -/
def keyD : Key → PyData
  | .inl i => .int i
  | .inr s => .str s
inductive RowsK (K : PySem.W.Frag) (G : Hp) : List (Key × V) → List (PyData × PyData) → Prop
  | nil : RowsK K G [] []
  | cons {k : Key} {v : V} {d : PyData} {r : List (Key × V)} {q : List (PyData × PyData)} : Dp K G v d → RowsK K G r q → RowsK K G ((k, v) :: r) ((keyD k, d) :: q)
inductive RowsT (K : PySem.W.Frag) (G : Hp) : List (List Key × V) → List (PyData × PyData) → Prop
  | nil : RowsT K G [] []
  | cons {k : List Key} {v : V} {d : PyData} {r : List (List Key × V)} {q : List (PyData × PyData)} : Dp K G v d → RowsT K G r q → RowsT K G ((k, v) :: r) ((.tuple (k.map keyD), d) :: q)
theorem RowsK_sub {K : PySem.W.Frag} {H H' : Hp} (s : Sub H H') : ∀ {r : List (Key × V)} {q : List (PyData × PyData)}, RowsK K H r q → RowsK K H' r q
  | _, _, .nil => .nil
  | _, _, .cons a b => .cons (Dp_sub s _ a) (RowsK_sub s b)
theorem RowsT_sub {K : PySem.W.Frag} {H H' : Hp} (s : Sub H H') : ∀ {r : List (List Key × V)} {q : List (PyData × PyData)}, RowsT K H r q → RowsT K H' r q
  | _, _, .nil => .nil
  | _, _, .cons a b => .cons (Dp_sub s _ a) (RowsT_sub s b)
inductive Cell (K : PySem.W.Frag) (S : ASet) (H : Hp) (a : Addr) : PyData → Prop
  | lst {vs : List V} {ds : List PyData} : H a = some (.lst vs) → DpAll K (Hid H S) vs ds → Cell K S H a (.list ds)
  | dK {kvs : List (Key × V)} {q : List (PyData × PyData)} : H a = some (.dK kvs) → RowsK K (Hid H S) kvs q → Cell K S H a (.dict q)
  | dT {kvs : List (List Key × V)} {q : List (PyData × PyData)} : H a = some (.dT kvs) → RowsT K (Hid H S) kvs q → Cell K S H a (.dict ((.none, .none) :: q))
/-- no tuple -/
abbrev NT (o : HO) : Prop := ∀ xs, o ≠ .tup xs
theorem Cell.there {K : PySem.W.Frag} {S : ASet} {H : Hp} {a : Addr} {d : PyData} (c : Cell K S H a d) : ∃ o, H a = some o ∧ NT o := by
  cases c <;> exact ⟨_, by assumption, fun xs e => by cases e⟩
/-- the cell's own object and the visible part stay -/
theorem Cell.stay {K : PySem.W.Frag} {S S' : ASet} {H H' : Hp} {a : Addr} {d : PyData} (c : Cell K S H a d) (h : ∀ o, H a = some o → H' a = some o) (s : Sub (Hid H S) (Hid H' S')) : Cell K S' H' a d := by
  cases c with
  | lst h1 h2 => exact .lst (h _ h1) (DpAll_sub s _ h2)
  | dK h1 h2 => exact .dK (h _ h1) (RowsK_sub s h2)
  | dT h1 h2 => exact .dT (h _ h1) (RowsT_sub s h2)

/-- a slot that holds a list or dict of its own, or a lent one -/
def MutAt (ρ : Rho) (i : Nat) (d : PyData) : Prop := ρ[i]? = some (.m d) ∨ ρ[i]? = some (.b d)
def Own (σ : St) (ρ : Rho) : ASet := fun a => ∃ (i : Nat) (d : PyData), MutAt ρ i d ∧ σ[i]? = some (some (.ref a))
abbrev Hs (B : ASet) (σ : St) (ρ : Rho) : ASet := fun a => B a ∨ Own σ ρ a

structure Rep (K : PySem.W.Frag) (mg : Str → Option Value) (B : ASet) (σ : St) (H : Hp) (ρ : Rho) : Prop where
  len : ρ.length = σ.length
  val : ∀ (i : Nat) (d : PyData), ρ[i]? = some (.v d) → ∃ v, σ[i]? = some (some v) ∧ Dp K (Hid H (Hs B σ ρ)) v d
  cel : ∀ (i : Nat) (d : PyData), MutAt ρ i d → ∃ a, σ[i]? = some (some (.ref a)) ∧ Cell K (Hs B σ ρ) H a d ∧ ¬ B a
  fnc : ∀ (i : Nat) (x : Str), ρ[i]? = some (.f x) → ∃ f : Addr, σ[i]? = some (some (.ref f)) ∧ mg x = some (.ref f)
  inj : ∀ (i j : Nat) (d e : PyData) (a : Addr), MutAt ρ i d → MutAt ρ j e → σ[i]? = some (some (.ref a)) → σ[j]? = some (some (.ref a)) → i = j
  dom : ∀ a, B a → ∃ o, H a = some o ∧ NT o

structure Step (K : PySem.W.Frag) (mg : Str → Option Value) (B : ASet) (σ : St) (H : Hp) (ρ : Rho) (σ' : St) (H' : Hp) (ρ' : Rho) : Prop where
  keep : ∀ a o, H a = some o → ¬ Own σ ρ a → H' a = some o
  own : ∀ a, Own σ' ρ' a → Own σ ρ a ∨ H a = none
  bor : ∀ (i : Nat) (d : PyData), ρ[i]? = some (.b d) → σ'[i]? = σ[i]? ∧ ∃ d', ρ'[i]? = some (.b d')
  rep : Rep K mg B σ' H' ρ'

section
variable {K : PySem.W.Frag} {mg : Str → Option Value} {B : ASet} {σ σ' σ1 σ2 : St} {H H' H1 H2 : Hp} {ρ ρ' ρ1 ρ2 : Rho}
theorem Rep.owned (r : Rep K mg B σ H ρ) {a : Addr} (h : Own σ ρ a) : ∃ o, H a = some o ∧ NT o := by
  obtain ⟨i, d, h1, h2⟩ := h
  obtain ⟨b, h3, h4, _⟩ := r.cel i d h1
  rw [h2] at h3
  cases h3
  exact h4.there
theorem Rep.hsDom (r : Rep K mg B σ H ρ) {a : Addr} (h : Hs B σ ρ a) : ∃ o, H a = some o ∧ NT o := by
  rcases h with h | h
  · exact r.dom a h
  · exact r.owned h
theorem Rep.fresh (r : Rep K mg B σ H ρ) {a : Addr} (h : H a = none) : ¬ Hs B σ ρ a := fun z => by
  obtain ⟨o, e, _⟩ := r.hsDom z
  rw [h] at e; cases e
theorem Step.refl (r : Rep K mg B σ H ρ) : Step K mg B σ H ρ σ H ρ :=
  ⟨fun _ _ h _ => h, fun _ h => .inl h, fun i d h => ⟨rfl, d, h⟩, r⟩
theorem Step.trans (a : Step K mg B σ H ρ σ1 H1 ρ1) (b : Step K mg B σ1 H1 ρ1 σ2 H2 ρ2) : Step K mg B σ H ρ σ2 H2 ρ2 where
  keep := fun x o h n => b.keep x o (a.keep x o h n) fun z => by
    rcases a.own x z with z | z
    · exact n z
    · rw [h] at z; cases z
  own := fun x z => by
    rcases b.own x z with z | z
    · exact a.own x z
    · by_cases n : Own σ ρ x
      · exact .inl n
      · refine .inr ?_
        cases e : H x with
        | none => rfl
        | some o =>
          have := a.keep x o e n
          rw [z] at this; cases this
  bor := fun i d h => by
    obtain ⟨e1, d1, h1⟩ := a.bor i d h
    obtain ⟨e2, d2, h2⟩ := b.bor i d1 h1
    exact ⟨e2.trans e1, d2, h2⟩
  rep := b.rep
theorem Step.sub (a : Step K mg B σ H ρ σ1 H1 ρ1) : Sub (Hid H (Hs B σ ρ)) (Hid H1 (Hs B σ1 ρ1)) := fun x o h => by
  rw [Hid_iff] at *
  obtain ⟨h, n⟩ := h
  refine ⟨a.keep x o h fun z => n (.inr z), fun z => ?_⟩
  rcases z with z | z
  · exact n (.inl z)
  · rcases a.own x z with z | z
    · exact n (.inr z)
    · rw [h] at z; cases z
/-- new objects alone -/
theorem Step.ext (r : Rep K mg B σ H ρ) (s : Sub H H') : Step K mg B σ H ρ σ H' ρ where
  keep := fun a o h _ => s a o h
  own := fun _ h => .inl h
  bor := fun i d h => ⟨rfl, d, h⟩
  rep := ⟨r.len, fun i d h => by
      obtain ⟨v, h1, h2⟩ := r.val i d h
      exact ⟨v, h1, Dp_sub s.hids d h2⟩, fun i d h => by
      obtain ⟨a, h1, h2, h3⟩ := r.cel i d h
      exact ⟨a, h1, h2.stay (s a) s.hids, h3⟩, r.fnc, r.inj, fun a h => by
      obtain ⟨o, e, nt⟩ := r.dom a h
      exact ⟨o, s a o e, nt⟩⟩
end

/-! ### what an expression's value stands for -/
def RepP (K : PySem.W.Frag) (mg : Str → Option Value) (B : ASet) (σ : St) (ρ : Rho) (H : Hp) (v : V) : Pv → Prop
  | .dat d => Dp K (Hid H (Hs B σ ρ)) v d
  | .at i => σ[i]? = some (some v)
  | .fn x => ∃ f, v = .ref f ∧ mg x = some (.ref f)
  | .tmp d => ∃ a, v = .ref a ∧ Cell K (Hs B σ ρ) H a d ∧ ¬ Hs B σ ρ a
def RepPs (K : PySem.W.Frag) (mg : Str → Option Value) (B : ASet) (σ : St) (ρ : Rho) (H : Hp) : List V → List Pv → Prop
  | [], [] => True
  | v :: vs, p :: ps => RepP K mg B σ ρ H v p ∧ RepPs K mg B σ ρ H vs ps
  | _, _ => False
/-- data at hand, or in a list or dict of one's own -/
def ARep (K : PySem.W.Frag) (S : ASet) (H : Hp) (v : V) (d : PyData) : Prop := Dp K (Hid H S) v d ∨ ∃ a, v = .ref a ∧ Cell K S H a d
section
variable {K : PySem.W.Frag} {mg : Str → Option Value} {B : ASet} {σ σ' σ1 σ2 : St} {H H' H1 H2 : Hp} {ρ ρ' ρ1 ρ2 : Rho} {v : V}
theorem RepP.step {p : Pv} (h : RepP K mg B σ ρ H v p) (s : Step K mg B σ H ρ σ H1 ρ1) : RepP K mg B σ ρ1 H1 v p := by
  cases p with
  | dat d => exact Dp_sub s.sub d h
  | «at» i => exact h
  | fn x => exact h
  | tmp d =>
    obtain ⟨a, e, h1, h2⟩ := h
    refine ⟨a, e, h1.stay (fun o ho => s.keep a o ho fun z => h2 (.inr z)) s.sub, fun z => ?_⟩
    rcases z with z | z
    · exact h2 (.inl z)
    · rcases s.own a z with z | z
      · exact h2 (.inr z)
      · obtain ⟨o, ho, _⟩ := h1.there
        rw [z] at ho
        cases ho
theorem RepPs.step : ∀ {vs : List V} {ps : List Pv}, RepPs K mg B σ ρ H vs ps → Step K mg B σ H ρ σ H1 ρ1 → RepPs K mg B σ ρ1 H1 vs ps
  | [], [], h, _ => h
  | _ :: _, _ :: _, h, s => ⟨h.1.step s, RepPs.step h.2 s⟩
  | [], _ :: _, h, _ => h.elim
  | _ :: _, [], h, _ => h.elim
theorem Rep.res (r : Rep K mg B σ H ρ) {p : Pv} {d : PyData} (h : RepP K mg B σ ρ H v p) (e : res ρ p = some d) : ARep K (Hs B σ ρ) H v d := by
  cases p with
  | dat d' =>
    simp only [G6.res, Option.some.injEq] at e
    subst e
    exact .inl h
  | fn x => simp [G6.res] at e
  | tmp d' =>
    simp only [G6.res, Option.some.injEq] at e
    subst e
    obtain ⟨a, h1, h2, _⟩ := h
    exact .inr ⟨a, h1, h2⟩
  | «at» i =>
    simp only [G6.res, rd] at e
    have h' : σ[i]? = some (some v) := h
    split at e
    · rename_i d' hi
      cases e
      obtain ⟨v', h1, h2⟩ := r.val i d hi
      rw [h'] at h1; cases h1
      exact .inl h2
    · rename_i d' hi
      cases e
      obtain ⟨a, h1, h2, _⟩ := r.cel i d (.inl hi)
      rw [h'] at h1; cases h1
      exact .inr ⟨a, rfl, h2⟩
    · rename_i d' hi
      cases e
      obtain ⟨a, h1, h2, _⟩ := r.cel i d (.inr hi)
      rw [h'] at h1; cases h1
      exact .inr ⟨a, rfl, h2⟩
    · cases e
theorem ARep.lst {S : ASet} {ds : List PyData} (h : ARep K S H v (.list ds)) : ∃ a vs, v = .ref a ∧ SqL K H a vs ∧ DpAll K (Hid H S) vs ds := by
  rcases h with h | ⟨a, e, h⟩
  · cases h with | lst h1 h2 => exact ⟨_, _, rfl, SqL_sub (Sub.hid _) h1, h2⟩
  · cases h with | lst h1 h2 => exact ⟨a, _, e, SqL.of h1, h2⟩
theorem ARep.tup {S : ASet} {ds : List PyData} (h : ARep K S H v (.tuple ds)) : ∃ a vs, v = .ref a ∧ TupAt H a vs ds ∧ DpAll K (Hid H S) vs ds := by
  rcases h with h | ⟨a, e, h⟩
  · cases h with | tup h1 h2 => exact ⟨_, _, rfl, h1.sub (Sub.hid _), h2⟩
  · cases h
theorem ARep.dpt {S : ASet} {ds : List PyData} (h : ARep K S H v (.tuple ds)) : Dp K (Hid H S) v (.tuple ds) := by
  rcases h with h | ⟨a, e, h⟩
  · exact h
  · cases h
theorem ARep.int {S : ASet} {i : Int} (h : ARep K S H v (.int i)) : v = .int i := by
  rcases h with h | ⟨a, e, h⟩ <;> cases h; rfl
theorem ARep.bool {S : ASet} {b : Bool} (h : ARep K S H v (.bool b)) : v = .bl b := by
  rcases h with h | ⟨a, e, h⟩ <;> cases h; rfl
theorem ARep.str {S : ASet} {x : Str} (h : ARep K S H v (.str x)) : v = .str x := by
  rcases h with h | ⟨a, e, h⟩ <;> cases h; rfl
theorem ARep.none {S : ASet} (h : ARep K S H v .none) : v = .non := by
  rcases h with h | ⟨a, e, h⟩ <;> cases h; rfl
/-- over the whole heap -/
theorem ARep.dp {S : ASet} {d : PyData} (h : ARep K S H v d) (n : ∀ q, d ≠ .dict q) : Dp K H v d := by
  rcases h with h | ⟨a, e, h⟩
  · exact Dp_sub (Sub.hid _) d h
  · cases h with
    | lst h1 h2 => rw [e]; exact .lst (SqL.of h1) (DpAll_sub (Sub.hid _) _ h2)
    | dK _ _ => exact absurd rfl (n _)
    | dT _ _ => exact absurd rfl (n _)
end

/-! ### readings by data -/
/-- what comes of a reckoning r from the state σ, H, ρ on: wanted Q of it, W of an exception -/
def Post {α β : Type} (K : PySem.W.Frag) (mg : Str → Option Value) (B : ASet) (W : WX) (rp : Rho → Hp → β → α → Prop) (σ : St) (H : Hp) (ρ : Rho) (r : R α) (Q : β → Hp → Prop) : Prop := match r with
  | .ok a ρ' => ∀ b H', Step K mg B σ H ρ σ H' ρ' → rp ρ' H' b a → Q b H'
  | .ex c ρ' => ∀ u H', mg c = some u → Step K mg B σ H ρ σ H' ρ' → W u none σ H'
  | .bad => False
section
variable {α β γ δ : Type} {K : PySem.W.Frag} {mg : Str → Option Value} {B : ASet} {W : WX} {rp : Rho → Hp → β → α → Prop} {σ : St} {H H1 : Hp} {ρ ρ1 : Rho} {r : R α} {Q Q' : β → Hp → Prop}
theorem Post.mono (h : Post K mg B W rp σ H ρ r Q) (q : ∀ b H', Q b H' → Q' b H') : Post K mg B W rp σ H ρ r Q' := by
  cases r with
  | ok a ρ' => exact fun b H' s p => q b H' (h b H' s p)
  | ex c ρ' => exact h
  | bad => exact h
theorem Post.from (h : Post K mg B W rp σ H ρ r Q) (s : Step K mg B σ H ρ σ H1 ρ1) : Post K mg B W rp σ H1 ρ1 r Q := by
  cases r with
  | ok a ρ' => exact fun b H' t p => h b H' (s.trans t) p
  | ex c ρ' => exact fun u H' m t => h u H' m (s.trans t)
  | bad => exact h
theorem Post.bind {rp2 : Rho → Hp → δ → γ → Prop} {k : α → Rho → R γ} {Q2 : δ → Hp → Prop} (h : Post K mg B W rp2 σ H ρ (r.bind k) Q2) :
    Post K mg B W rp σ H ρ r fun b H1 => ∃ a ρ1, r = .ok a ρ1 ∧ Step K mg B σ H ρ σ H1 ρ1 ∧ rp ρ1 H1 b a ∧ Post K mg B W rp2 σ H1 ρ1 (k a ρ1) Q2 := by
  cases r with
  | ok a ρ' => exact fun b H' s p => ⟨a, ρ', rfl, s, p, Post.from (r := k a ρ') h s⟩
  | ex c ρ' => exact h
  | bad => exact h
end
def tE (K : PySem.W.Frag) (mg : Str → Option Value) (B : ASet) (W : WX) (f : Rho → R Pv) : TE := fun σ H Q => ∃ ρ, Rep K mg B σ H ρ ∧ Post K mg B W (RepP K mg B σ) σ H ρ (f ρ) Q
def tEs (K : PySem.W.Frag) (mg : Str → Option Value) (B : ASet) (W : WX) (f : Rho → R (List Pv)) : TA := fun σ H Q => ∃ ρ, Rep K mg B σ H ρ ∧ Post K mg B W (RepPs K mg B σ) σ H ρ (f ρ) Q
def tB' (K : PySem.W.Frag) (mg : Str → Option Value) (B : ASet) (W : WX) (f : Rho → R Bool) : TT := fun σ H Q => ∃ ρ, Rep K mg B σ H ρ ∧ Post K mg B W (fun _ _ b a => b = a) σ H ρ (f ρ) Q
theorem PE.weak {X : Cx} {e : Expr} {t t' : TE} (h : PE X e t) (w : ∀ σ H Q, t' σ H Q → t σ H Q) : PE X e t' := ⟨fun pins s σ H Q I q => h.run pins s σ H Q I (w σ H Q q)⟩
theorem PT.weak {X : Cx} {e : Expr} {t t' : TT} (h : PT X e t) (w : ∀ σ H Q, t' σ H Q → t σ H Q) : PT X e t' := ⟨fun pins s σ H Q I q => h.run pins s σ H Q I (w σ H Q q)⟩
theorem PA.weak {X : Cx} {e : List Expr} {t t' : TA} (h : PA X e t) (w : ∀ σ H Q, t' σ H Q → t σ H Q) : PA X e t' := ⟨fun pos pins s σ H Q I q => h.run pos pins s σ H Q I (w σ H Q q)⟩
theorem PS.weak {X : Cx} {e : Stmt} {t t' : TS} (h : PS X e t) (w : ∀ D σ H, t' D σ H → t D σ H) : PS X e t' := ⟨fun pins s σ H D I q => h.run pins s σ H D I (w D σ H q)⟩
theorem PSs.weak {X : Cx} {e : List Stmt} {t t' : TS} (h : PSs X e t) (w : ∀ D σ H, t' D σ H → t D σ H) : PSs X e t' := ⟨fun pins s σ H D I q => h.run pins s σ H D I (w D σ H q)⟩
end G6
-- ## Keys
/-! # Keys: a dict's rows -/
namespace G6
open PySem PySem.Spec PyProof.Rows L2
section
variable {K : PySem.W.Frag} {S : ASet} {H : Hp} {p : Addr} {vs : List V} {ds : List PyData}
theorem DpAll_ints : ∀ {vs : List V} {ns : List Int}, DpAll K H vs (ns.map .int) → vs = ns.map .int
  | _, [], h => by cases h; rfl
  | _, n :: r, h => by
    cases h with
    | cons h1 h2 => cases h1; rw [DpAll_ints h2]; rfl
end
theorem keyD_eqv (k k' : Key) : PyData.eqv (keyD k) (keyD k') = decide (k = k') := by
  cases k with
  | inl i => cases k' with
    | inl j => rw [key_ll]; rfl
    | inr y => rw [key_lr]; rfl
  | inr x => cases k' with
    | inl j => rw [key_rl]; rfl
    | inr y =>
      rw [key_rr]
      show (x == y) = _
      by_cases e : x = y
      · subst e; simp
      · simp [e]
theorem keyT_eqvAll : ∀ (k k' : List Key), PyData.eqvAll (k.map keyD) (k'.map keyD) = decide (k = k')
  | [], [] => by simp [PyData.eqvAll]
  | [], _ :: _ => by simp [PyData.eqvAll]
  | _ :: _, [] => by simp [PyData.eqvAll]
  | a :: k, b :: k' => by
    simp only [List.map_cons, PyData.eqvAll, keyD_eqv, keyT_eqvAll k k', List.cons.injEq]
    by_cases e : a = b <;> by_cases e2 : k = k' <;> simp [e, e2]
theorem keyT_eqv (k k' : List Key) : PyData.eqv (.tuple (k.map keyD)) (.tuple (k'.map keyD)) = decide (k = k') := by
  simp only [PyData.eqv]
  exact keyT_eqvAll k k'
theorem intsOf_eq : ∀ {ds : List PyData} {ns : List Int}, intsOf ds = some ns → ds = ns.map .int
  | [], bs, h => by simp only [intsOf, Option.some.injEq] at h; subst h; rfl
  | .int b :: r, bs, h => by
    simp only [intsOf, Option.map_eq_some_iff] at h
    obtain ⟨cs, h1, h2⟩ := h
    subst h2
    rw [intsOf_eq h1]; rfl
  | .none :: _, _, h => by simp [intsOf] at h
  | .str _ :: _, _, h => by simp [intsOf] at h
  | .bool _ :: _, _, h => by simp [intsOf] at h
  | .list _ :: _, _, h => by simp [intsOf] at h
  | .tuple _ :: _, _, h => by simp [intsOf] at h
  | .dict _ :: _, _, h => by simp [intsOf] at h
theorem keyTup_eq {k : PyData} (h : (keyTup k).isSome = true) : ∃ ns : List Int, k = .tuple (ns.map .int) := by
  obtain ⟨ns, h⟩ := Option.isSome_iff_exists.mp h
  unfold keyTup at h
  split at h
  · exact ⟨ns, by rw [intsOf_eq h]⟩
  · cases h
theorem keyStr_eq {k : PyData} (h : (keyStr k).isSome = true) : ∃ s : Str, k = .str s := by
  obtain ⟨s, h⟩ := Option.isSome_iff_exists.mp h
  unfold keyStr at h
  split at h
  · exact ⟨_, rfl⟩
  · cases h
/-- a key's value, in a dict of that kind -/
theorem tupKeys {G : Hp} {K : PySem.W.Frag} {v : V} {ns : List Int} (h : Dp K G v (.tuple (ns.map .int))) : ∃ b, v = .ref b ∧ G b = some (.tup ((ns.map Sum.inl : List Key).map kV)) := by
  cases h with
  | tup h1 h2 =>
    refine ⟨_, rfl, ?_⟩
    have h1 := h1.plain (rowsB_ints ns)
    rw [DpAll_ints h2] at h1
    rw [h1]
    simp [kV]

section
variable {K : PySem.W.Frag} {S : ASet} {H : Hp} {x y : V}
theorem ARep.dict {q : List (PyData × PyData)} (h : ARep K S H x (.dict q)) : ∃ a, x = .ref a ∧ ((∃ kvs, H a = some (.dK kvs) ∧ RowsK K (Hid H S) kvs q) ∨ ∃ kvs q', q = (.none, .none) :: q' ∧ H a = some (.dT kvs) ∧ RowsT K (Hid H S) kvs q') := by
  rcases h with h | ⟨a, e, h⟩
  · cases h
  · subst e
    cases h with
    | dK h1 h2 => exact ⟨a, rfl, .inl ⟨_, h1, h2⟩⟩
    | dT h1 h2 => exact ⟨a, rfl, .inr ⟨_, _, rfl, h1, h2⟩⟩
theorem rowsD_K {G : Hp} {kvs : List (Key × V)} {q : List (PyData × PyData)} (h : RowsK K G kvs q) : rowsD q = q ∧ tupDict q = false := by
  cases h with
  | nil => exact ⟨rfl, rfl⟩
  | @cons k v d r q h1 h2 => cases k <;> exact ⟨rfl, rfl⟩
theorem find_K {G : Hp} {k : Key} {kvs : List (Key × V)} {q : List (PyData × PyData)} (h : RowsK K G kvs q) : (valV kvs k = none ∧ (q.find? fun r => PyData.eqv r.1 (keyD k)).map (·.2) = none) ∨ ∃ v d, valV kvs k = some v ∧ (q.find? fun r => PyData.eqv r.1 (keyD k)).map (·.2) = some d ∧ Dp K G v d := by
  induction h with
  | nil => exact .inl ⟨rfl, rfl⟩
  | @cons k' v d r q h1 h2 ih =>
    unfold valV at ih ⊢
    simp only [List.find?_cons, keyD_eqv]
    by_cases e : k' = k
    · simp only [e, decide_true]
      exact .inr ⟨v, d, rfl, rfl, h1⟩
    · simp only [e, decide_false]
      exact ih
theorem find_T {G : Hp} {k : List Key} {kvs : List (List Key × V)} {q : List (PyData × PyData)} (h : RowsT K G kvs q) : (valV kvs k = none ∧ (q.find? fun r => PyData.eqv r.1 (.tuple (k.map keyD))).map (·.2) = none) ∨ ∃ v d, valV kvs k = some v ∧ (q.find? fun r => PyData.eqv r.1 (.tuple (k.map keyD))).map (·.2) = some d ∧ Dp K G v d := by
  induction h with
  | nil => exact .inl ⟨rfl, rfl⟩
  | @cons k' v d r q h1 h2 ih =>
    unfold valV at ih ⊢
    simp only [List.find?_cons, keyT_eqv]
    by_cases e : k' = k
    · simp only [e, decide_true]
      exact .inr ⟨v, d, rfl, rfl, h1⟩
    · simp only [e, decide_false]
      exact ih
theorem dget_ok {q : List (PyData × PyData)} {k : PyData} (hx : ARep K S H x (.dict q)) (hy : ARep K S H y k) (hf : keyFits q k = true) :
    ∃ a o, x = .ref a ∧ DGet H a y o ∧ ((o = none ∧ dfind q k = none) ∨ ∃ v d, o = some v ∧ dfind q k = some d ∧ Dp K (Hid H S) v d) := by
  obtain ⟨a, ea, hx'⟩ := hx.dict
  subst ea
  unfold keyFits at hf
  rcases hx' with ⟨kvs, h1, h2⟩ | ⟨kvs, q', rfl, h1, h2⟩
  · rw [(rowsD_K h2).2] at hf
    obtain ⟨s, rfl⟩ := keyStr_eq hf
    obtain rfl := hy.str
    refine ⟨a, _, rfl, DGet.k (k := .inr s) h1, ?_⟩
    unfold dfind
    rw [(rowsD_K h2).1]
    exact find_K (k := .inr s) h2
  · obtain ⟨ns, rfl⟩ := keyTup_eq hf
    obtain ⟨b, rfl, hb⟩ := tupKeys hy.dpt
    refine ⟨a, _, rfl, DGet.t h1 (Hid_iff.mp hb).1, ?_⟩
    have e : (ns.map PyData.int) = (ns.map Sum.inl : List Key).map keyD := by simp [keyD, Function.comp_def]
    rw [e]
    exact find_T h2
theorem keys_K {G : Hp} {kvs : List (Key × V)} {q : List (PyData × PyData)} (h : RowsK K G kvs q) : DpAll K G (kvs.map fun kv => kV kv.1) (q.map (·.1)) := by
  induction h with
  | nil => exact .nil
  | @cons k' v d r q h1 h2 ih =>
    refine .cons ?_ ih
    cases k' with
    | inl i => exact .int i
    | inr s => exact .str s
theorem keyV_all {G : Hp} : ∀ k : List Key, DpAll K G (k.map kV) (k.map keyD)
  | [] => .nil
  | .inl i :: r => .cons (.int i) (keyV_all r)
  | .inr s :: r => .cons (.str s) (keyV_all r)
theorem rowsB_keys : ∀ k : List Key, rowsB (k.map keyD) = false
  | [] => rfl
  | .inl i :: r => rfl
  | .inr s :: r => rfl
theorem keys_T {G : Hp} {kvs : List (List Key × V)} {q : List (PyData × PyData)} {bs : List Addr} (h : RowsT K G kvs q) (hb : IsKeys H kvs bs) (hg : ∀ b xs, H b = some (.tup xs) → G b = some (.tup xs)) : DpAll K G (bs.map V.ref) (q.map (·.1)) := by
  unfold IsKeys at hb
  induction hb generalizing q with
  | nil => cases h; exact .nil
  | cons h1 h2 ih =>
    cases h with
    | cons h3 h4 => exact .cons (.tup (.inl ⟨rowsB_keys _, hg _ _ h1⟩) (keyV_all _)) (ih h4)
end
end G6
-- ## OpsM
/-! # OpsM: a list, a tuple, times an int -/
namespace G6
open PySem PySem.Spec PyProof.Rows L2
theorem int_rmul_lst (a : Int) (t : Tok) (l : Addr) (items : Array Value) (n : Nat) (sl : Array (Option Value)) :
    Meets (Builtin.«int.__rmul__» ⟨[.int a t, .ref l], []⟩) (fun _ R s => s.heap.get? l = some { cls := .type "list", dict := none, data := .seq items n, slots := sl } ∧ R (.ok (.ret Value.notImplemented)) s) :=
  .of_wp fun prog w A R s h => by obtain ⟨hp, g, d, tk, os⟩ := s; obtain ⟨hl, h⟩ := h; wp_walk using wpAny_loadPart' hl; exact ⟨_, rfl, h⟩
theorem list_mul_any (l : Addr) (items : Array Value) (n : Nat) (sl : Array (Option Value)) (x : Int) (u : Tok) (hc0 : ¬(!Builtin.List.listFitsIndex x) = true) (hc1 : ¬items.size * x.toNat > (2 ^ 63 - 1) / 8) (hc2 : ¬Builtin.List.listTooLong (items.size * x.toNat) = true)
    (hsz : (List.foldl (fun x1 x2 => x1 ++ x2) #[] (List.replicate (if items.isEmpty = true then 0 else x.toNat) items)).size ≤ sizeLine) :
    Meets (Builtin.«list.__mul__» ⟨[.ref l, .int x u], []⟩) (fun _ R s => s.heap.get? l = some { cls := .type "list", dict := none, data := .seq items n, slots := sl } ∧ R (.ok (.ret (Value.ref s.heap.objs.size))) { s with heap := s.heap.push { cls := Value.type "list", data := Data.seq (List.foldl (fun x1 x2 => x1 ++ x2) #[] (List.replicate (if items.isEmpty = true then 0 else x.toNat) items)) }, toks := s.toks }) :=
  .of_wp fun prog w A R s h => by
    obtain ⟨hp, g, d, tk, os⟩ := s; obtain ⟨hl, h⟩ := h
    have f1 := AutoSeq1.idx_int
    wp_walk using wpAny_loadPart' hl; refine wpAny_ite_false (decide_eq_false (Nat.not_lt.mpr hsz)) ?_; wp_walk; exact ⟨_, rfl, h⟩
theorem tuple_mul_same (l : Addr) (items : Array Value) (n : Nat) (dd : Option Addr) (sl : Array (Option Value)) (x : Int) (u : Tok) (c0 : (decide (x < -(2 ^ 63)) || decide (x ≥ 2 ^ 63)) = false) (c1 : (items.isEmpty || x == 1) = true) :
    Meets (Builtin.«tuple.__mul__» ⟨[.ref l, .int x u], []⟩) (fun _ R s => s.heap.get? l = some { cls := .type "tuple", dict := dd, data := .seq items n, slots := sl } ∧ R (.ok (.ret (Value.ref l))) s) :=
  .of_wp fun prog w A R s h => by
    obtain ⟨hp, g, d, tk, os⟩ := s
    obtain ⟨hl, h⟩ := h
    have f1 := AutoSeq1.idx_int
    wp_walk using wpAny_loadPart' hl
    repeat (first
      | (refine wpAny_ite_false (decide_eq_false (by rw [c0]; exact Bool.false_ne_true)) ?_; wp_walk using wpAny_loadPart' hl)
      | (refine wpAny_ite_true (decide_eq_true c1) ?_; wp_walk using wpAny_loadPart' hl))
    exact ⟨_, rfl, h⟩
theorem tuple_mul_none (l : Addr) (items : Array Value) (n : Nat) (dd : Option Addr) (sl : Array (Option Value)) (x : Int) (u : Tok) (c0 : (decide (x < -(2 ^ 63)) || decide (x ≥ 2 ^ 63)) = false) (c1 : (items.isEmpty || x == 1) = false) (c2 : (decide (x ≤ 0) || items.isEmpty) = true) :
    Meets (Builtin.«tuple.__mul__» ⟨[.ref l, .int x u], []⟩) (fun _ R s => s.heap.get? l = some { cls := .type "tuple", dict := dd, data := .seq items n, slots := sl } ∧
      R (.ok (.ret (Value.ref s.heap.objs.size))) { s with heap := s.heap.push { cls := Value.type "tuple", data := Data.seq #[] }, toks := s.toks }) :=
  .of_wp fun prog w A R s h => by
    obtain ⟨hp, g, d, tk, os⟩ := s
    obtain ⟨hl, h⟩ := h
    have f1 := AutoSeq1.idx_int
    wp_walk using wpAny_loadPart' hl
    repeat (first
      | (refine wpAny_ite_false (decide_eq_false (by rw [c0]; exact Bool.false_ne_true)) ?_; wp_walk using wpAny_loadPart' hl)
      | (refine wpAny_ite_false (decide_eq_false (by rw [c1]; exact Bool.false_ne_true)) ?_; wp_walk using wpAny_loadPart' hl)
      | (refine wpAny_ite_true (decide_eq_true c2) ?_; wp_walk using wpAny_loadPart' hl))
    exact ⟨_, rfl, h⟩
section
variable {X : Cx}
/-- a list that is read, times an int -/
def rRepL (K : PySem.W.Frag) : R2 := fun x y H Q => ∃ l k xs, x = .ref l ∧ y = .int k ∧ SqL K H l xs ∧ -1000 ≤ k ∧ k ≤ 1000 ∧ xs.length ≤ 1000 ∧ ∀ p, H p = none → Q (.ref p) (upd H p (.lst (List.replicate k.toNat xs).flatten))
theorem op_repL : OpR X (binaryOp .Mult) (rRepL X.K) := by
  intro pins s σ H x y v u Q I rx ry h
  obtain ⟨l, k, xs, rfl, rfl, hH, h1, h2, hz, q⟩ := h
  cases rx
  obtain ⟨t, rfl⟩ := ry
  obtain ⟨its, r, ⟨o, n, e, hc, hd, hs⟩, _⟩ := I.list hH
  obtain ⟨oc, od, oda, osl⟩ := o
  simp only at hc hd hs
  subst hc hd hs
  have hle : its.length = xs.length := r.length.symm
  have hm : its.length * k.toNat ≤ 1000 * 1000 := Nat.mul_le_mul (by omega) (by omega)
  have hlen : its.toArray.size * k.toNat ≤ sizeLine := by rw [List.size_toArray, sizeLine_eq]; omega
  have hcap : ¬ its.toArray.size * k.toNat > (2 ^ 63 - 1) / 8 := by
    rw [List.size_toArray]
    have : (1000 * 1000 : Nat) ≤ (2 ^ 63 - 1) / 8 := by decide
    omega
  have hfit : ¬ (!Builtin.List.listFitsIndex k) = true := by
    rw [fitsIndex_both (by omega) (by omega)]
    exact Bool.false_ne_true
  have hlong : ¬ Builtin.List.listTooLong (its.toArray.size * k.toNat) = true := by
    rw [notLongL hlen]
    exact Bool.false_ne_true
  have hnew : List.foldl (fun x1 x2 => x1 ++ x2) #[] (List.replicate (if its.toArray.isEmpty = true then 0 else k.toNat) its.toArray) = (List.replicate k.toNat its).flatten.toArray := by
    rw [size_rep]
    cases its with
    | nil => simp
    | cons a r' => rw [if_neg (by simp)]
  have flen : (List.replicate k.toNat its).flatten.length ≤ sizeLine := by
    rw [PyProof.Rows.lm_len_rep_flat, Nat.mul_comm]
    rw [List.size_toArray] at hlen
    exact hlen
  refine wpAny_binaryOp_repeat_ref (T := "list") (U := "int") (by decide) ⟨_, e, rfl⟩ (fun s' => typeIs_int s' k t) noFill_list_mul F.fills_int_mul F.slot_int_rmul repeat_list F.slot_int_index.lookup
    (call_meets F.slot_int_rmul (typeIs_int s k t) F.entry_int_rmul (F.args_int_rmul_2 _ _) (int_rmul_lst k t l its.toArray n osl)
      ⟨e, rfl, ⟨_, e, rfl⟩, call_meets F.slot_list_mul ⟨_, e, rfl⟩ F.entry_list_mul (F.args_list_mul_2 _ _) (list_mul_any l its.toArray n osl k t hfit hcap hlong (by rw [hnew, List.size_toArray]; exact flen)) ⟨e, ?_⟩⟩)
  rw [hnew]
  refine ⟨.ref s.heap.objs.size, _, I.laid (t' := s.toks) (o := .lst (List.replicate k.toNat xs).flatten) (fun b ob q => Heap.get?_push_of_some _ q) (Nat.le_refl _) ?_, rfl, q _ (I.hok.fresh (Nat.le_refl _))⟩
  exact ⟨by rw [PyProof.Rows.lm_len_rep_flat, ← hle, ← PyProof.Rows.lm_len_rep_flat]; exact flen, _, 0, r.rep k.toNat, Heap.get?_push_size _ rfl⟩
/-- a tuple that is left as it is; one that is empty then -/
def rRepT1 (K : PySem.W.Frag) : R2 := fun x y H Q => ∃ l k xs, x = .ref l ∧ y = .int k ∧ SqT K H l xs ∧ -1000 ≤ k ∧ k ≤ 1000 ∧ (xs = [] ∨ k = 1) ∧ Q (.ref l) H
theorem op_repT1 : OpR X (binaryOp .Mult) (rRepT1 X.K) := by
  intro pins s σ H x y v u Q I rx ry h
  obtain ⟨l, k, xs, rfl, rfl, hT, h1, h2, hne, q⟩ := h
  cases rx
  obtain ⟨t, rfl⟩ := ry
  obtain ⟨its, r, ⟨⟨cls, dd, data, sl⟩, ho, hc, n, hd⟩, hs⟩ := I.tuple hT
  simp only at hc hd
  subst hc hd
  have hle : its.length = xs.length := r.length.symm
  have c0 : (decide (k < -(2 ^ 63)) || decide (k ≥ 2 ^ 63)) = false := by
    rw [decide_eq_false (by omega), decide_eq_false (by omega)] <;> rfl
  have c1 : (its.toArray.isEmpty || k == 1) = true := by
    rcases hne with e | e
    · subst e
      rw [List.eq_nil_of_length_eq_zero hle]
      rfl
    · subst e
      simp
  refine wpAny_binaryOp_repeat_ref (T := "tuple") (U := "int") (by decide) ⟨_, ho, rfl⟩ (fun s' => typeIs_int s' k t) noFill_tuple_mul F.fills_int_mul F.slot_int_rmul repeat_tuple F.slot_int_index.lookup
    (call_meets F.slot_int_rmul (typeIs_int s k t) F.entry_int_rmul (F.args_int_rmul_2 _ _) (int_rmul_tuple k t l its.toArray n dd sl)
      ⟨ho, rfl, ⟨_, ho, rfl⟩, call_meets F.slot_tuple_mul ⟨_, ho, rfl⟩ F.entry_tuple_mul (F.args_tuple_mul_2 _ _) (tuple_mul_same l its.toArray n dd sl k t c0 c1) ⟨ho, ?_⟩⟩)
  exact ⟨.ref l, H, I, rfl, q⟩
def rRepT0 (K : PySem.W.Frag) : R2 := fun x y H Q => ∃ l k xs, x = .ref l ∧ y = .int k ∧ SqT K H l xs ∧ -1000 ≤ k ∧ k ≤ 0 ∧ xs ≠ [] ∧ ∀ p, H p = none → Q (.ref p) (upd H p (.tup []))
theorem op_repT0 : OpR X (binaryOp .Mult) (rRepT0 X.K) := by
  intro pins s σ H x y v u Q I rx ry h
  obtain ⟨l, k, xs, rfl, rfl, hT, h1, h2, hne, q⟩ := h
  cases rx
  obtain ⟨t, rfl⟩ := ry
  obtain ⟨its, r, ⟨⟨cls, dd, data, sl⟩, ho, hc, n, hd⟩, hs⟩ := I.tuple hT
  simp only at hc hd
  subst hc hd
  have hle : its.length = xs.length := r.length.symm
  have hi : its.toArray.isEmpty = false := by
    cases its with
    | nil => exact absurd (List.eq_nil_of_length_eq_zero hle.symm) hne
    | cons a b => rfl
  have c0 : (decide (k < -(2 ^ 63)) || decide (k ≥ 2 ^ 63)) = false := by
    rw [decide_eq_false (by omega), decide_eq_false (by omega)] <;> rfl
  have c1 : (its.toArray.isEmpty || k == 1) = false := by
    rw [hi, Bool.false_or]
    exact beq_eq_false_iff_ne.mpr (by omega)
  have c2 : (decide (k ≤ 0) || its.toArray.isEmpty) = true := by
    rw [decide_eq_true h2]
    rfl
  refine wpAny_binaryOp_repeat_ref (T := "tuple") (U := "int") (by decide) ⟨_, ho, rfl⟩ (fun s' => typeIs_int s' k t) noFill_tuple_mul F.fills_int_mul F.slot_int_rmul repeat_tuple F.slot_int_index.lookup
    (call_meets F.slot_int_rmul (typeIs_int s k t) F.entry_int_rmul (F.args_int_rmul_2 _ _) (int_rmul_tuple k t l its.toArray n dd sl)
      ⟨ho, rfl, ⟨_, ho, rfl⟩, call_meets F.slot_tuple_mul ⟨_, ho, rfl⟩ F.entry_tuple_mul (F.args_tuple_mul_2 _ _) (tuple_mul_none l its.toArray n dd sl k t c0 c1 c2) ⟨ho, ?_⟩⟩)
  refine ⟨.ref s.heap.objs.size, _, I.laid (t' := s.toks) (o := .tup []) (fun b ob q => Heap.get?_push_of_some _ q) (Nat.le_refl _) ?_, rfl, q _ (I.hok.fresh (Nat.le_refl _))⟩
  exact ⟨by simp, [], .nil, IsTup.new _ _⟩
end
end G6
-- ## Ops
/-! # Ops: the machine's operations, by data -/
namespace G6
open PySem PySem.Spec PyProof.Rows L2

def DomS (S : ASet) (H : Hp) : Prop := ∀ a, S a → ∃ o, H a = some o ∧ NT o
def rD1 (K : PySem.W.Frag) (g : PyData → Option PyData) : V → Hp → VK → Prop := fun x H Q => ∃ (S : ASet) (d z : PyData), DomS S H ∧ ARep K S H x d ∧ g d = some z ∧ ∀ w H', Sub H H' → Dp K (Hid H' S) w z → Q w H'
def rD2 (K : PySem.W.Frag) (g : PyData → PyData → Option PyData) : R2 := fun x y H Q => ∃ (S : ASet) (d e z : PyData), DomS S H ∧ ARep K S H x d ∧ ARep K S H y e ∧ g d e = some z ∧ ∀ w H', Sub H H' → Dp K (Hid H' S) w z → Q w H'
def rDC (K : PySem.W.Frag) (g : PyData → Option PyData) : List V → Hp → VK → Prop := fun vs H Q => ∃ x, vs = [x] ∧ rD1 K g x H Q

section
variable {K : PySem.W.Frag} {S : ASet} {H : Hp} {p : Addr} {vs : List V} {ds : List PyData}
theorem dom_new (hd : DomS S H) (h : H p = none) : ¬ S p := fun z => by
  obtain ⟨o, e, _⟩ := hd p z
  rw [h] at e; cases e
theorem hid_new {o : HO} (hd : DomS S H) (h : H p = none) : Hid (upd H p o) S p = some o := Hid_iff.mpr ⟨upd_same, dom_new hd h⟩
theorem new_tup (hd : DomS S H) (h : H p = none) (a : DpAll K (Hid H S) vs ds) (hr : rowsB ds = false) : Dp K (Hid (upd H p (.tup vs)) S) (.ref p) (.tuple ds) :=
  .tup (.inl ⟨hr, hid_new hd h⟩) (DpAll_sub (Sub.new h).hids ds a)
theorem new_row (hd : DomS S H) (h : H p = none) (a : DpAll K (Hid H S) vs ds) (hr : rowsB ds = true) {o : Obj} (ho : o.dict = none) : Dp K (Hid (upd H p (.frz o (.tup vs))) S) (.ref p) (.tuple ds) :=
  .tup (.inr ⟨hr, o, ho, hid_new hd h⟩) (DpAll_sub (Sub.new h).hids ds a)
theorem new_lst (hd : DomS S H) (h : H p = none) (a : DpAll K (Hid H S) vs ds) : Dp K (Hid (upd H p (.lst vs)) S) (.ref p) (.list ds) :=
  .lst (SqL.of (hid_new hd h)) (DpAll_sub (Sub.new h).hids ds a)
theorem DpAll_map {α : Type} {f : α → V} {g : α → PyData} (h : ∀ x, Dp K H (f x) (g x)) : ∀ xs : List α, DpAll K H (xs.map f) (xs.map g)
  | [] => .nil
  | x :: r => .cons (h x) (DpAll_map h r)
theorem DpAll_strs : ∀ {vs : List V} {ns : List Str}, DpAll K H vs (ns.map .str) → vs = ns.map .str
  | _, [], h => by cases h; rfl
  | _, n :: r, h => by
    cases h with
    | cons h1 h2 => cases h1; rw [DpAll_strs h2]; rfl
theorem DpAll_bools : ∀ {vs : List V} {ns : List Bool}, DpAll K H vs (ns.map .bool) → vs = ns.map .bl
  | _, [], h => by cases h; rfl
  | _, n :: r, h => by
    cases h with
    | cons h1 h2 => cases h1; rw [DpAll_bools h2]; rfl
theorem bools_eq : ∀ {ds : List PyData} {bs : List Bool}, bools ds = some bs → ds = bs.map .bool
  | [], bs, h => by simp only [bools, Option.some.injEq] at h; subst h; rfl
  | .bool b :: r, bs, h => by
    simp only [bools, Option.map_eq_some_iff] at h
    obtain ⟨cs, h1, h2⟩ := h
    subst h2
    rw [bools_eq h1]; rfl
  | .none :: _, _, h => by simp [bools] at h
  | .int _ :: _, _, h => by simp [bools] at h
  | .str _ :: _, _, h => by simp [bools] at h
  | .list _ :: _, _, h => by simp [bools] at h
  | .tuple _ :: _, _, h => by simp [bools] at h
  | .dict _ :: _, _, h => by simp [bools] at h
theorem strsOf_eq : ∀ {ds : List PyData} {bs : List Str}, strsOf ds = some bs → ds = bs.map .str
  | [], bs, h => by simp only [strsOf, Option.some.injEq] at h; subst h; rfl
  | .str b :: r, bs, h => by
    simp only [strsOf, Option.map_eq_some_iff] at h
    obtain ⟨cs, h1, h2⟩ := h
    subst h2
    rw [strsOf_eq h1]; rfl
  | .none :: _, _, h => by simp [strsOf] at h
  | .int _ :: _, _, h => by simp [strsOf] at h
  | .bool _ :: _, _, h => by simp [strsOf] at h
  | .list _ :: _, _, h => by simp [strsOf] at h
  | .tuple _ :: _, _, h => by simp [strsOf] at h
  | .dict _ :: _, _, h => by simp [strsOf] at h
theorem DpAll_flat (k : Nat) (a : DpAll K H vs ds) : DpAll K H (List.replicate k vs).flatten (List.replicate k ds).flatten := by
  induction k with
  | zero => exact .nil
  | succ n ih =>
    rw [List.replicate_succ, List.replicate_succ, List.flatten_cons, List.flatten_cons]
    exact DpAll_append a ih
end

section
variable {X : Cx}
theorem OpR.weak {f : Value → Value → Sem Value} {r r' : R2} (h : OpR X f r) (w : ∀ x y H Q, r' x y H Q → r x y H Q) : OpR X f r' :=
  fun pins s σ H x y v u Q I rx ry q => h pins s σ H x y v u Q I rx ry (w _ _ _ _ q)
theorem CallR.weak {f : Value} {r r' : List V → Hp → VK → Prop} (h : CallR X f r) (w : ∀ vs H Q, r' vs H Q → r vs H Q) : CallR X f r' :=
  fun pins s σ H vs us Q I rx q => h pins s σ H vs us Q I rx (w _ _ _ q)
/-- two cases -/
theorem OpR.both {f : Value → Value → Sem Value} {r : R2} (h : ∀ (pins : List (Addr × Obj)) (s : Shared) (σ : L2.St) (H : Hp) (x y : V) (v u : Value) (Q : VK), Inv X pins σ H s → RelV x v → RelV y u → r x y H Q →
    ∃ r' : R2, OpR X f r' ∧ r' x y H Q) : OpR X f r := fun pins s σ H x y v u Q I rx ry q => by
  obtain ⟨r', h1, h2⟩ := h pins s σ H x y v u Q I rx ry q
  exact h1 pins s σ H x y v u Q I rx ry h2

open AutoSeq1 MeetsSeq in
theorem list_add_any (l : Addr) (items : Array Value) (n : Nat) (sl : Array (Option Value)) (b : Addr) (items2 : Array Value) (n2 : Nat) (sl2 : Array (Option Value)) (hc0 : items.size + items2.size ≤ sizeLine) :
    Meets (Builtin.«list.__add__» ⟨[.ref l, .ref b], []⟩) (fun _ R s => s.heap.get? l = some { cls := .type "list", dict := none, data := .seq items n, slots := sl } ∧ s.heap.get? b = some { cls := .type "list", dict := none, data := .seq items2 n2, slots := sl2 } ∧
      R (.ok (.ret (Value.ref s.heap.objs.size))) { s with heap := s.heap.push { cls := Value.type "list", data := Data.seq (items ++ items2) } }) :=
  .of_wp fun prog w A R s h => by
    obtain ⟨hp, g, d, tk, os⟩ := s
    obtain ⟨hl, hb, h⟩ := h
    have f1 := idx_int
    have f2 := AutoSeq1.sub_tuple_tuple
    have f3 := AutoSeq1.sub_list_list
    have f4 := AutoSeq1.sub_tuple_list
    have f5 := AutoSeq1.sub_list_tuple
    wp_walk using wpAny_loadPart' hl, wpAny_loadPart' hb
    exact ⟨_, rfl, h⟩
/-- xs + ys of lists that are read -/
def rCatL (K : PySem.W.Frag) : R2 := fun x y H Q => ∃ a b xs ys, x = .ref a ∧ y = .ref b ∧ SqL K H a xs ∧ SqL K H b ys ∧ xs.length + ys.length ≤ sizeLine ∧ ∀ p, H p = none → Q (.ref p) (upd H p (.lst (xs ++ ys)))
theorem op_catL : OpR X (binaryOp .Add) (rCatL X.K) := by
  intro pins s σ H x y v u Q I rx ry h
  obtain ⟨l, b, xs, zs, rfl, rfl, hH, hB, hz, q⟩ := h
  cases rx
  cases ry
  obtain ⟨its, r, ⟨o, n, e, hc, hd, hs⟩, _⟩ := I.list hH
  obtain ⟨its2, r2, ⟨o2, n2, e2, hc2, hd2, hs2⟩, _⟩ := I.list hB
  obtain ⟨oc, od, oda, osl⟩ := o
  obtain ⟨oc2, od2, oda2, osl2⟩ := o2
  simp only at hc hd hs hc2 hd2 hs2
  subst hc hd hs hc2 hd2 hs2
  have l1 := r.length
  have l2 := r2.length
  refine concat_meets (prog := X.prog) (w := X.w) ⟨_, e, rfl⟩ ⟨_, e2, rfl⟩ noFill_list_add seq_list_add F.slot_list_add F.entry_list_add (F.args_list_add_2 _ _) (list_add_any l its.toArray n osl b its2.toArray n2 osl2 (by simp only [List.size_toArray]; omega)) ⟨e, e2, ?_⟩
  have ea : its.toArray ++ its2.toArray = (its ++ its2).toArray := by simp
  rw [ea]
  refine ⟨.ref s.heap.objs.size, _, I.laid (t' := s.toks) (o := .lst (xs ++ zs)) (fun b ob q => Heap.get?_push_of_some _ q) (Nat.le_refl _) ?_, rfl, q _ (I.hok.fresh (Nat.le_refl _))⟩
  exact ⟨by rw [List.length_append]; exact hz, its ++ its2, 0, r.append r2, Heap.get?_push_size _ rfl⟩

/-! ### operators -/
/-- t + u, a table -/
def rCatF (K : PySem.W.Frag) : R2 := fun x y H Q => ∃ a b xs ys, x = .ref a ∧ y = .ref b ∧ SqT K H a xs ∧ SqT K H b ys ∧ xs ≠ [] ∧ ys ≠ [] ∧ xs.length + ys.length ≤ sizeLine ∧ ∀ p (o : Obj), H p = none → o.dict = none → Q (.ref p) (upd H p (.frz o (.tup (xs ++ ys))))
theorem op_catF : OpR X (binaryOp .Add) (rCatF X.K) := by
  intro pins s σ H x y v u Q I rx ry h
  obtain ⟨a, b, xs, ys, rfl, rfl, ha, hb, hx, hy, hz, q2⟩ := h
  cases rx
  cases ry
  obtain ⟨its, r1, p1, _⟩ := I.tuple ha
  obtain ⟨its2, r2, p2, _⟩ := I.tuple hb
  refine HT.cat_tup p1 p2 (fun z => hx (r1.nil_iff.mp z)) (fun z => absurd (r2.nil_iff.mp z) hy) (fun z => ?_) (by rw [← r1.length, ← r2.length]; exact hz)
  exact ⟨.ref s.heap.objs.size, _, I.laid (t' := s.toks) (o := .frz _ (.tup (xs ++ ys))) (fun b ob q => Heap.get?_push_of_some _ q) (Nat.le_refl _) ⟨Heap.get?_push_size _ rfl, by rw [List.length_append]; exact hz, _, r1.append r2, IsTup.new _ _⟩, rfl, q2 _ _ (I.hok.fresh (Nat.le_refl _)) rfl⟩
theorem d_add : OpR X (binaryOp .Add) (rD2 X.K (sem2 .add)) := by
  refine OpR.both fun pins s σ H x y v u Q I rx ry h => ?_
  obtain ⟨S, d, e, z, hd, ha, hb, hz, q⟩ := h
  replace hz : addD d e = some z := hz
  unfold addD at hz
  split at hz
  · obtain rfl := ha.int
    obtain rfl := hb.int
    cases hz
    exact ⟨_, op_add, _, _, rfl, rfl, q _ _ (Sub.refl _) (.int _)⟩
  · obtain rfl := ha.str
    obtain rfl := hb.str
    split at hz
    · cases hz
      exact ⟨_, op_add_str, _, _, rfl, rfl, by assumption, q _ _ (Sub.refl _) (.str _)⟩
    · cases hz
  · rename_i dx dy
    obtain ⟨a, vs, rfl, h1, h2⟩ := ha.tup
    obtain ⟨b, ws, rfl, h3, h4⟩ := hb.tup
    split at hz
    · cases hz
      rename_i hl
      rw [← DpAll_length h2, ← DpAll_length h4] at hl
      by_cases hrw : rowsB (dx ++ dy) = true ∧ vs ≠ [] ∧ ws ≠ []
      · exact ⟨_, op_catF, a, b, vs, ws, rfl, rfl, h1.sqT, h3.sqT, hrw.2.1, hrw.2.2, hl, fun p o hp ho => q _ _ (Sub.new hp) (new_row hd hp (DpAll_append h2 h4) hrw.1 ho)⟩
      refine ⟨_, op_catA, a, b, vs, ws, rfl, rfl, h1.sqT, h3.sqT, hl, fun e => ?_, fun _ e => ?_, fun e1 e2 p hp => q _ _ (Sub.new hp) (new_tup hd hp (DpAll_append h2 h4) (by
        cases hr : rowsB (dx ++ dy) with
        | false => rfl
        | true => exact absurd ⟨hr, e1, e2⟩ hrw))⟩
      · subst e
        cases h2
        exact q _ _ (Sub.refl _) hb.dpt
      · subst e
        cases h4
        rw [List.append_nil] at q
        exact q _ _ (Sub.refl _) ha.dpt
    · cases hz
  · obtain ⟨a, vs, rfl, h1, h2⟩ := ha.lst
    obtain ⟨b, ws, rfl, h3, h4⟩ := hb.lst
    split at hz
    · cases hz
      rename_i hl
      rw [← DpAll_length h2, ← DpAll_length h4] at hl
      exact ⟨_, op_catL, a, b, vs, ws, rfl, rfl, h1, h3, hl, fun p hp => q _ _ (Sub.new hp) (new_lst hd hp (DpAll_append h2 h4))⟩
    · cases hz
  · cases hz
theorem d_sub : OpR X (binaryOp .Sub) (rD2 X.K (sem2 .sub)) := by
  refine OpR.both fun pins s σ H x y v u Q I rx ry h => ?_
  obtain ⟨S, d, e, z, hd, ha, hb, hz, q⟩ := h
  replace hz : subD d e = some z := hz
  unfold subD at hz
  split at hz
  · obtain rfl := ha.int
    obtain rfl := hb.int
    cases hz
    exact ⟨_, op_sub, _, _, rfl, rfl, q _ _ (Sub.refl _) (.int _)⟩
  · cases hz
theorem d_mul : OpR X (binaryOp .Mult) (rD2 X.K (sem2 .mul)) := by
  refine OpR.both fun pins s σ H x y v u Q I rx ry h => ?_
  obtain ⟨S, d, e, z, hd, ha, hb, hz, q⟩ := h
  replace hz : mulD d e = some z := hz
  unfold mulD at hz
  split at hz
  · split at hz
    · rename_i i j hc
      cases hz
      obtain rfl := ha.int
      obtain rfl := hb.int
      refine ⟨_, op_mul, i, j, rfl, rfl, ?_, q _ _ (Sub.refl _) (.int _)⟩
      simp only [smallInt, Bool.or_eq_true, Bool.and_eq_true, decide_eq_true_eq] at hc
      exact hc
    · cases hz
  · split at hz
    · rename_i xs k hc
      cases hz
      have hd' := ha.dpt
      obtain ⟨a, vs, rfl, ht, hv⟩ := ha.tup
      obtain rfl := hb.int
      by_cases h1 : vs = [] ∨ k = 1
      · have e : (List.replicate k.toNat xs).flatten = xs := by
          rcases h1 with h1 | h1
          · subst h1
            cases hv
            induction k.toNat with
            | zero => rfl
            | succ n ih => rw [List.replicate_succ, List.flatten_cons, ih]; rfl
          · subst h1
            simp
        rw [e] at q
        exact ⟨_, op_repT1, a, k, vs, rfl, rfl, ht.sqT, hc.1, hc.2.1, h1, q _ _ (Sub.refl _) hd'⟩
      · have n1 : vs ≠ [] := fun z => h1 (.inl z)
        have n2 : k ≠ 1 := fun z => h1 (.inr z)
        by_cases h0 : k ≤ 0
        · have e : (List.replicate k.toNat xs).flatten = [] := by
            have : k.toNat = 0 := by omega
            rw [this]; rfl
          rw [e] at q
          exact ⟨_, op_repT0, a, k, vs, rfl, rfl, ht.sqT, hc.1, h0, n1, fun p hp => q _ _ (Sub.new hp) (new_tup hd hp .nil rfl)⟩
        · exact ⟨_, op_repT, a, k, vs, rfl, rfl, ht.sqT, n1, by omega, hc.2.1, by rw [DpAll_length hv]; exact hc.2.2.1, fun p hp => q _ _ (Sub.new hp) (new_tup hd hp (DpAll_flat _ hv) (rowsB_rep (by omega) (by rcases hc.2.2.2 with z | z; exact z; omega)))⟩
    · cases hz
  · split at hz
    · rename_i xs k hc
      cases hz
      obtain ⟨a, vs, rfl, ht, hv⟩ := ha.lst
      obtain rfl := hb.int
      exact ⟨_, op_repL, a, k, vs, rfl, rfl, ht, hc.1, hc.2.1, by rw [DpAll_length hv]; exact hc.2.2, fun p hp => q _ _ (Sub.new hp) (new_lst hd hp (DpAll_flat _ hv))⟩
    · cases hz
  · cases hz
theorem d_mod : OpR X (binaryOp .Mod) (rD2 X.K (sem2 .mod)) := by
  refine OpR.both fun pins s σ H x y v u Q I rx ry h => ?_
  obtain ⟨S, d, e, z, hd, ha, hb, hz, q⟩ := h
  replace hz : modD d e = some z := hz
  unfold modD at hz
  split at hz
  · obtain rfl := ha.int
    obtain rfl := hb.int
    split at hz
    · cases hz
      exact ⟨_, op_mod, _, _, rfl, rfl, by assumption, q _ _ (Sub.refl _) (.int _)⟩
    · cases hz
  · cases hz
theorem d_pow : OpR X (binaryOp .Pow) (rD2 X.K (sem2 .pow)) := by
  refine OpR.both fun pins s σ H x y v u Q I rx ry h => ?_
  obtain ⟨S, d, e, z, hd, ha, hb, hz, q⟩ := h
  replace hz : powD d e = some z := hz
  unfold powD at hz
  split at hz
  · obtain rfl := ha.int
    obtain rfl := hb.int
    split at hz
    · cases hz
      exact ⟨_, op_pow, _, _, rfl, rfl, by assumption, q _ _ (Sub.refl _) (.int _)⟩
    · cases hz
  · cases hz

/-! ### comparisons -/
theorem notNone_ne {d : PyData} (h : notNone d = true) : d ≠ .none := fun e => by subst e; cases h
theorem depthOk_le {d : PyData} (h : depthOk d = true) : d.depth ≤ 100 := of_decide_eq_true h
theorem notDict_alike {d e : PyData} (h : PySem.W.alike d e = true) : (∀ q, d ≠ .dict q) ∧ ∀ q, e ≠ .dict q := by
  constructor
  · rintro q rfl
    cases e <;> simp [PySem.W.alike] at h
  · rintro q rfl
    cases d <;> simp [PySem.W.alike] at h
theorem noDict_ne {d : PyData} (h : noDict d = true) : ∀ q, d ≠ .dict q := fun q e => by subst e; cases h
theorem ARep.reads {pins : List (Addr × Obj)} {s : Shared} {σ : L2.St} {H : Hp} {x : V} {v : Value} {S : ASet} {d : PyData} (h : ARep X.K S H x d) (n : ∀ q, d ≠ .dict q) (I : Inv X pins σ H s) (rx : RelV x v) :
    (∃ as, Reads s.heap v d as) ∧ d.plain = true := by
  have h' := h.dp n
  exact ⟨L2.Dp.reads I d x v h'.to rx, Dp_plain d h'⟩
theorem d_eqB (hu : X.A.units + 200 < cLine) {neg : Bool} {f : CmpOp} (hf : ∀ {s : Shared} {a b : Value} {da db : PyData} {as bs : List Addr} {Q : Value → Shared → Prop} (ra : Reads s.heap a da as) (rb : Reads s.heap b db bs) (ha : da.plain = true) (hb : db.plain = true)
    (hu : X.A.units + min da.depth db.depth < cLine) (h : Q (.bool (if neg then !PyData.eqv da db else PyData.eqv da db)) s), wpAny (model X.prog X.w) X.A (compareOp f a b) Q X.xe s) :
    OpR X (compareOp f) (rD2 X.K fun a b => (eqD a b).map fun k => .bool (if neg then !k else k)) := by
  intro pins s σ H x y v u Q I rx ry h
  obtain ⟨S, d, e, z, hd, ha, hb, hz, q⟩ := h
  obtain ⟨k, hk, rfl⟩ := Option.map_eq_some_iff.mp hz
  unfold eqD at hk
  split at hk
  · rename_i hc
    simp only [Bool.and_eq_true] at hc
    obtain ⟨⟨n1, n2⟩, dd⟩ := hc
    obtain ⟨⟨as, r1⟩, p1⟩ := ha.reads (noDict_ne n1) I rx
    obtain ⟨⟨bs, r2⟩, p2⟩ := hb.reads (noDict_ne n2) I ry
    cases hk
    refine hf r1 r2 p1 p2 ?_ ⟨.bl _, H, I, rfl, q _ _ (Sub.refl _) (.bl _)⟩
    have hm : min d.depth e.depth ≤ 100 := by
      rcases (Bool.or_eq_true _ _).mp dd with z | z
      · exact Nat.le_trans (Nat.min_le_left _ _) (depthOk_le z)
      · exact Nat.le_trans (Nat.min_le_right _ _) (depthOk_le z)
    omega
  · cases hk
theorem d_eq (hu : X.A.units + 200 < cLine) : OpR X (compareOp .Eq) (rD2 X.K (sem2 .eq)) :=
  d_eqB (neg := false) hu fun ra rb ha hb hu h => SeqAt.eq_plain ra rb ha hb hu h
theorem d_ne (hu : X.A.units + 200 < cLine) : OpR X (compareOp .NotEq) (rD2 X.K (sem2 .ne)) :=
  d_eqB (neg := true) hu fun ra rb ha hb hu h => SeqAt.ne_plain ra rb ha hb hu h
theorem d_ltB (hu : X.A.units + 200 < cLine) {neg sw : Bool} {f : CmpOp} (hf : ∀ {s : Shared} {a b : Value} {da db : PyData} {as bs : List Addr} {Q : Value → Shared → Prop} (ra : Reads s.heap a da as) (rb : Reads s.heap b db bs) (ha : PySem.W.alike da db = true) (hb : da ≠ .none)
    (hu : X.A.units + min da.depth db.depth < cLine) (h : Q (.bool (let k := if sw then PySem.W.dataLt db da else PySem.W.dataLt da db; if neg then !k else k)) s), wpAny (model X.prog X.w) X.A (compareOp f a b) Q X.xe s) :
    OpR X (compareOp f) (rD2 X.K fun a b => (if sw then gtD a b else ltD a b).map fun k => .bool (if neg then !k else k)) := by
  intro pins s σ H x y v u Q I rx ry h
  obtain ⟨S, d, e, z, hd, ha, hb, hz, q⟩ := h
  have hc : cmpOk d e = true := by
    cases c : cmpOk d e with
    | true => rfl
    | false => cases sw <;> simp [gtD, ltD, c] at hz
  have hz2 : some (PyData.bool (let k := if sw then PySem.W.dataLt e d else PySem.W.dataLt d e; if neg then !k else k)) = some z := by
    cases sw <;> simpa [gtD, ltD, hc] using hz
  unfold cmpOk at hc
  simp only [Bool.and_eq_true] at hc
  obtain ⟨⟨al, n1⟩, dd⟩ := hc
  obtain ⟨m1, m2⟩ := notDict_alike al
  obtain ⟨⟨as, r1⟩, p1⟩ := ha.reads m1 I rx
  obtain ⟨⟨bs, r2⟩, p2⟩ := hb.reads m2 I ry
  cases hz2
  refine hf r1 r2 al (notNone_ne n1) ?_ ⟨.bl _, H, I, rfl, q _ _ (Sub.refl _) (.bl _)⟩
  have := depthOk_le dd
  have hm : min d.depth e.depth ≤ 100 := Nat.le_trans (Nat.min_le_left _ _) this
  omega
theorem d_lt (hu : X.A.units + 200 < cLine) : OpR X (compareOp .Lt) (rD2 X.K (sem2 .lt)) :=
  d_ltB (neg := false) (sw := false) hu fun ra rb ha hb hu h => PySem.W.lt_data ra rb ha hb hu h
theorem d_gt (hu : X.A.units + 200 < cLine) : OpR X (compareOp .Gt) (rD2 X.K (sem2 .gt)) :=
  d_ltB (neg := false) (sw := true) hu fun ra rb ha hb hu h => PySem.W.gt_data ra rb ha hb hu h
theorem d_le (hu : X.A.units + 200 < cLine) : OpR X (compareOp .LtE) (rD2 X.K (sem2 .le)) :=
  d_ltB (neg := true) (sw := true) hu fun ra rb ha hb hu h => PySem.W.le_data ra rb ha hb hu h
theorem d_ge (hu : X.A.units + 200 < cLine) : OpR X (compareOp .GtE) (rD2 X.K (sem2 .ge)) :=
  d_ltB (neg := true) (sw := false) hu fun ra rb ha hb hu h => PySem.W.ge_data ra rb ha hb hu h
theorem d_inD (hu : X.A.units + 200 < cLine) : OpR X (compareOp .In) (fun x y H Q => ∃ a o, y = .ref a ∧ DGet H a x o ∧ Q (.bl o.isSome) H) := by
  intro pins s σ H x y v u Q I rx ry h
  obtain ⟨a, o, rfl, g, q⟩ := h
  cases ry
  exact L2.d_in (by omega) I g rx fun s' I' => ⟨.bl _, H, I', rfl, q⟩
theorem d_notinD (hu : X.A.units + 200 < cLine) : OpR X (compareOp .NotIn) (fun x y H Q => ∃ a o, y = .ref a ∧ DGet H a x o ∧ Q (.bl (!o.isSome)) H) := by
  intro pins s σ H x y v u Q I rx ry h
  obtain ⟨a, o, rfl, g, q⟩ := h
  cases ry
  exact L2.d_notIn (by omega) I g rx fun s' I' => ⟨.bl _, H, I', rfl, q⟩
theorem d_inB (hu : X.A.units + 200 < cLine) {neg : Bool} {f : CmpOp}
    (hl : ∀ {s : Shared} {c x : Value} {xs : List PyData} {d : PyData} {as bs : List Addr} {Q : Value → Shared → Prop} (rc : Reads s.heap c (.list xs) as) (rx : Reads s.heap x d bs) (hxs : PyData.plainAll xs = true) (hd : d.plain = true)
      (hu : X.A.units + 1 + min (PyData.depthAll xs) d.depth < cLine) (h : Q (.bool (if neg then !(xs.any fun y => PyData.eqv y d) else xs.any fun y => PyData.eqv y d)) s), wpAny (model X.prog X.w) X.A (compareOp f x c) Q X.xe s)
    (ht : ∀ {s : Shared} {c x : Value} {xs : List PyData} {d : PyData} {as bs : List Addr} {Q : Value → Shared → Prop} (rc : Reads s.heap c (.tuple xs) as) (rx : Reads s.heap x d bs) (hxs : PyData.plainAll xs = true) (hd : d.plain = true)
      (hu : X.A.units + 1 + min (PyData.depthAll xs) d.depth < cLine) (h : Q (.bool (if neg then !(xs.any fun y => PyData.eqv y d) else xs.any fun y => PyData.eqv y d)) s), wpAny (model X.prog X.w) X.A (compareOp f x c) Q X.xe s)
    (hdd : OpR X (compareOp f) (fun x y H Q => ∃ a o, y = .ref a ∧ DGet H a x o ∧ Q (.bl (if neg then !o.isSome else o.isSome)) H))
    (hs : OpR X (compareOp f) (fun x y H Q => ∃ i j, x = .str i ∧ y = .str j ∧ Q (.bl (if neg then !(!(Builtin.Str.occurrences j i 0 j.length 1).isEmpty) else !(Builtin.Str.occurrences j i 0 j.length 1).isEmpty)) H)) :
    OpR X (compareOp f) (rD2 X.K fun a b => (inData a b).map fun k => .bool (if neg then !k else k)) := by
  intro pins s σ H x y v u Q I rx ry h
  obtain ⟨S, d, e, z, hd, ha, hb, hz, q⟩ := h
  obtain ⟨k, hk, rfl⟩ := Option.map_eq_some_iff.mp hz
  unfold inData at hk
  split at hk
  · split at hk
    · rename_i hc
      simp only [Bool.and_eq_true] at hc
      obtain ⟨n1, dd⟩ := hc
      obtain ⟨⟨as, r1⟩, p1⟩ := ha.reads (noDict_ne n1) I rx
      obtain ⟨⟨bs, r2⟩, p2⟩ := hb.reads (fun q e => by cases e) I ry
      cases hk
      refine hl r2 r1 (by simpa [PyData.plain] using p2) p1 ?_ ⟨.bl _, H, I, rfl, q _ _ (Sub.refl _) (.bl _)⟩
      have := depthOk_le dd
      have hm := Nat.le_trans (Nat.min_le_right (PyData.depthAll (by assumption)) d.depth) this
      omega
    · cases hk
  · split at hk
    · rename_i hc
      simp only [Bool.and_eq_true] at hc
      obtain ⟨n1, dd⟩ := hc
      obtain ⟨⟨as, r1⟩, p1⟩ := ha.reads (noDict_ne n1) I rx
      obtain ⟨⟨bs, r2⟩, p2⟩ := hb.reads (fun q e => by cases e) I ry
      cases hk
      refine ht r2 r1 (by simpa [PyData.plain] using p2) p1 ?_ ⟨.bl _, H, I, rfl, q _ _ (Sub.refl _) (.bl _)⟩
      have := depthOk_le dd
      have hm := Nat.le_trans (Nat.min_le_right (PyData.depthAll (by assumption)) d.depth) this
      omega
    · cases hk
  · split at hk
    · obtain rfl := ha.str
      obtain rfl := hb.str
      cases hk
      exact hs pins s σ H _ _ v u Q I rx ry ⟨_, _, rfl, rfl, q _ _ (Sub.refl _) (.bl _)⟩
    · cases hk
  · split at hk
    · rename_i qd hf
      cases hk
      obtain ⟨a, o, rfl, g, hh⟩ := dget_ok hb ha hf
      have ho : (dfind qd d).isSome = o.isSome := by
        rcases hh with ⟨h1, h2⟩ | ⟨w, dd, h1, h2, _⟩ <;> rw [h1, h2] <;> rfl
      rw [ho] at q
      exact hdd pins s σ H _ _ v u Q I rx ry ⟨a, o, rfl, g, q _ _ (Sub.refl _) (.bl _)⟩
    · cases hk
  · cases hk
theorem d_in (hu : X.A.units + 200 < cLine) : OpR X (compareOp .In) (rD2 X.K (sem2 .isin)) :=
  d_inB (neg := false) hu (fun rc rx hxs hd hu h => SeqAt.in_list_data rc rx hxs hd hu h) (fun rc rx hxs hd hu h => SeqAt.in_tuple_data rc rx hxs hd hu h) (d_inD hu) op_in_str
theorem d_notin (hu : X.A.units + 200 < cLine) : OpR X (compareOp .NotIn) (rD2 X.K (sem2 .notin)) :=
  d_inB (neg := true) hu (fun rc rx hxs hd hu h => SeqAt.notIn_list_data rc rx hxs hd hu h) (fun rc rx hxs hd hu h => SeqAt.notIn_tuple_data rc rx hxs hd hu h) (d_notinD hu) op_notin_str
end
end G6
-- ## SortTup
/-! # SortTup: tuples that are alike can be sorted, empty ones among them -/
namespace G6
open PySem PySem.W PySem.SeqAt PyProof.Rows PySem.Calls
section
variable {prog : Program} {w : World} {A : Around} {E : Value → Shared → Prop} {s : Shared}
theorem call_tuple_lt {Q : Value → Shared → Prop} {l b : Addr} {items items2 : Array Value} {e r : Nat → Bool} {o o2 : Obj} {n n2 : Nat} (ho : s.heap.get? l = some o) (hc : o.cls = .type "tuple") (hd : o.data = .seq items n) (ho2 : s.heap.get? b = some o2) (hc2 : o2.cls = .type "tuple") (hd2 : o2.data = .seq items2 n2)
    (he : ∀ j (h1 : j < items.size) (h2 : j < items2.size), EqAt A.in1 s items[j] items2[j] (e j)) (hr : ∀ j (h1 : j < items.size) (h2 : j < items2.size), e j = false → RcLt A.in1 s items[j] items2[j] (r j))
    (h : Q (.bool (firstLt e r (decide (items.size < items2.size)) (List.range (min items.size items2.size)))) s) : wpAny (model prog w) A (call (.builtin "tuple.__lt__") [.ref l, .ref b]) Q E s := by
  obtain ⟨cls, dd, data, sl⟩ := o
  obtain ⟨cls2, dd2, data2, sl2⟩ := o2
  simp only at hc hd hc2 hd2
  subst hc hd hc2 hd2
  exact call_meets F.slot_tuple_lt ⟨_, ho, rfl⟩ F.entry_tuple_lt (F.args_tuple_lt_2 _ _) (tuple_ltAt l b items items2 n n2 dd dd2 sl sl2 e r) ⟨ho, ho2, he, hr, h⟩
/-- one tuple against another -/
theorem oneLt_tup {xs ys : List PyData} {a b : Value} {as bs : List Addr} {Q : Bool → Shared → Prop} (ra : Reads s.heap a (.tuple xs) as) (rb : Reads s.heap b (.tuple ys) bs) (h : alike (.tuple xs) (.tuple ys) = true)
    (hu : A.units + min (PyData.tuple xs).depth (PyData.tuple ys).depth < cLine) (hq : Q (dataLt (.tuple xs) (.tuple ys)) s) : wpAny (model prog w) A (oneLt' true a b) Q E s := by
  have hal : alikeAll xs ys = true := by simpa [alike] using h
  cases ra with
  | @tuple l o vs n _ as₁ h1 h2 h3 h4 =>
    cases rb with
    | @tuple l' o' vs' n' _ bs₁ k1 k2 k3 k4 =>
      have n1 : vs.size = xs.length := by simpa using ReadsAll.length _ _ _ h4
      have n2 : vs'.size = ys.length := by simpa using ReadsAll.length _ _ _ k4
      rw [dataLt_tuple, ← firstLt_toks xs ys hal, ← n1, ← n2] at hq
      rw [oneLt'_eq]
      simp only [if_true]
      refine wpAny_bind (wpAny_cRoomFor (room_here hu) ?_)
      refine wpAny_bind (wpAny_callSpecialIfBound?_slot (T := "tuple") ⟨_, h1, h2⟩ F.slot_tuple_lt (call_tuple_lt (e := pairEq xs ys) (r := fun j => dataLt (xs.getD j .none) (ys.getD j .none)) h1 h2 h3 k1 k2 k3 (fun j j1 j2 => ?_) (fun j j1 j2 hj => ?_) ?_))
      · have := eqAt_alikeAll xs ys A.in1 s vs.toList vs'.toList _ _ h4 k4 hal (room_in hu) j (by simpa using j1) (by simpa using j2)
        simpa using this
      · have := rcLt_alikeAll xs ys A.in1 s vs.toList vs'.toList _ _ h4 k4 hal (room_in hu) j (by simpa using j1) (by simpa using j2) hj
        simpa using this
      · exact wpAny_truthy_bool hq
/-- the first items of tuples, if they have some -/
theorem firsts_any : ∀ {vs : List Value} {ds : List PyData} {Q : List (Option Value) → Shared → Prop}, EachIs (fun v d => ∃ as, Reads s.heap v d as) vs ds → (∀ d, d ∈ ds → ∃ xs, d = .tuple xs) →
    (∀ fs : List (Option Value), fs.map (·.isSome) = ds.map (fun d => match d with | .tuple (_ :: _) => true | _ => false) → Q fs s) → wpAny (model prog w) A (vs.mapM firstOfTuple') Q E s
  | _, _, Q, .nil, _, h => by
    rw [List.mapM_nil]
    exact wpAny_pure (h [] rfl)
  | _, _, Q, .cons (b := d) ⟨as, r⟩ t, ht, h => by
    obtain ⟨xs, rfl⟩ := ht d (List.mem_cons_self ..)
    rw [List.mapM_cons]
    refine wpAny_bind ?_
    cases r with
    | @tuple a o vs n _ _ ho hc hd hr =>
      rw [kas_first_eq]
      refine wpAny_bind (Looks.here (show Looks (model prog w) s.heap (typeOf (.ref a)) o.cls from (Looks.ld ho).andThen .now) ?_)
      rw [hc, if_neg (by first | decide | simp)]
      refine wpAny_bind (listItems_at ho hd (wpAny_pure ?_))
      refine wpAny_bind (firsts_any t (fun d hd => ht d (List.mem_cons_of_mem _ hd)) fun fs hfs => wpAny_pure (h _ ?_))
      simp only [List.map_cons, hfs]
      congr 1
      cases xs with
      | nil =>
        cases e : vs.toList with
        | nil => rw [← Array.getElem?_toList, e]; rfl
        | cons f fr => rw [e] at hr; cases hr
      | cons x r =>
        cases e : vs.toList with
        | nil => rw [e] at hr; cases hr
        | cons f fr => rw [← Array.getElem?_toList, e]; rfl
/-- tuples that are alike can be sorted -/
theorem SortsTup {vs : List Value} {ds : List PyData} (e : EachIs (fun v d => ∃ as, Reads s.heap v d as) vs ds) (hal : AllAlike ds) (ht : ∀ d, d ∈ ds → ∃ xs, d = .tuple xs) (hu : ∀ d, d ∈ ds → A.units + d.depth < cLine) : SortsAt prog w A s (dataKind s.heap ds) vs := by
  by_cases hne : ∀ d, d ∈ ds → ∃ x r, d = .tuple (x :: r)
  · exact SortsAt.data e hal (.inl hne) hu
  have room : ∀ {d d' : PyData}, d ∈ ds → A.units + min d.depth d'.depth < cLine := fun {d d'} hd => Nat.lt_of_le_of_lt (Nat.add_le_add_left (Nat.min_le_left _ _) _) (hu d hd)
  refine ⟨fun v hv => ?_, ?_⟩
  · obtain ⟨d, hd, as, r⟩ := e.left v hv
    exact ⟨_, dataKind_some hal hd r⟩
  have hsome : (ds.map (fun d => match d with | .tuple (_ :: _) => true | _ => false)).all id = false := by
    cases q : (ds.map (fun d => match d with | .tuple (_ :: _) => true | _ => false)).all id with
    | false => rfl
    | true =>
      exfalso
      refine hne fun d hd => ?_
      have := List.all_eq_true.mp q _ (List.mem_map_of_mem hd)
      obtain ⟨xs, rfl⟩ := ht d hd
      cases xs with
      | nil => cases this
      | cons x r => exact ⟨x, r, rfl⟩
  cases ds with
  | nil => exact absurd hsome (by simp)
  | cons d₀ ds₀ =>
    have kind : ∀ {Q : SortKind → Shared → Prop} {E : Value → Shared → Prop}, Q (match d₀ with | .tuple (_ :: _) => general' | _ => oneType') s → wpAny (model prog w) A (keyKind' vs.toArray) Q E s := fun {Q E} hq => by
      rw [keyKind'_eq, List.mapM_toArray, map_eq_pure_bind]
      refine wpAny_bind (wpAny_bind (firsts_any e ht fun fs hfs => wpAny_pure ?_))
      have hall : ¬ (fs.toArray.all fun x => x.isSome) = true := by
        rw [List.all_toArray]
        have : fs.all (fun x => x.isSome) = (fs.map (·.isSome)).all id := by rw [List.all_map]; rfl
        rw [this, hfs, hsome]
        simp
      rw [if_neg hall]
      obtain ⟨xs₀, rfl⟩ := ht d₀ (List.mem_cons_self ..)
      cases fs with
      | nil => simp at hfs
      | cons f₀ fs₀ =>
        simp only [List.map_cons, List.cons.injEq] at hfs
        have h0 : ((f₀ :: fs₀).toArray[0]?.bind id).isSome = f₀.isSome := by simp
        rw [h0, hfs.1]
        cases xs₀ with
        | cons x r =>
          simp only [if_true]
          exact wpAny_pure hq
        | nil =>
          simp only [Bool.false_eq_true, if_false]
          have hl : ∀ v ∈ vs, Looks (model prog w) s.heap (typeOf v) (.type "tuple") := fun v hv => by
            obtain ⟨d, hd, as, r⟩ := e.left v hv
            obtain ⟨xs, rfl⟩ := ht d hd
            exact looks_reads r
          rw [oneTypeOnly'_eq, List.mapM_toArray, map_eq_pure_bind]
          refine wpAny_bind (wpAny_bind (wpAny_bind (kas_mapM (r := Value.type "tuple") _ (fun v hv Q' hq => (hl v hv).here hq) (wpAny_pure ?_))))
          cases vs with
          | nil => cases e
          | cons v₀ vs₀ =>
            have hall : ((List.map (fun _ => Value.type "tuple") (v₀ :: vs₀)).toArray.all fun x => x == Value.type "tuple") = true := by
              simp only [List.all_toArray, List.all_map, List.all_eq_true]
              intro _ _
              rfl
            have h0 : (List.map (fun _ => Value.type "tuple") (v₀ :: vs₀)).toArray[0]? = some (Value.type "tuple") := by simp
            rw [h0]
            simp only [hall, if_true]
            exact wpAny_pure (wpAny_pure hq)
    refine ⟨_, ?_, fun _ E Q hq => kind hq⟩
    obtain ⟨xs₀, e₀⟩ := ht d₀ (List.mem_cons_self ..)
    intro E x y a b Q ha hb hq
    obtain ⟨d, as, hd, ra, rfl⟩ := dataKind_inv ha
    obtain ⟨d', as', hd', rb, rfl⟩ := dataKind_inv hb
    obtain ⟨xs, rfl⟩ := ht d hd
    obtain ⟨ys, rfl⟩ := ht d' hd'
    subst e₀
    cases xs₀ with
    | nil =>
      show wpAny (model prog w) A (keyLt' oneType' x y) Q E s
      rw [keyLt'_oneType]
      exact oneLt_tup ra rb (hal _ hd _ hd') (room hd) hq
    | cons x₀ r₀ =>
      show wpAny (model prog w) A (oneLt' false x y) Q E s
      exact oneLt_alike (fun h => by cases h) ra rb (hal _ hd _ hd') (by simp) (room hd) hq
def Sortable' (ds : List PyData) : Prop := Sortable ds ∨ ∀ d, d ∈ ds → ∃ xs, d = .tuple xs
theorem SortsAt.data' {vs : List Value} {ds : List PyData} (e : EachIs (fun v d => ∃ as, Reads s.heap v d as) vs ds) (hal : AllAlike ds) (hk : Sortable' ds) (hu : ∀ d, d ∈ ds → A.units + d.depth < cLine) : SortsAt prog w A s (dataKind s.heap ds) vs := by
  rcases hk with hk | hk
  · exact SortsAt.data e hal hk hu
  · exact SortsTup e hal hk hu
variable {β : Type} {vs : List Value} {bs : List β} {enc : β → PyData} {R : Value → β → Prop}
theorem list_sort_data' {a : Addr} {n : Nat} {Q : Value → Shared → Prop} (ho : s.heap.get? a = some (seqObj "list" vs.toArray n)) (e : EachIs R vs bs) (er : EachIs (fun v b => ∃ as, Reads s.heap v (enc b) as ∧ a ∉ as) vs bs) (hal : AllAlike (bs.map enc)) (hk : Sortable' (bs.map enc)) (hL : bs.length ≤ sizeLine)
    (hu : ∀ b, b ∈ bs → A.units + 1 + (enc b).depth < cLine) (h : ∀ out, out.length = bs.length → EachIs R out (bs.mergeSort (dataLe false enc)) → Q .none { s with heap := sortedHeap s.heap a vs (List.toArray out) }) :
    wpAny (model prog w) A (call (.builtin "list.sort") [.ref a]) Q E s := by
  have er' : EachIs (fun v b => ∃ as, Reads (sortingHeap s.heap a vs) v (enc b) as) vs bs := each_keepBut (h' := sortingHeap s.heap a vs) (fun _ _ hb q => sortingHeap_old hb q) (fun o q => by rw [ho] at q; rw [← Option.some.inj q]) hal er
  refine wpAny_call_entry slot_list_sort ⟨_, ho, rfl⟩ entry_list_sort (list_sort_vals (κ := dataKind (sortingHeap s.heap a vs) (bs.map enc)) ho (SortsAt.data' (s := { s with heap := sortingHeap s.heap a vs }) (each_map (R := fun v d => ∃ as, Reads (sortingHeap s.heap a vs) v d as) enc er') hal hk (bound_map hu)) (by rw [e.length]; exact hL) ⟨.none, rfl, ?_⟩) (args_list_sort _)
  exact h _ (by rw [sortVals_length false rfl]; exact e.length) (sortVals_data false e er' hal)
end
end G6
-- ## Ops1
/-! # Ops1: built-in calls of one argument, by data -/
namespace G6
open PySem PySem.Spec PyProof.Rows L2
section
variable {X : Cx}
theorem atI_DpAll {K : PySem.W.Frag} {H : Hp} {vs : List V} {ds : List PyData} {i : Int} {d : PyData} (h : DpAll K H vs ds) (e : atI ds i = some d) : ∃ v, atI vs i = some v ∧ Dp K H v d := by
  unfold atI at *
  rw [DpAll_length h]
  obtain ⟨j, h1, h2⟩ := Option.bind_eq_some_iff.mp e
  obtain ⟨v, h3, h4⟩ := DpAll_get h h2
  exact ⟨v, Option.bind_eq_some_iff.mpr ⟨j, h1, h3⟩, h4⟩
theorem subscriptTail_dict {prog : Program} {w : World} {A : Around} {E : Value → Shared → Prop} {s : Shared} {value slice : Expr} {o i : Value} {T id : String} {Q : Value → Shared → Prop} (hT : s.TypeIs o T)
    (hl : typeLookup (.type T) "__getitem__" = pure (some (.builtin id))) (h : wpAny (model prog w) A (getItem o i) Q E s) (hs : subscripted slice false o i = operate [o, i] (getItem o i)) : wpAny (model prog w) A (subscriptTail value slice o i) Q E s := by
  unfold subscriptTail
  refine wpAny_bind ?_
  rw [getitemInPython_of_ne hT.not_modules]
  refine wpAny_bind (wpAny_specialOf hT hl ?_)
  have fin : wpAny (model prog w) A (subscripted slice false o i) (fun r s₃ => wpAny (model prog w) A (letTemporaryGo value o r >>= fun _ => pure r) Q E s₃) E s := by
    rw [hs]
    exact wpAny_operating (wpAny_mono h (fun r s₃ h₃ => wpAny_bind (wpAny_letTemporaryGo (wpAny_pure h₃))) fun _ _ x => x)
  first
    | exact wpAny_pure (wpAny_bind fin)
    | exact wpAny_bind (wpAny_pure (wpAny_bind fin))
    | exact wpAny_bind fin
theorem d_idx (hu : X.A.units + 200 < cLine) : IxR X (rD2 X.K (sem2 .idx)) := by
  intro value slice pins s σ H x y v u Q I rx ry h hs
  obtain ⟨S, d, e, z, hd, ha, hb, hz, q⟩ := h
  replace hz : idxD d e = some z := hz
  unfold idxD at hz
  split at hz
  · obtain ⟨a, vs, rfl, h1, h2⟩ := ha.lst
    obtain rfl := hb.int
    obtain ⟨w, h3, h4⟩ := atI_DpAll h2 hz
    exact ix_list value slice pins s σ H _ _ v u Q I rx ry ⟨a, vs, _, w, rfl, rfl, h1, h3, q _ _ (Sub.refl _) h4⟩ hs
  · obtain ⟨a, vs, rfl, h1, h2⟩ := ha.tup
    obtain rfl := hb.int
    obtain ⟨w, h3, h4⟩ := atI_DpAll h2 hz
    exact ix_tup value slice pins s σ H _ _ v u Q I rx ry ⟨a, vs, _, w, rfl, rfl, h1.sqT, h3, q _ _ (Sub.refl _) h4⟩ hs
  · obtain rfl := ha.str
    obtain rfl := hb.int
    split at hz
    · obtain ⟨c, h3, h4⟩ := Option.map_eq_some_iff.mp hz
      subst h4
      exact ix_str value slice pins s σ H _ _ v u Q I rx ry ⟨_, _, c, rfl, rfl, by assumption, h3, q _ _ (Sub.refl _) (.str _)⟩ hs
    · cases hz
  · split at hz
    · rename_i qd kd hf
      obtain ⟨a, o, rfl, g, hh⟩ := dget_ok ha hb hf
      rcases hh with ⟨h1, h2⟩ | ⟨w, dd, h1, h2, h3⟩
      · rw [h2] at hz; cases hz
      · rw [h2] at hz
        cases hz
        subst h1
        cases rx
        exact subscriptTail_dict (dict_typeIs I g) PySem.F.slot_dict_getitem.lookup (L2.d_getItem (by omega) I g ry fun w' s3 I3 rw' => ⟨w, H, I3, rw', q _ _ (Sub.refl _) h3⟩) hs
    · cases hz
  · cases hz

theorem CallR.both {f : Value} {r : List V → Hp → VK → Prop} (h : ∀ (pins : List (Addr × Obj)) (s : Shared) (σ : L2.St) (H : Hp) (vs : List V) (us : List Value) (Q : VK), Inv X pins σ H s → Vals vs us → r vs H Q →
    ∃ r' : List V → Hp → VK → Prop, CallR X f r' ∧ r' vs H Q) : CallR X f r := fun pins s σ H vs us Q I rx q => by
  obtain ⟨r', h1, h2⟩ := h pins s σ H vs us Q I rx q
  exact h1 pins s σ H vs us Q I rx h2
theorem d_len : CallR X (.builtin "len") (rDC X.K (sem1 .len)) := by
  refine CallR.both fun pins s σ H vs us Q I rv h => ?_
  obtain ⟨x, rfl, S, d, z, hd, ha, hz, q⟩ := h
  replace hz : lenD d = some z := hz
  unfold lenD at hz
  split at hz
  · refine ⟨_, call_len, ?_⟩
    obtain ⟨a, vs, rfl, h1, h2⟩ := ha.lst
    cases hz
    exact ⟨_, _, rfl, Or.inl ⟨vs, h1, rfl⟩, q _ _ (Sub.refl _) (by rw [DpAll_length h2]; exact .int _)⟩
  · refine ⟨_, call_len, ?_⟩
    obtain ⟨a, vs, rfl, h1, h2⟩ := ha.tup
    cases hz
    exact ⟨_, _, rfl, Or.inr ⟨vs, h1.sqT, rfl⟩, q _ _ (Sub.refl _) (by rw [DpAll_length h2]; exact .int _)⟩
  · refine ⟨_, call_len, ?_⟩
    obtain rfl := ha.str
    split at hz
    · cases hz
      exact ⟨_, _, rfl, ⟨by assumption, rfl⟩, q _ _ (Sub.refl _) (.int _)⟩
    · cases hz
  · cases hz
    rcases ha with ha | ⟨a, rfl, ha⟩
    · cases ha
    · cases ha with
      | dK h1 h2 =>
        have := (rowsD_K h2).2
        cases this
      | @dT kvs q' h1 h2 =>
        refine ⟨_, L2.call_len_dT, a, kvs, rfl, h1, ?_⟩
        have hl : ∀ {l : List (List Key × V)} {m : List (PyData × PyData)}, RowsT X.K (Hid H S) l m → l.length = m.length := by
          intro l m h
          induction h with
          | nil => rfl
          | cons _ _ ih => simp [ih]
        rw [hl h2]
        exact q _ _ (Sub.refl _) (.int _)
  · cases hz
theorem d_list (hc : X.calm = true) : CallR X (.type "list") (rDC X.K (sem1 .list)) := by
  refine CallR.both fun pins s σ H vs us Q I rv h => ?_
  obtain ⟨x, rfl, S, d, z, hd, ha, hz, q⟩ := h
  replace hz : listD d = some z := hz
  unfold listD at hz
  split at hz
  · obtain ⟨a, vs, rfl, h1, h2⟩ := ha.lst
    cases hz
    refine ⟨_, call_list_of, ?_⟩
    exact ⟨_, _, rfl, Or.inl h1, fun p hp => q _ _ (Sub.new hp) (new_lst hd hp h2)⟩
  · obtain ⟨a, vs, rfl, h1, h2⟩ := ha.tup
    cases hz
    exact ⟨_, call_list_of, _, _, rfl, Or.inr (h1.sqT), fun p hp => q _ _ (Sub.new hp) (new_lst hd hp h2)⟩
  · cases hz
    obtain ⟨a, rfl, h⟩ := ha.dict
    rcases h with ⟨kvs, h1, h2⟩ | ⟨kvs, q', rfl, h1, h2⟩
    · refine ⟨_, call_list_dK hc, a, kvs, rfl, h1, fun p hp => q _ _ (Sub.new hp) (new_lst hd hp ?_)⟩
      unfold dictKeys
      rw [(rowsD_K h2).1]
      exact keys_K h2
    · refine ⟨_, call_list_dT hc, a, kvs, rfl, .inl h1, fun p bs hp hk => q _ _ (Sub.new hp) (new_lst hd hp ?_)⟩
      exact keys_T h2 hk fun b xs hb => Hid_iff.mpr ⟨hb, fun z => by
        obtain ⟨o, e, nt⟩ := hd b z
        rw [hb] at e
        cases e
        exact nt _ rfl⟩
  · cases hz
/-- the signs of a text -/
def sgV (x : Str) : List V := x.cps.toList.map fun c => .str ⟨#[c]⟩
theorem sgV_vals {x : Str} {acc : Array Value} (h : ItemsOf (SignAt x) acc x.cps.size) : Vals (sgV x) acc.toList := by
  have hl : acc.toList.length = x.cps.toList.length := by simpa using h.1
  have hg : ∀ j v, acc.toList[j]? = some v → ∃ (c : Nat) (u : Tok), x.cps.toList[j]? = some c ∧ v = Value.str ⟨#[c]⟩ u := fun j v e => by
    obtain ⟨c, u, h1, h2⟩ := h.2 j v (by rw [← Array.getElem?_toList]; exact e)
    exact ⟨c, u, by rw [Array.getElem?_toList]; exact h1, h2⟩
  unfold sgV
  generalize x.cps.toList = cs at hl hg
  generalize acc.toList = us at hl hg
  induction cs generalizing us with
  | nil =>
    cases us with
    | nil => exact .nil
    | cons u us => simp at hl
  | cons c cs ih =>
    cases us with
    | nil => simp at hl
    | cons u us =>
      obtain ⟨c', t, h1, h2⟩ := hg 0 u rfl
      simp only [List.getElem?_cons_zero, Option.some.injEq] at h1
      subst h1
      exact .cons ⟨t, h2⟩ (ih us (by simpa using hl) fun j v e => hg (j + 1) v e)
theorem sgV_all {K : PySem.W.Frag} {H : Hp} (x : Str) : DpAll K H (sgV x) (x.cps.toList.map fun c => .str ⟨#[c]⟩) := by
  unfold sgV
  generalize x.cps.toList = cs
  induction cs with
  | nil => exact .nil
  | cons c cs ih => exact .cons (.str _) ih
theorem call_tuple_txt (hc : X.calm = true) : CallR X (.type "tuple") (fun xs H Q => ∃ x : Str, xs = [.str x] ∧ x.cps.size ≤ sizeLine ∧ ∀ l, H l = none → Q (.ref l) (upd H l (.tup (sgV x)))) := by
  intro pins s σ H xs us Q I r h
  obtain ⟨x, rfl, hz, q⟩ := h
  obtain ⟨u, rfl, rx⟩ := vals1 r
  obtain ⟨t, rfl⟩ := rx
  refine call_tuple_str (I.ok.hd hc) x t (fun h' tk acc kp hacc => ?_) hz
  have hv := sgV_vals hacc
  have I1 : Inv X pins σ H { s with heap := h', toks := tk } := I.kept (t' := tk) kp
  have hl : (sgV x).length ≤ sizeLine := by simpa [sgV] using hz
  have I2 : Inv X pins σ (upd H h'.objs.size (.tup (sgV x))) { s with heap := h'.push { cls := .type "tuple", data := .seq acc }, toks := tk } :=
    I1.laid (t' := tk) (fun b o e => Heap.get?_push_of_some _ e) (Nat.le_refl _) (show ObjOk X.prog X.w _ _ _ (.tup (sgV x)) from ⟨hl, acc.toList, hv, by simpa using IsTup.new h' acc⟩)
  exact ⟨.ref h'.objs.size, _, I2, rfl, q _ (I1.hok.fresh (Nat.le_refl _))⟩
theorem rowsB_sg (x : Str) : rowsB (x.cps.toList.map fun c => .str ⟨#[c]⟩) = false := by
  cases x.cps.toList <;> rfl
/-- tuple(list), a table -/
theorem call_tuple_row : CallR X (.type "tuple") (fun xs H Q => ∃ p ys, xs = [.ref p] ∧ SqL X.K H p ys ∧ ∀ l (o : Obj), H l = none → o.dict = none → Q (.ref l) (upd H l (.frz o (.tup ys)))) := by
  intro pins s σ H xs us Q I r h
  obtain ⟨p, ys, rfl, hq, q⟩ := h
  obtain ⟨u, rfl, rx⟩ := vals1 r
  cases rx
  obtain ⟨its, r', pl, hz⟩ := I.list hq
  have hlen := r'.length
  refine call_tuple_list pl.isList (fun h' kp => ?_) (by simp only [List.size_toArray] <;> omega)
  have I1 : Inv X pins σ H { s with heap := h' } := I.kept (t' := s.toks) kp
  have I2 := I1.laid (t' := s.toks) (h' := h'.push { cls := .type "tuple", data := .seq its.toArray }) (fun b o e => Heap.get?_push_of_some _ e) (Nat.le_refl _) (show ObjOk X.prog X.w _ _ _ (.frz { cls := .type "tuple", data := .seq its.toArray } (.tup ys)) from ⟨Heap.get?_push_size _ rfl, hz, its, r', IsTup.new _ _⟩)
  exact ⟨.ref h'.objs.size, _, I2, rfl, q _ _ (I1.hok.fresh (Nat.le_refl _)) rfl⟩
theorem d_tuple (hc : X.calm = true) : CallR X (.type "tuple") (rDC X.K (sem1 .tuple)) := by
  refine CallR.both fun pins s σ H vs us Q I rv h => ?_
  obtain ⟨x, rfl, S, d, z, hd, ha, hz, q⟩ := h
  replace hz : tupleD d = some z := hz
  unfold tupleD at hz
  split at hz
  · rename_i dx
    obtain ⟨a, vs, rfl, h1, h2⟩ := ha.lst
    cases hz
    cases hr : rowsB dx with
    | false => exact ⟨_, call_tuple_of, _, _, rfl, Or.inl ⟨h1, fun p hp => q _ _ (Sub.new hp) (new_tup hd hp h2 hr)⟩⟩
    | true => exact ⟨_, call_tuple_row, _, _, rfl, h1, fun p o hp ho => q _ _ (Sub.new hp) (new_row hd hp h2 hr ho)⟩
  · refine ⟨_, call_tuple_of, ?_⟩
    have ha' := ha.dpt
    obtain ⟨a, vs, rfl, h1, h2⟩ := ha.tup
    cases hz
    exact ⟨_, _, rfl, Or.inr ⟨h1.sqT, q _ _ (Sub.refl _) ha'⟩⟩
  · split at hz
    · rename_i hl
      cases hz
      obtain rfl := ha.str
      exact ⟨_, call_tuple_txt hc, _, rfl, hl, fun p hp => q _ _ (Sub.new hp) (new_tup hd hp (sgV_all _) (rowsB_sg _))⟩
    · cases hz
  · cases hz
theorem d_all (hc : X.calm = true) : CallR X (.builtin "all") (rDC X.K (sem1 .all)) := by
  refine CallR.both fun pins s σ H vs us Q I rv h => ?_
  obtain ⟨x, rfl, S, d, z, hd, ha, hz, q⟩ := h
  replace hz : allD d = some z := hz
  refine ⟨_, cr_all hc, ?_⟩
  unfold allD at hz
  split at hz
  · obtain ⟨a, vs, rfl, h1, h2⟩ := ha.lst
    obtain ⟨bs, h3, h4⟩ := Option.map_eq_some_iff.mp hz
    subst h4
    rw [bools_eq h3] at h2
    rw [DpAll_bools h2] at h1
    exact ⟨_, bs, rfl, h1, q _ _ (Sub.refl _) (.bl _)⟩
  · cases hz
theorem d_any (hc : X.calm = true) : CallR X (.builtin "any") (rDC X.K (sem1 .any)) := by
  refine CallR.both fun pins s σ H vs us Q I rv h => ?_
  obtain ⟨x, rfl, S, d, z, hd, ha, hz, q⟩ := h
  replace hz : anyD d = some z := hz
  refine ⟨_, cr_any hc, ?_⟩
  unfold anyD at hz
  split at hz
  · obtain ⟨a, vs, rfl, h1, h2⟩ := ha.lst
    obtain ⟨bs, h3, h4⟩ := Option.map_eq_some_iff.mp hz
    subst h4
    rw [bools_eq h3] at h2
    rw [DpAll_bools h2] at h1
    exact ⟨_, bs, rfl, h1, q _ _ (Sub.refl _) (.bl _)⟩
  · cases hz
theorem d_int : CallR X (.type "int") (rDC X.K (sem1 .int)) := by
  refine CallR.both fun pins s σ H vs us Q I rv h => ?_
  obtain ⟨x, rfl, S, d, z, hd, ha, hz, q⟩ := h
  replace hz : intD d = some z := hz
  unfold intD at hz
  split at hz
  · obtain rfl := ha.int
    cases hz
    exact ⟨_, call_int1, .inl ⟨_, rfl, q _ _ (Sub.refl _) (.int _)⟩⟩
  · obtain rfl := ha.bool
    cases hz
    exact ⟨_, call_int1, .inr ⟨_, rfl, q _ _ (Sub.refl _) (.int _)⟩⟩
  · obtain rfl := ha.str
    split at hz
    · obtain ⟨n, h3, h4⟩ := Option.map_eq_some_iff.mp hz
      subst h4
      exact ⟨_, call_int_str, _, _, rfl, h3, by assumption, q _ _ (Sub.refl _) (.int _)⟩
    · cases hz
  · cases hz
theorem d_str : CallR X (.type "str") (rDC X.K (sem1 .str)) := by
  refine CallR.both fun pins s σ H vs us Q I rv h => ?_
  obtain ⟨x, rfl, S, d, z, hd, ha, hz, q⟩ := h
  replace hz : strD d = some z := hz
  unfold strD at hz
  split at hz
  · obtain rfl := ha.int
    split at hz
    · cases hz
      exact ⟨_, call_str_int, _, rfl, by assumption, q _ _ (Sub.refl _) (.str _)⟩
    · cases hz
  · cases hz

/-! ### sorted, max, min -/
theorem alikeList_iff {ds : List PyData} (h : alikeList ds = true) : PySem.W.AllAlike ds := by
  unfold alikeList at h
  simp only [List.all_eq_true] at h
  exact fun d hd d' hd' => h d hd d' hd'
theorem sortable_of {ds : List PyData} (h : (ds.all kindTuple || ds.all sortKind) = true) : Sortable' ds := by
  rcases (Bool.or_eq_true _ _).mp h with h | h
  · refine .inr fun d hd => ?_
    have := List.all_eq_true.mp h d hd
    cases d with
    | tuple xs => exact ⟨xs, rfl⟩
    | _ => cases this
  · refine .inl (.inr fun d hd => ?_)
    have := List.all_eq_true.mp h d hd
    cases d <;> first | (cases this; done) | exact ⟨by simp, by simp⟩
theorem each_pair {K : PySem.W.Frag} {H G : Hp} {R : Value → V × PyData → Prop} : ∀ {vs : List V} {ds : List PyData} {us : List Value}, DpAll K G vs ds → Vals vs us → (∀ v d u, Dp K G v d → RelV v u → R u (v, d)) → PySem.W.EachIs R us (vs.zip ds)
  | _, _, _, .nil, .nil, _ => .nil
  | _, _, _, .cons h1 h2, .cons r1 r2, f => .cons (f _ _ _ h1 r1) (each_pair (H := H) h2 r2 f)
theorem vals_of_each {R : Value → V × PyData → Prop} (f : ∀ u b, R u b → RelV b.1 u) : ∀ {us : List Value} {bs : List (V × PyData)}, PySem.W.EachIs R us bs → Vals (bs.map (·.1)) us
  | _, _, .nil => .nil
  | _, _, .cons h t => .cons (f _ _ h) (vals_of_each f t)
theorem dps_of_mem {K : PySem.W.Frag} {G : Hp} : ∀ {bs : List (V × PyData)}, (∀ b ∈ bs, Dp K G b.1 b.2) → DpAll K G (bs.map (·.1)) (bs.map (·.2))
  | [], _ => .nil
  | b :: r, h => .cons (h b List.mem_cons_self) (dps_of_mem fun c hc => h c (List.mem_cons_of_mem _ hc))
theorem zip_mem {K : PySem.W.Frag} {G : Hp} : ∀ {vs : List V} {ds : List PyData}, DpAll K G vs ds → ∀ b ∈ vs.zip ds, Dp K G b.1 b.2
  | _, _, .nil, b, h => by cases h
  | _, _, .cons h1 h2, b, h => by
    rcases List.mem_cons.mp h with rfl | h
    · exact h1
    · exact zip_mem h2 b h
theorem zip_snd {K : PySem.W.Frag} {G : Hp} {vs : List V} {ds : List PyData} (h : DpAll K G vs ds) : (vs.zip ds).map (·.2) = ds := by
  rw [List.map_snd_zip (by rw [DpAll_length h]; exact Nat.le_refl _)]
theorem alikeAll_of {xs : List PyData} (h1 : alikeList xs = true) (h2 : xs.all notNone = true) : PySem.W.AlikeAll xs :=
  ⟨fun x hx y hy => alikeList_iff h1 x hx y hy, fun x hx => notNone_ne (List.all_eq_true.mp h2 x hx)⟩
theorem depthAll_le : ∀ {xs : List PyData}, xs.all depthOk = true → PyData.depthAll xs ≤ 100
  | [], _ => by simp [PyData.depthAll]
  | x :: r, h => by
    simp only [List.all_cons, Bool.and_eq_true] at h
    have h1 := depthOk_le h.1
    have h2 := depthAll_le h.2
    simp only [PyData.depthAll]
    omega
theorem reads_at {pins : List (Addr × Obj)} {s : Shared} {σ : L2.St} {H G : Hp} {vs : List V} {ds : List PyData} {its : List Value} (I : Inv X pins σ H s) (h : DpAll X.K G vs ds) (sg : Sub G H) (r : Vals vs its) {i : Nat} {u : Value} (hu : its[i]? = some u) :
    ∃ v d as, vs[i]? = some v ∧ ds[i]? = some d ∧ Dp X.K G v d ∧ RelV v u ∧ Reads s.heap u d as := by
  have hl := r.length
  have hi : i < vs.length := by rw [hl]; exact (List.getElem?_eq_some_iff.mp hu).1
  have hv : vs[i]? = some vs[i] := List.getElem?_eq_getElem hi
  obtain ⟨u', h1, h2⟩ := r.get hv
  rw [hu] at h1
  cases h1
  obtain ⟨d, h3, h4⟩ := DpAll_get' h hv
  obtain ⟨as, h5⟩ := L2.Dp.reads I d _ u (Dp_sub sg d h4).to h2
  exact ⟨_, d, as, hv, h3, h4, h2, h5⟩
theorem d_mm (hu : X.A.units + 200 < cLine) {f : String} {g : PyData → List PyData → PyData}
    (rule : ∀ {s : Shared} {l : Addr} {vs : Array Value} {x : PyData} {xs : List PyData} {as : List Addr} {Q : Value → Shared → Prop} (hl : s.heap.IsList l vs) (hr : ReadsAll s.heap vs.toList (x :: xs) as) (ha : PySem.W.AlikeAll (x :: xs)) (hu : X.A.units + 1 + PyData.depthAll (x :: xs) < cLine)
      (h : ∀ (i : Nat) v h' tk bs, vs[i]? = some v → Reads h' v (g x xs) bs → (∀ b o, s.heap.get? b = some o → h'.get? b = some o) → Q v { s with heap := h', toks := tk }), X.A.handled = none → wpAny (model X.prog X.w) X.A (call (.builtin f) [.ref l]) Q X.xe s)
    (hc : X.calm = true) : CallR X (.builtin f) (rDC X.K fun d => match d with
      | .list (x :: xs) => if mmOk (x :: xs) then some (g x xs) else none
      | _ => none) := by
  intro pins s σ H vs us Q I rv h
  obtain ⟨x, rfl, S, d, z, hd, ha, hz, q⟩ := h
  dsimp only at hz
  split at hz
  · rename_i x0 xs
    split at hz
    · rename_i hk
      cases hz
      unfold mmOk at hk
      simp only [Bool.and_eq_true] at hk
      obtain ⟨⟨hal, hnn⟩, hdp⟩ := hk
      obtain ⟨a, vs, rfl, h1, h2⟩ := ha.lst
      rw [Vals.ref1 rv]
      obtain ⟨its, r, hl, hz⟩ := I.list h1
      obtain ⟨as, hr⟩ := L2.Dp.readsAll I _ _ its (DpAll_sub (Sub.hid _) _ h2).to r
      have hdl := depthAll_le hdp
      refine rule hl.isList (by simpa using hr) (alikeAll_of hal hnn) (by omega) (fun i v h' tk bs hv hrd hk => ?_) (I.ok.hd hc)
      obtain ⟨v', d', as', h3, h4, h5, h6, h7⟩ := reads_at I h2 (Sub.hid _) r (i := i) (u := v) (by simpa using hv)
      have hpl := Dp_plain d' h5
      have e : d' = g x0 xs := SeqAt.plain_unique d' _ v _ _ hpl (PyProof.Rows.Reads.keeps hk h7) hrd
      subst e
      exact ⟨v', H, I.kept hk, h6, q _ _ (Sub.refl _) h5⟩
    · cases hz
  · cases hz
theorem d_max (hu : X.A.units + 200 < cLine) (hc : X.calm = true) : CallR X (.builtin "max") (rDC X.K (sem1 .max)) := by
  refine CallR.weak (d_mm hu (fun hl hr ha hu h hh => PySem.W.max_list_data hh hl hr ha hu h) hc) fun vs H Q h => ?_
  obtain ⟨x, e, S, d, z, hd, ha, hz, q⟩ := h
  exact ⟨x, e, S, d, z, hd, ha, by have hz : maxOp d = some z := hz; unfold maxOp at hz; exact hz, q⟩
theorem d_min (hu : X.A.units + 200 < cLine) (hc : X.calm = true) : CallR X (.builtin "min") (rDC X.K (sem1 .min)) := by
  refine CallR.weak (d_mm hu (fun hl hr ha hu h hh => PySem.W.min_list_data hh hl hr ha hu h) hc) fun vs H Q h => ?_
  obtain ⟨x, e, S, d, z, hd, ha, hz, q⟩ := h
  exact ⟨x, e, S, d, z, hd, ha, by have hz : minOp d = some z := hz; unfold minOp at hz; exact hz, q⟩
end
end G6
-- ## Slots
/-! # Slots: storing to slots, letting a list go -/
namespace G6
open PySem PySem.Spec PyProof.Rows L2
section
variable {K : PySem.W.Frag} {mg : Str → Option Value} {B : ASet} {σ σ' σ1 σ2 : St} {H H' H1 H2 : Hp} {ρ ρ' ρ1 ρ2 : Rho}
theorem set_get {α : Type} {l : List α} {i j : Nat} {x y : α} (h : (l.set i x)[j]? = some y) : (j = i ∧ y = x) ∨ (j ≠ i ∧ l[j]? = some y) := by
  by_cases e : i = j
  · subst e
    by_cases hl : i < l.length
    · rw [List.getElem?_set_self hl] at h
      cases h
      exact .inl ⟨rfl, rfl⟩
    · rw [List.getElem?_eq_none (by simpa using hl)] at h
      cases h
  · rw [List.getElem?_set_ne e] at h
    exact .inr ⟨fun z => e z.symm, h⟩
/-- slot i no longer holds a list of its own: the owned ones grow less -/
theorem own_set {s : Sl} (hs : plainSl s = true) {i : Nat} {a : Addr} (h : Own σ (ρ.set i s) a) : Own σ ρ a := by
  obtain ⟨j, d, hm, hr⟩ := h
  have : j ≠ i ∧ MutAt ρ j d := by
    rcases hm with hm | hm
    · rcases set_get hm with ⟨_, e⟩ | ⟨n, e⟩
      · subst e; cases hs
      · exact ⟨n, .inl e⟩
    · rcases set_get hm with ⟨_, e⟩ | ⟨n, e⟩
      · subst e; cases hs
      · exact ⟨n, .inr e⟩
  exact ⟨j, d, this.2, hr⟩
theorem mut_set {s : Sl} (hs : plainSl s = true) {i j : Nat} {d : PyData} (h : MutAt (ρ.set i s) j d) : j ≠ i ∧ MutAt ρ j d := by
  rcases h with hm | hm
  · rcases set_get hm with ⟨_, e⟩ | ⟨n, e⟩
    · subst e; cases hs
    · exact ⟨n, .inl e⟩
  · rcases set_get hm with ⟨_, e⟩ | ⟨n, e⟩
    · subst e; cases hs
    · exact ⟨n, .inr e⟩
/-- the list in slot i is let go: it is plain data from now on -/
theorem Step.release (r : Rep K mg B σ H ρ) {i : Nat} {ds : List PyData} (h : ρ[i]? = some (.m (.list ds))) : Step K mg B σ H ρ σ H (ρ.set i (.v (.list ds))) ∧
    ∃ a, σ[i]? = some (some (.ref a)) ∧ Dp K (Hid H (Hs B σ (ρ.set i (.v (.list ds))))) (.ref a) (.list ds) := by
  obtain ⟨a, ha, hc, hb⟩ := r.cel i _ (.inl h)
  have less : ∀ x, Hs B σ (ρ.set i (.v (.list ds))) x → Hs B σ ρ x := fun x z => by
    rcases z with z | z
    · exact .inl z
    · exact .inr (own_set rfl z)
  have na : ¬ Hs B σ (ρ.set i (.v (.list ds))) a := fun z => by
    rcases z with z | ⟨j, d, z, e⟩
    · exact hb z
    · obtain ⟨n, z⟩ := mut_set rfl z
      exact n (r.inj j i d _ a z (.inl h) e ha)
  have dp : Dp K (Hid H (Hs B σ (ρ.set i (.v (.list ds))))) (.ref a) (.list ds) := by
    cases hc with
    | lst h1 h2 => exact .lst (SqL.of (Hid_iff.mpr ⟨h1, na⟩)) (DpAll_sub (Sub.less less) _ h2)
  refine ⟨⟨fun _ _ e _ => e, fun x z => .inl (own_set rfl z), fun j d e => ⟨rfl, d, ?_⟩, ?_⟩, a, ha, dp⟩
  · by_cases e' : j = i
    · subst e'; rw [h] at e; cases e
    · rw [List.getElem?_set_ne (Ne.symm e')]; exact e
  · refine ⟨by rw [List.length_set]; exact r.len, fun j d e => ?_, fun j d e => ?_, fun j x e => ?_, fun j k d e x m1 m2 h1 h2 => ?_, r.dom⟩
    · rcases set_get e with ⟨hj, e2⟩ | ⟨n, e2⟩
      · subst hj
        cases e2
        exact ⟨_, ha, dp⟩
      · obtain ⟨v, h1, h2⟩ := r.val j d e2
        exact ⟨v, h1, Dp_sub (Sub.less less) d h2⟩
    · obtain ⟨n, e⟩ := mut_set rfl e
      obtain ⟨b, h1, h2, h3⟩ := r.cel j d e
      exact ⟨b, h1, h2.stay (fun _ z => z) (Sub.less less), h3⟩
    · rcases set_get e with ⟨hj, e2⟩ | ⟨n, e2⟩
      · cases e2
      · exact r.fnc j x e2
    · exact r.inj j k d e x (mut_set rfl m1).2 (mut_set rfl m2).2 h1 h2

/-- what a plain slot must bear -/
def SlOk (K : PySem.W.Frag) (mg : Str → Option Value) (G : Hp) (v : V) : Sl → Prop
  | .un => True
  | .v d => Dp K G v d
  | .f x => ∃ f, v = .ref f ∧ mg x = some (.ref f)
  | _ => False
theorem own_put {s : Sl} (hs : plainSl s = true) {i : Nat} {v : Option V} {a : Addr} (h : Own (σ.set i v) (ρ.set i s) a) : Own σ ρ a := by
  obtain ⟨j, d, hm, hr⟩ := h
  obtain ⟨n, hm⟩ := mut_set hs hm
  rw [List.getElem?_set_ne (Ne.symm n)] at hr
  exact ⟨j, d, hm, hr⟩
/-- a store of plain data (or a function) to slot i -/
theorem Step.put (r : Rep K mg B σ H ρ) {i : Nat} {v : V} {s : Sl} (hp : plainSl s = true) (hf : freeAt ρ i = true) (hv : SlOk K mg (Hid H (Hs B σ ρ)) v s) : Step K mg B σ H ρ (σ.set i (some v)) H (ρ.set i s) := by
  have less : ∀ x, Hs B (σ.set i (some v)) (ρ.set i s) x → Hs B σ ρ x := fun x z => by
    rcases z with z | z
    · exact .inl z
    · exact .inr (own_put hp z)
  have hi : i < ρ.length := by
    unfold freeAt at hf
    cases e : ρ[i]? with
    | none => rw [e] at hf; cases hf
    | some x => exact (List.getElem?_eq_some_iff.mp e).1
  have hi' : i < σ.length := by rw [← r.len]; exact hi
  refine ⟨fun _ _ e _ => e, fun x z => .inl (own_put hp z), fun j d e => ?_, ?_⟩
  · have n : j ≠ i := fun z => by
      subst z
      unfold freeAt at hf
      rw [e] at hf; cases hf
    rw [List.getElem?_set_ne (Ne.symm n), List.getElem?_set_ne (Ne.symm n)]
    exact ⟨rfl, d, e⟩
  · refine ⟨by rw [List.length_set, List.length_set]; exact r.len, fun j d e => ?_, fun j d e => ?_, fun j x e => ?_, fun j k d e x m1 m2 h1 h2 => ?_, r.dom⟩
    · rcases set_get e with ⟨hj, e2⟩ | ⟨n, e2⟩
      · subst hj e2
        exact ⟨v, by rw [List.getElem?_set_self hi'], Dp_sub (Sub.less less) d hv⟩
      · obtain ⟨w, h1, h2⟩ := r.val j d e2
        exact ⟨w, by rw [List.getElem?_set_ne (Ne.symm n)]; exact h1, Dp_sub (Sub.less less) d h2⟩
    · obtain ⟨n, e⟩ := mut_set hp e
      obtain ⟨b, h1, h2, h3⟩ := r.cel j d e
      exact ⟨b, by rw [List.getElem?_set_ne (Ne.symm n)]; exact h1, h2.stay (fun _ z => z) (Sub.less less), h3⟩
    · rcases set_get e with ⟨hj, e2⟩ | ⟨n, e2⟩
      · subst hj e2
        obtain ⟨f, h1, h2⟩ := hv
        exact ⟨f, by rw [List.getElem?_set_self hi', h1], h2⟩
      · obtain ⟨f, h1, h2⟩ := r.fnc j x e2
        exact ⟨f, by rw [List.getElem?_set_ne (Ne.symm n)]; exact h1, h2⟩
    · obtain ⟨n1, m1⟩ := mut_set hp m1
      obtain ⟨n2, m2⟩ := mut_set hp m2
      rw [List.getElem?_set_ne (Ne.symm n1)] at h1
      rw [List.getElem?_set_ne (Ne.symm n2)] at h2
      exact r.inj j k d e x m1 m2 h1 h2

/-- a new list or dict at a, its contents in G -/
inductive NewCell (K : PySem.W.Frag) (G : Hp) (H : Hp) (a : Addr) : PyData → Prop
  | lst {vs : List V} {ds : List PyData} : H a = some (.lst vs) → DpAll K G vs ds → NewCell K G H a (.list ds)
  | dK {kvs : List (Key × V)} {q : List (PyData × PyData)} : H a = some (.dK kvs) → RowsK K G kvs q → NewCell K G H a (.dict q)
  | dT {kvs : List (List Key × V)} {q : List (PyData × PyData)} : H a = some (.dT kvs) → RowsT K G kvs q → NewCell K G H a (.dict ((.none, .none) :: q))
theorem NewCell.cell {S : ASet} {G : Hp} {a : Addr} {d : PyData} (c : NewCell K G H a d) (s : Sub G (Hid H S)) : Cell K S H a d := by
  cases c with
  | lst h1 h2 => exact .lst h1 (DpAll_sub s _ h2)
  | dK h1 h2 => exact .dK h1 (RowsK_sub s h2)
  | dT h1 h2 => exact .dT h1 (RowsT_sub s h2)
/-- a store of a fresh list to slot i: it was laid behind H1 -/
theorem Step.putM {ρ₀ : Rho} {H₀ : Hp} (s0 : Step K mg B σ H₀ ρ₀ σ H1 ρ) {i : Nat} {a : Addr} {d : PyData} (hf : freeAt ρ i = true) (hn : H1 a = none) (hs : Sub H1 H) (hc : NewCell K (Hid H1 (Hs B σ ρ)) H a d) :
    Step K mg B σ H₀ ρ₀ (σ.set i (some (.ref a))) H (ρ.set i (.m d)) := by
  have r := s0.rep
  have hi : i < ρ.length := by
    unfold freeAt at hf
    cases e : ρ[i]? with
    | none => rw [e] at hf; cases hf
    | some x => exact (List.getElem?_eq_some_iff.mp e).1
  have hi' : i < σ.length := by rw [← r.len]; exact hi
  have own : ∀ x, Own (σ.set i (some (.ref a))) (ρ.set i (.m d)) x → Own σ ρ x ∨ x = a := fun x z => by
    obtain ⟨j, e, hm, hr⟩ := z
    by_cases n : j = i
    · subst n
      rw [List.getElem?_set_self hi'] at hr
      cases hr
      exact .inr rfl
    · rw [List.getElem?_set_ne (Ne.symm n)] at hr
      refine .inl ⟨j, e, ?_, hr⟩
      unfold MutAt at hm ⊢
      rwa [List.getElem?_set_ne (Ne.symm n)] at hm
  have sub : Sub (Hid H1 (Hs B σ ρ)) (Hid H (Hs B (σ.set i (some (.ref a))) (ρ.set i (.m d)))) := fun x o h => by
    rw [Hid_iff] at *
    refine ⟨hs x o h.1, fun z => ?_⟩
    rcases z with z | z
    · exact h.2 (.inl z)
    · rcases own x z with z | z
      · exact h.2 (.inr z)
      · subst z; rw [hn] at h; cases h.1
  have mutn : ∀ {j : Nat} {e : PyData}, MutAt (ρ.set i (.m d)) j e → (j = i ∧ e = d) ∨ (j ≠ i ∧ MutAt ρ j e) := fun {j e} m => by
    rcases m with m | m
    · rcases set_get m with ⟨h1, h2⟩ | ⟨h1, h2⟩
      · cases h2; exact .inl ⟨h1, rfl⟩
      · exact .inr ⟨h1, .inl h2⟩
    · rcases set_get m with ⟨h1, h2⟩ | ⟨h1, h2⟩
      · cases h2
      · exact .inr ⟨h1, .inr h2⟩
  have nota : ∀ {j : Nat} {e : PyData}, MutAt ρ j e → σ[j]? ≠ some (some (.ref a)) := fun {j e} m h => by
    obtain ⟨o, q, _⟩ := r.owned ⟨j, e, m, h⟩
    rw [hn] at q; cases q
  refine ⟨fun x o h n => hs x o (s0.keep x o h n), fun x z => ?_, fun j e h => ?_, ?_⟩
  · rcases own x z with z | z
    · exact s0.own x z
    · subst z
      by_cases n : Own σ ρ₀ x
      · exact .inl n
      · refine .inr ?_
        cases e : H₀ x with
        | none => rfl
        | some o => have := s0.keep x o e n; rw [hn] at this; cases this
  · obtain ⟨e1, d1, h1⟩ := s0.bor j e h
    have n : j ≠ i := fun z => by
      subst z
      unfold freeAt at hf
      rw [h1] at hf; cases hf
    rw [List.getElem?_set_ne (Ne.symm n), List.getElem?_set_ne (Ne.symm n)]
    exact ⟨e1, d1, h1⟩
  · refine ⟨by rw [List.length_set, List.length_set]; exact r.len, fun j e h => ?_, fun j e h => ?_, fun j x h => ?_, fun j k e e' x m1 m2 h1 h2 => ?_, fun x h => ?_⟩
    · rcases set_get h with ⟨_, e2⟩ | ⟨n, e2⟩
      · cases e2
      · obtain ⟨w, h1, h2⟩ := r.val j e e2
        exact ⟨w, by rw [List.getElem?_set_ne (Ne.symm n)]; exact h1, Dp_sub sub e h2⟩
    · rcases mutn h with ⟨h1, h2⟩ | ⟨n, m⟩
      · subst h1 h2
        refine ⟨a, by rw [List.getElem?_set_self hi'], hc.cell sub, fun z => ?_⟩
        obtain ⟨o, q, _⟩ := r.dom a z
        rw [hn] at q; cases q
      · obtain ⟨b, h1, h2, h3⟩ := r.cel j e m
        exact ⟨b, by rw [List.getElem?_set_ne (Ne.symm n)]; exact h1, h2.stay (hs b) sub, h3⟩
    · rcases set_get h with ⟨_, e2⟩ | ⟨n, e2⟩
      · cases e2
      · obtain ⟨f, h1, h2⟩ := r.fnc j x e2
        exact ⟨f, by rw [List.getElem?_set_ne (Ne.symm n)]; exact h1, h2⟩
    · rcases mutn m1 with ⟨a1, _⟩ | ⟨n1, m1'⟩
      · rcases mutn m2 with ⟨a2, _⟩ | ⟨n2, m2'⟩
        · rw [a1, a2]
        · subst a1
          rw [List.getElem?_set_self hi'] at h1
          cases h1
          rw [List.getElem?_set_ne (Ne.symm n2)] at h2
          exact absurd h2 (nota m2')
      · rw [List.getElem?_set_ne (Ne.symm n1)] at h1
        rcases mutn m2 with ⟨a2, _⟩ | ⟨n2, m2'⟩
        · subst a2
          rw [List.getElem?_set_self hi'] at h2
          cases h2
          exact absurd h1 (nota m1')
        · rw [List.getElem?_set_ne (Ne.symm n2)] at h2
          exact r.inj j k e e' x m1' m2' h1 h2
    · obtain ⟨o, q, nt⟩ := r.dom x h
      exact ⟨o, hs x o q, nt⟩
/-- the list in slot i is changed in its place: H' differs from H at its address alone -/
theorem Step.chg (r : Rep K mg B σ H ρ) {i : Nat} {d d' : PyData} {a : Addr} {s' : Sl} (hm : MutAt ρ i d) (ha : σ[i]? = some (some (.ref a))) (hs' : (ρ[i]? = some (.m d) ∧ s' = .m d') ∨ (ρ[i]? = some (.b d) ∧ s' = .b d'))
    (keep : ∀ x o, x ≠ a → H x = some o → H' x = some o) (hc : Cell K (Hs B σ ρ) H' a d') : Step K mg B σ H ρ σ H' (ρ.set i s') ∧ Hs B σ (ρ.set i s') = Hs B σ ρ := by
  have hi : i < ρ.length := by
    rcases hm with hm | hm <;> exact (List.getElem?_eq_some_iff.mp hm).1
  have mutn : ∀ {j : Nat} {e : PyData}, MutAt (ρ.set i s') j e → (j = i ∧ e = d') ∨ (j ≠ i ∧ MutAt ρ j e) := fun {j e} m => by
    by_cases n : j = i
    · subst n
      unfold MutAt at m
      rw [List.getElem?_set_self hi] at m
      rcases hs' with ⟨_, rfl⟩ | ⟨_, rfl⟩
      · rcases m with m | m <;> cases m; exact .inl ⟨rfl, rfl⟩
      · rcases m with m | m <;> cases m; exact .inl ⟨rfl, rfl⟩
    · unfold MutAt at m
      rw [List.getElem?_set_ne (Ne.symm n)] at m
      exact .inr ⟨n, m⟩
  have own : ∀ x, Own σ (ρ.set i s') x ↔ Own σ ρ x := fun x => by
    constructor
    · rintro ⟨j, e, m, h⟩
      rcases mutn m with ⟨h1, _⟩ | ⟨_, m⟩
      · subst h1; exact ⟨j, d, hm, h⟩
      · exact ⟨j, e, m, h⟩
    · rintro ⟨j, e, m, h⟩
      by_cases n : j = i
      · subst n
        refine ⟨j, d', ?_, h⟩
        unfold MutAt
        rw [List.getElem?_set_self hi]
        rcases hs' with ⟨_, rfl⟩ | ⟨_, rfl⟩
        · exact .inl rfl
        · exact .inr rfl
      · refine ⟨j, e, ?_, h⟩
        unfold MutAt at m ⊢
        rwa [List.getElem?_set_ne (Ne.symm n)]
  have owna : Own σ ρ a := ⟨i, d, hm, ha⟩
  have hse : Hs B σ (ρ.set i s') = Hs B σ ρ := by
    funext x
    apply propext
    constructor
    · rintro (z | z)
      · exact .inl z
      · exact .inr ((own x).mp z)
    · rintro (z | z)
      · exact .inl z
      · exact .inr ((own x).mpr z)
  have sub : Sub (Hid H (Hs B σ ρ)) (Hid H' (Hs B σ (ρ.set i s'))) := fun x o h => by
    rw [Hid_iff] at *
    refine ⟨keep x o (fun z => by subst z; exact h.2 (.inr owna)) h.1, fun z => ?_⟩
    rcases z with z | z
    · exact h.2 (.inl z)
    · exact h.2 (.inr ((own x).mp z))
  obtain ⟨a', ha', _, nb⟩ := r.cel i d hm
  rw [ha] at ha'; cases ha'
  refine ⟨?_, hse⟩
  refine ⟨fun x o h n => keep x o (fun z => by subst z; exact n owna) h, fun x z => .inl ((own x).mp z), fun j e h => ?_, ?_⟩
  · refine ⟨rfl, ?_⟩
    by_cases n : j = i
    · subst n
      rcases hs' with ⟨q, _⟩ | ⟨_, rfl⟩
      · rw [h] at q; cases q
      · exact ⟨d', by rw [List.getElem?_set_self hi]⟩
    · exact ⟨e, by rw [List.getElem?_set_ne (Ne.symm n)]; exact h⟩
  · have plain : ∀ {j : Nat} {t : Sl}, plainSl t = true → (ρ.set i s')[j]? = some t → ρ[j]? = some t := fun {j t} ht h => by
      rcases set_get h with ⟨_, e2⟩ | ⟨n, e2⟩
      · subst e2
        rcases hs' with ⟨_, rfl⟩ | ⟨_, rfl⟩ <;> cases ht
      · exact e2
    refine ⟨by rw [List.length_set]; exact r.len, fun j e h => ?_, fun j e h => ?_, fun j x h => r.fnc j x (plain rfl h), fun j k e e' x m1 m2 h1 h2 => ?_, fun x h => ?_⟩
    · obtain ⟨w, h1, h2⟩ := r.val j e (plain rfl h)
      exact ⟨w, h1, Dp_sub sub e h2⟩
    · rcases mutn h with ⟨h1, h2⟩ | ⟨n, m⟩
      · subst h1 h2
        exact ⟨a, ha, by rw [hse]; exact hc, nb⟩
      · obtain ⟨b, h1, h2, h3⟩ := r.cel j e m
        refine ⟨b, h1, h2.stay (fun o q => keep b o (fun z => ?_) q) sub, h3⟩
        subst z
        exact n (r.inj j i e d b m hm h1 ha)
    · have f : ∀ {j : Nat} {e : PyData}, MutAt (ρ.set i s') j e → ∃ e', MutAt ρ j e' := fun {j e} m => by
        rcases mutn m with ⟨h1, _⟩ | ⟨_, m⟩
        · subst h1; exact ⟨d, hm⟩
        · exact ⟨e, m⟩
      obtain ⟨_, m1⟩ := f m1
      obtain ⟨_, m2⟩ := f m2
      exact r.inj j k _ _ x m1 m2 h1 h2
    · obtain ⟨o, q, nt⟩ := r.dom x h
      exact ⟨o, keep x o (fun z => by subst z; exact nb h) q, nt⟩
end
end G6
-- ## Cons
/-! # Con: each construct by itself -/
namespace G6
open PySem PySem.Spec PyProof.Rows L2
section
variable {X : Cx} {B : ASet} {W : WX} {Φ : Fenv} {pos : Pos}
abbrev tEX (X : Cx) (B : ASet) (W : WX) (f : Rho → R Pv) : TE := tE X.K X.mg B W f
abbrev tEsX (X : Cx) (B : ASet) (W : WX) (f : Rho → R (List Pv)) : TA := tEs X.K X.mg B W f
abbrev tBX (X : Cx) (B : ASet) (W : WX) (f : Rho → R Bool) : TT := tB' X.K X.mg B W f
abbrev PostE (X : Cx) (B : ASet) (W : WX) (σ : St) (H : Hp) (ρ : Rho) (r : R Pv) (Q : VK) : Prop := Post X.K X.mg B W (RepP X.K X.mg B σ) σ H ρ r Q

theorem post_lift {σ : St} {H : Hp} {ρ : Rho} {o : Option PyData} {Q : VK} (h : PostE X B W σ H ρ (lift o ρ) Q) (r : Rep X.K X.mg B σ H ρ) :
    ∃ z, o = some z ∧ ∀ w H', Sub H H' → Dp X.K (Hid H' (Hs B σ ρ)) w z → Q w H' := by
  cases o with
  | none => exact h.elim
  | some z => exact ⟨z, rfl, fun w H' s d => h w H' (Step.ext r s) d⟩
theorem Rep.domS {σ : St} {H : Hp} {ρ : Rho} (r : Rep X.K X.mg B σ H ρ) : DomS (Hs B σ ρ) H := fun a h => r.hsDom h

/-! ### names, constants -/
theorem s_var {i : Nat} {x : Str} (h : PE X (.Name x pos) (tVar i)) : PE X (.Name x pos) (tEX X B W (den Φ (.var i))) := by
  refine PE.weak h fun σ H Q ⟨ρ, r, q⟩ => ?_
  simp only [den] at q
  cases e : ρ[i]? with
  | none => rw [e] at q; exact q.elim
  | some s =>
    rw [e] at q
    cases s with
    | un => exact q.elim
    | b d => exact q.elim
    | v d =>
      obtain ⟨v, h1, h2⟩ := r.val i d e
      exact ⟨v, h1, q v H (Step.refl r) h2⟩
    | f y =>
      obtain ⟨f, h1, h2⟩ := r.fnc i y e
      exact ⟨.ref f, h1, q _ H (Step.refl r) ⟨f, rfl, h2⟩⟩
    | m d =>
      cases d with
      | list ds =>
        obtain ⟨st, a, h1, h2⟩ := Step.release r e
        exact ⟨.ref a, h1, q _ H st h2⟩
      | _ => exact q.elim
theorem s_pk {i : Nat} {x : Str} (h : PE X (.Name x pos) (tVar i)) : PE X (.Name x pos) (tEX X B W (den Φ (.pk i))) := by
  refine PE.weak h fun σ H Q ⟨ρ, r, q⟩ => ?_
  simp only [den] at q
  cases e : ρ[i]? with
  | none => rw [e] at q; exact q.elim
  | some s =>
    rw [e] at q
    cases s with
    | un => exact q.elim
    | v d =>
      obtain ⟨v, h1, h2⟩ := r.val i d e
      exact ⟨v, h1, q v H (Step.refl r) h2⟩
    | f y => exact q.elim
    | m d =>
      obtain ⟨a, h1, _⟩ := r.cel i d (.inl e)
      exact ⟨_, h1, q _ H (Step.refl r) h1⟩
    | b d =>
      obtain ⟨a, h1, _⟩ := r.cel i d (.inr e)
      exact ⟨_, h1, q _ H (Step.refl r) h1⟩
theorem s_con {e : Expr} {d : PyData} {v : V} (h : PE X e (tC v)) (hd : ∀ H, Dp X.K H v d) {f : Rho → R Pv} (hf : ∀ ρ, f ρ = .ok (.dat d) ρ) : PE X e (tEX X B W f) := by
  refine PE.weak h fun σ H Q ⟨ρ, r, q⟩ => ?_
  rw [hf] at q
  exact q v H (Step.refl r) (hd _)
theorem s_fnv {e : Expr} {x : Str} {a : Addr} (h : PE X e (tC (.ref a))) (hx : X.mg x = some (.ref a)) : PE X e (tEX X B W (den Φ (.fnv x))) := by
  refine PE.weak h fun σ H Q ⟨ρ, r, q⟩ => ?_
  exact q (.ref a) H (Step.refl r) ⟨a, rfl, hx⟩

/-! ### argument lists -/
theorem s_nil : PA X [] (tEsX X B W (dens Φ .nil)) := PA.weak pa_nil fun σ H Q ⟨ρ, r, q⟩ => q [] H (Step.refl r) trivial
theorem s_cons {e : Expr} {es : List Expr} {c : E} {cs : Es} (h1 : PE X e (tEX X B W (den Φ c))) (h2 : PA X es (tEsX X B W (dens Φ cs))) (hs : starEach (e :: es) X.env = (false, eval e X.env) :: starEach es X.env) :
    PA X (e :: es) (tEsX X B W (dens Φ (.cons c cs))) := by
  refine PA.weak (pa_cons h1 h2 hs) fun σ H Q ⟨ρ, r, q⟩ => ?_
  simp only [dens] at q
  refine ⟨ρ, r, (Post.bind q).mono fun v H1 ⟨p, ρ1, _, st1, rp1, q1⟩ => ⟨ρ1, st1.rep, (Post.bind q1).mono fun vs H2 ⟨ps, ρ2, _, st2, rp2, q2⟩ => ?_⟩⟩
  exact q2 (v :: vs) H2 (Step.refl st2.rep) ⟨rp1.step st2, rp2⟩
theorem repPs_alls {σ : St} {H : Hp} {ρ : Rho} : ∀ {vs : List V} {ps : List Pv} {ds : List PyData}, RepPs X.K X.mg B σ ρ H vs ps → alls ps = some ds → DpAll X.K (Hid H (Hs B σ ρ)) vs ds
  | [], [], ds, _, e => by simp only [alls, Option.some.injEq] at e; subst e; exact .nil
  | v :: vs, p :: ps, ds, h, e => by
    cases p with
    | dat d =>
      simp only [alls, Option.map_eq_some_iff] at e
      obtain ⟨es, h1, h2⟩ := e
      subst h2
      exact .cons h.1 (repPs_alls h.2 h1)
    | «at» i => simp [alls] at e
    | tmp d => simp [alls] at e
    | fn x => simp [alls] at e
  | [], _ :: _, _, h, _ => h.elim
  | _ :: _, [], _, h, _ => h.elim
/-- a tuple display; what is known of its object, as one likes -/
def tTupF (t : TA) : TE := fun σ H Q => t σ H fun xs H1 => xs.length ≤ sizeLine ∧ ((∀ p, H1 p = none → Q (.ref p) (upd H1 p (.tup xs))) ∨ ∀ p (o : Obj), H1 p = none → o.dict = none → Q (.ref p) (upd H1 p (.frz o (.tup xs))))
theorem pe_tupF {es : List Expr} {t : TA} {k : _} (h : PA X es t) : PE X (.Tuple es k pos) (tTupF t) := by
  refine ⟨fun pins s σ H Q I hq => ?_⟩
  refine wpAny_Tuple_spliced (thn (h.run pos pins s σ H _ I hq) fun us s1 ⟨xs, H1, I1, r, z, q⟩ => ⟨by rw [← r.length]; exact z, ?_⟩)
  have hf : H1 s1.heap.objs.size = none := I1.hok.fresh (Nat.le_refl _)
  rcases q with q | q
  · refine ⟨.ref s1.heap.objs.size, upd H1 s1.heap.objs.size (.tup xs), I1.laid (t' := s1.toks) (fun b u e => Heap.get?_push_of_some _ e) (Nat.le_refl _) ?_, rfl, q _ hf⟩
    exact ⟨z, us, r, ⟨_, Heap.get?_push_size _ rfl, rfl, _, rfl⟩⟩
  · refine ⟨.ref s1.heap.objs.size, upd H1 s1.heap.objs.size (.frz { cls := .type "tuple", data := .seq us.toArray } (.tup xs)), I1.laid (t' := s1.toks) (fun b u e => Heap.get?_push_of_some _ e) (Nat.le_refl _) ?_, rfl, q _ _ hf rfl⟩
    exact ⟨Heap.get?_push_size _ rfl, z, us, r, ⟨_, Heap.get?_push_size _ rfl, rfl, _, rfl⟩⟩
theorem s_tup {es : List Expr} {cs : Es} {k : Nat} (h : PA X es (tEsX X B W (dens Φ cs))) (hl : es.length ≤ sizeLine) (hn : ∀ ρ ps ρ1, dens Φ cs ρ = .ok ps ρ1 → ps.length = es.length) : PE X (.Tuple es k pos) (tEX X B W (den Φ (.tup cs))) := by
  refine PE.weak (pe_tupF h) fun σ H Q ⟨ρ, r, q⟩ => ?_
  simp only [den] at q
  refine ⟨ρ, r, (Post.bind q).mono fun vs H1 ⟨ps, ρ1, e1, st1, rp1, q1⟩ => ?_⟩
  cases e : alls ps with
  | none => rw [e] at q1; exact q1.elim
  | some ds =>
    rw [e] at q1
    have hd := repPs_alls rp1 e
    have hlen : vs.length = ps.length := by
      have : ∀ {vs : List V} {ps : List Pv}, RepPs X.K X.mg B σ ρ1 H1 vs ps → vs.length = ps.length := by
        intro vs
        induction vs with
        | nil => intro ps h; cases ps with
          | nil => rfl
          | cons _ _ => exact h.elim
        | cons v vs ih => intro ps h; cases ps with
          | nil => exact h.elim
          | cons p ps => simp [ih h.2]
      exact this rp1
    refine ⟨by rw [hlen, hn _ _ _ e1]; exact hl, ?_⟩
    cases hr : rowsB ds with
    | false => exact .inl fun p hp => q1 _ _ (Step.ext st1.rep (Sub.new hp)) (new_tup st1.rep.domS hp hd hr)
    | true => exact .inr fun p o hp ho => q1 _ _ (Step.ext st1.rep (Sub.new hp)) (new_row st1.rep.domS hp hd hr ho)
theorem repPs_len {σ : St} {H : Hp} {ρ : Rho} : ∀ {vs : List V} {ps : List Pv}, RepPs X.K X.mg B σ ρ H vs ps → vs.length = ps.length
  | [], [], _ => rfl
  | _ :: _, _ :: _, h => by simp [repPs_len h.2]
  | [], _ :: _, h => h.elim
  | _ :: _, [], h => h.elim
theorem s_lst {es : List Expr} {cs : Es} (h : PA X es (tEsX X B W (dens Φ cs))) (hl : es.length ≤ sizeLine) (hn : ∀ ρ ps ρ1, dens Φ cs ρ = .ok ps ρ1 → ps.length = es.length) : PE X (.List es pos) (tEX X B W (den Φ (.lst cs))) := by
  refine PE.weak (pe_lst h) fun σ H Q ⟨ρ, r, q⟩ => ?_
  simp only [den] at q
  refine ⟨ρ, r, (Post.bind q).mono fun vs H1 ⟨ps, ρ1, e1, st1, rp1, q1⟩ => ?_⟩
  cases e : alls ps with
  | none => rw [e] at q1; exact q1.elim
  | some ds =>
    rw [e] at q1
    have hd := repPs_alls rp1 e
    refine ⟨by rw [repPs_len rp1, hn _ _ _ e1]; exact hl, fun p hp => q1 _ _ (Step.ext st1.rep (Sub.new hp)) (new_lst st1.rep.domS hp hd)⟩

/-! ### one operand -/
theorem post_op1 {σ : St} {H : Hp} {ρ : Rho} {o : Op1} {p : Pv} {v : V} {Q : VK} (r : Rep X.K X.mg B σ H ρ) (rp : RepP X.K X.mg B σ ρ H v p)
    (h : PostE X B W σ H ρ (match res ρ p with | some d => lift (sem1 o d) ρ | none => .bad) Q) : rD1 X.K (sem1 o) v H Q := by
  cases e : res ρ p with
  | none => rw [e] at h; exact h.elim
  | some d =>
    rw [e] at h
    obtain ⟨z, h1, h2⟩ := post_lift h r
    exact ⟨Hs B σ ρ, d, z, r.domS, r.res rp e, h1, h2⟩
/-- f(x), f a built-in -/
theorem s_op1 {e x : Expr} {c : E} {o : Op1} (hx : PE X x (tEX X B W (den Φ c))) (h : ∀ t, PE X x t → PE X e fun σ H Q => t σ H fun v H1 => rD1 X.K (sem1 o) v H1 Q) : PE X e (tEX X B W (den Φ (.op1 o c))) := by
  refine PE.weak (h _ hx) fun σ H Q ⟨ρ, r, q⟩ => ?_
  simp only [den] at q
  exact ⟨ρ, r, (Post.bind q).mono fun v H1 ⟨p, ρ1, _, st1, rp1, q1⟩ => post_op1 st1.rep rp1 q1⟩

/-! ### two operands -/
theorem post_lift2 {σ : St} {H : Hp} {ρ : Rho} {g : PyData → PyData → Option PyData} {p q : Pv} {v w : V} {Q : VK} (r : Rep X.K X.mg B σ H ρ) (rp : RepP X.K X.mg B σ ρ H v p) (rq : RepP X.K X.mg B σ ρ H w q)
    (h : PostE X B W σ H ρ (lift2 g p q ρ) Q) : rD2 X.K g v w H Q := by
  unfold lift2 at h
  cases e : res ρ p with
  | none => rw [e] at h; exact h.elim
  | some d =>
    cases e2 : res ρ q with
    | none => rw [e, e2] at h; exact h.elim
    | some d2 =>
      rw [e, e2] at h
      obtain ⟨z, h1, h2⟩ := post_lift h r
      exact ⟨Hs B σ ρ, d, d2, z, r.domS, r.res rp e, r.res rq e2, h1, h2⟩
theorem s_two {e x y : Expr} {c1 c2 : E} {g : PyData → PyData → Option PyData} {f : Rho → R Pv} (hf : ∀ ρ, f ρ = (den Φ c1 ρ).bind fun p ρ1 => (den Φ c2 ρ1).bind fun q ρ2 => lift2 g p q ρ2)
    (hx : PE X x (tEX X B W (den Φ c1))) (hy : PE X y (tEX X B W (den Φ c2))) (h : ∀ ta tb, PE X x ta → PE X y tb → PE X e (tOp (rD2 X.K g) ta tb)) : PE X e (tEX X B W f) := by
  refine PE.weak (h _ _ hx hy) fun σ H Q ⟨ρ, r, q⟩ => ?_
  rw [hf] at q
  exact ⟨ρ, r, (Post.bind q).mono fun v H1 ⟨p, ρ1, _, st1, rp1, q1⟩ => ⟨ρ1, st1.rep, (Post.bind q1).mono fun w H2 ⟨p2, ρ2, _, st2, rp2, q2⟩ => post_lift2 st2.rep (rp1.step st2) rp2 q2⟩⟩

/-! ### truth -/
theorem truth_V {S : ASet} {H : Hp} {v : V} {d : PyData} {k : Bool} (h : ARep X.K S H v d) (e : truth d = some k) : TruV X.K v H k := by
  cases d with
  | none => obtain rfl := h.none; simp only [truth, Option.some.injEq] at e; exact e.symm
  | bool b => obtain rfl := h.bool; simp only [truth, Option.some.injEq] at e; exact e.symm
  | int i => obtain rfl := h.int; simp only [truth, Option.some.injEq] at e; exact e.symm
  | str s =>
    obtain rfl := h.str
    simp only [truth] at e
    split at e
    · cases e
      refine ⟨by assumption, ?_⟩
      cases s.length with
      | zero => rfl
      | succ n =>
        have h1 : (n + 1 != 0) = true := by simp
        have h2 : (((n + 1 : Nat) : Int) != 0) = true := by simp; omega
        rw [h1, h2]
    · cases e
  | list xs =>
    obtain ⟨a, vs, rfl, h1, h2⟩ := h.lst
    simp only [truth, Option.some.injEq] at e
    subst e
    refine .inl ⟨vs, h1, ?_⟩
    cases h2 <;> rfl
  | tuple xs =>
    obtain ⟨a, vs, rfl, h1, h2⟩ := h.tup
    simp only [truth, Option.some.injEq] at e
    subst e
    refine .inr (.inl ⟨vs, h1.sqT, ?_⟩)
    cases h2 <;> rfl
  | dict q => simp [truth] at e
theorem post_res {γ δ : Type} {rp2 : Rho → Hp → δ → γ → Prop} {σ : St} {H : Hp} {ρ : Rho} {r : R Pv} {k : PyData → Rho → R γ} {Q : δ → Hp → Prop} (h : Post X.K X.mg B W rp2 σ H ρ ((resOf r).bind k) Q) :
    PostE X B W σ H ρ r fun v H1 => ∃ d ρ1, Step X.K X.mg B σ H ρ σ H1 ρ1 ∧ ARep X.K (Hs B σ ρ1) H1 v d ∧ Post X.K X.mg B W rp2 σ H1 ρ1 (k d ρ1) Q := by
  cases r with
  | bad => exact h
  | ex x ρ' => exact h
  | ok p ρ1 =>
    intro v H1 st rp
    simp only [resOf, R.bind] at h
    cases e1 : res ρ1 p with
    | none => rw [e1] at h; exact h.elim
    | some d =>
      rw [e1] at h
      exact ⟨d, ρ1, st, st.rep.res rp e1, Post.from h st⟩
theorem post_dat {γ δ : Type} {rp2 : Rho → Hp → δ → γ → Prop} {σ : St} {H : Hp} {ρ : Rho} {r : R Pv} {k : PyData → Rho → R γ} {Q : δ → Hp → Prop} (h : Post X.K X.mg B W rp2 σ H ρ ((dataOf r).bind k) Q) :
    PostE X B W σ H ρ r fun v H1 => ∃ d ρ1, Step X.K X.mg B σ H ρ σ H1 ρ1 ∧ Dp X.K (Hid H1 (Hs B σ ρ1)) v d ∧ Post X.K X.mg B W rp2 σ H1 ρ1 (k d ρ1) Q := by
  cases r with
  | bad => exact h
  | ex x ρ' => exact h
  | ok p ρ1 =>
    intro v H1 st rp
    simp only [dataOf, R.bind] at h
    cases p with
    | dat d => exact ⟨d, ρ1, st, rp, Post.from h st⟩
    | «at» i => exact h.elim
    | tmp d => exact h.elim
    | fn x => exact h.elim
theorem post_truth {γ δ : Type} {rp2 : Rho → Hp → δ → γ → Prop} {σ : St} {H : Hp} {ρ : Rho} {o : Option Bool} {k1 k0 : R γ} {Q : δ → Hp → Prop} (h : Post X.K X.mg B W rp2 σ H ρ (match o with | some true => k1 | some false => k0 | none => .bad) Q) :
    ∃ b, o = some b ∧ Post X.K X.mg B W rp2 σ H ρ (if b = true then k1 else k0) Q := by
  cases o with
  | none => exact h.elim
  | some b => cases b <;> exact ⟨_, rfl, h⟩
/-- an expression's truth as a test -/
theorem s_tst {e : Expr} {c : E} (h : PE X e (tEX X B W (den Φ c))) (he : ∀ whole, isTrue e X.env whole = (do let v ← whole; standAt e.pos; holding [v] (truthy v))) : PT X e (tBX X B W fun ρ => tst (den Φ c ρ)) := by
  refine PT.weak (pt_truth h he) fun σ H Q ⟨ρ, r, q⟩ => ?_
  refine ⟨ρ, r, (post_res q).mono fun v H1 ⟨d, ρ1, st, ar, q1⟩ => ?_⟩
  cases e2 : truth d with
  | none => rw [e2] at q1; exact q1.elim
  | some k =>
    rw [e2] at q1
    exact ⟨k, truth_V ar e2, q1 k H1 (Step.refl st.rep) rfl⟩
/-! ### and, or, not, if -/
theorem s_and {x y : Expr} {r : List Expr} {a b : E} (hx : PE X x (tEX X B W (den Φ a))) (hy : PE X (.BoolOp .And (y :: r) pos) (tEX X B W (den Φ b))) : PE X (.BoolOp .And (x :: y :: r) pos) (tEX X B W (den Φ (.and a b))) := by
  refine PE.weak (pe_andT hx hy) fun σ H Q ⟨ρ, r, q⟩ => ?_
  simp only [den] at q
  refine ⟨ρ, r, (post_dat q).mono fun v H1 ⟨d, ρ1, st, dp, q1⟩ => ?_⟩
  obtain ⟨k, e, q2⟩ := post_truth q1
  refine ⟨k, truth_V (.inl dp) e, ?_⟩
  cases k with
  | true => exact ⟨ρ1, st.rep, q2⟩
  | false => exact q2 v H1 (Step.refl st.rep) dp
theorem s_or {x y : Expr} {r : List Expr} {a b : E} (hx : PE X x (tEX X B W (den Φ a))) (hy : PE X (.BoolOp .Or (y :: r) pos) (tEX X B W (den Φ b))) : PE X (.BoolOp .Or (x :: y :: r) pos) (tEX X B W (den Φ (.or a b))) := by
  refine PE.weak (pe_orT hx hy) fun σ H Q ⟨ρ, r, q⟩ => ?_
  simp only [den] at q
  refine ⟨ρ, r, (post_dat q).mono fun v H1 ⟨d, ρ1, st, dp, q1⟩ => ?_⟩
  obtain ⟨k, e, q2⟩ := post_truth q1
  refine ⟨k, truth_V (.inl dp) e, ?_⟩
  cases k with
  | false => exact ⟨ρ1, st.rep, q2⟩
  | true => exact q2 v H1 (Step.refl st.rep) dp
theorem s_not {x : Expr} {a : E} (hx : PE X x (tEX X B W (den Φ a))) : PE X (.UnaryOp .Not x pos) (tEX X B W (den Φ (.not a))) := by
  refine PE.weak (pe_notT hx) fun σ H Q ⟨ρ, r, q⟩ => ?_
  simp only [den] at q
  refine ⟨ρ, r, (post_res q).mono fun v H1 ⟨d, ρ1, st, ar, q1⟩ => ?_⟩
  cases e2 : truth d with
  | none => rw [e2] at q1; exact q1.elim
  | some k =>
    rw [e2] at q1
    exact ⟨k, truth_V ar e2, q1 _ H1 (Step.refl st.rep) (.bl _)⟩
theorem s_ite {c x y : Expr} {cc a b : E} (hc : PT X c (tBX X B W fun ρ => tst (den Φ cc ρ))) (hx : PE X x (tEX X B W (den Φ a))) (hy : PE X y (tEX X B W (den Φ b))) : PE X (.IfExp c x y pos) (tEX X B W (den Φ (.ite cc a b))) := by
  refine PE.weak (pe_ifExp hc hx hy) fun σ H Q ⟨ρ, r, q⟩ => ?_
  simp only [den] at q
  refine ⟨ρ, r, ?_⟩
  show Post X.K X.mg B W _ σ H ρ (tst (den Φ cc ρ)) _
  have q' : PostE X B W σ H ρ ((tst (den Φ cc ρ)).bind fun k ρ1 => if k = true then den Φ a ρ1 else den Φ b ρ1) Q := by
    unfold tst
    cases e0 : resOf (den Φ cc ρ) with
    | bad => rw [e0] at q; exact q
    | ex x ρ' => rw [e0] at q; exact q
    | ok d ρ1 =>
      rw [e0] at q
      simp only [R.bind] at q ⊢
      cases e1 : truth d with
      | none => rw [e1] at q; exact q.elim
      | some k => cases k <;> (rw [e1] at q; exact q)
  refine (Post.bind q').mono fun k H1 ⟨k', ρ1, _, st, e, q1⟩ => ?_
  subst e
  cases k with
  | true => exact ⟨ρ1, st.rep, q1⟩
  | false => exact ⟨ρ1, st.rep, q1⟩
/-! .. as tests -/
theorem t_not {x : Expr} {a : E} (hx : PT X x (tBX X B W fun ρ => tst (den Φ a ρ))) : PT X (.UnaryOp .Not x pos) (tBX X B W fun ρ => tst (den Φ (.not a) ρ)) := by
  refine PT.weak (pt_not hx) fun σ H Q ⟨ρ, r, q⟩ => ?_
  refine ⟨ρ, r, ?_⟩
  dsimp only at q ⊢
  unfold tst at q ⊢
  simp only [den] at q
  cases e0 : resOf (den Φ a ρ) with
  | bad => rw [e0] at q; exact q
  | ex x ρ' => rw [e0] at q; exact q
  | ok d ρ1 =>
    rw [e0] at q
    simp only [R.bind] at q ⊢
    cases e1 : truth d with
    | none => rw [e1] at q; exact q
    | some k =>
      rw [e1] at q
      simp only [resOf, R.bind, res, truth] at q
      intro b H1 st e
      subst e
      exact q _ H1 st rfl
theorem t_and {x y : Expr} {r : List Expr} {a b : E} (hx : PT X x (tBX X B W fun ρ => tst (den Φ a ρ))) (hy : PW X (.BoolOp .And (y :: r) pos) (tBX X B W fun ρ => tst (den Φ b ρ))) :
    PW X (.BoolOp .And (x :: y :: r) pos) (tBX X B W fun ρ => tst (den Φ (.and a b) ρ)) := by
  refine ⟨fun wh pins s σ H Q I q => (pw_and hx hy).run wh pins s σ H Q I ?_⟩
  obtain ⟨ρ, r, q⟩ := q
  dsimp only at q
  have q' : Post X.K X.mg B W (fun _ _ b a => b = a) σ H ρ ((tst (den Φ a ρ)).bind fun k ρ1 => if k = true then tst (den Φ b ρ1) else R.ok false ρ1) Q := by
    unfold tst at q ⊢
    simp only [den] at q
    cases e0 : den Φ a ρ with
    | bad => rw [e0] at q; exact q
    | ex x ρ' => rw [e0] at q; exact q
    | ok p ρ1 =>
      rw [e0] at q
      cases p with
      | «at» i => exact q.elim
      | fn x => exact q.elim
      | tmp d => exact q.elim
      | dat d =>
        simp only [dataOf, resOf, R.bind, res] at q ⊢
        cases e1 : truth d with
        | none => rw [e1] at q; exact q.elim
        | some k =>
          rw [e1] at q
          cases k with
          | true => exact q
          | false =>
            simp only [R.bind, res, e1] at q ⊢
            exact q
  refine ⟨ρ, r, (Post.bind q').mono fun k H1 ⟨k', ρ1, _, st, e, q1⟩ => ?_⟩
  subst e
  cases k with
  | true => exact ⟨ρ1, st.rep, q1⟩
  | false => exact q1 false H1 (Step.refl st.rep) rfl
theorem t_or {x y : Expr} {r : List Expr} {a b : E} (hx : PT X x (tBX X B W fun ρ => tst (den Φ a ρ))) (hy : PW X (.BoolOp .Or (y :: r) pos) (tBX X B W fun ρ => tst (den Φ b ρ))) :
    PW X (.BoolOp .Or (x :: y :: r) pos) (tBX X B W fun ρ => tst (den Φ (.or a b) ρ)) := by
  refine ⟨fun wh pins s σ H Q I q => (pw_or hx hy).run wh pins s σ H Q I ?_⟩
  obtain ⟨ρ, r, q⟩ := q
  dsimp only at q
  have q' : Post X.K X.mg B W (fun _ _ b a => b = a) σ H ρ ((tst (den Φ a ρ)).bind fun k ρ1 => if k = true then R.ok true ρ1 else tst (den Φ b ρ1)) Q := by
    unfold tst at q ⊢
    simp only [den] at q
    cases e0 : den Φ a ρ with
    | bad => rw [e0] at q; exact q
    | ex x ρ' => rw [e0] at q; exact q
    | ok p ρ1 =>
      rw [e0] at q
      cases p with
      | «at» i => exact q.elim
      | fn x => exact q.elim
      | tmp d => exact q.elim
      | dat d =>
        simp only [dataOf, resOf, R.bind, res] at q ⊢
        cases e1 : truth d with
        | none => rw [e1] at q; exact q.elim
        | some k =>
          rw [e1] at q
          cases k with
          | false => exact q
          | true =>
            simp only [R.bind, res, e1] at q ⊢
            exact q
  refine ⟨ρ, r, (Post.bind q').mono fun k H1 ⟨k', ρ1, _, st, e, q1⟩ => ?_⟩
  subst e
  cases k with
  | false => exact ⟨ρ1, st.rep, q1⟩
  | true => exact q1 true H1 (Step.refl st.rep) rfl
/-- a reckoning whose value is a truth value, as a test -/
theorem post_bool {σ : St} {H : Hp} {ρ : Rho} {r : R Pv} {Q : Bool → Hp → Prop} (hb : ∀ p ρ', r = .ok p ρ' → ∃ k, p = .dat (.bool k)) (h : Post X.K X.mg B W (fun _ _ b a => b = a) σ H ρ (tst r) Q) :
    PostE X B W σ H ρ r fun v H1 => ∃ k, v = .bl k ∧ Q k H1 := by
  cases r with
  | bad => exact h
  | ex x ρ' => exact h
  | ok p ρ1 =>
    obtain ⟨k, rfl⟩ := hb p ρ1 rfl
    intro v H1 st rp
    have rp : Dp X.K (Hid H1 (Hs B σ ρ1)) v (.bool k) := rp
    cases rp
    exact ⟨k, rfl, h k H1 st rfl⟩
theorem R.bind_ok {α β : Type} {r : R α} {k : α → Rho → R β} {b : β} {ρ' : Rho} (h : r.bind k = .ok b ρ') : ∃ a ρ1, r = .ok a ρ1 ∧ k a ρ1 = .ok b ρ' := by
  cases r with
  | bad => cases h
  | ex x ρ' => cases h
  | ok a ρ1 => exact ⟨a, ρ1, rfl, h⟩
theorem lift_ok {o : Option PyData} {ρ ρ' : Rho} {p : Pv} (h : lift o ρ = .ok p ρ') : ∃ z, o = some z ∧ p = .dat z := by
  cases o with
  | none => cases h
  | some z => cases h; exact ⟨z, rfl, rfl⟩
theorem lift2_ok {g : PyData → PyData → Option PyData} {p q r : Pv} {ρ ρ' : Rho} (h : lift2 g p q ρ = .ok r ρ') : ∃ d e z, g d e = some z ∧ r = .dat z := by
  unfold lift2 at h
  split at h
  · obtain ⟨z, h1, h2⟩ := lift_ok h
    exact ⟨_, _, z, h1, h2⟩
  · cases h
def boolOp : Op2 → Bool
  | .eq | .ne | .lt | .le | .gt | .ge | .isin | .notin => true
  | _ => false
theorem sem2_bool {o : Op2} (ho : boolOp o = true) {d e z : PyData} (h : sem2 o d e = some z) : ∃ k, z = .bool k := by
  cases o <;> first | (cases ho; done) | skip
  all_goals (obtain ⟨k, _, rfl⟩ := Option.map_eq_some_iff.mp h; exact ⟨_, rfl⟩)
/-- a comparison as a test -/
theorem t_cmp {e x y : Expr} {c1 c2 : E} {o : Op2} (ho : boolOp o = true) (hx : PE X x (tEX X B W (den Φ c1))) (hy : PE X y (tEX X B W (den Φ c2))) (h : ∀ ta tb, PE X x ta → PE X y tb → PT X e (tTest (tOp (rD2 X.K (sem2 o)) ta tb))) :
    PT X e (tBX X B W fun ρ => tst (den Φ (.op2 o c1 c2) ρ)) := by
  refine PT.weak (h _ _ hx hy) fun σ H Q ⟨ρ, r, q⟩ => ?_
  have q' := post_bool (fun p ρ' e => by
    simp only [den] at e
    obtain ⟨_, _, _, e⟩ := R.bind_ok e
    obtain ⟨_, _, _, e⟩ := R.bind_ok e
    obtain ⟨d, e', z, h1, h2⟩ := lift2_ok e
    obtain ⟨k, rfl⟩ := sem2_bool ho h1
    exact ⟨k, h2⟩) q
  simp only [den] at q'
  exact ⟨ρ, r, (Post.bind q').mono fun v H1 ⟨p, ρ1, _, st1, rp1, q1⟩ => ⟨ρ1, st1.rep, (Post.bind q1).mono fun w H2 ⟨p2, ρ2, _, st2, rp2, q2⟩ => post_lift2 st2.rep (rp1.step st2) rp2 q2⟩⟩
theorem t_op1 {e x : Expr} {c : E} {o : Op1} (hb : ∀ d z, sem1 o d = some z → ∃ k, z = .bool k) (hx : PE X x (tEX X B W (den Φ c))) (h : ∀ t, PE X x t → PT X e fun σ H Q => t σ H fun v H1 => rD1 X.K (sem1 o) v H1 fun w H2 => ∃ k, w = .bl k ∧ Q k H2) :
    PT X e (tBX X B W fun ρ => tst (den Φ (.op1 o c) ρ)) := by
  refine PT.weak (h _ hx) fun σ H Q ⟨ρ, r, q⟩ => ?_
  have q' := post_bool (fun p ρ' e => by
    simp only [den] at e
    obtain ⟨p0, ρ1, _, e⟩ := R.bind_ok e
    split at e
    · obtain ⟨z, h1, h2⟩ := lift_ok e
      obtain ⟨k, rfl⟩ := hb _ _ h1
      exact ⟨k, h2⟩
    · cases e) q
  simp only [den] at q'
  exact ⟨ρ, r, (Post.bind q').mono fun v H1 ⟨p, ρ1, _, st1, rp1, q1⟩ => post_op1 st1.rep rp1 q1⟩
/-! ### a < b < c -/
theorem post_chn {σ : St} {H : Hp} {ρ : Rho} {o o' : Op2} (ho : boolOp o = true) {p : Pv} {y : PyData} {v w : V} {c3 : E} {Q : VK} (r : Rep X.K X.mg B σ H ρ) (rp : RepP X.K X.mg B σ ρ H v p) (rq : Dp X.K (Hid H (Hs B σ ρ)) w y)
    (h : PostE X B W σ H ρ (match res ρ p with
    | some x => match sem2 o x y with
      | some (.bool true) => (den Φ c3 ρ).bind fun r ρ3 => match res ρ3 r with
        | some z => lift (sem2 o' y z) ρ3
        | none => .bad
      | some (.bool false) => .ok (.dat (.bool false)) ρ
      | _ => .bad
    | none => .bad) Q) :
    rD2 X.K (sem2 o) v w H fun z H3 => ∃ k, z = .bl k ∧ (if k = true then tEX X B W (den Φ c3) σ H3 (fun w' H4 => rD2 X.K (sem2 o') w w' H4 Q) else Q (.bl false) H3) := by
  cases e : res ρ p with
  | none => rw [e] at h; exact h.elim
  | some d =>
    rw [e] at h
    dsimp only at h
    cases e3 : sem2 o d y with
    | none => rw [e3] at h; exact h.elim
    | some z =>
      obtain ⟨k, rfl⟩ := sem2_bool ho e3
      refine ⟨Hs B σ ρ, d, y, _, r.domS, r.res rp e, .inl rq, e3, fun w' H' s dp => ?_⟩
      cases dp
      rw [e3] at h
      have st := Step.ext r s
      refine ⟨k, rfl, ?_⟩
      cases k with
      | false => exact h _ _ st (.bl _)
      | true =>
        refine ⟨ρ, st.rep, (Post.bind (Post.from h st)).mono fun w' H4 ⟨p3, ρ3, _, st3, rp3, q3⟩ => ?_⟩
        cases e4 : res ρ3 p3 with
        | none => rw [e4] at q3; exact q3.elim
        | some d3 =>
          rw [e4] at q3
          obtain ⟨z, h1, h2⟩ := post_lift q3 st3.rep
          exact ⟨Hs B σ ρ3, y, d3, z, st3.rep.domS, .inl (Dp_sub (st.trans st3).sub y rq), st3.rep.res rp3 e4, h1, h2⟩
theorem s_chn {x y z : Expr} {c1 c2 c3 : E} {o o' : Op2} {op op' : CmpOp} (ho : boolOp o = true) (hx : PE X x (tEX X B W (den Φ c1))) (hy : PE X y (tEX X B W (den Φ c2))) (hz : PE X z (tEX X B W (den Φ c3)))
    (h1 : OpR X (compareOp op) (rD2 X.K (sem2 o))) (h2 : OpR X (compareOp op') (rD2 X.K (sem2 o'))) (hm : lastMarks [op, op'] [y, z] = false) : PE X (.Compare x [op, op'] [y, z] pos) (tEX X B W (den Φ (.chn o o' c1 c2 c3))) := by
  refine PE.weak (pe_chain h1 h2 hx hy hz hm) fun σ H Q ⟨ρ, r, q⟩ => ?_
  simp only [den] at q
  exact ⟨ρ, r, (Post.bind q).mono fun v H1 ⟨p, ρ1, _, st1, rp1, q1⟩ => ⟨ρ1, st1.rep, (post_dat q1).mono fun w H2 ⟨y, ρ2, st2, dp, q2⟩ => post_chn ho st2.rep (rp1.step st2) dp q2⟩⟩
theorem t_chn {x y z : Expr} {c1 c2 c3 : E} {o o' : Op2} {op op' : CmpOp} (ho : boolOp o = true) (ho' : boolOp o' = true) (hx : PE X x (tEX X B W (den Φ c1))) (hy : PE X y (tEX X B W (den Φ c2))) (hz : PE X z (tEX X B W (den Φ c3)))
    (h1 : OpR X (compareOp op) (rD2 X.K (sem2 o))) (h2 : OpR X (compareOp op') (rD2 X.K (sem2 o'))) (hm : lastMarks [op, op'] [y, z] = false) : PT X (.Compare x [op, op'] [y, z] pos) (tBX X B W fun ρ => tst (den Φ (.chn o o' c1 c2 c3) ρ)) := by
  refine PT.weak (pt_chain h1 h2 hx hy hz hm) fun σ H Q ⟨ρ, r, q⟩ => ?_
  have q' := post_bool (fun p ρ' e => by
    simp only [den] at e
    obtain ⟨_, _, _, e⟩ := R.bind_ok e
    obtain ⟨_, _, _, e⟩ := R.bind_ok e
    split at e
    · split at e
      · obtain ⟨_, _, _, e⟩ := R.bind_ok e
        split at e
        · obtain ⟨z, h1, h2⟩ := lift_ok e
          obtain ⟨k, rfl⟩ := sem2_bool ho' h1
          exact ⟨k, h2⟩
        · cases e
      · cases e
        exact ⟨_, rfl⟩
      · cases e
    · cases e) q
  simp only [den] at q'
  exact ⟨ρ, r, (Post.bind q').mono fun v H1 ⟨p, ρ1, _, st1, rp1, q1⟩ => ⟨ρ1, st1.rep, (post_dat q1).mono fun w H2 ⟨y, ρ2, st2, dp, q2⟩ => post_chn ho st2.rep (rp1.step st2) dp q2⟩⟩
end
end G6
-- ## Call1
/-! # Call1: calls of the text's own defs -/
namespace G6
open PySem PySem.Spec PyProof.Rows L2

/-- the address of the lent list -/
def ioA (io : Option Nat) (vs : List V) : ASet := fun a => ∃ k, io = some k ∧ vs[k]? = some (.ref a)
def ArgsRep (K : PySem.W.Frag) (mg : Str → Option Value) (S : ASet) (H : Hp) (io : Option Nat) : Nat → List V → List Av → Prop
  | _, [], [] => True
  | k, v :: vs, .d x :: as => (if io = some k then ∃ a, v = .ref a ∧ Cell K S H a x else Dp K (Hid H S) v x) ∧ ArgsRep K mg S H io (k + 1) vs as
  | k, v :: vs, .f x :: as => io ≠ some k ∧ (∃ f, v = .ref f ∧ mg x = some (.ref f)) ∧ ArgsRep K mg S H io (k + 1) vs as
  | _, _, _ => False
/-- what a call leaves: all but the lent list is kept, that one holds x -/
structure FnStep (K : PySem.W.Frag) (B : ASet) (io : Option Nat) (vs : List V) (H H' : Hp) (x : PyData) : Prop where
  keep : ∀ a o, H a = some o → ¬ ioA io vs a → H' a = some o
  cell : ∀ a, ioA io vs a → Cell K (fun b => B b ∨ ioA io vs b) H' a x
/-- a def's promise, by its meaning on data -/
def spOf (K : PySem.W.Frag) (mg : Str → Option Value) (io : Option Nat) (F : List Av → Out) : Sp := fun vs H Q E => ∃ (B : ASet) (as : List Av),
  ArgsRep K mg (fun a => B a ∨ ioA io vs a) H io 0 vs as ∧ DomS B H ∧ (∀ a, ioA io vs a → ¬ B a) ∧ (match F as with
  | .ret d x => ∀ v H', FnStep K B io vs H H' x → Dp K (Hid H' (fun a => B a ∨ ioA io vs a)) v d → Q v H'
  | .exc c x => ∀ u H', mg c = some u → FnStep K B io vs H H' x → E u none H'
  | .bad => False)
theorem ArgsRep.len {K : PySem.W.Frag} {mg : Str → Option Value} {S : ASet} {H : Hp} {io : Option Nat} : ∀ {k : Nat} {vs : List V} {as : List Av}, ArgsRep K mg S H io k vs as → vs.length = as.length
  | _, [], [], _ => rfl
  | _, v :: vs, .d x :: as, h => by simp [ArgsRep.len h.2]
  | _, v :: vs, .f x :: as, h => by simp [ArgsRep.len h.2.2]
  | _, [], .d _ :: _, h => h.elim
  | _, [], .f _ :: _, h => h.elim
  | _, _ :: _, [], h => h.elim

section
variable {X : Cx} {B : ASet} {W : WX} {Φ : Fenv} {pos : Pos} {σ : St} {H H' : Hp} {ρ : Rho}
/-- one argument of the list: the lent one's slot -/
theorem argsAt_at {io : Option Nat} : ∀ {ps : List Pv} {k j : Nat} {as : List Av}, argsAt ρ io k ps = some as → io = some (k + j) → j < ps.length → ∃ i d, ps[j]? = some (.at i) ∧ MutAt ρ i d
  | [], _, _, _, _, _, hj => absurd hj (by simp)
  | p :: r, k, 0, as, h, hk, _ => by
    simp only [Nat.add_zero] at hk
    simp only [argsAt, hk, if_true] at h
    cases p with
    | dat d => cases h
    | fn x => cases h
    | tmp d => cases h
    | «at» i =>
      refine ⟨i, ?_⟩
      dsimp only at h
      cases e : ρ[i]? with
      | none => rw [e] at h; cases h
      | some s =>
        rw [e] at h
        cases s with
        | m d => exact ⟨d, rfl, .inl e⟩
        | b d => exact ⟨d, rfl, .inr e⟩
        | un => cases h
        | v d => cases h
        | f x => cases h
  | p :: r, k, j + 1, as, h, hk, hj => by
    simp only [argsAt] at h
    split at h
    · cases h
    · obtain ⟨as', h1, h2⟩ := Option.map_eq_some_iff.mp h
      obtain ⟨i, d, h3, h4⟩ := argsAt_at (j := j) h1 (by rw [hk]; congr 1; omega) (by simpa using hj)
      exact ⟨i, d, by simpa using h3, h4⟩
/-- the frame's own lists but the lent one are out of the callee's sight -/
def Bx (B : ASet) (σ : St) (ρ : Rho) (io : Option Nat) (vs : List V) : ASet := fun a => Hs B σ ρ a ∧ ¬ ioA io vs a
theorem Bx_or {io : Option Nat} {vs : List V} (hio : ∀ a, ioA io vs a → Own σ ρ a) : (fun a => Bx B σ ρ io vs a ∨ ioA io vs a) = Hs B σ ρ := by
  funext a
  apply propext
  constructor
  · rintro (h | h)
    · exact h.1
    · exact .inr (hio a h)
  · intro h
    by_cases n : ioA io vs a
    · exact .inr n
    · exact .inl ⟨h, n⟩
theorem args_rep (r : Rep X.K X.mg B σ H ρ) {io : Option Nat} : ∀ {vs : List V} {ps : List Pv} {k : Nat} {as : List Av}, RepPs X.K X.mg B σ ρ H vs ps → argsAt ρ io k ps = some as → ArgsRep X.K X.mg (Hs B σ ρ) H io k vs as
  | [], [], k, as, _, e => by
    simp only [argsAt, Option.some.injEq] at e
    subst e
    trivial
  | v :: vs, p :: ps, k, as, h, e => by
    simp only [argsAt] at e
    by_cases hk : io = some k
    · simp only [hk, if_true] at e
      cases p with
      | dat d => cases e
      | fn x => cases e
      | tmp d => cases e
      | «at» i =>
        have hv : σ[i]? = some (some v) := h.1
        dsimp only at e
        cases ei : ρ[i]? with
        | none => rw [ei] at e; cases e
        | some s =>
          rw [ei] at e
          have fin : ∀ d, MutAt ρ i d → (argsAt ρ io (k + 1) ps).map (Av.d d :: ·) = some as → ArgsRep X.K X.mg (Hs B σ ρ) H io k (v :: vs) as := fun d hm e => by
            obtain ⟨as', h1, h2⟩ := Option.map_eq_some_iff.mp e
            subst h2
            obtain ⟨a, h3, h4, _⟩ := r.cel i d hm
            rw [hv] at h3
            cases h3
            refine ⟨?_, args_rep r h.2 h1⟩
            rw [if_pos hk]
            exact ⟨a, rfl, h4⟩
          cases s with
          | m d => exact fin d (.inl ei) (by rw [hk]; exact e)
          | b d => exact fin d (.inr ei) (by rw [hk]; exact e)
          | un => cases e
          | v d => cases e
          | f x => cases e
    · simp only [hk, if_false] at e
      cases p with
      | «at» i => cases e
      | tmp d => cases e
      | dat d =>
        obtain ⟨as', h1, h2⟩ := Option.map_eq_some_iff.mp e
        subst h2
        refine ⟨?_, args_rep r h.2 h1⟩
        rw [if_neg hk]
        exact h.1
      | fn x =>
        obtain ⟨as', h1, h2⟩ := Option.map_eq_some_iff.mp e
        subst h2
        exact ⟨hk, h.1, args_rep r h.2 h1⟩
  | [], _ :: _, _, _, h, _ => h.elim
  | _ :: _, [], _, _, h, _ => h.elim
theorem RepPs.get : ∀ {vs : List V} {ps : List Pv} {j : Nat} {p : Pv}, RepPs X.K X.mg B σ ρ H vs ps → ps[j]? = some p → ∃ v, vs[j]? = some v ∧ RepP X.K X.mg B σ ρ H v p
  | [], [], _, _, _, e => by simp at e
  | v :: vs, p :: ps, 0, q, h, e => by simp at e; subst e; exact ⟨v, rfl, h.1⟩
  | v :: vs, p :: ps, j + 1, q, h, e => by
    obtain ⟨w, h1, h2⟩ := RepPs.get (j := j) h.2 (by simpa using e)
    exact ⟨w, by simpa using h1, h2⟩
  | [], _ :: _, _, _, h, _ => h.elim
  | _ :: _, [], _, _, h, _ => h.elim
/-- behind a call -/
theorem step_call (r : Rep X.K X.mg B σ H ρ) {io : Option Nat} {vs : List V} {ps : List Pv} {as : List Av} {x : PyData} (hp : RepPs X.K X.mg B σ ρ H vs ps) (e : argsAt ρ io 0 ps = some as) (hio : ∀ a, ioA io vs a → Own σ ρ a) (hk : ∀ k, io = some k → k < ps.length)
    (fs : FnStep X.K (Bx B σ ρ io vs) io vs H H' x) : Step X.K X.mg B σ H ρ σ H' (putIo ρ io ps x) ∧ Hs B σ (putIo ρ io ps x) = Hs B σ ρ := by
  cases io with
  | none =>
    have s : Sub H H' := fun a o h => fs.keep a o h fun ⟨k, hk, _⟩ => by cases hk
    exact ⟨Step.ext r s, rfl⟩
  | some k =>
    obtain ⟨i, d, h1, h2⟩ := argsAt_at (j := k) e (by simp) (hk k rfl)
    obtain ⟨v, h3, h4⟩ := RepPs.get hp h1
    have h4 : σ[i]? = some (some v) := h4
    obtain ⟨a, h5, _, _⟩ := r.cel i d h2
    rw [h4] at h5
    cases h5
    have ia : ∀ b, ioA (some k) vs b ↔ b = a := fun b => by
      constructor
      · rintro ⟨k', e1, e2⟩
        cases e1
        rw [h3] at e2
        cases e2; rfl
      · rintro rfl; exact ⟨k, rfl, h3⟩
    have cell := fs.cell a ((ia a).mpr rfl)
    rw [Bx_or hio] at cell
    have keep : ∀ y o, y ≠ a → H y = some o → H' y = some o := fun y o n h => fs.keep y o h fun z => n ((ia y).mp z)
    have fin : ∀ s', ((ρ[i]? = some (.m d) ∧ s' = .m x) ∨ (ρ[i]? = some (.b d) ∧ s' = .b x)) → putIo ρ (some k) ps x = ρ.set i s' → Step X.K X.mg B σ H ρ σ H' (putIo ρ (some k) ps x) ∧ Hs B σ (putIo ρ (some k) ps x) = Hs B σ ρ := fun s' hs' ep => by
      rw [ep]
      exact Step.chg r h2 h4 hs' keep cell
    rcases h2 with h2 | h2
    · exact fin (.m x) (.inl ⟨h2, rfl⟩) (by simp only [putIo, h1, h2])
    · exact fin (.b x) (.inr ⟨h2, rfl⟩) (by simp only [putIo, h1, h2])
theorem post_call {f : Str} {io : Option Nat} {ps : List Pv} {vs : List V} {Q : VK} (r : Rep X.K X.mg B σ H ρ) (hp : RepPs X.K X.mg B σ ρ H vs ps) (hk : ∀ k, io = some k → k < ps.length) (h : PostE X B W σ H ρ (callK Φ f io ps ρ) Q) :
    spOf X.K X.mg io (Φ f) vs H Q fun cls d H' => W cls d σ H' := by
  unfold callK at h
  cases e : argsAt ρ io 0 ps with
  | none => rw [e] at h; exact h.elim
  | some as =>
    rw [e] at h
    dsimp only at h
    have hio : ∀ a, ioA io vs a → Own σ ρ a := fun a ⟨k, e1, e2⟩ => by
      subst e1
      obtain ⟨i, d, h1, h2⟩ := argsAt_at (j := k) e (by simp) (hk k rfl)
      obtain ⟨v, h3, h4⟩ := RepPs.get hp h1
      rw [e2] at h3
      cases h3
      exact ⟨i, d, h2, h4⟩
    have hor := Bx_or (B := B) (vs := vs) hio
    refine ⟨Bx B σ ρ io vs, as, by rw [hor]; exact args_rep r hp e, fun a z => r.hsDom z.1, fun a z n => n.2 z, ?_⟩
    cases e2 : Φ f as with
    | bad => rw [e2] at h; exact h.elim
    | ret d x =>
      rw [e2] at h
      intro v H' fs dp
      obtain ⟨st, hse⟩ := step_call r hp e hio hk fs
      rw [hor] at dp
      refine h v H' st ?_
      show Dp X.K (Hid H' (Hs B σ (putIo ρ io ps x))) v d
      rw [hse]
      exact dp
    | exc c x =>
      rw [e2] at h
      intro u H' hu fs
      obtain ⟨st, hse⟩ := step_call r hp e hio hk fs
      exact h u H' hu st
theorem s_call {ex : Expr} {es : List Expr} {f : Str} {io : Option Nat} {cs : Es} (h : PA X es (tEsX X B W (dens Φ cs))) (hk : ∀ k, io = some k → ∀ ρ ps ρ1, dens Φ cs ρ = .ok ps ρ1 → k < ps.length)
    (hc : ∀ t, PA X es t → PE X ex fun σ H Q => t σ H fun vs H1 => spOf X.K X.mg io (Φ f) vs H1 Q fun cls d H' => W cls d σ H') : PE X ex (tEX X B W (den Φ (.call f io cs))) := by
  refine PE.weak (hc _ h) fun σ H Q ⟨ρ, r, q⟩ => ?_
  simp only [den] at q
  exact ⟨ρ, r, (Post.bind q).mono fun vs H1 ⟨ps, ρ1, e1, st1, rp1, q1⟩ => post_call st1.rep rp1 (fun k e => hk k e _ _ _ e1) q1⟩
end
end G6
-- ## Stm
/-! # Stm: statements -/
namespace G6
open PySem PySem.Spec PyProof.Rows L2
def FlOk (K : PySem.W.Frag) (mg : Str → Option Value) (B : ASet) (W : WX) (σ : St) (H : Hp) (ρ : Rho) (D : Ends) : Fl → Prop
  | .nx ρ' => ∀ σ' H', Step K mg B σ H ρ σ' H' ρ' → D.nx σ' H'
  | .rt d ρ' => ∀ v σ' H', Step K mg B σ H ρ σ' H' ρ' → Dp K (Hid H' (Hs B σ' ρ')) v d → D.rt v H'
  | .br ρ' => ∀ σ' H', Step K mg B σ H ρ σ' H' ρ' → D.bk σ' H'
  | .ct ρ' => ∀ σ' H', Step K mg B σ H ρ σ' H' ρ' → D.ct σ' H'
  | .ex c ρ' => ∀ u σ' H', mg c = some u → Step K mg B σ H ρ σ' H' ρ' → W u none σ' H'
  | .bad => False
def tS (K : PySem.W.Frag) (mg : Str → Option Value) (B : ASet) (W : WX) (f : Rho → Fl) : TS := fun D σ H => ∃ ρ, Rep K mg B σ H ρ ∧ FlOk K mg B W σ H ρ D (f ρ)
section
variable {K : PySem.W.Frag} {mg : Str → Option Value} {B : ASet} {W : WX} {σ σ1 : St} {H H1 : Hp} {ρ ρ1 : Rho} {D : Ends} {f : Fl}
theorem FlOk.from (h : FlOk K mg B W σ H ρ D f) (s : Step K mg B σ H ρ σ1 H1 ρ1) : FlOk K mg B W σ1 H1 ρ1 D f := by
  cases f with
  | nx ρ' => exact fun σ' H' t => h σ' H' (s.trans t)
  | rt d ρ' => exact fun v σ' H' t dp => h v σ' H' (s.trans t) dp
  | br ρ' => exact fun σ' H' t => h σ' H' (s.trans t)
  | ct ρ' => exact fun σ' H' t => h σ' H' (s.trans t)
  | ex c ρ' => exact fun u σ' H' m t => h u σ' H' m (s.trans t)
  | bad => exact h
theorem FlOk.expr {α β : Type} {rp : Rho → Hp → β → α → Prop} {r : R α} {k : α → Rho → Fl} (h : FlOk K mg B W σ H ρ D (r.fl k)) :
    Post K mg B W rp σ H ρ r fun b H1 => ∃ a ρ1, r = .ok a ρ1 ∧ Step K mg B σ H ρ σ H1 ρ1 ∧ rp ρ1 H1 b a ∧ FlOk K mg B W σ H1 ρ1 D (k a ρ1) := by
  cases r with
  | ok a ρ' => exact fun b H' s p => ⟨a, ρ', rfl, s, p, FlOk.from (f := k a ρ') h s⟩
  | ex c ρ' => exact fun u H' m s => h u σ H' m s
  | bad => exact h
theorem FlOk.dat {X : Cx} {r : R Pv} {k : PyData → Rho → Fl} (h : FlOk X.K X.mg B W σ H ρ D ((dataOf r).fl k)) :
    PostE X B W σ H ρ r fun v H1 => ∃ d ρ1, Step X.K X.mg B σ H ρ σ H1 ρ1 ∧ Dp X.K (Hid H1 (Hs B σ ρ1)) v d ∧ FlOk X.K X.mg B W σ H1 ρ1 D (k d ρ1) := by
  cases r with
  | bad => exact h
  | ex x ρ' => exact fun u H' m s => h u σ H' m s
  | ok p ρ1 =>
    intro v H1 st rp
    simp only [dataOf, R.bind, R.fl] at h
    cases p with
    | dat d => exact ⟨d, ρ1, st, rp, FlOk.from h st⟩
    | «at» i => exact h.elim
    | tmp d => exact h.elim
    | fn x => exact h.elim
end
section
variable {X : Cx} {B : ASet} {W : WX} {Φ : Fenv} {pos : Pos}
abbrev tSX (X : Cx) (B : ASet) (W : WX) (f : Rho → Fl) : TS := tS X.K X.mg B W f
theorem ss_nil : PSs X [] (tSX X B W (exSs Φ .nil)) := PSs.weak pss_nil fun D σ H ⟨ρ, r, q⟩ => q σ H (Step.refl r)
theorem ss_cons {st : Stmt} {r : List Stmt} {c : S} {cs : Ss} (h1 : PS X st (tSX X B W (exS Φ c))) (h2 : PSs X r (tSX X B W (exSs Φ cs))) : PSs X (st :: r) (tSX X B W (exSs Φ (.cons c cs))) := by
  refine PSs.weak (pss_cons h1 h2) fun D σ H ⟨ρ, r, q⟩ => ?_
  refine ⟨ρ, r, ?_⟩
  simp only [exSs] at q
  cases e : exS Φ c ρ with
  | nx ρ' => rw [e] at q; exact fun σ' H' s => ⟨ρ', s.rep, FlOk.from q s⟩
  | rt d ρ' => rw [e] at q; exact q
  | br ρ' => rw [e] at q; exact q
  | ct ρ' => rw [e] at q; exact q
  | ex x ρ' => rw [e] at q; exact q
  | bad => rw [e] at q; exact q
theorem ss_pas : PS X (.Pass pos) (tSX X B W (exS Φ .pas)) := PS.weak ps_pass fun D σ H ⟨ρ, r, q⟩ => q σ H (Step.refl r)
theorem ss_brk : PS X (.Break pos) (tSX X B W (exS Φ .brk)) := PS.weak ps_break fun D σ H ⟨ρ, r, q⟩ => q σ H (Step.refl r)
theorem ss_cnt : PS X (.Continue pos) (tSX X B W (exS Φ .cnt)) := PS.weak ps_continue fun D σ H ⟨ρ, r, q⟩ => q σ H (Step.refl r)
theorem ss_ret {e : Expr} {c : E} (h : PE X e (tEX X B W (den Φ c))) : PS X (.Return (some e) pos) (tSX X B W (exS Φ (.ret c))) := by
  refine PS.weak (ps_ret h) fun D σ H ⟨ρ, r, q⟩ => ?_
  simp only [exS] at q
  exact ⟨ρ, r, (FlOk.dat q).mono fun v H1 ⟨d, ρ1, st, dp, q1⟩ => q1 v σ H1 (Step.refl st.rep) dp⟩
theorem ss_retn : PS X (.Return none pos) (tSX X B W (exS Φ .retn)) := PS.weak ps_retN fun D σ H ⟨ρ, r, q⟩ => q .non σ H (Step.refl r) .non
theorem ss_ite {c : Expr} {a b : List Stmt} {cc : E} {ca cb : Ss} (hc : PT X c (tBX X B W fun ρ => tst (den Φ cc ρ))) (ha : PSs X a (tSX X B W (exSs Φ ca))) (hb : PSs X b (tSX X B W (exSs Φ cb))) : PS X (.If c a b pos) (tSX X B W (exS Φ (.ite cc ca cb))) := by
  refine PS.weak (ps_if hc ha hb) fun D σ H ⟨ρ, r, q⟩ => ?_
  simp only [exS] at q
  refine ⟨ρ, r, (FlOk.expr q).mono fun k H1 ⟨k', ρ1, _, st, e, q1⟩ => ?_⟩
  subst e
  cases k with
  | true => exact ⟨ρ1, st.rep, q1⟩
  | false => exact ⟨ρ1, st.rep, q1⟩
theorem ss_exp {e : Expr} {c : E} (h : PE X e (tEX X B W (den Φ c))) (hs : swapsWith e none pos.line X.env = pure false) : PS X (.Expr e pos) (tSX X B W (exS Φ (.exp c))) := by
  refine PS.weak (ps_expr h hs) fun D σ H ⟨ρ, r, q⟩ => ?_
  simp only [exS] at q
  exact ⟨ρ, r, (FlOk.expr q).mono fun v H1 ⟨p, ρ1, _, st, _, q1⟩ => q1 σ H1 (Step.refl st.rep)⟩
theorem put_ok {σ : St} {H : Hp} {ρ ρ2 : Rho} {i : Nat} {p : Pv} {v : V} (r : Rep X.K X.mg B σ H ρ) (rp : RepP X.K X.mg B σ ρ H v p) (h : putV ρ i p = some ρ2) : Step X.K X.mg B σ H ρ (σ.set i (some v)) H ρ2 := by
  unfold putV at h
  split at h
  · rename_i hf
    cases p with
    | dat d => cases h; exact Step.put r rfl hf rp
    | fn x => cases h; exact Step.put r rfl hf rp
    | «at» j => cases h
    | tmp d => cases h
  · cases h
/-- x = e, by the store's rule -/
theorem ss_set' {st : Stmt} {c : E} {i : Nat} (h : PS X st (tAsg (tEX X B W (den Φ c)) (gName i))) : PS X st (tSX X B W (exS Φ (.set i c))) := by
  refine PS.weak h fun D σ H ⟨ρ, r, q⟩ => ?_
  simp only [exS] at q
  refine ⟨ρ, r, (FlOk.expr q).mono fun v H1 ⟨p, ρ1, _, st, rp, q1⟩ => ?_⟩
  cases e1 : putV ρ1 i p with
  | none => rw [e1] at q1; exact q1.elim
  | some ρ2 => rw [e1] at q1; exact q1 _ H1 (put_ok st.rep rp e1)

theorem ss_set {st : Stmt} {e : Expr} {c : E} {i : Nat} (h : PE X e (tEX X B W (den Φ c))) (hp : ∀ t, PE X e t → PS X st (tAsg t (gName i))) : PS X st (tSX X B W (exS Φ (.set i c))) := ss_set' (hp _ h)

/-! ### fresh lists -/
/-- as tE, where the value is a new list or dict -/
def tEF (K : PySem.W.Frag) (mg : Str → Option Value) (B : ASet) (W : WX) (f : Rho → R Pv) : TE := fun σ H Q => ∃ ρ, Rep K mg B σ H ρ ∧ (match f ρ with
  | .ok (.dat d) ρ' => ∀ a H1 H', Step K mg B σ H ρ σ H1 ρ' → H1 a = none → Sub H1 H' → NewCell K (Hid H1 (Hs B σ ρ')) H' a d → Q (.ref a) H'
  | .ok _ _ => False
  | .ex c ρ' => ∀ u H', mg c = some u → Step K mg B σ H ρ σ H' ρ' → W u none σ H'
  | .bad => False)
abbrev tEFX (X : Cx) (B : ASet) (W : WX) (f : Rho → R Pv) : TE := tEF X.K X.mg B W f
/-- a new list is plain data, too -/
theorem f_plain_w {f : Rho → R Pv} (hl : ∀ ρ p ρ', f ρ = .ok p ρ' → ∃ ds, p = .dat (.list ds)) (σ : St) (H : Hp) (Q : VK) (hq : tEX X B W f σ H Q) : tEFX X B W f σ H Q := by
  obtain ⟨ρ, r, q⟩ := hq
  refine ⟨ρ, r, ?_⟩
  cases e1 : f ρ with
  | bad => rw [e1] at q; exact q
  | ex x ρ' => rw [e1] at q; exact q
  | ok p ρ' =>
    obtain ⟨ds, rfl⟩ := hl ρ p ρ' e1
    rw [e1] at q
    intro a H1 H' st hn hs nc
    refine q (.ref a) H' (st.trans (Step.ext st.rep hs)) ?_
    cases nc with
    | lst h1 h2 =>
      have na : ¬ Hs B σ ρ' a := st.rep.fresh hn
      exact .lst (SqL.of (Hid_iff.mpr ⟨h1, na⟩)) (DpAll_sub hs.hids _ h2)
theorem f_plain {e : Expr} {f : Rho → R Pv} (h : PE X e (tEFX X B W f)) (hl : ∀ ρ p ρ', f ρ = .ok p ρ' → ∃ ds, p = .dat (.list ds)) : PE X e (tEX X B W f) := PE.weak h (f_plain_w hl)
theorem f_lst {es : List Expr} {cs : Es} (h : PA X es (tEsX X B W (dens Φ cs))) (hl : es.length ≤ sizeLine) (hn : ∀ ρ ps ρ1, dens Φ cs ρ = .ok ps ρ1 → ps.length = es.length) : PE X (.List es pos) (tEFX X B W (den Φ (.lst cs))) := by
  refine PE.weak (pe_lst h) fun σ H Q ⟨ρ, r, q⟩ => ?_
  refine ⟨ρ, r, ?_⟩
  simp only [den] at q
  cases e0 : dens Φ cs ρ with
  | bad => rw [e0] at q; exact q
  | ex x ρ' => rw [e0] at q; exact q
  | ok ps ρ1 =>
    rw [e0] at q
    intro vs H1 st rp
    simp only [R.bind] at q
    cases e : alls ps with
    | none => rw [e] at q; exact q.elim
    | some ds =>
      rw [e] at q
      refine ⟨by rw [repPs_len rp, hn _ _ _ e0]; exact hl, fun p hp => q p H1 _ st hp (Sub.new hp) (.lst upd_same (repPs_alls rp e))⟩
/-- x = a new list -/
theorem ss_setm' {st : Stmt} {c : E} {i : Nat} (h : PS X st (tAsg (tEFX X B W (den Φ c)) (gName i))) : PS X st (tSX X B W (exS Φ (.setm i c))) := by
  refine PS.weak h fun D σ H ⟨ρ, r, q⟩ => ?_
  simp only [exS] at q
  refine ⟨ρ, r, ?_⟩
  cases e0 : den Φ c ρ with
  | bad => rw [e0] at q; exact q
  | ex x ρ' => rw [e0] at q; exact fun u H' m s => q u σ H' m s
  | ok p ρ1 =>
    rw [e0] at q
    simp only [dataOf, R.bind, R.fl] at q
    cases p with
    | «at» j => exact q.elim
    | tmp d => exact q.elim
    | fn x => exact q.elim
    | dat d =>
      dsimp only at q ⊢
      intro a H1 H' s1 hn hs nc
      split at q
      · rename_i hf
        simp only [Bool.and_eq_true] at hf
        exact q _ _ (Step.putM s1 hf.1 hn hs nc)
      · exact q.elim

/-! ### dicts -/
theorem ss_setm {st : Stmt} {e : Expr} {c : E} {i : Nat} (h : PE X e (tEFX X B W (den Φ c))) (hp : ∀ t, PE X e t → PS X st (tAsg t (gName i))) : PS X st (tSX X B W (exS Φ (.setm i c))) := ss_setm' (hp _ h)
theorem ss_dnewK {st : Stmt} {i : Nat} {dpos : Pos} (hp : ∀ t, PE X (.Dict [] [] dpos) t → PS X st (tAsg t (gName i))) : PS X st (tSX X B W (exS Φ (.dnew i false))) := by
  refine PS.weak (hp _ pe_dnewK) fun D σ H ⟨ρ, r, q⟩ => ?_
  simp only [exS] at q
  intro p hp
  split at q
  · exact q _ _ (Step.putM (Step.refl r) (by assumption) hp (Sub.new hp) (.dK upd_same .nil))
  · exact q.elim
theorem ss_dnewT {st : Stmt} {i : Nat} {dpos : Pos} (hp : ∀ t, PE X (.Dict [] [] dpos) t → PS X st (tAsg t (gName i))) : PS X st (tSX X B W (exS Φ (.dnew i true))) := by
  refine PS.weak (hp _ pe_dnewT) fun D σ H ⟨ρ, r, q⟩ => ?_
  simp only [exS] at q
  intro p hp
  split at q
  · exact q _ _ (Step.putM (Step.refl r) (by assumption) hp (Sub.new hp) (.dT upd_same .nil))
  · exact q.elim
theorem rowsK_put {K : PySem.W.Frag} {G : Hp} {k : Key} {v : V} {d : PyData} {kvs : List (Key × V)} {q : List (PyData × PyData)} (h : RowsK K G kvs q) (hv : Dp K G v d) : RowsK K G (putK kvs k v) (putRow (keyD k) d q) := by
  have ha : ∀ {kvs : List (Key × V)} {q : List (PyData × PyData)}, RowsK K G kvs q → (q.any fun r => PyData.eqv r.1 (keyD k)) = kvs.any fun kv => decide (kv.1 = k) := fun {kvs q} h => by
    induction h with
    | nil => rfl
    | cons h1 h2 ih => simp only [List.any_cons, ih, keyD_eqv]
  have hm : ∀ {kvs : List (Key × V)} {q : List (PyData × PyData)}, RowsK K G kvs q → RowsK K G (kvs.map fun kv => if kv.1 = k then (kv.1, v) else kv) (q.map fun r => if PyData.eqv r.1 (keyD k) = true then (r.1, d) else r) := fun {kvs q} h => by
    induction h with
    | nil => exact .nil
    | @cons k0 v0 d0 r0 q0 h1 h2 ih =>
      simp only [List.map_cons, keyD_eqv, decide_eq_true_eq]
      by_cases e : k0 = k
      · rw [if_pos e, if_pos e]; exact .cons hv ih
      · rw [if_neg e, if_neg e]; exact .cons h1 ih
  have hp : ∀ {kvs : List (Key × V)} {q : List (PyData × PyData)}, RowsK K G kvs q → RowsK K G (kvs ++ [(k, v)]) (q ++ [(keyD k, d)]) := fun {kvs q} h => by
    induction h with
    | nil => exact .cons hv .nil
    | cons h1 h2 ih => exact .cons h1 ih
  unfold putK putRow
  rw [ha h]
  split
  · exact hm h
  · exact hp h
theorem rowsT_put {K : PySem.W.Frag} {G : Hp} {k : List Key} {v : V} {d : PyData} {kvs : List (List Key × V)} {q : List (PyData × PyData)} (h : RowsT K G kvs q) (hv : Dp K G v d) : ∃ q', putRow (.tuple (k.map keyD)) d ((.none, .none) :: q) = (.none, .none) :: q' ∧ RowsT K G (putK kvs k v) q' := by
  have ha : ∀ {kvs : List (List Key × V)} {q : List (PyData × PyData)}, RowsT K G kvs q → (q.any fun r => PyData.eqv r.1 (.tuple (k.map keyD))) = kvs.any fun kv => decide (kv.1 = k) := fun {kvs q} h => by
    induction h with
    | nil => rfl
    | cons h1 h2 ih => simp only [List.any_cons, ih, keyT_eqv]
  have hm : ∀ {kvs : List (List Key × V)} {q : List (PyData × PyData)}, RowsT K G kvs q → RowsT K G (kvs.map fun kv => if kv.1 = k then (kv.1, v) else kv) (q.map fun r => if PyData.eqv r.1 (.tuple (k.map keyD)) = true then (r.1, d) else r) := fun {kvs q} h => by
    induction h with
    | nil => exact .nil
    | @cons k0 v0 d0 r0 q0 h1 h2 ih =>
      simp only [List.map_cons, keyT_eqv, decide_eq_true_eq]
      by_cases e : k0 = k
      · rw [if_pos e, if_pos e]; exact .cons hv ih
      · rw [if_neg e, if_neg e]; exact .cons h1 ih
  have hp : ∀ {kvs : List (List Key × V)} {q : List (PyData × PyData)}, RowsT K G kvs q → RowsT K G (kvs ++ [(k, v)]) (q ++ [(.tuple (k.map keyD), d)]) := fun {kvs q} h => by
    induction h with
    | nil => exact .cons hv .nil
    | cons h1 h2 ih => exact .cons h1 ih
  have e0 : PyData.eqv PyData.none (.tuple (k.map keyD)) = false := rfl
  unfold putK putRow
  simp only [List.any_cons, e0, Bool.false_or, ha h, List.map_cons]
  split
  · exact ⟨_, rfl, hm h⟩
  · exact ⟨_, rfl, hp h⟩
theorem rowsK_len {K : PySem.W.Frag} {G : Hp} {kvs : List (Key × V)} {q : List (PyData × PyData)} (h : RowsK K G kvs q) : kvs.length = q.length := by
  induction h with
  | nil => rfl
  | cons _ _ ih => simp [ih]
theorem rowsT_len {K : PySem.W.Frag} {G : Hp} {kvs : List (List Key × V)} {q : List (PyData × PyData)} (h : RowsT K G kvs q) : kvs.length = q.length := by
  induction h with
  | nil => rfl
  | cons _ _ ih => simp [ih]
theorem line1000 : 1000 < sizeLine := by rw [sizeLine_eq]; decide
theorem dput_ok {σ : St} {H : Hp} {ρ ρ2 : Rho} {i : Nat} {a : Addr} {y v : V} {kd d : PyData} (r : Rep X.K X.mg B σ H ρ) (ha : σ[i]? = some (some (.ref a))) (hy : Dp X.K (Hid H (Hs B σ ρ)) y kd) (hv : Dp X.K (Hid H (Hs B σ ρ)) v d) (h : chg ρ i (dputD kd d) = some ρ2) :
    ∃ H', DPut H a y v H' ∧ Step X.K X.mg B σ H ρ σ H' ρ2 := by
  have core : ∀ d0 d1, MutAt ρ i d0 → dputD kd d d0 = some d1 → ∃ H', DPut H a y v H' ∧ (∀ x o, x ≠ a → H x = some o → H' x = some o) ∧ Cell X.K (Hs B σ ρ) H' a d1 := fun d0 d1 hm e => by
    obtain ⟨a', h1, h2, h3⟩ := r.cel i d0 hm
    rw [ha] at h1
    cases h1
    have own : Hs B σ ρ a := .inr ⟨i, d0, hm, ha⟩
    have sub : ∀ o, Sub (Hid H (Hs B σ ρ)) (Hid (upd H a o) (Hs B σ ρ)) := fun o x u z => by
      rw [Hid_iff] at *
      refine ⟨?_, z.2⟩
      rw [upd_ne fun e => z.2 (by rw [e]; exact own)]
      exact z.1
    cases h2 with
    | lst _ _ => cases e
    | @dK kvs q h4 h5 =>
      simp only [dputD] at e
      split at e
      · rename_i hc
        simp only [Bool.and_eq_true, decide_eq_true_eq] at hc
        cases e
        have tf : tupDict q = false := by cases h5 <;> (first | rfl | (rename_i k _ _ _ _ _ _; cases k <;> rfl))
        have hk := hc.1
        unfold keyFits at hk
        rw [tf] at hk
        obtain ⟨s, rfl⟩ := keyStr_eq (by simpa using hk)
        cases hy
        refine ⟨_, DPut.k (k := Sum.inr s) h4 (by have := rowsK_len h5; have := line1000; omega), fun x o n z => by rw [upd_ne n]; exact z, ?_⟩
        exact .dK upd_same (RowsK_sub (sub _) (rowsK_put (k := Sum.inr s) h5 hv))
      · cases e
    | @dT kvs q h4 h5 =>
      simp only [dputD] at e
      split at e
      · rename_i hc
        simp only [Bool.and_eq_true, decide_eq_true_eq] at hc
        cases e
        have hk := hc.1
        unfold keyFits at hk
        obtain ⟨ns, rfl⟩ := keyTup_eq (by simpa [tupDict] using hk)
        obtain ⟨b, rfl, hb⟩ := tupKeys hy
        have hl : kvs.length < sizeLine := by have := rowsT_len h5; have := line1000; have := hc.2; simp only [List.length_cons] at this; omega
        refine ⟨_, DPut.t (k := ns.map Sum.inl) h4 (Hid_iff.mp hb).1 hl, fun x o n z => by rw [upd_ne n]; exact z, ?_⟩
        have ek : (ns.map PyData.int) = (ns.map Sum.inl : List Key).map keyD := by simp [keyD]
        rw [ek]
        obtain ⟨q', h6, h7⟩ := rowsT_put (k := ns.map Sum.inl) h5 hv
        rw [h6]
        exact .dT upd_same (RowsT_sub (sub _) h7)
      · cases e
  unfold chg at h
  split at h
  · rename_i d0 e0
    obtain ⟨d1, h1, h2⟩ := Option.map_eq_some_iff.mp h
    subst h2
    obtain ⟨H', h3, h4, h5⟩ := core d0 d1 (.inl e0) h1
    exact ⟨H', h3, (Step.chg r (.inl e0) ha (.inl ⟨e0, rfl⟩) h4 h5).1⟩
  · rename_i d0 e0
    obtain ⟨d1, h1, h2⟩ := Option.map_eq_some_iff.mp h
    subst h2
    obtain ⟨H', h3, h4, h5⟩ := core d0 d1 (.inr e0) h1
    exact ⟨H', h3, (Step.chg r (.inr e0) ha (.inr ⟨e0, rfl⟩) h4 h5).1⟩
  · cases h
theorem mutL_at {σ : St} {H : Hp} {ρ : Rho} {i : Nat} (r : Rep X.K X.mg B σ H ρ) (h : mutL ρ i = true) : ∃ a vs, σ[i]? = some (some (.ref a)) ∧ H a = some (.lst vs) := by
  have fin : ∀ ds, MutAt ρ i (.list ds) → ∃ a vs, σ[i]? = some (some (.ref a)) ∧ H a = some (.lst vs) := fun ds hm => by
    obtain ⟨a, h1, h2, _⟩ := r.cel i _ hm
    cases h2 with
    | lst h3 _ => exact ⟨a, _, h1, h3⟩
  unfold mutL at h
  split at h
  · exact fin _ (.inl (by assumption))
  · exact fin _ (.inr (by assumption))
  · cases h
theorem mutD_at {σ : St} {H : Hp} {ρ : Rho} {i : Nat} (r : Rep X.K X.mg B σ H ρ) (h : mutD ρ i = true) : ∃ a, σ[i]? = some (some (.ref a)) := by
  have fin : ∀ ds, MutAt ρ i (.dict ds) → ∃ a, σ[i]? = some (some (.ref a)) := fun ds hm => by
    obtain ⟨a, h1, h2, _⟩ := r.cel i _ hm
    exact ⟨a, h1⟩
  unfold mutD at h
  split at h
  · exact fin _ (.inl (by assumption))
  · exact fin _ (.inr (by assumption))
  · cases h
theorem ss_dput {o k e : Expr} {i : Nat} {ck ce : E} {pos' : Pos} (ho : PE X o (tVar i)) (hk : PE X k (tEX X B W (den Φ ck))) (he : PE X e (tEX X B W (den Φ ce))) (hu : X.A.units + 1 < cLine) (hs : swapsWith e (some (.Subscript o k pos')) pos.line X.env = pure false) :
    PS X (.Assign [.Subscript o k pos'] e pos) (tSX X B W (exS Φ (.dput i ck ce))) := by
  refine PS.weak (ps_dput hu ho hk he hs) fun D σ H ⟨ρ, r, q⟩ => ?_
  simp only [exS] at q
  refine ⟨ρ, r, (FlOk.dat q).mono fun v H1 ⟨d, ρ1, st, dp, q1⟩ => ?_⟩
  split at q1
  · rename_i hm
    obtain ⟨a, ha⟩ := mutD_at st.rep hm
    refine ⟨.ref a, ha, ρ1, st.rep, (FlOk.dat q1).mono fun y H2 ⟨kd, ρ2, st2, dpk, q2⟩ => ?_⟩
    cases e1 : chg ρ2 i (dputD kd d) with
    | none => rw [e1] at q2; exact q2.elim
    | some ρ3 =>
      rw [e1] at q2
      obtain ⟨H', h1, h2⟩ := dput_ok st2.rep ha dpk (Dp_sub st2.sub d dp) e1
      exact ⟨a, H', rfl, h1, q2 _ _ h2⟩
  · exact q1.elim

/-! ### append, extend -/
theorem chg_ok {σ : St} {H : Hp} {ρ ρ2 : Rho} {i : Nat} {f : PyData → Option PyData} (r : Rep X.K X.mg B σ H ρ) {a : Addr} (ha : σ[i]? = some (some (.ref a))) (h : chg ρ i f = some ρ2) :
    ∃ d0 d1, MutAt ρ i d0 ∧ f d0 = some d1 ∧ ∀ H', (∀ x o, x ≠ a → H x = some o → H' x = some o) → Cell X.K (Hs B σ ρ) H' a d1 → Step X.K X.mg B σ H ρ σ H' ρ2 := by
  unfold chg at h
  split at h
  · rename_i d0 e0
    obtain ⟨d1, h1, h2⟩ := Option.map_eq_some_iff.mp h
    subst h2
    exact ⟨d0, d1, .inl e0, h1, fun H' h4 h5 => (Step.chg r (.inl e0) ha (.inl ⟨e0, rfl⟩) h4 h5).1⟩
  · rename_i d0 e0
    obtain ⟨d1, h1, h2⟩ := Option.map_eq_some_iff.mp h
    subst h2
    exact ⟨d0, d1, .inr e0, h1, fun H' h4 h5 => (Step.chg r (.inr e0) ha (.inr ⟨e0, rfl⟩) h4 h5).1⟩
  · cases h
theorem sub_own {σ : St} {H : Hp} {ρ : Rho} {a : Addr} (own : Hs B σ ρ a) (o : HO) : Sub (Hid H (Hs B σ ρ)) (Hid (upd H a o) (Hs B σ ρ)) := fun x u z => by
  rw [Hid_iff] at *
  refine ⟨?_, z.2⟩
  rw [upd_ne fun e => z.2 (by rw [e]; exact own)]
  exact z.1
theorem app_ok {σ : St} {H : Hp} {ρ ρ2 : Rho} {i : Nat} {a : Addr} {v : V} {d : PyData} (r : Rep X.K X.mg B σ H ρ) (ha : σ[i]? = some (some (.ref a))) (hv : Dp X.K (Hid H (Hs B σ ρ)) v d) (h : chg ρ i (appD d) = some ρ2) :
    ∃ vs, H a = some (.lst vs) ∧ vs.length < sizeLine ∧ Step X.K X.mg B σ H ρ σ (upd H a (.lst (vs ++ [v]))) ρ2 := by
  obtain ⟨d0, d1, hm, e, fin⟩ := chg_ok r ha h
  obtain ⟨a', h1, h2, _⟩ := r.cel i d0 hm
  rw [ha] at h1
  cases h1
  unfold appD at e
  split at e
  · split at e
    · cases e
      cases h2 with
      | lst h3 h4 =>
        refine ⟨_, h3, by rw [DpAll_length h4]; assumption, fin _ (fun x o n z => by rw [upd_ne n]; exact z) ?_⟩
        have own : Hs B σ ρ a := .inr ⟨i, _, hm, ha⟩
        exact .lst upd_same (DpAll_sub (sub_own own _) _ (DpAll_append h4 (.cons hv .nil)))
    · cases e
  · cases e
theorem ext_ok {σ : St} {H : Hp} {ρ ρ2 : Rho} {i : Nat} {a : Addr} {v : V} {d : PyData} (r : Rep X.K X.mg B σ H ρ) (ha : σ[i]? = some (some (.ref a))) (hv : Dp X.K (Hid H (Hs B σ ρ)) v d) (h : chg ρ i (extD d) = some ρ2) :
    ∃ b vs ws, v = .ref b ∧ H a = some (.lst vs) ∧ SqL X.K H b ws ∧ vs.length + ws.length ≤ sizeLine ∧ Step X.K X.mg B σ H ρ σ (upd H a (.lst (vs ++ ws))) ρ2 := by
  obtain ⟨d0, d1, hm, e, fin⟩ := chg_ok r ha h
  obtain ⟨a', h1, h2, _⟩ := r.cel i d0 hm
  rw [ha] at h1
  cases h1
  unfold extD at e
  split at e
  · split at e
    · split at e
      · cases e
        cases h2 with
        | lst h3 h4 =>
          cases hv with
          | lst h5 h6 =>
            refine ⟨_, _, _, rfl, h3, SqL_sub (Sub.hid _) h5, by rw [DpAll_length h4, DpAll_length h6]; assumption, fin _ (fun x o n z => by rw [upd_ne n]; exact z) ?_⟩
            have own : Hs B σ ρ a := .inr ⟨i, _, hm, ha⟩
            exact .lst upd_same (DpAll_sub (sub_own own _) _ (DpAll_append h4 h6))
      · cases e
    · cases e
  · cases e
theorem ss_app {o e : Expr} {i : Nat} {c : E} {apos cpos : Pos} (ho : PE X o (tVar i)) (he : PE X e (tEX X B W (den Φ c))) (hs : starEach [e] X.env = (false, eval e X.env) :: starEach [] X.env)
    (hb : attributeBase o "append" X.env (eval o X.env) = eval o X.env) (hl : (apos.endLine == cpos.line) = true) : PS X (.Expr (.Call (.Attribute o "append" apos) [e] [] cpos) pos) (tSX X B W (exS Φ (.app i c))) := by
  have hfew : ((backTo cpos (starEach [e] X.env)).all (fun x => !x.1) && (backToKw cpos (keywordEach [] X.env)).all (fun x => x.1.isSome)
      && decide (([e] : List Expr).length + ([] : List Keyword).length + (if ([] : List Keyword).isEmpty then 0 else 1) < 30)) = true := by rw [hs]; rfl
  refine PS.weak (ps_expr (pe_bm PySem.F.plainAttrs_list PySem.F.slot_list_append PySem.F.type_list_append mt_append ho (pa_cons he pa_nil hs) hb hfew hl hs rfl) rfl) fun D σ H ⟨ρ, r, q⟩ => ?_
  simp only [exS] at q
  split at q
  · rename_i hm
    obtain ⟨a, vs, ha, hH⟩ := mutL_at r hm
    refine ⟨.ref a, ha, .inl ⟨rfl, vs, SqL.of hH⟩, ρ, r, (FlOk.dat q).mono fun v H1 ⟨d, ρ1, st, dp, q1⟩ => ?_⟩
    cases e1 : chg ρ1 i (appD d) with
    | none => rw [e1] at q1; exact q1.elim
    | some ρ2 =>
      rw [e1] at q1
      obtain ⟨ws, h1, h2, h3⟩ := app_ok st.rep ha dp e1
      exact ⟨a, ws, v, rfl, rfl, h1, h2, q1 _ _ h3⟩
  · exact q.elim
end
end G6
-- ## Stm2
/-! # Stm2: extend, loops, comprehensions -/
namespace G6
open PySem PySem.Spec PyProof.Rows L2
section
variable {X : Cx} {B : ASet} {W : WX} {Φ : Fenv} {pos : Pos}
open AutoSeq1 MeetsSeq in
theorem list_extend_any (l : Addr) (items : Array Value) (n : Nat) (b : Addr) (items2 : Array Value) (n2 : Nat) (sl2 : Array (Option Value)) (hc0 : ¬(!items.isEmpty && Builtin.List.listTooLong (items.size + items2.size)) = true) (hc1 : items.size ≤ sizeLine) (hs2 : items.size + items2.size ≤ sizeLine + 1) :
    Meets (Builtin.«list.extend» ⟨[.ref l, .ref b], []⟩) (fun _ R s => s.heap.get? l = some { cls := .type "list", dict := none, data := .seq items n, slots := #[] } ∧ s.heap.get? b = some { cls := .type "list", dict := none, data := .seq items2 n2, slots := sl2 } ∧
      R (.ok (.ret Value.none)) { s with heap := s.heap.update l (Obj.mapSeq fun x => x ++ items2), toks := s.toks }) :=
  .of_wp fun prog w A R s h => by
    obtain ⟨hp, g, d, tk, os⟩ := s
    obtain ⟨hl, hb, h⟩ := h
    have f1 := idx_int
    have f2 := AutoSeq1.sub_tuple_tuple
    have f3 := AutoSeq1.sub_list_list
    have f4 := AutoSeq1.sub_tuple_list
    have f5 := AutoSeq1.sub_list_tuple
    have hz' : (items ++ items2).size ≤ sizeLine + 1 := by rw [Array.size_append]; exact hs2
    wp_walk using (wpAny_updateSeq hl rfl (hz := hc1) (_hz' := hz')), wpAny_loadPart' hl, wpAny_loadPart' hb
    exact ⟨_, rfl, h⟩
def rExtL (K : PySem.W.Frag) : V → List V → Hp → VK → Prop := fun x vs H Q => ∃ l b xs zs, x = .ref l ∧ vs = [.ref b] ∧ H l = some (.lst xs) ∧ SqL K H b zs ∧ xs.length + zs.length ≤ sizeLine ∧ Q .non (upd H l (.lst (xs ++ zs)))
theorem mt_extL : MtM X "list.extend" (rExtL X.K) := by
  intro pins s σ H x vs v us Q I rx rv h
  obtain ⟨l, b, xs, zs, rfl, rfl, hH, hB, hz, q⟩ := h
  cases rx
  obtain ⟨u, rfl, ru⟩ := rv.one
  cases ru
  obtain ⟨z, its, n, r, hl, e⟩ := I.lstM hH
  obtain ⟨its2, r2, ⟨o2, n2, e2, hc2, hd2, hs2⟩, _⟩ := I.list hB
  obtain ⟨oc2, od2, oda2, osl2⟩ := o2
  simp only at hc2 hd2 hs2
  subst hc2 hd2 hs2
  have l1 := r.length
  have l2 := r2.length
  have hsz : its.toArray.size + its2.toArray.size ≤ sizeLine := by rw [List.size_toArray, List.size_toArray]; omega
  have hlong : ¬ (!its.toArray.isEmpty && Builtin.List.listTooLong (its.toArray.size + its2.toArray.size)) = true := by
    rw [notLongL hsz, Bool.and_false]
    exact Bool.false_ne_true
  refine call_meets F.slot_list_extend ⟨_, e, rfl⟩ F.entry_list_extend (F.args_list_extend_2 _ _)
    (list_extend_any l its.toArray n b its2.toArray n2 osl2 hlong (by rw [List.size_toArray]; omega) (by omega)) ⟨e, e2, ?_⟩
  refine ⟨.non, _, I.lset (its' := its ++ its2) hH e (by simp) (r.append r2) ?_, rfl, q⟩
  rw [List.length_append]
  omega
theorem ss_ext {o e : Expr} {i : Nat} {c : E} {apos cpos : Pos} (ho : PE X o (tVar i)) (he : PE X e (tEX X B W (den Φ c))) (hs : starEach [e] X.env = (false, eval e X.env) :: starEach [] X.env)
    (hb : attributeBase o "extend" X.env (eval o X.env) = eval o X.env) (hl : (apos.endLine == cpos.line) = true) : PS X (.Expr (.Call (.Attribute o "extend" apos) [e] [] cpos) pos) (tSX X B W (exS Φ (.ext i c))) := by
  have hfew : ((backTo cpos (starEach [e] X.env)).all (fun x => !x.1) && (backToKw cpos (keywordEach [] X.env)).all (fun x => x.1.isSome)
      && decide (([e] : List Expr).length + ([] : List Keyword).length + (if ([] : List Keyword).isEmpty then 0 else 1) < 30)) = true := by rw [hs]; rfl
  refine PS.weak (ps_expr (pe_bm PySem.F.plainAttrs_list PySem.F.slot_list_extend PySem.F.type_list_extend mt_extL ho (pa_cons he pa_nil hs) hb hfew hl hs rfl) rfl) fun D σ H ⟨ρ, r, q⟩ => ?_
  simp only [exS] at q
  split at q
  · rename_i hm
    obtain ⟨a, vs, ha, hH⟩ := mutL_at r hm
    refine ⟨.ref a, ha, .inl ⟨rfl, vs, SqL.of hH⟩, ρ, r, (FlOk.dat q).mono fun v H1 ⟨d, ρ1, st, dp, q1⟩ => ?_⟩
    cases e1 : chg ρ1 i (extD d) with
    | none => rw [e1] at q1; exact q1.elim
    | some ρ2 =>
      rw [e1] at q1
      obtain ⟨b, ws, zs, h0, h1, h2, h3, h4⟩ := ext_ok st.rep ha dp e1
      subst h0
      exact ⟨a, b, ws, zs, rfl, rfl, h1, h2, h3, q1 _ _ h4⟩
  · exact q.elim

/-! ### targets -/
/-- a target's store, by data -/
def TgOk (X : Cx) (B : ASet) (tg : List Nat) (g : TG) : Prop := ∀ (σ : St) (H : Hp) (ρ ρ1 : Rho) (v : V) (d : PyData) (Q : St → Hp → Prop), Rep X.K X.mg B σ H ρ → Dp X.K (Hid H (Hs B σ ρ)) v d → tg.all (freeAt ρ) = true → bindT tg d ρ = some ρ1 →
  (∀ σ', Step X.K X.mg B σ H ρ σ' H ρ1 → wipe σ' tg = wipe σ tg → Q σ' H) → g v σ H Q
theorem tg_one {i : Nat} : TgOk X B [i] (gName i) := by
  intro σ H ρ ρ1 v d Q r dp hf e q
  simp only [bindT, Option.some.injEq] at e
  subst e
  simp only [List.all_cons, List.all_nil, Bool.and_true] at hf
  refine q _ (Step.put r rfl hf dp) ?_
  simp only [wipe, List.set_set]
theorem freeAt_set {ρ : Rho} {i j : Nat} {s : Sl} (hs : plainSl s = true) (h : freeAt ρ j = true) : freeAt (ρ.set i s) j = true := by
  unfold freeAt at *
  by_cases e : i = j
  · subst e
    cases q : ρ[i]? with
    | none => rw [q] at h; cases h
    | some x =>
      rw [List.getElem?_set_self (List.getElem?_eq_some_iff.mp q).1]
      cases s <;> first | rfl | cases hs
  · rw [List.getElem?_set_ne e]; exact h
theorem tg_two {i j : Nat} (hij : i ≠ j) : TgOk X B [i, j] (gTup X.K 2 (gCons (gName i) (gCons (gName j) gNil))) := by
  intro σ H ρ ρ1 v d Q r dp hf e q
  simp only [List.all_cons, List.all_nil, Bool.and_true, Bool.and_eq_true] at hf
  cases d with
  | tuple ds =>
    match ds, dp, e with
    | [a, b], dp, e =>
      simp only [bindT, Option.some.injEq] at e
      subst e
      cases dp with
      | tup h1 h2 =>
        cases h2 with
        | cons h3 h4 =>
          cases h4 with
          | cons h5 h6 =>
            cases h6
            rename_i v1 v2
            have st1 := Step.put r (i := i) (v := v1) (s := .v a) rfl hf.1 h3
            have st2 := Step.put st1.rep (i := j) (v := v2) (s := .v b) rfl (freeAt_set rfl hf.2) (Dp_sub st1.sub b h5)
            refine ⟨_, [v1, v2], rfl, (h1.sub (Sub.hid _)).sqT, rfl, v1, [v2], rfl, v2, [], rfl, rfl, q _ (st1.trans st2) ?_⟩
            simp only [wipe, List.set_set]
            rw [List.set_comm _ _ hij, List.set_set, List.set_comm _ _ (Ne.symm hij)]
    | [], dp, e => simp [bindT] at e
    | [_], dp, e => simp [bindT] at e
    | _ :: _ :: _ :: _, dp, e => simp [bindT] at e
  | _ => simp [bindT] at e

/-! ### for -/
/-- what is walked, by data: the items xs; G is what was to be seen at the start -/
structure ItD (K : PySem.W.Frag) (J : It) (xs : List PyData) (G : Hp) : Prop where
  len : xs.length ≤ sizeLine
  go : ∀ (i : Nat) (H : Hp) (S : ASet), Sub G (Hid H S) → i < xs.length → J.go i H
  yld : ∀ (i : Nat) (x : PyData) (H : Hp) (S : ASet) (v : V) (H' : Hp), Sub G (Hid H S) → DomS S H → xs[i]? = some x → J.yld i H v H' → Sub H H' ∧ Dp K (Hid H' S) v x
  stop : ∀ (H : Hp) (S : ASet), Sub G (Hid H S) → J.stop xs.length H
def tI (K : PySem.W.Frag) (mg : Str → Option Value) (B : ASet) (W : WX) (f : Rho → R (List PyData)) : TI := fun σ H Q => ∃ ρ, Rep K mg B σ H ρ ∧ Post K mg B W (fun ρ' H' J xs => ItD K J xs (Hid H' (Hs B σ ρ'))) σ H ρ (f ρ) Q
abbrev tIX (X : Cx) (B : ASet) (W : WX) (f : Rho → R (List PyData)) : TI := tI X.K X.mg B W f
theorem PI.weak {tg e : Expr} {t t' : TI} (h : PI X tg e t) (w : ∀ σ H Q, t' σ H Q → t σ H Q) : PI X tg e t' := ⟨fun pins s σ H Q I q => h.run pins s σ H Q I (w σ H Q q)⟩
theorem drop_get {α : Type} {xs : List α} {i : Nat} (h : i < xs.length) : ∃ x, xs[i]? = some x ∧ xs.drop i = x :: xs.drop (i + 1) :=
  ⟨xs[i], List.getElem?_eq_getElem h, List.drop_eq_getElem_cons h⟩
theorem ss_loop {tg iter : Expr} {body : List Stmt} {tgs : List Nat} {src : Src} {cb : Ss} {g : TG} (hp : PassesOwn (model X.prog X.w) X.A X.env X.xe) (hc : X.calm = true) (hi : PI X tg iter (tIX X B W (dsrc Φ src))) (hg : PG X tg g) (ht : TgOk X B tgs g) (hb : PSs X body (tSX X B W (exSs Φ cb)))
    (hs : ∀ x, foldedSetIterable iter X.env x = pure x) : PS X (.For tg iter body [] pos) (tSX X B W (exS Φ (.loop tgs src cb))) := by
  refine PS.weak (ps_for hp hc hi hg hb hs) fun D σ H ⟨ρ, r, q⟩ => ?_
  simp only [exS] at q
  refine ⟨ρ, r, (FlOk.expr q).mono fun J H1 ⟨xs, ρ1, _, st1, hJ, q1⟩ => ?_⟩
  refine ⟨fun i m σ' H' => m = xs.length - i ∧ i ≤ xs.length ∧ ∃ ρ', Step X.K X.mg B σ H1 ρ1 σ' H' ρ' ∧ FlOk X.K X.mg B W σ' H' ρ' D (forL (exSs Φ cb) tgs (xs.drop i) ρ'),
    ⟨xs.length, by simp, Nat.zero_le _, ρ1, Step.refl st1.rep, by simpa using q1⟩, ?_⟩
  rintro i m σ' H' ⟨rfl, hi, ρ', st, q2⟩
  have hsub := st.sub
  by_cases hlt : i < xs.length
  · refine .inr ⟨hJ.go i H' _ hsub hlt, fun σ2 H2 => ∃ ρ2, Step X.K X.mg B σ H1 ρ1 σ2 H2 ρ2 ∧ FlOk X.K X.mg B W σ2 H2 ρ2 D (forL (exSs Φ cb) tgs (xs.drop (i + 1)) ρ2), fun σ2 H2 ⟨ρ2, s2, f2⟩ => ⟨xs.length - (i + 1), by omega, rfl, hlt, ρ2, s2, f2⟩, fun v H3 hy => ?_⟩
    obtain ⟨x, hx, hd⟩ := drop_get hlt
    rw [hd] at q2
    obtain ⟨sb, dp⟩ := hJ.yld i x H' _ v H3 hsub st.rep.domS hx hy
    have st3 := Step.ext st.rep sb
    simp only [forL] at q2
    split at q2
    · rename_i hf
      cases e1 : bindT tgs x ρ' with
      | none => rw [e1] at q2; exact q2.elim
      | some ρ2 =>
        rw [e1] at q2
        dsimp only at q2
        refine ht σ' H3 ρ' ρ2 v x _ st3.rep dp hf e1 fun σ2 st4 _ => ⟨ρ2, st4.rep, ?_⟩
        have stA := st3.trans st4
        have stB := st.trans stA
        cases e2 : exSs Φ cb ρ2 with
        | nx ρ3 =>
          rw [e2] at q2
          exact fun σ3 H4 s4 => ⟨ρ3, stB.trans s4, FlOk.from q2 (stA.trans s4)⟩
        | ct ρ3 =>
          rw [e2] at q2
          exact fun σ3 H4 s4 => ⟨ρ3, stB.trans s4, FlOk.from q2 (stA.trans s4)⟩
        | br ρ3 =>
          rw [e2] at q2
          exact fun σ3 H4 s4 => q2 σ3 H4 (stA.trans s4)
        | rt d ρ3 =>
          rw [e2] at q2
          exact fun w σ3 H4 s4 dp4 => q2 w σ3 H4 (stA.trans s4) dp4
        | ex c ρ3 =>
          rw [e2] at q2
          exact fun u σ3 H4 hm s4 => q2 u σ3 H4 hm (stA.trans s4)
        | bad => rw [e2] at q2; exact q2
    · exact q2.elim
  · have e : i = xs.length := by omega
    subst e
    rw [List.drop_length] at q2
    exact .inl ⟨hJ.stop H' _ hsub, q2 σ' H' (Step.refl st.rep)⟩

/-! ### while -/
theorem ss_wh {c : Expr} {body : List Stmt} {cc : E} {cb : Ss} (hp : PassesOwn (model X.prog X.w) X.A X.env X.xe) (hc : PT X c (tBX X B W fun ρ => tst (den Φ cc ρ))) (hb : PSs X body (tSX X B W (exSs Φ cb))) : PS X (.While c body [] pos) (tSX X B W (exS Φ (.wh cc cb))) := by
  refine PS.weak (ps_while hp hc hb) fun D σ H ⟨ρ, r, q⟩ => ?_
  simp only [exS] at q
  refine ⟨fun m σ' H' => ∃ ρ', Rep X.K X.mg B σ' H' ρ' ∧ FlOk X.K X.mg B W σ' H' ρ' D (whL (fun ρ1 => tst (den Φ cc ρ1)) (exSs Φ cb) m ρ'), ⟨200, ρ, r, q⟩, ?_⟩
  rintro m σ' H' ⟨ρ', r', q'⟩
  cases m with
  | zero => exact q'.elim
  | succ m =>
    simp only [whL] at q'
    refine ⟨ρ', r', (FlOk.expr q').mono fun k H1 ⟨k', ρ1, _, st, e, q1⟩ => ?_⟩
    subst e
    cases k with
    | false => exact q1 σ' H1 (Step.refl st.rep)
    | true =>
      refine ⟨fun σ2 H2 => ∃ ρ2, Rep X.K X.mg B σ2 H2 ρ2 ∧ FlOk X.K X.mg B W σ2 H2 ρ2 D (whL (fun ρ1 => tst (den Φ cc ρ1)) (exSs Φ cb) m ρ2), fun σ2 H2 ⟨ρ2, r2, f2⟩ => ⟨m, Nat.lt_succ_self _, ρ2, r2, f2⟩, ρ1, st.rep, ?_⟩
      simp only [if_true] at q1
      cases e2 : exSs Φ cb ρ1 with
      | nx ρ3 => rw [e2] at q1; exact fun σ3 H4 s4 => ⟨ρ3, s4.rep, FlOk.from q1 s4⟩
      | ct ρ3 => rw [e2] at q1; exact fun σ3 H4 s4 => ⟨ρ3, s4.rep, FlOk.from q1 s4⟩
      | br ρ3 => rw [e2] at q1; exact q1
      | rt d ρ3 => rw [e2] at q1; exact q1
      | ex c ρ3 => rw [e2] at q1; exact q1
      | bad => rw [e2] at q1; exact q1
end
end G6
-- ## Comp1
/-! # Comp1: what is walked, comprehensions -/
namespace G6
open PySem PySem.Spec PyProof.Rows L2
section
variable {K : PySem.W.Frag} {mg : Str → Option Value} {B : ASet} {σ : St} {H : Hp} {ρ : Rho}
/-- a plain slot is forgotten -/
theorem Step.clear (r : Rep K mg B σ H ρ) {i : Nat} (hp : plainAt ρ i = true) : Step K mg B σ H ρ (σ.set i none) H (ρ.set i .un) := by
  have less : ∀ x, Hs B (σ.set i none) (ρ.set i .un) x → Hs B σ ρ x := fun x z => by
    rcases z with z | z
    · exact .inl z
    · exact .inr (own_put rfl z)
  refine ⟨fun _ _ e _ => e, fun x z => .inl (own_put rfl z), fun j d e => ?_, ?_⟩
  · have n : j ≠ i := fun z => by
      subst z
      unfold plainAt at hp
      rw [e] at hp; cases hp
    rw [List.getElem?_set_ne (Ne.symm n), List.getElem?_set_ne (Ne.symm n)]
    exact ⟨rfl, d, e⟩
  · refine ⟨by rw [List.length_set, List.length_set]; exact r.len, fun j d e => ?_, fun j d e => ?_, fun j x e => ?_, fun j k d e x m1 m2 h1 h2 => ?_, r.dom⟩
    · rcases set_get e with ⟨_, e2⟩ | ⟨n, e2⟩
      · cases e2
      · obtain ⟨w, h1, h2⟩ := r.val j d e2
        exact ⟨w, by rw [List.getElem?_set_ne (Ne.symm n)]; exact h1, Dp_sub (Sub.less less) d h2⟩
    · obtain ⟨n, e⟩ := mut_set rfl e
      obtain ⟨b, h1, h2, h3⟩ := r.cel j d e
      exact ⟨b, by rw [List.getElem?_set_ne (Ne.symm n)]; exact h1, h2.stay (fun _ z => z) (Sub.less less), h3⟩
    · rcases set_get e with ⟨_, e2⟩ | ⟨n, e2⟩
      · cases e2
      · obtain ⟨f, h1, h2⟩ := r.fnc j x e2
        exact ⟨f, by rw [List.getElem?_set_ne (Ne.symm n)]; exact h1, h2⟩
    · obtain ⟨n1, m1⟩ := mut_set rfl m1
      obtain ⟨n2, m2⟩ := mut_set rfl m2
      rw [List.getElem?_set_ne (Ne.symm n1)] at h1
      rw [List.getElem?_set_ne (Ne.symm n2)] at h2
      exact r.inj j k d e x m1 m2 h1 h2
theorem plainAt_set {i j : Nat} (h : plainAt ρ j = true) : plainAt (ρ.set i .un) j = true := by
  unfold plainAt at *
  by_cases e : i = j
  · subst e
    cases q : ρ[i]? with
    | none => rw [q] at h; cases h
    | some x => rw [List.getElem?_set_self (List.getElem?_eq_some_iff.mp q).1]; rfl
  · rw [List.getElem?_set_ne e]; exact h
theorem plainAt_wipe : ∀ {tg : List Nat} {j : Nat}, plainAt ρ j = true → plainAt (wipeR ρ tg) j = true
  | [], _, h => h
  | i :: r, j, h => by simp only [wipeR]; exact plainAt_set (plainAt_wipe h)
theorem Step.wipes (r : Rep K mg B σ H ρ) : ∀ {tg : List Nat}, tg.all (plainAt ρ) = true → Step K mg B σ H ρ (wipe σ tg) H (wipeR ρ tg)
  | [], _ => Step.refl r
  | i :: tg, h => by
    simp only [List.all_cons, Bool.and_eq_true] at h
    have st := Step.wipes r h.2
    simp only [wipe, wipeR]
    exact st.trans (Step.clear st.rep (plainAt_wipe h.1))
/-- the owned ones stay the same where plain slots are forgotten -/
theorem own_clear {i : Nat} (hp : plainAt ρ i = true) (a : Addr) : Own (σ.set i none) (ρ.set i .un) a ↔ Own σ ρ a := by
  constructor
  · exact own_put rfl
  · rintro ⟨j, d, m, h⟩
    have n : j ≠ i := fun z => by
      subst z
      unfold plainAt at hp
      rcases m with m | m <;> (rw [m] at hp; cases hp)
    refine ⟨j, d, ?_, by rw [List.getElem?_set_ne (Ne.symm n)]; exact h⟩
    unfold MutAt at m ⊢
    rwa [List.getElem?_set_ne (Ne.symm n)]
theorem own_wipes (a : Addr) : ∀ {tg : List Nat}, tg.all (plainAt ρ) = true → (Own (wipe σ tg) (wipeR ρ tg) a ↔ Own σ ρ a)
  | [], _ => Iff.rfl
  | i :: tg, h => by
    simp only [List.all_cons, Bool.and_eq_true] at h
    simp only [wipe, wipeR]
    exact (own_clear (plainAt_wipe h.1) a).trans (own_wipes a h.2)
theorem hs_wipes {tg : List Nat} (h : tg.all (plainAt ρ) = true) : Hs B (wipe σ tg) (wipeR ρ tg) = Hs B σ ρ := by
  funext a
  apply propext
  constructor
  · rintro (z | z)
    · exact .inl z
    · exact .inr ((own_wipes a h).mp z)
  · rintro (z | z)
    · exact .inl z
    · exact .inr ((own_wipes a h).mpr z)
theorem wipeR_get {j : Nat} : ∀ {tg : List Nat}, j ∉ tg → (wipeR ρ tg)[j]? = ρ[j]?
  | [], _ => rfl
  | i :: tg, h => by
    simp only [List.mem_cons, not_or] at h
    simp only [wipeR]
    rw [List.getElem?_set_ne (Ne.symm h.1)]
    exact wipeR_get h.2
theorem wipe_get {j : Nat} : ∀ {tg : List Nat}, j ∉ tg → (wipe σ tg)[j]? = σ[j]?
  | [], _ => rfl
  | i :: tg, h => by
    simp only [List.mem_cons, not_or] at h
    simp only [wipe]
    rw [List.getElem?_set_ne (Ne.symm h.1)]
    exact wipe_get h.2
theorem wipeR_in {j : Nat} : ∀ {tg : List Nat}, j ∈ tg → j < ρ.length → (wipeR ρ tg)[j]? = some .un
  | i :: tg, h, hl => by
    simp only [wipeR]
    by_cases e : i = j
    · subst e
      rw [List.getElem?_set_self]
      have : ∀ tg, (wipeR ρ tg).length = ρ.length := fun tg => by
        induction tg with
        | nil => rfl
        | cons k r ih => simp only [wipeR, List.length_set, ih]
      rw [this]; exact hl
    · rw [List.getElem?_set_ne e]
      rcases List.mem_cons.mp h with h | h
      · exact absurd h.symm e
      · exact wipeR_in h hl
theorem backR_len {ρ₀ : Rho} (tg : List Nat) : (backR ρ₀ ρ tg).length = ρ.length := by
  induction tg with
  | nil => rfl
  | cons k r ih => simp only [backR, List.length_set, ih]
theorem backR_get {ρ₀ : Rho} {j : Nat} : ∀ {tg : List Nat}, j ∉ tg → (backR ρ₀ ρ tg)[j]? = ρ[j]?
  | [], _ => rfl
  | i :: tg, h => by
    simp only [List.mem_cons, not_or] at h
    simp only [backR]
    rw [List.getElem?_set_ne (Ne.symm h.1)]
    exact backR_get h.2
theorem backR_in {ρ₀ : Rho} {j : Nat} : ∀ {tg : List Nat}, j ∈ tg → j < ρ.length → (backR ρ₀ ρ tg)[j]? = some ((ρ₀[j]?).getD .un)
  | i :: tg, h, hl => by
    simp only [backR]
    by_cases e : i = j
    · subst e
      rw [List.getElem?_set_self (by rw [backR_len]; exact hl)]
    · rw [List.getElem?_set_ne e]
      rcases List.mem_cons.mp h with h | h
      · exact absurd h.symm e
      · exact backR_in h hl
/-! ### the new list out of sight -/
abbrev Only (D : Addr) : ASet := fun a => a = D
abbrev And1 (B : ASet) (D : Addr) : ASet := fun a => B a ∨ a = D
theorem hid_hid {D : Addr} : Hid (Hid H (Only D)) (Hs B σ ρ) = Hid H (Hs (And1 B D) σ ρ) := by
  funext a
  cases e : Hid H (Hs (And1 B D) σ ρ) a with
  | some o =>
    rw [Hid_iff] at e
    rw [Hid_iff, Hid_iff]
    exact ⟨⟨e.1, fun z => e.2 (.inl (.inr z))⟩, fun z => e.2 (z.elim (fun q => .inl (.inl q)) .inr)⟩
  | none =>
    cases e2 : Hid (Hid H (Only D)) (Hs B σ ρ) a with
    | none => rfl
    | some o =>
      rw [Hid_iff, Hid_iff] at e2
      have : Hid H (Hs (And1 B D) σ ρ) a = some o := Hid_iff.mpr ⟨e2.1.1, fun z => by
        rcases z with (z | z) | z
        · exact e2.2 (.inl z)
        · exact e2.1.2 z
        · exact e2.2 (.inr z)⟩
      rw [e] at this; cases this
theorem cell_hid {D a : Addr} {d : PyData} (hn : a ≠ D) (c : Cell K (Hs B σ ρ) (Hid H (Only D)) a d) : Cell K (Hs (And1 B D) σ ρ) H a d := by
  have f : ∀ o, Hid H (Only D) a = some o → H a = some o := fun o e => (Hid_iff.mp e).1
  cases c with
  | lst h1 h2 => rw [hid_hid] at h2; exact .lst (f _ h1) h2
  | dK h1 h2 => rw [hid_hid] at h2; exact .dK (f _ h1) h2
  | dT h1 h2 => rw [hid_hid] at h2; exact .dT (f _ h1) h2
theorem cell_unhid {D a : Addr} {d : PyData} (hn : a ≠ D) (c : Cell K (Hs (And1 B D) σ ρ) H a d) : Cell K (Hs B σ ρ) (Hid H (Only D)) a d := by
  have f : ∀ o, H a = some o → Hid H (Only D) a = some o := fun o e => Hid_iff.mpr ⟨e, hn⟩
  cases c with
  | lst h1 h2 => rw [← hid_hid] at h2; exact .lst (f _ h1) h2
  | dK h1 h2 => rw [← hid_hid] at h2; exact .dK (f _ h1) h2
  | dT h1 h2 => rw [← hid_hid] at h2; exact .dT (f _ h1) h2
theorem Rep.hide {D : Addr} (r : Rep K mg B σ (Hid H (Only D)) ρ) (hD : ∃ o, H D = some o ∧ NT o) : Rep K mg (And1 B D) σ H ρ where
  len := r.len
  val := fun i d h => by rw [← hid_hid]; exact r.val i d h
  cel := fun i d h => by
    obtain ⟨a, h1, h2, h3⟩ := r.cel i d h
    obtain ⟨o, ho, _⟩ := h2.there
    have hn : a ≠ D := fun z => (Hid_iff.mp ho).2 z
    exact ⟨a, h1, cell_hid hn h2, fun z => z.elim h3 hn⟩
  fnc := r.fnc
  inj := r.inj
  dom := fun a z => by
    rcases z with z | z
    · obtain ⟨o, h, nt⟩ := r.dom a z
      exact ⟨o, (Hid_iff.mp h).1, nt⟩
    · subst z; exact hD
theorem Rep.unhide {D : Addr} (r : Rep K mg (And1 B D) σ H ρ) (nB : ¬ B D) : Rep K mg B σ (Hid H (Only D)) ρ where
  len := r.len
  val := fun i d h => by rw [hid_hid]; exact r.val i d h
  cel := fun i d h => by
    obtain ⟨a, h1, h2, h3⟩ := r.cel i d h
    have hn : a ≠ D := fun z => h3 (.inr z)
    exact ⟨a, h1, cell_unhid hn h2, fun z => h3 (.inl z)⟩
  fnc := r.fnc
  inj := r.inj
  dom := fun a z => by
    obtain ⟨o, h, nt⟩ := r.dom a (.inl z)
    exact ⟨o, Hid_iff.mpr ⟨h, fun e => nB (by rw [← e]; exact z)⟩, nt⟩
theorem Step.unhide {D : Addr} {σ' : St} {H' : Hp} {ρ' : Rho} (s : Step K mg (And1 B D) σ H ρ σ' H' ρ') (nB : ¬ B D) : Step K mg B σ (Hid H (Only D)) ρ σ' (Hid H' (Only D)) ρ' where
  keep := fun a o h n => by
    rw [Hid_iff] at *
    exact ⟨s.keep a o h.1 n, h.2⟩
  own := fun a h => by
    rcases s.own a h with h | h
    · exact .inl h
    · refine .inr ?_
      cases e : Hid H (Only D) a with
      | none => rfl
      | some o => rw [Hid_iff] at e; rw [h] at e; cases e.1
  bor := s.bor
  rep := s.rep.unhide nB
end
section
variable {X : Cx} {B : ASet} {W : WX} {Φ : Fenv} {pos : Pos} {tg : Expr}
theorem itd_list {a : Addr} {vs : List V} {ds : List PyData} {G : Hp} (hl : ds.length ≤ sizeLine) (h1 : SqL X.K G a vs) (h2 : DpAll X.K G vs ds) : ItD X.K (Itl X.K a) ds G where
  len := hl
  go := fun i H S s hi => by
    have e := DpAll_length h2
    exact ⟨vs, vs[i]'(by omega), SqL_sub (s.trans (Sub.hid _)) h1, List.getElem?_eq_getElem _⟩
  yld := fun i x H S v H' s hd hx ⟨e, y⟩ => by
    subst e
    obtain ⟨w, h3, h4⟩ := DpAll_get h2 hx
    have := y vs (SqL_sub (s.trans (Sub.hid _)) h1)
    rw [h3] at this
    cases this
    exact ⟨Sub.refl _, Dp_sub s x h4⟩
  stop := fun H S s => ⟨vs, SqL_sub (s.trans (Sub.hid _)) h1, by rw [DpAll_length h2]; exact Nat.le_refl _⟩
theorem itd_tup {a : Addr} {vs : List V} {ds : List PyData} {G : Hp} (hl : ds.length ≤ sizeLine) (h1 : TupAt G a vs ds) (h2 : DpAll X.K G vs ds) : ItD X.K (Itt X.K a) ds G where
  len := hl
  go := fun i H S s hi => by
    have e := DpAll_length h2
    exact ⟨vs, vs[i]'(by omega), (h1.sub (s.trans (Sub.hid _))).sqT, List.getElem?_eq_getElem _⟩
  yld := fun i x H S v H' s hd hx ⟨e, y⟩ => by
    subst e
    obtain ⟨w, h3, h4⟩ := DpAll_get h2 hx
    have := y vs ((h1.sub (s.trans (Sub.hid _))).sqT)
    rw [h3] at this
    cases this
    exact ⟨Sub.refl _, Dp_sub s x h4⟩
  stop := fun H S s => ⟨vs, (h1.sub (s.trans (Sub.hid _))).sqT, by rw [DpAll_length h2]; exact Nat.le_refl _⟩
theorem itd_str {z : Str} {G : Hp} (hl : z.length ≤ sizeLine) : ItD X.K (Its z) (z.cps.toList.map fun c => .str ⟨#[c]⟩) G where
  len := by rw [List.length_map, Array.length_toList]; exact hl
  go := fun i H S s hi => by rw [List.length_map, Array.length_toList] at hi; exact hi
  yld := fun i x H S v H' s hd hx ⟨e, c, h1, h2⟩ => by
    subst e h2
    rw [List.getElem?_map] at hx
    rw [Array.getElem?_toList, h1] at hx
    cases hx
    exact ⟨Sub.refl _, .str _⟩
  stop := fun H S s => by rw [List.length_map, Array.length_toList]; exact Nat.le_refl _
theorem itd_rng {lo : Int} {n : Nat} {G : Hp} (hl : n ≤ sizeLine) : ItD X.K (Itr lo n) (intsD lo n) G where
  len := by unfold intsD; rw [List.length_map, List.length_range]; exact hl
  go := fun i H S s hi => by unfold intsD at hi; rw [List.length_map, List.length_range] at hi; exact hi
  yld := fun i x H S v H' s hd hx ⟨e, h2⟩ => by
    subst e h2
    unfold intsD at hx
    rw [List.getElem?_map] at hx
    obtain ⟨j, h1, h2⟩ := Option.map_eq_some_iff.mp hx
    obtain ⟨h3, h4⟩ := List.getElem?_eq_some_iff.mp h1
    rw [List.getElem_range] at h4
    subst h4 h2
    exact ⟨Sub.refl _, .int _⟩
  stop := fun H S s => by
    show n ≤ (intsD lo n).length
    unfold intsD; rw [List.length_map, List.length_range]; exact Nat.le_refl _
theorem pi_of {e : Expr} {c : E} (he : PE X e (tEX X B W (den Φ c))) : PI X tg e (tIX X B W (dsrc Φ (.of c))) := by
  refine ⟨fun pins s σ H R I ⟨ρ, r, q⟩ => ?_⟩
  simp only [dsrc] at q
  refine thn (he.run pins s σ H _ I ⟨ρ, r, post_dat q⟩) fun v s1 ⟨x, H1, I1, r1, d, ρ1, st, dp, q1⟩ => ?_
  cases d with
  | list ds =>
    cases dp with
    | lst h1 h2 =>
      rename_i a vs
      cases r1
      have h1' := SqL_sub (Sub.hid _) h1
      obtain ⟨its, rv, p, hz⟩ := I1.list h1'
      refine wpAny_pyIter_list p.isList ?_
      refine ⟨s1.heap.objs.size, [s1.heap.objs.size], _, _, H1, rfl, I1.kept (t' := s1.toks) fun b o e => Heap.get?_push_of_some _ e, turn_list a _, ⟨_, Heap.get?_push_size _ rfl, rfl, rfl⟩, fun b hb => ?_, q1 _ H1 (Step.refl st.rep) (itd_list (by rw [← DpAll_length h2]; exact hz) h1 h2)⟩
      have e : b = s1.heap.objs.size := by simpa using hb
      subst e
      exact I1.fpOk (Nat.le_refl _) (I1.hok.fresh (Nat.le_refl _))
  | tuple ds =>
    cases dp with
    | tup h1 h2 =>
      rename_i a vs
      cases r1
      obtain ⟨its, rv, p, hz⟩ := I1.tuple (h1.sub (Sub.hid _)).sqT
      refine wpAny_pyIter_tuple (show s1.heap.IsTuple a its.toArray from p) ?_
      refine ⟨s1.heap.objs.size, [s1.heap.objs.size], _, _, H1, rfl, I1.kept (t' := s1.toks) fun b o e => Heap.get?_push_of_some _ e, turn_tuple a _, ⟨_, Heap.get?_push_size _ rfl, rfl, rfl⟩, fun b hb => ?_, q1 _ H1 (Step.refl st.rep) (itd_tup (by rw [← DpAll_length h2]; exact hz) h1 h2)⟩
      have e : b = s1.heap.objs.size := by simpa using hb
      subst e
      exact I1.fpOk (Nat.le_refl _) (I1.hok.fresh (Nat.le_refl _))
  | str z =>
    cases dp
    obtain ⟨t, rfl⟩ := r1
    simp only [walkOf] at q1
    split at q1
    · rename_i xs hxs
      split at hxs
      · cases hxs
        rename_i hl
        have q2 := q1 _ H1 (Step.refl st.rep) (itd_str hl)
        cases ha : z.cps.all (· < 128)
        · exact wpAny_pyIter_wide ha (pi_one (tk := s1.toks) I1 _ (turn_str _ z t "str_iterator" (.inr rfl)) ⟨_, Heap.get?_push_size _ rfl, rfl, rfl⟩ q2)
        · exact wpAny_pyIter_ascii ha (pi_one (tk := s1.toks) I1 _ (turn_str _ z t "str_ascii_iterator" (.inl rfl)) ⟨_, Heap.get?_push_size _ rfl, rfl, rfl⟩ q2)
      · cases hxs
    · exact q1.elim
  | none => exact q1.elim
  | bool b => exact q1.elim
  | int i => exact q1.elim
  | dict _ => exact q1.elim
end
end G6
-- ## Comp2
/-! # Comp2: ranges, enumerate, comprehensions -/
namespace G6
open PySem PySem.Spec PyProof.Rows L2
section
variable {X : Cx} {B : ASet} {W : WX} {Φ : Fenv} {pos : Pos} {tg : Expr}
theorem inRange_ok {i : Int} (h : inRange i = true) : -1000000 ≤ i ∧ i ≤ 1000000 := by
  unfold inRange at h
  simp only [Bool.and_eq_true, decide_eq_true_eq] at h
  omega
theorem pi_rng1 {e : Expr} {c : E} {p : Pos} (he : PE X e (tEX X B W (den Φ c))) (hg : Gl X "range") (hm : X.mg "range" = none) (hs : starEach [e] X.env = [(false, eval e X.env)]) : PI X tg (.Call (.Name "range" p) [e] [] pos) (tIX X B W (dsrc Φ (.rng1 c))) := by
  refine PI.weak (pi_range1 hg hm (pa_cons he pa_nil hs) hs) fun σ H Q ⟨ρ, r, q⟩ => ?_
  simp only [dsrc] at q
  refine ⟨ρ, r, (post_res q).mono fun v H1 ⟨d, ρ1, st, ar, q1⟩ => ?_⟩
  cases d with
  | int j =>
    obtain rfl := ar.int
    dsimp only at q1
    split at q1
    · rename_i h
      obtain ⟨h1, h2⟩ := inRange_ok h
      exact ⟨j, rfl, by omega, by omega, q1 _ H1 (Step.refl st.rep) (itd_rng (by rw [sizeLine_eq]; omega))⟩
    · exact q1.elim
  | _ => exact q1.elim
theorem pi_rng2 {e1 e2 : Expr} {c1 c2 : E} {p : Pos} (h1 : PE X e1 (tEX X B W (den Φ c1))) (h2 : PE X e2 (tEX X B W (den Φ c2))) (hg : Gl X "range") (hm : X.mg "range" = none) (hs : starEach [e1, e2] X.env = [(false, eval e1 X.env), (false, eval e2 X.env)]) (hs2 : starEach [e2] X.env = [(false, eval e2 X.env)]) :
    PI X tg (.Call (.Name "range" p) [e1, e2] [] pos) (tIX X B W (dsrc Φ (.rng2 c1 c2))) := by
  refine PI.weak (pi_range2 hg hm (pa_cons h1 (pa_cons h2 pa_nil hs2) (by rw [hs, hs2])) hs hs2) fun σ H Q ⟨ρ, r, q⟩ => ?_
  simp only [dsrc] at q
  refine ⟨ρ, r, (Post.bind q).mono fun v H1 ⟨p1, ρ1, _, st1, rp1, q1⟩ => ⟨ρ1, st1.rep, (Post.bind q1).mono fun w H2 ⟨p2, ρ2, _, st2, rp2, q2⟩ => ?_⟩⟩
  split at q2
  · rename_i i j e1 e2
    obtain rfl := (st2.rep.res (rp1.step st2) e1).int
    obtain rfl := (st2.rep.res rp2 e2).int
    split at q2
    · rename_i h
      simp only [Bool.and_eq_true] at h
      obtain ⟨a1, a2⟩ := inRange_ok h.1
      obtain ⟨b1, b2⟩ := inRange_ok h.2
      exact ⟨i, j, rfl, ⟨by omega, by omega, by omega, by omega⟩, q2 _ H2 (Step.refl st2.rep) (itd_rng (by rw [sizeLine_eq]; omega))⟩
    · exact q2.elim
  · exact q2.elim
theorem enumD_get : ∀ {k : Nat} {ds : List PyData} {i : Nat} {x : PyData}, (enumD k ds)[i]? = some x → ∃ d, ds[i]? = some d ∧ x = .tuple [.int ((k + i : Nat) : Int), d]
  | _, [], _, _, h => by simp [enumD] at h
  | k, d :: r, 0, x, h => by simp only [enumD, List.getElem?_cons_zero, Option.some.injEq] at h; subst h; exact ⟨d, rfl, rfl⟩
  | k, d :: r, i + 1, x, h => by
    simp only [enumD, List.getElem?_cons_succ] at h
    obtain ⟨d', h1, h2⟩ := enumD_get h
    refine ⟨d', by simpa using h1, ?_⟩
    rw [h2]
    congr 3
    omega
theorem enumD_len : ∀ (k : Nat) (ds : List PyData), (enumD k ds).length = ds.length
  | _, [] => rfl
  | k, d :: r => by simp [enumD, enumD_len (k + 1) r]
theorem itd_enum {a : Addr} {vs : List V} {ds : List PyData} {G : Hp} (hl : ds.length ≤ sizeLine) (h1 : SqL X.K G a vs) (h2 : DpAll X.K G vs ds) : ItD X.K (Ite X.K a) (enumD 0 ds) G where
  len := by rw [enumD_len]; exact hl
  go := fun i H S s hi => by
    rw [enumD_len] at hi
    have e := DpAll_length h2
    exact ⟨vs, vs[i]'(by omega), SqL_sub (s.trans (Sub.hid _)) h1, List.getElem?_eq_getElem _⟩
  yld := fun i x H S v H' s hd hx ⟨T, y, e1, e2, e3, hy⟩ => by
    subst e1 e3
    obtain ⟨d, h3, h4⟩ := enumD_get hx
    subst h4
    obtain ⟨w, h5, h6⟩ := DpAll_get h2 h3
    have := hy vs (SqL_sub (s.trans (Sub.hid _)) h1)
    rw [h5] at this
    cases this
    refine ⟨Sub.new e2, new_tup hd e2 (.cons ?_ (.cons (Dp_sub s d h6) .nil)) rfl⟩
    rw [Nat.zero_add]
    exact .int _
  stop := fun H S s => ⟨vs, SqL_sub (s.trans (Sub.hid _)) h1, by rw [DpAll_length h2, enumD_len]; exact Nat.le_refl _⟩
theorem pi_enm {e : Expr} {c : E} {p tpos : Pos} {elts : List Expr} {kk : Nat} (he : PE X e (tEX X B W (den Φ c))) (hg : Gl X "enumerate") (hm : X.mg "enumerate" = none) (hs : starEach [e] X.env = [(false, eval e X.env)]) :
    PI X (.Tuple elts kk tpos) (.Call (.Name "enumerate" p) [e] [] pos) (tIX X B W (dsrc Φ (.enm c))) := by
  have base := pi_enum (p := p) (pos := pos) (tpos := tpos) (elts := elts) (kk := kk) hg hm (pa_cons (PE.mk fun pins s σ H Q I (h : ∃ ρ, Rep X.K X.mg B σ H ρ ∧ PostE X B W σ H ρ (den Φ c ρ) fun v H1 => (∀ ds ρ1, Step X.K X.mg B σ H ρ σ H1 ρ1 → Dp X.K (Hid H1 (Hs B σ ρ1)) v (.list ds) → ds.length ≤ sizeLine) → Q v H1) => by
    obtain ⟨ρ, r, q⟩ := h
    refine thn (he.run pins s σ H _ I ⟨ρ, r, q⟩) fun v s1 ⟨x, H1, I1, r1, q1⟩ => ⟨x, H1, I1, r1, q1 fun ds ρ1 st dp => ?_⟩
    cases dp with
    | lst h1 h2 =>
      obtain ⟨its, rv, p, hz⟩ := I1.list (SqL_sub (Sub.hid _) h1)
      rw [← DpAll_length h2]; exact hz) pa_nil hs) hs
  refine PI.weak base fun σ H Q ⟨ρ, r, q⟩ => ?_
  simp only [dsrc] at q
  refine ⟨ρ, r, (post_dat q).mono fun v H1 ⟨d, ρ1, st, dp, q1⟩ hlen => ?_⟩
  cases d with
  | list ds =>
    have hl := hlen ds ρ1 st dp
    cases dp with
    | lst h1 h2 => exact ⟨_, _, rfl, SqL_sub (Sub.hid _) h1, q1 _ H1 (Step.refl st.rep) (itd_enum hl h1 h2)⟩
  | _ => exact q1.elim

/-! ### comprehensions -/
abbrev W0 : WX := fun _ _ _ _ => False
def condF (Φ : Fenv) (cond : Eo) (ρ : Rho) : R Bool := match cond with
  | .no => .ok true ρ
  | .so c => tst (den Φ c ρ)
def lcF (Φ : Fenv) (cond : Eo) (elt : E) (ρ : Rho) : R (Option PyData) := (condF Φ cond ρ).bind fun b ρ3 => if b then (dataOf (den Φ elt ρ3)).bind fun d ρ4 => .ok (some d) ρ4 else .ok none ρ3
theorem den_lc {elt : E} {tg : List Nat} {src : Src} {cond : Eo} {ρ : Rho} : den Φ (.lc elt tg src cond) ρ = (dsrc Φ src ρ).bind fun xs ρ1 => if tg.all (plainAt ρ1) then (match lcL (lcF Φ cond elt) tg xs (wipeR ρ1 tg) [] with
      | .ok ds ρ2 => .ok (.dat (.list ds)) (backR ρ1 ρ2 tg)
      | _ => .bad) else .bad := by
  simp only [den]
  cases cond <;> rfl
/-- back out of the block -/
theorem step_back {K : PySem.W.Frag} {mg : Str → Option Value} {σ : St} {H1 H2 : Hp} {ρ1 ρ2 : Rho} {tgs : List Nat} (r : Rep K mg B σ H1 ρ1) (hp : tgs.all (plainAt ρ1) = true) (hu : ∀ j ∈ tgs, ρ2[j]? = some .un) (st : Step K mg B (wipe σ tgs) H1 (wipeR ρ1 tgs) (wipe σ tgs) H2 ρ2) :
    Step K mg B σ H1 ρ1 σ H2 (backR ρ1 ρ2 tgs) ∧ Hs B σ (backR ρ1 ρ2 tgs) = Hs B (wipe σ tgs) ρ2 := by
  have hl : ρ2.length = ρ1.length := by
    have h1 := st.rep.len
    rw [wipe_length] at h1
    rw [h1, r.len]
  have pl : ∀ j ∈ tgs, plainAt ρ1 j = true := fun j hj => List.all_eq_true.mp hp j hj
  have lt : ∀ j ∈ tgs, j < ρ1.length := fun j hj => by
    have := pl j hj
    unfold plainAt at this
    cases e : ρ1[j]? with
    | none => rw [e] at this; cases this
    | some x => exact (List.getElem?_eq_some_iff.mp e).1
  have bk : ∀ j ∈ tgs, (backR ρ1 ρ2 tgs)[j]? = ρ1[j]? := fun j hj => by
    rw [backR_in hj (by rw [hl]; exact lt j hj), List.getElem?_eq_getElem (lt j hj)]; rfl
  have mutn : ∀ {j : Nat} {e : PyData}, MutAt (backR ρ1 ρ2 tgs) j e → j ∉ tgs ∧ MutAt ρ2 j e := fun {j e} m => by
    by_cases hj : j ∈ tgs
    · have q := pl j hj
      unfold MutAt at m
      rw [bk j hj] at m
      unfold plainAt at q
      rcases m with m | m <;> (rw [m] at q; cases q)
    · unfold MutAt at m
      rw [backR_get hj] at m
      exact ⟨hj, m⟩
  have own : ∀ a, Own σ (backR ρ1 ρ2 tgs) a ↔ Own (wipe σ tgs) ρ2 a := fun a => by
    constructor
    · rintro ⟨j, e, m, h⟩
      obtain ⟨hj, m⟩ := mutn m
      exact ⟨j, e, m, by rw [wipe_get hj]; exact h⟩
    · rintro ⟨j, e, m, h⟩
      have hj : j ∉ tgs := fun hj => by rcases m with m | m <;> (rw [hu j hj] at m; cases m)
      refine ⟨j, e, ?_, by rw [wipe_get hj] at h; exact h⟩
      unfold MutAt at m ⊢
      rw [backR_get hj]; exact m
  have hse : Hs B σ (backR ρ1 ρ2 tgs) = Hs B (wipe σ tgs) ρ2 := by
    funext a
    apply propext
    constructor
    · rintro (z | z)
      · exact .inl z
      · exact .inr ((own a).mp z)
    · rintro (z | z)
      · exact .inl z
      · exact .inr ((own a).mpr z)
  have hs1 : Hs B (wipe σ tgs) (wipeR ρ1 tgs) = Hs B σ ρ1 := hs_wipes hp
  refine ⟨?_, hse⟩
  refine ⟨fun a o h n => st.keep a o h fun z => n ((own_wipes a hp).mp z), fun a z => ?_, fun j d h => ?_, ?_⟩
  · rcases st.own a ((own a).mp z) with z | z
    · exact .inl ((own_wipes a hp).mp z)
    · exact .inr z
  · have hj : j ∉ tgs := fun hj => by
      have q := pl j hj
      unfold plainAt at q
      rw [h] at q; cases q
    obtain ⟨_, d', h2⟩ := st.bor j d (by rw [wipeR_get hj]; exact h)
    exact ⟨rfl, d', by rw [backR_get hj]; exact h2⟩
  · refine ⟨by rw [backR_len, hl]; exact r.len, fun j d h => ?_, fun j d h => ?_, fun j x h => ?_, fun j k d e a m1 m2 h1 h2 => ?_, st.rep.dom⟩
    · rw [hse]
      by_cases hj : j ∈ tgs
      · rw [bk j hj] at h
        obtain ⟨v, h1, h2⟩ := r.val j d h
        have := st.sub
        rw [hs1] at this
        exact ⟨v, h1, Dp_sub this d h2⟩
      · rw [backR_get hj] at h
        obtain ⟨v, h1, h2⟩ := st.rep.val j d h
        rw [wipe_get hj] at h1
        exact ⟨v, h1, h2⟩
    · obtain ⟨hj, m⟩ := mutn h
      obtain ⟨a, h1, h2, h3⟩ := st.rep.cel j d m
      rw [wipe_get hj] at h1
      rw [hse]
      exact ⟨a, h1, h2, h3⟩
    · by_cases hj : j ∈ tgs
      · rw [bk j hj] at h
        exact r.fnc j x h
      · rw [backR_get hj] at h
        obtain ⟨f, h1, h2⟩ := st.rep.fnc j x h
        rw [wipe_get hj] at h1
        exact ⟨f, h1, h2⟩
    · obtain ⟨j1, m1⟩ := mutn m1
      obtain ⟨j2, m2⟩ := mutn m2
      exact st.rep.inj j k d e a m1 m2 (by rw [wipe_get j1]; exact h1) (by rw [wipe_get j2]; exact h2)
theorem wipe_wipe {σ : St} : ∀ (tgs : List Nat), wipe (wipe σ tgs) tgs = wipe σ tgs := by
  have h0 : ∀ (tgs vs : List Nat) (σ : St), (∀ i ∈ vs, i ∈ tgs) → wipe (wipe σ tgs) vs = wipe σ tgs := by
    intro tgs vs
    induction vs with
    | nil => intro σ _; rfl
    | cons v r ih =>
      intro σ h
      simp only [wipe]
      rw [ih σ fun i hi => h i (List.mem_cons_of_mem _ hi)]
      have hv := h v List.mem_cons_self
      apply List.ext_getElem?
      intro j
      by_cases e : v = j
      · subst e
        by_cases hl : v < (wipe σ tgs).length
        · rw [List.getElem?_set_self hl]
          have : ∀ tgs : List Nat, v ∈ tgs → v < σ.length → (wipe σ tgs)[v]? = some none := by
            intro tgs
            induction tgs with
            | nil => intro h; cases h
            | cons k t iht =>
              intro h hl
              simp only [wipe]
              by_cases e : k = v
              · subst e; rw [List.getElem?_set_self (by rw [wipe_length]; exact hl)]
              · rw [List.getElem?_set_ne e]
                rcases List.mem_cons.mp h with h | h
                · exact absurd h.symm e
                · exact iht h hl
          rw [this tgs hv (by rw [wipe_length] at hl; exact hl)]
        · rw [List.getElem?_eq_none (by simpa using hl), List.getElem?_eq_none (by simpa using hl)]
      · rw [List.getElem?_set_ne e]
  exact fun tgs => h0 tgs tgs σ fun i hi => hi
theorem hid_upd {H : Hp} {D : Addr} {o : HO} : Hid (upd H D o) (Only D) = Hid H (Only D) := by
  funext a
  unfold Hid
  by_cases h : a = D
  · rw [if_pos h, if_pos h]
  · rw [if_neg h, if_neg h, upd_ne h]
theorem hid_none {H : Hp} {D : Addr} (h : H D = none) : Hid H (Only D) = H := by
  funext a
  unfold Hid
  by_cases e : a = D
  · rw [if_pos e, e, h]
  · rw [if_neg e]
theorem f_lc {own : List (Str × Nat)} {src : Src} {cond : Eo} {celt : E} {g : TG} (htg : ∀ B, TgOk X B (own.map (·.2)) g)
    {Y : TE → Prop} (rule : ∀ te, te = tLc (tIX X B W (dsrc Φ src)) g (fun σ H Q => ∃ B, tB' X.K X.mg B W0 (condF Φ cond) σ H Q) (fun σ H Q => ∃ B, tE X.K X.mg B W0 (den Φ celt) σ H Q) (own.map (·.2)) → Y te) (weak : ∀ t t', Y t → (∀ σ H Q, t' σ H Q → t σ H Q) → Y t') :
    Y (tEFX X B W (den Φ (.lc celt (own.map (·.2)) src cond))) := by
  refine weak _ _ (rule _ rfl) fun σ H Q ⟨ρ, r, q⟩ => ?_
  obtain ⟨tgs, htgs⟩ : ∃ tgs, tgs = own.map (·.2) := ⟨_, rfl⟩
  rw [← htgs] at htg q ⊢
  refine ⟨ρ, r, ?_⟩
  rw [den_lc] at q
  cases e0 : dsrc Φ src ρ with
  | bad => rw [e0] at q; exact q
  | ex x ρ' => rw [e0] at q; exact q
  | ok xs ρ1 =>
    rw [e0] at q
    intro J H1 st1 hJ D hD
    simp only [R.bind] at q
    by_cases hp : tgs.all (plainAt ρ1) = true
    · rw [if_pos hp] at q
      cases e1 : lcL (lcF Φ cond celt) tgs xs (wipeR ρ1 tgs) [] with
      | bad => rw [e1] at q; exact q.elim
      | ex x ρ' => rw [e1] at q; exact q.elim
      | ok ds ρ2 =>
        rw [e1] at q
        dsimp only at q
        have nB : ¬ B D := fun z => by
          obtain ⟨o, e, _⟩ := st1.rep.dom D z
          rw [hD] at e; cases e
        have hs1 : Hs B (wipe σ tgs) (wipeR ρ1 tgs) = Hs B σ ρ1 := hs_wipes hp
        have stw := Step.wipes st1.rep hp
        have ltg : ∀ j ∈ tgs, j < ρ1.length := fun j hj => by
          have := List.all_eq_true.mp hp j hj
          unfold plainAt at this
          cases e : ρ1[j]? with
          | none => rw [e] at this; cases this
          | some x => exact (List.getElem?_eq_some_iff.mp e).1
        -- the invariant
        refine ⟨fun i m Hc => m = xs.length - i ∧ i ≤ xs.length ∧ ∃ (ρ' : Rho) (vacc : List V) (acc : List PyData), Hc D = some (.lst vacc) ∧ DpAll X.K (Hid (Hid Hc (Only D)) (Hs B (wipe σ tgs) ρ')) vacc acc ∧
            Step X.K X.mg B (wipe σ tgs) H1 (wipeR ρ1 tgs) (wipe σ tgs) (Hid Hc (Only D)) ρ' ∧ lcL (lcF Φ cond celt) tgs (xs.drop i) ρ' acc = .ok ds ρ2 ∧ (∀ j ∈ tgs, ρ'[j]? = some .un) ∧ acc.length ≤ i,
          ⟨xs.length, by simp, Nat.zero_le _, wipeR ρ1 tgs, [], [], upd_same, .nil, ?_, by simpa using e1, fun j hj => wipeR_in hj (ltg j hj), Nat.le_refl _⟩, ?_⟩
        · rw [hid_upd, hid_none hD]
          exact Step.refl stw.rep
        · rintro i m Hc ⟨rfl, hi, ρ', vacc, acc, hHD, hda, st, el, hu, hal⟩
          have hsub : Sub (Hid H1 (Hs B σ ρ1)) (Hid Hc (Hs (And1 B D) (wipe σ tgs) ρ')) := by
            have := st.sub
            rw [hs1, hid_hid] at this
            exact this
          by_cases hlt : i < xs.length
          · refine .inr ⟨hJ.go i Hc _ hsub hlt, fun Hn => ∃ (ρ' : Rho) (vacc : List V) (acc : List PyData), Hn D = some (.lst vacc) ∧ DpAll X.K (Hid (Hid Hn (Only D)) (Hs B (wipe σ tgs) ρ')) vacc acc ∧
                Step X.K X.mg B (wipe σ tgs) H1 (wipeR ρ1 tgs) (wipe σ tgs) (Hid Hn (Only D)) ρ' ∧ lcL (lcF Φ cond celt) tgs (xs.drop (i + 1)) ρ' acc = .ok ds ρ2 ∧ (∀ j ∈ tgs, ρ'[j]? = some .un) ∧ acc.length ≤ i + 1,
              fun Hn hn => ⟨xs.length - (i + 1), by omega, rfl, hlt, hn⟩, fun v H' hy => ?_⟩
            obtain ⟨x, hx, hd⟩ := drop_get hlt
            rw [hd] at el
            have r' : Rep X.K X.mg (And1 B D) (wipe σ tgs) Hc ρ' := st.rep.hide ⟨_, hHD, fun xs e => by cases e⟩
            obtain ⟨sb, dp⟩ := hJ.yld i x Hc _ v H' hsub r'.domS hx hy
            have stx := Step.ext r' sb
            simp only [lcL] at el
            cases e2 : bindT tgs x ρ' with
            | none => rw [e2] at el; cases el
            | some ρ3 =>
              rw [e2] at el
              dsimp only at el
              cases e3 : lcF Φ cond celt ρ3 with
              | bad => rw [e3] at el; cases el
              | ex c ρ4 => rw [e3] at el; cases el
              | ok o ρ4 =>
                rw [e3] at el
                dsimp only at el
                split at el
                · rename_i hpl
                  have hfree : tgs.all (freeAt ρ') = true := List.all_eq_true.mpr fun j hj => by unfold freeAt; rw [hu j hj]
                  refine htg (And1 B D) (wipe σ tgs) H' ρ' ρ3 v x _ stx.rep dp hfree e2 fun σ2 st4 hw => ?_
                  rw [wipe_wipe] at hw
                  refine ⟨hw, And1 B D, ρ3, st4.rep, ?_⟩
                  unfold lcF at e3
                  obtain ⟨b, ρ5, e4, e5⟩ := R.bind_ok e3
                  rw [e4]
                  intro b' H3 st5 eb
                  subst eb
                  have noD : ¬ Own (wipe σ tgs) ρ' D := fun z => by
                    obtain ⟨j, d, m, h⟩ := z
                    obtain ⟨a, h1, _, h3⟩ := r'.cel j d m
                    rw [h] at h1
                    cases h1
                    exact h3 (.inr rfl)
                  -- the turn's end
                  have fin : ∀ (H4 : Hp) (ys : List V) (ys' : List PyData), Step X.K X.mg (And1 B D) σ2 H3 ρ5 σ2 H4 ρ4 → DpAll X.K (Hid H4 (Hs (And1 B D) σ2 ρ4)) ys ys' → o.toList = ys' →
                      ∃ (vacc' : List V), H4 D = some (.lst vacc) ∧ (∀ Hn : Hp, Hn D = some (.lst (vacc ++ ys)) → Hid Hn (Only D) = Hid H4 (Only D) → ∃ (ρ' : Rho) (vacc : List V) (acc : List PyData), Hn D = some (.lst vacc) ∧ DpAll X.K (Hid (Hid Hn (Only D)) (Hs B (wipe σ tgs) ρ')) vacc acc ∧
                        Step X.K X.mg B (wipe σ tgs) H1 (wipeR ρ1 tgs) (wipe σ tgs) (Hid Hn (Only D)) ρ' ∧ lcL (lcF Φ cond celt) tgs (xs.drop (i + 1)) ρ' acc = .ok ds ρ2 ∧ (∀ j ∈ tgs, ρ'[j]? = some .un) ∧ acc.length ≤ i + 1) := fun H4 ys ys' st6 dys eo => by
                    have stA := stx.trans (st4.trans (st5.trans st6))
                    have hD4 := stA.keep D _ hHD noD
                    refine ⟨vacc, hD4, fun Hn hn1 hn2 => ⟨wipeR ρ4 tgs, vacc ++ ys, acc ++ ys', hn1, ?_, ?_, by rw [← eo]; exact el, fun j hj => wipeR_in hj ?_, ?_⟩⟩
                    · have stU := stA.unhide nB
                      have stW := Step.wipes stU.rep hpl
                      rw [hw] at stW
                      rw [hn2]
                      refine DpAll_append (DpAll_sub (stU.trans stW).sub _ hda) (DpAll_sub stW.sub _ ?_)
                      rw [hid_hid]
                      exact dys
                    · have stU := stA.unhide nB
                      have stW := Step.wipes stU.rep hpl
                      rw [hw] at stW
                      rw [hn2]
                      exact st.trans (stU.trans stW)
                    · have := List.all_eq_true.mp hpl j hj
                      unfold plainAt at this
                      cases e : ρ4[j]? with
                      | none => rw [e] at this; cases this
                      | some x => exact (List.getElem?_eq_some_iff.mp e).1
                    · rw [List.length_append, ← eo]
                      cases o with
                      | none => simp; omega
                      | some d => simp; omega
                  cases b' with
                  | false =>
                    simp only [Bool.false_eq_true, if_false] at e5 ⊢
                    cases e5
                    obtain ⟨_, hD4, k⟩ := fin H3 [] [] (Step.refl st5.rep) .nil rfl
                    exact k H3 (by simpa using hD4) rfl
                  | true =>
                    simp only [if_true] at e5 ⊢
                    obtain ⟨d, ρ6, e6, e7⟩ := R.bind_ok e5
                    cases e7
                    obtain ⟨p, ρ7, e8, e9⟩ := R.bind_ok e6
                    cases p with
                    | «at» j => cases e9
                    | fn y => cases e9
                    | tmp y => cases e9
                    | dat d' =>
                      cases e9
                      refine ⟨And1 B D, ρ5, st5.rep, ?_⟩
                      rw [e8]
                      intro y H4 st6 dp6
                      obtain ⟨_, hD4, k⟩ := fin H4 [y] [d] st6 (.cons dp6 .nil) rfl
                      refine ⟨vacc, hD4, ?_, k _ upd_same hid_upd⟩
                      have := DpAll_length hda
                      have := hJ.len
                      omega
                · cases el
          · have e : i = xs.length := by omega
            subst e
            rw [List.drop_length] at el
            simp only [lcL, R.ok.injEq] at el
            obtain ⟨rfl, rfl⟩ := el
            refine .inl ⟨hJ.stop Hc _ hsub, ?_⟩
            obtain ⟨sb, hse⟩ := step_back st1.rep hp hu st
            refine q D (Hid Hc (Only D)) Hc (st1.trans sb) ?_ (Sub.hid _) (.lst hHD ?_)
            · unfold Hid; rw [if_pos rfl]
            · rw [hse]; exact hda
    · rw [if_neg hp] at q; exact q.elim
end
end G6
-- ## Rest
/-! # Rest: slices, kinds, raise, unpacking -/
namespace G6
open PySem PySem.Spec PyProof.Rows L2
section
variable {X : Cx} {B : ASet} {W : WX} {Φ : Fenv} {pos : Pos}
/-! ### slices -/
theorem cut_DpAll {K : PySem.W.Frag} {H : Hp} {vs : List V} {ds : List PyData} (h : DpAll K H vs ds) (lo hi : Option Int) : DpAll K H (cutV vs lo hi) (cutD ds lo hi) := by
  unfold cutV cutD
  rw [DpAll_length h]
  exact DpAll_take _ (DpAll_drop _ h)
def rSlD (K : PySem.W.Frag) : V → Option Int → Option Int → Hp → VK → Prop := fun x lo hi H Q => ∃ (S : ASet) (d z : PyData), DomS S H ∧ ARep K S H x d ∧ sliceD d lo hi = some z ∧ ∀ w H', Sub H H' → Dp K (Hid H' S) w z → Q w H'
def rSlF (K : PySem.W.Frag) : V → Option Int → Option Int → Hp → VK → Prop := fun x lo hi H Q => ∃ a xs, x = .ref a ∧ SqT K H a xs ∧ ¬ (HT.sIx xs.length 0 lo = 0 ∧ HT.sIx xs.length xs.length hi = xs.length) ∧ ∀ p (o : Obj), H p = none → o.dict = none → Q (.ref p) (upd H p (.frz o (.tup (cutV xs lo hi))))
theorem sl_tupF : SlR X (rSlF X.K) := by
  intro pins s σ H x v vl vu lo hi sl Q I rx hs pl pu h
  obtain ⟨a, xs, rfl, hx, hw, q⟩ := h
  cases rx
  obtain ⟨its, r, ht, hz⟩ := I.tuple hx
  have hlen : its.toArray.size = xs.length := by rw [List.size_toArray]; exact r.length.symm
  refine ⟨"tuple", _, PyProof.Rows.slot_tuple_getitem.lookup, ht.typeIs, ?_⟩
  refine HT.getItem_tuple_cut ht hs pl pu (by rw [hlen]; exact hw) ?_ (by rw [hlen]; exact hz)
  rw [hlen]
  exact ⟨.ref s.heap.objs.size, _, I.laid (t' := s.toks) (o := .frz _ (.tup (cutV xs lo hi))) (fun b ob q => Heap.get?_push_of_some _ q) (Nat.le_refl _) ⟨Heap.get?_push_size _ rfl, Nat.le_trans (cutV_length xs lo hi) hz, _, (r.drop (HT.sIx xs.length 0 lo)).take (HT.sIx xs.length xs.length hi - HT.sIx xs.length 0 lo), IsTup.new _ _⟩, rfl, q _ _ (I.hok.fresh (Nat.le_refl _)) rfl⟩
theorem d_slice : SlR X (rSlD X.K) := by
  intro pins s σ H x v vl vu lo hi sl Q I rx hs pl pu h
  obtain ⟨S, d, z, hd, ha, hz, q⟩ := h
  unfold sliceD at hz
  split at hz
  · obtain ⟨a, vs, rfl, h1, h2⟩ := ha.lst
    cases hz
    exact sl_list pins s σ H _ v vl vu lo hi sl Q I rx hs pl pu ⟨a, vs, rfl, h1, fun p hp => q _ _ (Sub.new hp) (new_lst hd hp (cut_DpAll h2 lo hi))⟩
  · have hdp := ha.dpt
    obtain ⟨a, vs, rfl, h1, h2⟩ := ha.tup
    cases hz
    rename_i xs
    by_cases hrw : rowsB (cutD xs lo hi) = true ∧ ¬ (HT.sIx vs.length 0 lo = 0 ∧ HT.sIx vs.length vs.length hi = vs.length)
    · exact sl_tupF pins s σ H _ v vl vu lo hi sl Q I rx hs pl pu ⟨a, vs, rfl, h1.sqT, hrw.2, fun p o hp ho => q _ _ (Sub.new hp) (new_row hd hp (cut_DpAll h2 lo hi) hrw.1 ho)⟩
    refine sl_tupA pins s σ H _ v vl vu lo hi sl Q I rx hs pl pu ⟨a, vs, rfl, h1.sqT, fun e => ?_, fun e p hp => q _ _ (Sub.new hp) (new_tup hd hp (cut_DpAll h2 lo hi) (by
      cases hr : rowsB (cutD xs lo hi) with
      | false => rfl
      | true => exact absurd ⟨hr, e⟩ hrw))⟩
    have hx : cutD xs lo hi = xs := by
      unfold cutD
      rw [← DpAll_length h2, e.1, e.2, DpAll_length h2]
      simp
    rw [hx] at q
    exact q _ _ (Sub.refl _) hdp
  · obtain rfl := ha.str
    split at hz
    · cases hz
      exact sl_str pins s σ H _ v vl vu lo hi sl Q I rx hs pl pu ⟨_, rfl, by assumption, q _ _ (Sub.refl _) (.str _)⟩
    · cases hz
  · cases hz
def tO (K : PySem.W.Frag) (mg : Str → Option Value) (B : ASet) (W : WX) (f : Rho → R (Option Int)) : TO := fun σ H Q => ∃ ρ, Rep K mg B σ H ρ ∧ Post K mg B W (fun _ _ (l : Option Int) o => o = l) σ H ρ (f ρ) Q
theorem PO.weak {e : Option Expr} {t t' : TO} (h : PO X e t) (w : ∀ σ H Q, t' σ H Q → t σ H Q) : PO X e t' := ⟨fun pins s σ H Q I q => h.run pins s σ H Q I (w σ H Q q)⟩
theorem o_no : PO X none (tO X.K X.mg B W (deno Φ .no)) := PO.weak po_none fun σ H Q ⟨ρ, r, q⟩ => q none H (Step.refl r) rfl
theorem o_so {e : Expr} {c : E} (h : PE X e (tEX X B W (den Φ c))) : PO X (some e) (tO X.K X.mg B W (deno Φ (.so c))) := by
  refine PO.weak (po_some h) fun σ H Q ⟨ρ, r, q⟩ => ?_
  simp only [deno] at q
  refine ⟨ρ, r, (post_dat q).mono fun v H1 ⟨d, ρ1, st, dp, q1⟩ => ?_⟩
  cases d with
  | int i => cases dp; exact ⟨i, rfl, q1 _ H1 (Step.refl st.rep) rfl⟩
  | _ => exact q1.elim
theorem s_slc {e : Expr} {lo hi : Option Expr} {c : E} {cl ch : Eo} {p2 : Pos} (h : PE X e (tEX X B W (den Φ c))) (hl : PO X lo (tO X.K X.mg B W (deno Φ cl))) (hh : PO X hi (tO X.K X.mg B W (deno Φ ch))) :
    PE X (.Subscript e (.Slice lo hi none p2) pos) (tEX X B W (den Φ (.slc c cl ch))) := by
  refine PE.weak (pe_slice d_slice h hl hh) fun σ H Q ⟨ρ, r, q⟩ => ?_
  simp only [den] at q
  refine ⟨ρ, r, (Post.bind q).mono fun v H1 ⟨p, ρ1, _, st1, rp1, q1⟩ => ⟨ρ1, st1.rep, (Post.bind q1).mono fun l H2 ⟨l', ρ2, _, st2, el, q2⟩ => ⟨ρ2, st2.rep, (Post.bind q2).mono fun u H3 ⟨u', ρ3, _, st3, eu, q3⟩ => ?_⟩⟩⟩
  subst el eu
  cases e1 : res ρ3 p with
  | none => rw [e1] at q3; exact q3.elim
  | some d =>
    rw [e1] at q3
    obtain ⟨z, h1, h2⟩ := post_lift q3 st3.rep
    exact ⟨Hs B σ ρ3, d, z, st3.rep.domS, st3.rep.res ((rp1.step st2).step st3) e1, h1, h2⟩
/-- xs[::-1] -/
theorem pe_rev {e : Expr} {t : TE} {i1 : Nat} {p1 p2 p3 : Pos} (h : PE X e t) : PE X (.Subscript e (.Slice none none (some (.UnaryOp .USub (.Constant (.int 1) i1 p1) p2)) p3) pos) fun σ H Q => t σ H fun v H1 => rD1 X.K (sem1 .rev) v H1 Q := by
  refine ⟨fun pins s σ H Q I q => ?_⟩
  refine Subscript_ (thn (h.run pins s σ H _ I q) fun v s1 ⟨x, H1, I1, r1, q1⟩ => ?_)
  refine wpAny_Slice ?_
  refine wpAny_evalPart_none (wpAny_evalPart_none (wpAny_evalPart_some (UnaryOp_ (wpAny_Constant_int (neg_int ?_)))))
  obtain ⟨S, d, z, hd, ha, hz, q⟩ := q1
  replace hz : revD d = some z := hz
  unfold revD at hz
  split at hz
  · rename_i xs
    obtain ⟨a, vs, rfl, h1, h2⟩ := ha.lst
    cases hz
    cases r1
    obtain ⟨its, r, ht, hz⟩ := I1.list h1
    have I4 : Inv X pins σ H1 { s1 with heap := s1.heap.push { cls := .type "slice", data := .fields #[Value.none, .none, .int (-1) (s1.toks + 1)] }, toks := s1.toks + 1 + 1 } := I1.kept fun b ob q => Heap.get?_push_of_some _ q
    have k : ∀ b o, s1.heap.get? b = some o → (s1.heap.push { cls := .type "slice", data := .fields #[Value.none, .none, .int (-1) (s1.toks + 1)] }).get? b = some o := fun b o q => Heap.get?_push_of_some _ q
    have ht' : PlainL (s1.heap.push { cls := .type "slice", data := .fields #[Value.none, .none, .int (-1) (s1.toks + 1)] }) a its.toArray := by
      obtain ⟨o, n, e, hc⟩ := ht
      exact ⟨o, n, k _ _ e, hc⟩
    refine tail_any (ops := [.ref a, .ref s1.heap.objs.size]) ht'.isList.typeIs slot_list_getitem.lookup ?_ (by with_unfolding_all rfl)
    refine wpAny_getItem_list_slice ht'.isList (Heap.IsSliceOf.new ..) .none .none (.int (-1) _) (by simp) ?_ (by have := r.length; simp only [List.size_toArray]; omega)
    rw [PySem.W.krv_pick]
    have ea : its.toArray.toList.reverse.toArray = its.reverse.toArray := by simp
    rw [ea]
    have hp : H1 (s1.heap.push { cls := .type "slice", data := .fields #[Value.none, .none, .int (-1) (s1.toks + 1)] }).objs.size = none := I4.hok.fresh (Nat.le_refl _)
    refine ⟨.ref _, _, I4.laid (t' := s1.toks + 1 + 1) (o := .lst vs.reverse) (fun b ob q => Heap.get?_push_of_some _ q) (Nat.le_refl _) ?_, rfl, q _ _ (Sub.new hp) (new_lst hd hp (DpAll_rev h2))⟩
    refine ⟨by rw [List.length_reverse]; exact hz, its.reverse, 0, ?_, ?_⟩
    · have : ∀ {vs : List V} {us : List Value}, Vals vs us → Vals vs.reverse us.reverse := by
        intro vs us h
        induction h with
        | nil => exact .nil
        | cons a b ih => simp only [List.reverse_cons]; exact Vals.append ih (.cons a .nil)
      exact this r
    · exact Heap.get?_push_size _ rfl
  · cases hz

/-! ### isinstance, -x, is None -/
def tyName : Ty → String
  | .str => "str"
  | .int => "int"
  | .bool => "bool"
  | .tuple => "tuple"
  | .list => "list"
theorem d_isi {t : Ty} : CallR X (.builtin "isinstance") fun vs H Q => ∃ x, vs = [x, .ty (tyName t)] ∧ ∃ (S : ASet) (d : PyData), ARep X.K S H x d ∧ noDict d = true ∧ Q (.bl (isTy t d)) H := by
  intro pins s σ H vs us Q I r h
  obtain ⟨x, rfl, S, d, ha, hn, q⟩ := h
  obtain ⟨u, w', rfl, r1, r2⟩ := vals2 r
  cases r2
  obtain ⟨⟨as, rd⟩, _⟩ := ha.reads (noDict_ne hn) I r1
  cases t with
  | str => exact PySem.W.isinstance_str_data rd fun tk _ => ⟨.bl _, H, I.tok tk, by cases d <;> rfl, q⟩
  | int => exact PySem.W.isinstance_int_data rd fun tk _ => ⟨.bl _, H, I.tok tk, by cases d <;> rfl, q⟩
  | bool => exact PySem.W.isinstance_bool_data rd fun tk _ => ⟨.bl _, H, I.tok tk, by cases d <;> rfl, q⟩
  | tuple => exact PySem.W.isinstance_tuple_data rd fun tk _ => ⟨.bl _, H, I.tok tk, by cases d <;> rfl, q⟩
  | list => exact PySem.W.isinstance_list_data rd fun tk _ => ⟨.bl _, H, I.tok tk, by cases d <;> rfl, q⟩
theorem d_neg : UnR X (unaryOp .USub) fun x H Q => rD1 X.K (sem1 .neg) x H Q := by
  intro pins s σ H x v Q I rx h
  obtain ⟨S, d, z, hd, ha, hz, q⟩ := h
  replace hz : negD d = some z := hz
  unfold negD at hz
  split at hz
  · obtain rfl := ha.int
    cases hz
    exact un_neg pins s σ H _ v Q I rx ⟨_, rfl, q _ _ (Sub.refl _) (.int _)⟩
  · cases hz
theorem isNone_V {S : ASet} {H : Hp} {x : V} {d : PyData} (h : ARep X.K S H x d) : isNoneD d = decide (x = .non) := by
  rcases h with h | ⟨a, e, h⟩
  · cases h <;> rfl
  · subst e
    cases h <;> rfl

/-! ### raise -/
theorem ss_rse {x m : Str} {j : Nat} {p p2 p3 : Pos} {C : Addr} (hc : X.calm = true) (tk : Takes X W) (hm : X.mg x = some (.ref C)) (mk : PMk X (.Call (.Name x p) [.Constant (.str m) j p2] [] p3) fun _ H Q => Q (.ref C) none H) :
    PS X (.Raise (some (.Call (.Name x p) [.Constant (.str m) j p2] [] p3)) none pos) (tSX X B W (exS Φ (.rse x))) :=
  PS.weak (ps_raise hc tk mk) fun D σ H ⟨ρ, r, q⟩ => q _ σ H hm (Step.refl r)

/-! ### several names at once -/
def gNs : List Nat → TGs
  | [] => gNil
  | i :: is => gCons (gName i) (gNs is)
theorem puts_ok {H : Hp} {Q : St → Hp → Prop} : ∀ {is : List Nat} {vs : List V} {ds : List PyData} {σ : St} {ρ ρ1 : Rho}, Rep X.K X.mg B σ H ρ → DpAll X.K (Hid H (Hs B σ ρ)) vs ds → putsV ρ is ds = some ρ1 → (∀ σ', Step X.K X.mg B σ H ρ σ' H ρ1 → Q σ' H) → gNs is vs σ H Q
  | [], vs, [], σ, ρ, ρ1, r, dp, e, q => by
    cases dp
    simp only [putsV, Option.some.injEq] at e
    subst e
    exact ⟨rfl, q _ (Step.refl r)⟩
  | i :: is, vs, d :: ds, σ, ρ, ρ1, r, dp, e, q => by
    simp only [putsV] at e
    split at e
    · rename_i hf
      cases dp with
      | cons h1 h2 =>
        have st := Step.put r (s := .v d) rfl hf h1
        exact ⟨_, _, rfl, puts_ok st.rep (DpAll_sub st.sub _ h2) e fun σ' s => q σ' (st.trans s)⟩
    · cases e
  | [], vs, _ :: _, σ, ρ, ρ1, r, dp, e, q => by simp [putsV] at e
  | _ :: _, vs, [], σ, ρ, ρ1, r, dp, e, q => by simp [putsV] at e
theorem putsV_len : ∀ {is : List Nat} {ds : List PyData} {ρ ρ1 : Rho}, putsV ρ is ds = some ρ1 → is.length = ds.length
  | [], [], _, _, _ => rfl
  | i :: is, d :: ds, ρ, ρ1, h => by
    simp only [putsV] at h
    split at h
    · simp [putsV_len h]
    · cases h
  | [], _ :: _, _, _, h => by simp [putsV] at h
  | _ :: _, [], _, _, h => by simp [putsV] at h
/-- a, b, .. = e, e a tuple -/
theorem ss_unp {tg e : Expr} {c : E} {is : List Nat} {st : Stmt} (h : PE X e (tEX X B W (den Φ c))) (hp : ∀ t, PE X e t → PS X st (tAsg t (gTup X.K is.length (gNs is)))) : PS X st (tSX X B W (exS Φ (.unp is c))) := by
  refine PS.weak (hp _ h) fun D σ H ⟨ρ, r, q⟩ => ?_
  simp only [exS] at q
  refine ⟨ρ, r, (FlOk.dat q).mono fun v H1 ⟨d, ρ1, st, dp, q1⟩ => ?_⟩
  cases d with
  | tuple ds =>
    dsimp only at q1
    cases e1 : putsV ρ1 is ds with
    | none => rw [e1] at q1; exact q1.elim
    | some ρ2 =>
      rw [e1] at q1
      cases dp with
      | tup h1 h2 => exact ⟨_, _, rfl, (h1.sub (Sub.hid _)).sqT, by rw [DpAll_length h2, putsV_len e1], puts_ok st.rep h2 e1 fun σ' s => q1 _ _ s⟩
  | _ => exact q1.elim
/-- a, b = e1, e2 by a tuple that is made and taken apart -/
theorem ss_par {es : List Expr} {cs : Es} {is : List Nat} {st : Stmt} {k : Nat} {tpos : Pos} (h : PA X es (tEsX X B W (dens Φ cs))) (hl : es.length ≤ sizeLine) (hn : ∀ ρ ps ρ1, dens Φ cs ρ = .ok ps ρ1 → ps.length = es.length)
    (hp : ∀ t, PE X (.Tuple es k tpos) t → PS X st (tAsg t (gTup X.K is.length (gNs is)))) : PS X st (tSX X B W (exS Φ (.par is cs))) := by
  refine PS.weak (hp _ (s_tup h hl hn)) fun D σ H ⟨ρ, r, q⟩ => ?_
  simp only [exS] at q
  refine ⟨ρ, r, ?_⟩
  simp only [den]
  cases e0 : dens Φ cs ρ with
  | bad => rw [e0] at q; exact q
  | ex x ρ' => rw [e0] at q; exact fun u H' m s => q u σ H' m s
  | ok ps ρ1 =>
    rw [e0] at q
    simp only [R.fl, R.bind] at q ⊢
    cases e1 : alls ps with
    | none => rw [e1] at q; exact q.elim
    | some ds =>
      rw [e1] at q
      dsimp only at q ⊢
      cases e2 : putsV ρ1 is ds with
      | none => rw [e2] at q; exact q.elim
      | some ρ2 =>
        rw [e2] at q
        intro v H1 st1 dp
        have dp : Dp X.K (Hid H1 (Hs B σ ρ1)) v (.tuple ds) := dp
        cases dp with
        | tup h1 h2 => exact ⟨_, _, rfl, (h1.sub (Sub.hid _)).sqT, by rw [DpAll_length h2, putsV_len e2], puts_ok st1.rep h2 e2 fun σ' s => q _ _ (st1.trans s)⟩
/-- a, b = e1, e2 by swapped stores -/
theorem ss_par2 {e1 e2 : Expr} {c1 c2 : E} {i j : Nat} {st : Stmt} (hij : i ≠ j) (h : PA X [e1, e2] (tEsX X B W (dens Φ (.cons c1 (.cons c2 .nil))))) (hp : ∀ t, PA X [e1, e2] t → PS X st (tPar i j t)) : PS X st (tSX X B W (exS Φ (.par [i, j] (.cons c1 (.cons c2 .nil))))) := by
  refine PS.weak (hp _ h) fun D σ H ⟨ρ, r, q⟩ => ?_
  simp only [exS] at q
  refine ⟨ρ, r, (FlOk.expr q).mono fun vs H1 ⟨ps, ρ1, _, st1, rp, q1⟩ => ?_⟩
  cases e1 : alls ps with
  | none => rw [e1] at q1; exact q1.elim
  | some ds =>
    rw [e1] at q1
    have hd := repPs_alls rp e1
    dsimp only at q1
    cases e2 : putsV ρ1 [i, j] ds with
    | none => rw [e2] at q1; exact q1.elim
    | some ρ2 =>
      rw [e2] at q1
      have := puts_ok (Q := fun σ' H' => D.nx σ' H') st1.rep hd e2 fun σ' s => q1 _ _ s
      obtain ⟨v, r1, ev, w, r2, ew, en, qn⟩ := this
      subst ev ew
      cases en
      exact ⟨v, w, rfl, qn⟩
end
end G6
-- ## DView
/-! # DView: sorted(d.keys()), sorted(d.items()) -/
namespace G6
open PySem PySem.Spec PyProof.Rows L2
mutual
theorem reads_lt {h : Heap} : ∀ {v : Value} {d : PyData} {as : List Addr}, Reads h v d as → ∀ b ∈ as, b < h.objs.size
  | _, _, _, .none, b, hb => by cases hb
  | _, _, _, .bool _, b, hb => by cases hb
  | _, _, _, .int _ _, b, hb => by cases hb
  | _, _, _, .str _ _, b, hb => by cases hb
  | _, _, _, .list h1 _ _ h4, b, hb => by
    rcases List.mem_cons.mp hb with rfl | hb
    · exact Heap.lt_size h1
    · exact readsAll_lt h4 b hb
  | _, _, _, .tuple _ _ _ h4, b, hb => readsAll_lt h4 b hb
  | _, _, _, .dict h1 _ _ h4 h5, b, hb => by
    simp only [List.cons_append, List.mem_cons, List.mem_append] at hb
    rcases hb with rfl | hb | hb
    · exact Heap.lt_size h1
    · exact readsAll_lt h4 b hb
    · exact readsAll_lt h5 b hb
theorem readsAll_lt {h : Heap} : ∀ {vs : List Value} {ds : List PyData} {as : List Addr}, ReadsAll h vs ds as → ∀ b ∈ as, b < h.objs.size
  | _, _, _, .nil, b, hb => by cases hb
  | _, _, _, .cons h1 h2, b, hb => by
    rcases List.mem_append.mp hb with z | z
    · exact reads_lt h1 b z
    · exact readsAll_lt h2 b z
end
section
variable {X : Cx} {pins : List (Addr × Obj)} {σ : St} {H : Hp} {s : Shared}
/-- a list that was laid is sorted -/
theorem sort_tail {h' : Heap} {tk : Nat} {S : ASet} {vs : List V} {its : List Value} {ds : List PyData} {z : PyData} {Q : VK} (hu : X.A.units + 200 < cLine) (I : Inv X pins σ H { s with heap := h', toks := tk }) (hd : DomS S H) (rv : Vals vs its) (dv : DpAll X.K (Hid H S) vs ds) (hz : sortOp ds = some z)
    (q : ∀ w H', Sub H H' → Dp X.K (Hid H' S) w z → Q w H') :
    wpAny (model X.prog X.w) X.A.in1 (call (.builtin "list.sort") [.ref h'.objs.size]) (fun _ s' => EP X pins σ Q (.ref h'.objs.size) s') X.xe { s with heap := h'.push { cls := .type "list", data := .seq its.toArray }, toks := tk } := by
  unfold sortOp at hz
  split at hz
  · rename_i hc
    cases hz
    simp only [Bool.and_eq_true, decide_eq_true_eq] at hc
    obtain ⟨⟨⟨hal, hso⟩, hdp⟩, hln⟩ := hc
    have es := zip_snd dv
    have hlen : (vs.zip ds).length = ds.length := by rw [← List.length_map (f := (·.2)), es]
    have hoL : (h'.push { cls := .type "list", data := .seq its.toArray }).get? h'.objs.size = some (seqObj "list" its.toArray 0) := Heap.get?_push_size _ rfl
    have kp : ∀ b o, h'.get? b = some o → (h'.push { cls := .type "list", data := .seq its.toArray }).get? b = some o := fun b o e => Heap.get?_push_of_some _ e
    have e1 : PySem.W.EachIs (fun u (b : V × PyData) => RelV b.1 u) its (vs.zip ds) := each_pair (H := H) dv rv fun v d u _ h => h
    have e2 : PySem.W.EachIs (fun u (b : V × PyData) => ∃ as, Reads (h'.push { cls := .type "list", data := .seq its.toArray }) u b.2 as ∧ h'.objs.size ∉ as) its (vs.zip ds) := each_pair (H := H) dv rv fun v d u h hr => by
      obtain ⟨as, r⟩ := L2.Dp.reads I d v u (Dp_sub (Sub.hid _) d h).to hr
      exact ⟨as, PyProof.Rows.Reads.keeps kp r, fun z => Nat.lt_irrefl _ (reads_lt r _ z)⟩
    refine list_sort_data' (s := { s with heap := h'.push { cls := .type "list", data := .seq its.toArray }, toks := tk }) (enc := (·.2)) hoL e1 e2 (by rw [es]; exact alikeList_iff hal) (by rw [es]; exact sortable_of hso) (by rw [hlen]; exact hln) (fun b hb => ?_) fun out ho he => ?_
    · have : b.2 ∈ ds := by rw [← es]; exact List.mem_map_of_mem hb
      have := depthOk_le (List.all_eq_true.mp hdp b.2 this)
      have : X.A.in1.units ≤ X.A.units + 1 := by first | exact Nat.le_refl _ | simp [Around.in1]
      omega
    · obtain ⟨c, hc⟩ := sortedHeap_at (vs := its) (out := out.toArray) hoL
      have hv := vals_of_each (fun u b h => h) he
      have hls : (((vs.zip ds).mergeSort (PySem.W.dataLe false (·.2))).map (·.1)).length ≤ sizeLine := by rw [List.length_map, List.length_mergeSort, hlen]; exact hln
      have hp : H h'.objs.size = none := I.hok.fresh (Nat.le_refl _)
      have hk : ∀ b u, h'.get? b = some u → (sortedHeap (h'.push { cls := .type "list", data := .seq its.toArray }) h'.objs.size its out.toArray).get? b = some u := fun b u e => by
        have hlt := Heap.lt_size e
        rw [sortedHeap_old (Nat.ne_of_lt hlt) (by rw [size_push']; exact Nat.lt_succ_of_lt hlt)]
        exact kp b u e
      refine ⟨.ref _, upd H h'.objs.size (.lst (((vs.zip ds).mergeSort (PySem.W.dataLe false (·.2))).map (·.1))), I.laid (t' := tk) hk (Nat.le_refl _) ⟨hls, out, c, hv, hc⟩, rfl, q _ _ (Sub.new hp) ?_⟩
      refine new_lst hd hp ?_
      have hd2 : DpAll X.K (Hid H S) (((vs.zip ds).mergeSort (PySem.W.dataLe false (·.2))).map (·.1)) (((vs.zip ds).mergeSort (PySem.W.dataLe false (·.2))).map (·.2)) :=
        dps_of_mem fun b hb => zip_mem dv b (List.mem_mergeSort.mp hb)
      have e3 : ((vs.zip ds).mergeSort (PySem.W.dataLe false (·.2))).map (·.2) = sortData ds := by
        have t := PySem.W.sort_maps (r := PySem.W.dataLe false fun b : V × PyData => b.2) (s := PySem.W.dataLe false id) (fun b : V × PyData => b.2) (l := vs.zip ds) (fun _ _ _ _ => rfl)
        rw [es] at t
        exact t
      rw [e3] at hd2
      exact hd2
  · cases hz
theorem d_sorted (hu : X.A.units + 200 < cLine) : CallR X (.builtin "sorted") (rDC X.K (sem1 .sorted)) := by
  intro pins s σ H vs us Q I rv h
  obtain ⟨x, rfl, S, d, z, hd, ha, hz, q⟩ := h
  replace hz : sortedD d = some z := hz
  have go : ∀ (a : Addr) (T : String) (o : Obj) (vs : List V) (its : List Value) (n : Nat) (xs : List PyData), us = [.ref a] → (T = "list" ∨ T = "tuple") → s.heap.get? a = some o → o.cls = .type T → o.data = .seq its.toArray n → its.length ≤ sizeLine → Vals vs its → DpAll X.K (Hid H S) vs xs → sortOp xs = some z → wpAny (model X.prog X.w) X.A (call (.builtin "sorted") us) (EP X pins σ Q) X.xe s := fun a T o vs its n xs eu hT ho hc hd0 hz1 r h2 hz => by
    subst eu
    refine Calls.call_function_entry kind_sorted plain_sorted entry_sorted (args_sorted1 _) ?_
    unfold Builtin.«sorted»
    refine wpAny_bind (m := checkCount "sorted" 1 1 _) (wpAny_pure ?_)
    refine wpAny_bind (wpAny_collect_seq a hT ho hc hd0 (fun h' hk => ?_) (by rw [List.size_toArray]; exact hz1))
    have e : its.toArray.toList = its := by simp
    rw [e]
    refine wpAny_bind (wpAny_newList ?_ hz1)
    have I3 : Inv X pins σ H { s with heap := h', toks := s.toks } := I.kept (t' := s.toks) hk
    have hg := sort_tail (Q := Q) hu I3 hd r h2 hz q
    refine wpAny_bind (wpAny_holding (wpAny_mono hg (fun _ s' x => ?_) fun _ _ e => e))
    exact wpAny_pure ⟨_, rfl, x⟩
  unfold sortedD at hz
  split at hz
  · obtain ⟨a, vs, rfl, h1, h2⟩ := ha.lst
    obtain ⟨its, r, ⟨o, n, e, hc, hd0, hs⟩, hz1⟩ := I.list h1
    exact go a "list" o vs its n _ (Vals.ref1 rv) (.inl rfl) e hc hs (by have := r.length; omega) r h2 hz
  · obtain ⟨a, vs, rfl, h1, h2⟩ := ha.tup
    obtain ⟨its, r, ⟨o, ho, hc, n, hd0⟩, hz1⟩ := I.tuple h1.sqT
    exact go a "tuple" o vs its n _ (Vals.ref1 rv) (.inr rfl) ho hc hd0 (by have := r.length; omega) r h2 hz
  · cases hz
/-- what stands in a dict's entries -/
theorem pairs_K {K : PySem.W.Frag} {G : Hp} {P : Program} {w : World} : ∀ {es : List DictEntry} {xs : List (Key × Value)} {kvs : List (Key × V)} {q : List (PyData × PyData)}, Pairs (mixKind P w) es xs → KV kvs xs → RowsK K G kvs q →
    ∃ ks vs, Vals ks (es.map (·.key)) ∧ DpAll K G ks (q.map (·.1)) ∧ Vals vs (es.map (·.val)) ∧ DpAll K G vs (q.map (·.2))
  | [], _, _, _, .nil, h2, h3 => by
    cases h2
    cases h3
    exact ⟨[], [], .nil, .nil, .nil, .nil⟩
  | e :: es, _, _, _, .cons h1 h1' h1r, h2, h3 => by
    cases h2 with
    | cons a b =>
      cases h3 with
      | @cons k v d r q c d' =>
        obtain ⟨ks, vs, i1, i2, i3, i4⟩ := pairs_K h1r b d'
        obtain ⟨ea, ra⟩ := a
        refine ⟨kV k :: ks, v :: vs, .cons ?_ i1, .cons ?_ i2, .cons ?_ i3, .cons c i4⟩
        · have ea : k = _ := ea
          rw [ea]
          exact keyIs_rel h1
        · cases k with
          | inl i => exact .int i
          | inr s => exact .str s
        · show RelV v e.val
          rw [h1']
          exact ra
theorem pairs_T {K : PySem.W.Frag} {G H0 : Hp} {P : Program} {w : World} (hg : ∀ b xs, H0 b = some (.tup xs) → G b = some (.tup xs)) : ∀ {xs : List (List Key × Addr × Value)} {kvs : List (List Key × V)} {q : List (PyData × PyData)}, KT H0 kvs xs → RowsT K G kvs q →
    ∃ ks vs, Vals ks ((xs.map (entryOfKey (tupleKind (mixKind P w)))).map (·.key)) ∧ DpAll K G ks (q.map (·.1)) ∧ Vals vs ((xs.map (entryOfKey (tupleKind (mixKind P w)))).map (·.val)) ∧ DpAll K G vs (q.map (·.2))
  | [], _, _, h2, h3 => by
    cases h2
    cases h3
    exact ⟨[], [], .nil, .nil, .nil, .nil⟩
  | x :: xs, _, _, h2, h3 => by
    cases h2 with
    | cons a b =>
      cases h3 with
      | @cons k v d r q c d' =>
        obtain ⟨ks, vs, i1, i2, i3, i4⟩ := pairs_T hg b d'
        obtain ⟨ea, eb, ra⟩ := a
        exact ⟨V.ref x.2.1 :: ks, v :: vs, .cons rfl i1, .cons (.tup (.inl ⟨rowsB_keys _, hg _ _ eb⟩) (keyV_all _)) i2, .cons ra i3, .cons c i4⟩
theorem rowB_keys : ∀ k : List Key, rowB (.tuple (k.map keyD)) = false
  | [] => rfl
  | [.inl _] => rfl
  | [.inr _] => rfl
  | .inl _ :: _ :: [] => rfl
  | .inr _ :: _ :: [] => rfl
  | .inl _ :: _ :: _ :: _ => rfl
  | .inr _ :: _ :: _ :: _ => rfl
theorem rowsK_keys {K : PySem.W.Frag} {G : Hp} {kvs : List (Key × V)} {q : List (PyData × PyData)} (h : RowsK K G kvs q) : ∀ r ∈ q, rowB r.1 = false := by
  induction h with
  | nil => intro r hr; cases hr
  | @cons k v d r q h1 h2 ih =>
    intro x hx
    rcases List.mem_cons.mp hx with z | z
    · rw [z]
      cases k <;> rfl
    · exact ih x z
theorem rowsT_keys {K : PySem.W.Frag} {G : Hp} {kvs : List (List Key × V)} {q : List (PyData × PyData)} (h : RowsT K G kvs q) : ∀ r ∈ q, rowB r.1 = false := by
  induction h with
  | nil => intro r hr; cases hr
  | @cons k v d r q h1 h2 ih =>
    intro x hx
    rcases List.mem_cons.mp hx with z | z
    · rw [z]
      exact rowB_keys k
    · exact ih x z
theorem keys_plain {K : PySem.W.Frag} {S : ASet} {H : Hp} {a : Addr} {q : List (PyData × PyData)} (h : (∃ kvs, H a = some (.dK kvs) ∧ RowsK K (Hid H S) kvs q) ∨ ∃ kvs q', q = (.none, .none) :: q' ∧ H a = some (.dT kvs) ∧ RowsT K (Hid H S) kvs q') : ∀ r ∈ rowsD q, rowB r.1 = false := by
  rcases h with ⟨kvs, h1, h2⟩ | ⟨kvs, q', rfl, h1, h2⟩
  · rw [(rowsD_K h2).1]
    exact rowsK_keys h2
  · exact rowsT_keys h2
theorem dict_raw {S : ASet} {a : Addr} {q : List (PyData × PyData)} (I : Inv X pins σ H s) (hd : DomS S H) (h : (∃ kvs, H a = some (.dK kvs) ∧ RowsK X.K (Hid H S) kvs q) ∨ ∃ kvs q', q = (.none, .none) :: q' ∧ H a = some (.dT kvs) ∧ RowsT X.K (Hid H S) kvs q') :
    ∃ o es ep ks vs, s.heap.get? a = some o ∧ o.ExactDict ∧ o.data = .dict es ep ∧ (a == sysModules) = false ∧ es.size ≤ sizeLine ∧ Vals ks (es.toList.map (·.key)) ∧ DpAll X.K (Hid H S) ks (dictKeys q) ∧ Vals vs (es.toList.map (·.val)) ∧ DpAll X.K (Hid H S) vs ((rowsD q).map (·.2)) := by
  rcases h with ⟨kvs, h1, h2⟩ | ⟨kvs, q', rfl, h1, h2⟩
  · obtain ⟨z, hs, xs, rel, o, es, ep, ho, hx, hdat, _, hp, _⟩ := dk_of I.hok h1
    obtain ⟨ks, vs, i1, i2, i3, i4⟩ := pairs_K hp rel h2
    refine ⟨o, es, ep, ks, vs, ho, hx, hdat, hs, ?_, i1, ?_, i3, ?_⟩
    · rw [← Array.length_toList, hp.length, ← Paired.length rel]
      exact z
    · unfold dictKeys
      rw [(rowsD_K h2).1]
      exact i2
    · rw [(rowsD_K h2).1]
      exact i4
  · obtain ⟨z, hs, xs, rel, o, es, ep, ho, hx, hdat, he, _, _⟩ := dt_of I.hok h1
    obtain ⟨ks, vs, i1, i2, i3, i4⟩ := pairs_T (P := X.prog) (w := X.w) (G := Hid H S) (fun b xs hb => Hid_iff.mpr ⟨hb, fun z => by
      obtain ⟨o, e, nt⟩ := hd b z
      rw [hb] at e
      cases e
      exact nt _ rfl⟩) rel h2
    rw [← he] at i1 i3
    refine ⟨o, es, ep, ks, vs, ho, hx, hdat, hs, ?_, i1, i2, i3, i4⟩
    rw [size_of_entries he, ← Paired.length rel]
    exact z
theorem pe_skeys {e : Expr} {te : TE} {p apos cpos pos : Pos} (hc : X.calm = true) (hu : X.A.units + 200 < cLine) (he : PE X e te) (hg : Gl X "sorted") (hm : X.mg "sorted" = none) (hbase : attributeBase e "keys" X.env (eval e X.env) = eval e X.env) (hline : (apos.endLine == cpos.line) = true) :
    PE X (.Call (.Name "sorted" p) [.Call (.Attribute e "keys" apos) [] [] cpos] [] pos) fun σ H Q => te σ H fun v H1 => rD1 X.K skeysD v H1 Q := by
  refine ⟨fun pins s σ H Q I hq => ?_⟩
  refine Call_ (ld_blt I hg hm boot_sorted ?_)
  refine PyProof.Rows.callWith_builtin1 (PyProof.Rows.args_cons ?_ rfl) rfl rfl
  refine wpAny_Call_method (T := "dict") (id := "dict.keys") hbase rfl hline F.plainAttrs_dict F.slot_dict_keys F.type_dict_keys (thn (he.run pins s σ H _ I hq) fun u s1 ⟨x, H1, I1, rx, S, d, z, hd, ha, hz, q⟩ => ?_)
  unfold skeysD at hz
  split at hz
  · obtain ⟨a, rfl, h⟩ := ha.dict
    obtain rfl : u = Value.ref a := rx
    obtain ⟨o, es, ep, ks, vs, ho, hx, hdat, hs0, hsz, rk, dk, rv, dv⟩ := dict_raw I1 hd h
    have hraw : s1.heap.DictRaw a es ep := ⟨o, ho, hx, hdat⟩
    refine ⟨⟨o, ho, hx.1⟩, (fun a' e => by cases e; exact ⟨o, ho, hx.2.1⟩), ?_⟩
    show wpAny _ _ (callWith cpos (.builtin "dict.keys") [.ref a] [] []) _ X.xe s1
    refine method_meetsIn F.slot_dict_keys F.entry_dict_keys rfl (PySem.evalArgs_none ⟨rfl, ⟨o, ho, hx.1⟩, F.args_dict_keys_1 _, _, meets_dict_keys_raw a hs0, ⟨es, ep, hraw⟩, ?_⟩)
    refine PyProof.Rows.args_nil ?_
    have I2 : Inv X pins σ H1 { s1 with heap := s1.heap.push { cls := .type "dict_keys", data := .fields #[.ref a] } } := I1.kept (t' := s1.toks) fun b ob q => Heap.get?_push_of_some _ q
    refine Calls.call_function_entry kind_sorted plain_sorted entry_sorted (args_sorted1 _) ?_
    unfold Builtin.«sorted»
    refine wpAny_bind (m := checkCount "sorted" 1 1 _) (wpAny_pure ?_)
    refine wpAny_bind (PySem.W.kdu_collect (A := X.A.in1) (PySem.KdlSrc.rawKeys (r := s1.heap.objs.size) (d := a) (es := es) (ep := ep)) (I2.ok.hd hc) ⟨⟨_, Heap.get?_push_size _ rfl, rfl, rfl⟩, hraw.push _⟩ hsz fun h' tk acc hk hacc => ?_)
    have ea : acc.toList = es.toList.map (·.key) := by
      apply List.ext_getElem?
      intro j
      rw [List.getElem?_map]
      by_cases hj : j < es.size
      · have hjl : j < acc.toList.length := by rw [Array.length_toList, hacc.1]; exact hj
        have h1 : acc.toList[j]? = some acc.toList[j] := List.getElem?_eq_getElem hjl
        obtain ⟨hi, hv⟩ := hacc.2 j _ (by rw [← Array.getElem?_toList]; exact h1)
        rw [h1, hv, Array.getElem?_toList, Array.getElem?_eq_getElem hi]
        rfl
      · rw [List.getElem?_eq_none (by rw [Array.length_toList, hacc.1]; omega), List.getElem?_eq_none (by rw [Array.length_toList]; omega)]
        rfl
    refine wpAny_bind (wpAny_newList ?_ (by rw [Array.length_toList, hacc.1]; exact hsz))
    have I3 : Inv X pins σ H1 { s1 with heap := h', toks := tk } := I1.kept (t' := tk) fun b ob q => hk b ob (Heap.get?_push_of_some _ q)
    rw [← ea] at rk
    have hg := sort_tail (Q := Q) hu I3 hd rk dk hz q
    refine wpAny_bind (wpAny_holding (wpAny_mono hg (fun _ s' x => ?_) fun _ _ e => e))
    exact wpAny_pure ⟨_, rfl, x⟩
  · cases hz
theorem vals_at : ∀ {vs : List V} {us : List Value} {j : Nat} {u : Value}, Vals vs us → us[j]? = some u → ∃ v, vs[j]? = some v ∧ RelV v u
  | _, _, j, u, .nil, e => by simp at e
  | _, _, 0, u, .cons h t, e => by
    simp only [List.getElem?_cons_zero, Option.some.injEq] at e
    subst e
    exact ⟨_, rfl, h⟩
  | _, _, j + 1, u, .cons h t, e => vals_at (j := j) t (by simpa using e)
theorem pe_sitems {e : Expr} {te : TE} {p apos cpos pos : Pos} (hc : X.calm = true) (hu : X.A.units + 200 < cLine) (he : PE X e te) (hg : Gl X "sorted") (hm : X.mg "sorted" = none) (hbase : attributeBase e "items" X.env (eval e X.env) = eval e X.env) (hline : (apos.endLine == cpos.line) = true) :
    PE X (.Call (.Name "sorted" p) [.Call (.Attribute e "items" apos) [] [] cpos] [] pos) fun σ H Q => te σ H fun v H1 => rD1 X.K sitemsD v H1 Q := by
  refine ⟨fun pins s σ H Q I hq => ?_⟩
  refine Call_ (ld_blt I hg hm boot_sorted ?_)
  refine PyProof.Rows.callWith_builtin1 (PyProof.Rows.args_cons ?_ rfl) rfl rfl
  refine wpAny_Call_method (T := "dict") (id := "dict.items") hbase rfl hline F.plainAttrs_dict F.slot_dict_items F.type_dict_items (thn (he.run pins s σ H _ I hq) fun u s1 ⟨x, H1, I1, rx, S, d, z, hd, ha, hz, q⟩ => ?_)
  unfold sitemsD at hz
  split at hz
  · rename_i qd
    obtain ⟨a, rfl, h⟩ := ha.dict
    obtain rfl : u = Value.ref a := rx
    obtain ⟨o, es, ep, ks, vs, ho, hx, hdat, hs0, hsz, rk, dk, rv, dv⟩ := dict_raw I1 hd h
    have hraw : DT.Raw s1.heap a es ep := ⟨o, ho, hx, hdat⟩
    refine ⟨⟨o, ho, hx.1⟩, (fun a' e => by cases e; exact ⟨o, ho, hx.2.1⟩), ?_⟩
    show wpAny _ _ (callWith cpos (.builtin "dict.items") [.ref a] [] []) _ X.xe s1
    refine method_meetsIn F.slot_dict_items F.entry_dict_items rfl (PySem.evalArgs_none ⟨rfl, ⟨o, ho, hx.1⟩, F.args_dict_items_1 _, _, DT.meetsItems (es := es) (ep := ep) hs0, hraw, ?_⟩)
    refine PyProof.Rows.args_nil ?_
    have I2 : Inv X pins σ H1 { s1 with heap := s1.heap.push { cls := .type "dict_items", data := .fields #[.ref a] } } := I1.kept (t' := s1.toks) fun b ob q => Heap.get?_push_of_some _ q
    refine DT.sortedI (s := { s1 with heap := s1.heap.push { cls := .type "dict_items", data := .fields #[.ref a] } }) (es := es) (ep := ep) (I2.ok.hd hc) ⟨_, Heap.get?_push_size _ rfl, rfl, rfl⟩ (hraw.push _) hsz fun h' tk as hk hlt hl hG => ?_
    have I3 : Inv X pins σ H1 { s1 with heap := h', toks := tk } := I1.kept (t' := tk) fun b ob q => hk b ob (Heap.get?_push_of_some _ q)
    have nd : as.Nodup := List.Pairwise.imp (fun h => Nat.ne_of_lt h) hG.rise
    have pr : ∀ (j : Nat) (b : Addr), as[j]? = some b → ∃ kj vj, ks[j]? = some kj ∧ vs[j]? = some vj ∧ ∀ H2, ObjOk X.prog X.w H2 h' b (.tup [kj, vj]) := fun j b hj => by
      obtain ⟨en, he1, hg1⟩ := hG.pairs j b hj
      have hen : es.toList[j]? = some en := by rw [Array.getElem?_toList]; exact he1
      obtain ⟨kj, k1, k2⟩ := vals_at (j := j) (u := en.key) rk (by rw [List.getElem?_map, hen]; rfl)
      obtain ⟨vj, v1, v2⟩ := vals_at (j := j) (u := en.val) rv (by rw [List.getElem?_map, hen]; rfl)
      exact ⟨kj, vj, k1, v1, fun H2 => ⟨by rw [sizeLine_eq]; simp, [en.key, en.val], .cons k2 (.cons v2 .nil), ⟨_, hg1, rfl, 0, rfl⟩⟩⟩
    obtain ⟨H2, I4, g, gt⟩ := L2.DX.takeT (P := fun b ws => ∃ j kj vj, as[j]? = some b ∧ ks[j]? = some kj ∧ vs[j]? = some vj ∧ ws = [kj, vj]) I1 as H1 I3 nd fun b hb => by
      obtain ⟨j, hj⟩ := List.mem_iff_getElem?.mp hb
      obtain ⟨kj, vj, e1, e2, e3⟩ := pr j b hj
      have hab : s1.heap.objs.size ≤ b := by
        have := hG.above b hb
        have e : (s1.heap.push { cls := .type "dict_items", data := .fields #[.ref a] }).objs.size = s1.heap.objs.size + 1 := size_push' _ _
        have : (s1.heap.push { cls := .type "dict_items", data := .fields #[.ref a] }).objs.size < b := this
        omega
      exact ⟨hab, I1.hok.fresh hab, [kj, vj], ⟨j, kj, vj, hj, e1, e2, rfl⟩, e3⟩
    have hd2 : DomS S H2 := fun b hb => by
      obtain ⟨ob, e1, e2⟩ := hd b hb
      exact ⟨ob, g b ob e1, e2⟩
    have la : as.length = es.toList.length := by rw [Array.length_toList]; exact hl
    have lk : ks.length = es.toList.length := by rw [rk.length, List.length_map]
    have lv : vs.length = es.toList.length := by rw [rv.length, List.length_map]
    have hnS : ∀ b ∈ as, ¬ S b := fun b hb z => by
      obtain ⟨ob, e1, _⟩ := hd b z
      have hab : s1.heap.objs.size ≤ b := by
        have := hG.above b hb
        have e : (s1.heap.push { cls := .type "dict_items", data := .fields #[.ref a] }).objs.size = s1.heap.objs.size + 1 := size_push' _ _
        have : (s1.heap.push { cls := .type "dict_items", data := .fields #[.ref a] }).objs.size < b := this
        omega
      rw [I1.hok.fresh hab] at e1
      cases e1
    have dall : DpAll X.K (Hid H2 S) (as.map V.ref) ((rowsD qd).map fun r => .tuple [r.1, r.2]) := by
      have dk' := DpAll_sub (Sub.hids (S := S) (H := H1) (H' := H2) g) _ dk
      have dv' := DpAll_sub (Sub.hids (S := S) (H := H1) (H' := H2) g) _ dv
      have lq : (rowsD qd).length = es.toList.length := by
        have := DpAll_length dv
        rw [List.length_map] at this
        omega
      have all : ∀ (n : Nat) (as' : List Addr) (rows' : List (PyData × PyData)), as'.length = n → rows'.length = n → (∀ (j : Nat) (b : Addr) (r : PyData × PyData), as'[j]? = some b → rows'[j]? = some r → Dp X.K (Hid H2 S) (.ref b) (.tuple [r.1, r.2])) → DpAll X.K (Hid H2 S) (as'.map V.ref) (rows'.map fun r => .tuple [r.1, r.2]) := fun n => by
        induction n with
        | zero =>
          intro as' rows' h1 h2 _
          rw [List.eq_nil_of_length_eq_zero h1, List.eq_nil_of_length_eq_zero h2]
          exact .nil
        | succ n ih =>
          intro as' rows' h1 h2 h3
          cases as' with
          | nil => simp at h1
          | cons b as' =>
            cases rows' with
            | nil => simp at h2
            | cons r rows' => exact .cons (h3 0 b r rfl rfl) (ih as' rows' (by simpa using h1) (by simpa using h2) fun j b r e1 e2 => h3 (j + 1) b r (by simpa using e1) (by simpa using e2))
      refine all es.toList.length as (rowsD qd) la lq fun j b r hj hr => ?_
      have hb := List.mem_of_getElem? hj
      obtain ⟨ws, ⟨j', kj, vj, hj', e1, e2, rfl⟩, hH2⟩ := gt b hb
      have ejj : j' = j := by
        have h1 := (List.getElem?_eq_some_iff.mp hj)
        have h2 := (List.getElem?_eq_some_iff.mp hj')
        obtain ⟨l1, x1⟩ := h1
        obtain ⟨l2, x2⟩ := h2
        exact (List.getElem_inj nd).mp (x2.trans x1.symm)
      subst ejj
      obtain ⟨dk1, f1, f2⟩ := DpAll_get' dk' e1
      obtain ⟨dv1, f3, f4⟩ := DpAll_get' dv' e2
      have g1 : dictKeys qd = (rowsD qd).map (·.1) := rfl
      rw [g1, List.getElem?_map, hr] at f1
      rw [List.getElem?_map, hr] at f3
      cases f1
      cases f3
      have hrb : rowB r.1 = false := keys_plain h r (List.mem_of_getElem? hr)
      exact .tup (.inl ⟨by unfold rowsB; rw [List.all_cons, hrb]; rfl, Hid_iff.mpr ⟨hH2, hnS b hb⟩⟩) (.cons f2 (.cons f4 .nil))
    have rall : Vals (as.map V.ref) (as.map Value.ref) := vals_refs as
    exact sort_tail (Q := Q) hu I4 hd2 rall dall hz fun w H' hs dp => q w H' (fun b ob e => hs b ob (g b ob e)) dp
  · cases hz
end
end G6
-- ## Stm3
/-! # Stm3: pop, two lists at once, list(x) as a list of one's own -/
namespace G6
open PySem PySem.Spec PyProof.Rows L2
section
variable {X : Cx} {B : ASet} {W : WX} {Φ : Fenv} {pos : Pos}
theorem DpAll_erase {K : PySem.W.Frag} {H : Hp} : ∀ (n : Nat) {vs : List V} {ds : List PyData}, DpAll K H vs ds → DpAll K H (vs.eraseIdx n) (ds.eraseIdx n)
  | _, _, _, .nil => .nil
  | 0, _, _, .cons _ h => h
  | n + 1, _, _, .cons a h => .cons a (DpAll_erase n h)
theorem pop_ok {σ : St} {H : Hp} {ρ ρ2 : Rho} {i : Nat} {a : Addr} {kd y : PyData} (r : Rep X.K X.mg B σ H ρ) (ha : σ[i]? = some (some (.ref a))) (h : popAt ρ i kd = some (y, ρ2)) :
    ∃ (j : Nat) (vs : List V) (w : V), kd = .int j ∧ j < 1000 ∧ H a = some (.lst vs) ∧ vs[j]? = some w ∧ Step X.K X.mg B σ H ρ σ (upd H a (.lst (vs.eraseIdx j))) ρ2 ∧ Dp X.K (Hid (upd H a (.lst (vs.eraseIdx j))) (Hs B σ ρ2)) w y := by
  unfold popAt at h
  split at h
  · rename_i j
    split at h
    · rename_i hj
      have ej : j = (j.toNat : Int) := by omega
      have core : ∀ (xs : List PyData) (s' : Sl), MutAt ρ i (.list xs) → (xs[j.toNat]?).map (fun y => (y, ρ.set i s')) = some (y, ρ2) → ((ρ[i]? = some (.m (.list xs)) ∧ s' = .m (.list (xs.eraseIdx j.toNat))) ∨ (ρ[i]? = some (.b (.list xs)) ∧ s' = .b (.list (xs.eraseIdx j.toNat)))) →
          ∃ (k : Nat) (vs : List V) (w : V), PyData.int j = .int k ∧ k < 1000 ∧ H a = some (.lst vs) ∧ vs[k]? = some w ∧ Step X.K X.mg B σ H ρ σ (upd H a (.lst (vs.eraseIdx k))) ρ2 ∧ Dp X.K (Hid (upd H a (.lst (vs.eraseIdx k))) (Hs B σ ρ2)) w y := fun xs s' hm h hs' => by
        obtain ⟨y', h1, h2⟩ := Option.map_eq_some_iff.mp h
        cases h2
        obtain ⟨a', h3, h4, _⟩ := r.cel i _ hm
        rw [ha] at h3
        cases h3
        cases h4 with
        | lst h5 h6 =>
          obtain ⟨w, h7, h8⟩ := DpAll_get h6 h1
          have own : Hs B σ ρ a := .inr ⟨i, _, hm, ha⟩
          have st := Step.chg (H' := upd H a (.lst (_ : List V))) r hm ha hs' (fun x o n z => by rw [upd_ne n]; exact z) (.lst upd_same (DpAll_sub (sub_own own _) _ (DpAll_erase j.toNat h6)))
          exact ⟨j.toNat, _, w, by rw [← ej], by omega, h5, h7, st.1, Dp_sub st.1.sub _ h8⟩
      split at h
      · rename_i xs e0
        exact core xs _ (.inl e0) h (.inl ⟨e0, rfl⟩)
      · rename_i xs e0
        exact core xs _ (.inr e0) h (.inr ⟨e0, rfl⟩)
      · cases h
    · cases h
  · cases h
theorem s_pop {o e : Expr} {i : Nat} {c : E} {apos cpos : Pos} (ho : PE X o (tVar i)) (he : PE X e (tEX X B W (den Φ c))) (hs : starEach [e] X.env = (false, eval e X.env) :: starEach [] X.env)
    (hb : attributeBase o "pop" X.env (eval o X.env) = eval o X.env) (hl : (apos.endLine == cpos.line) = true) : PE X (.Call (.Attribute o "pop" apos) [e] [] cpos) (tEX X B W (den Φ (.pop i c))) := by
  have hfew : ((backTo cpos (starEach [e] X.env)).all (fun x => !x.1) && (backToKw cpos (keywordEach [] X.env)).all (fun x => x.1.isSome)
      && decide (([e] : List Expr).length + ([] : List Keyword).length + (if ([] : List Keyword).isEmpty then 0 else 1) < 30)) = true := by rw [hs]; rfl
  refine PE.weak (pe_bm PySem.F.plainAttrs_list PySem.F.slot_list_pop PySem.F.type_list_pop mt_popAt ho (pa_cons he pa_nil hs) hb hfew hl hs rfl) fun σ H Q ⟨ρ, r, q⟩ => ?_
  simp only [den] at q
  split at q
  · rename_i hm
    obtain ⟨a, vs, ha, hH⟩ := mutL_at r hm
    refine ⟨.ref a, ha, .inl ⟨rfl, vs, SqL.of hH⟩, ρ, r, (post_dat q).mono fun v H1 ⟨d, ρ1, st, dp, q1⟩ => ?_⟩
    cases e1 : popAt ρ1 i d with
    | none => rw [e1] at q1; exact q1.elim
    | some yr =>
      obtain ⟨y, ρ2⟩ := yr
      rw [e1] at q1
      obtain ⟨j, ws, w, h0, hj, h1, h2, h3, h4⟩ := pop_ok st.rep ha e1
      subst h0
      cases dp
      have hlt := (List.getElem?_eq_some_iff.mp h2).1
      refine ⟨a, ws, j, j, w, rfl, rfl, h1, by omega, by omega, ?_, h2, q1 w _ h3 h4⟩
      unfold seqIndex?
      have n0 : ¬ ((j : Int) < 0) := by omega
      have : (0 ≤ (j : Int) && decide ((j : Int) < (ws.length : Int))) = true := by simp [hlt]
      simp [n0, hlt]
  · exact q.elim
/-! ### lists of constants -/
def cV : PyData → V
  | .none => .non
  | .bool b => .bl b
  | .int i => .int i
  | .str s => .str s
  | _ => .non
def mtCs : List PyData → List Expr → Bool
  | [], [] => true
  | d :: ds, .Constant c _ _ :: es => (match c, d with
    | .none, .none => true
    | .bool a, .bool b => a == b
    | .int a, .int b => decide (a = b)
    | .str a, .str b => decide (a = b)
    | _, _ => false) && mtCs ds es
  | _, _ => false
theorem pa_consts : ∀ {ds : List PyData} {es : List Expr}, mtCs ds es = true → PA X es (fun σ H Q => Q (ds.map cV) H) ∧ (∀ H : Hp, DpAll X.K H (ds.map cV) ds) ∧ es.length = ds.length
  | [], [], _ => ⟨pa_nil, fun H => .nil, rfl⟩
  | [], _ :: _, h => by simp [mtCs] at h
  | _ :: _, [], h => by simp [mtCs] at h
  | d :: ds, e :: es, h => by
    cases e <;> first | (simp [mtCs] at h; done) | skip
    rename_i c k p
    simp only [mtCs, Bool.and_eq_true] at h
    obtain ⟨i1, i2, i3⟩ := pa_consts h.2
    have one : PE X (.Constant c k p) (fun σ H Q => Q (cV d) H) ∧ ∀ H : Hp, Dp X.K H (cV d) d := by
      have h1 := h.1
      split at h1
      · exact ⟨pe_non, fun H => .non⟩
      · obtain rfl := eq_of_beq h1
        exact ⟨pe_bl, fun H => .bl _⟩
      · obtain rfl := of_decide_eq_true h1
        exact ⟨pe_int, fun H => .int _⟩
      · obtain rfl := of_decide_eq_true h1
        exact ⟨pe_str, fun H => .str _⟩
      · cases h1
    exact ⟨pa_cons one.1 i1 rfl, fun H => .cons (one.2 H) (i2 H), by simp [i3]⟩
def mtCl (ds : List PyData) : Expr → Bool
  | .List es _ => mtCs ds es && decide (es.length ≤ 1000)
  | _ => false
theorem pe_consts {ds : List PyData} {e : Expr} (h : mtCl ds e = true) : PE X e (fun σ H Q => ∀ p, H p = none → Q (.ref p) (upd H p (.lst (ds.map cV)))) ∧ (∀ H : Hp, DpAll X.K H (ds.map cV) ds) := by
  unfold mtCl at h
  split at h
  · simp only [Bool.and_eq_true, decide_eq_true_eq] at h
    obtain ⟨i1, i2, i3⟩ := pa_consts (X := X) h.1
    refine ⟨PE.weak (pe_lst i1) fun σ H Q q => ⟨?_, q⟩, i2⟩
    rw [List.length_map, ← i3, sizeLine_eq]
    have := h.2
    omega
  · cases h
theorem ss_parmm {st : Stmt} {a b : Expr} {i j : Nat} {xs ys : List PyData} (ha : mtCl xs a = true) (hb : mtCl ys b = true) (sa : ∀ es, starEach (a :: es) X.env = (false, eval a X.env) :: starEach es X.env) (sb : starEach [b] X.env = (false, eval b X.env) :: starEach [] X.env) (hp : ∀ t, PA X [a, b] t → PS X st (tPar i j t)) : PS X st (tSX X B W (exS Φ (.parmm i j xs ys))) := by
  obtain ⟨a1, a2⟩ := pe_consts (X := X) ha
  obtain ⟨b1, b2⟩ := pe_consts (X := X) hb
  refine PS.weak (hp _ (pa_cons a1 (pa_cons b1 pa_nil sb) (sa _))) fun D σ H ⟨ρ, r, q⟩ => ?_
  simp only [exS] at q
  intro p hp q1 hq
  split at q
  · rename_i hc
    simp only [Bool.and_eq_true, decide_eq_true_eq] at hc
    obtain ⟨⟨h1, h2⟩, hij⟩ := hc
    have st1 := Step.putM (i := i) (Step.refl r) h1 hp (Sub.new hp) (.lst upd_same (a2 _))
    have h2' : freeAt (ρ.set i (.m (.list xs))) j = true := by
      unfold freeAt at h2 ⊢
      rw [List.getElem?_set_ne hij]
      exact h2
    have st2 := Step.putM (i := j) (Step.refl st1.rep) h2' hq (Sub.new hq) (.lst upd_same (b2 _))
    exact ⟨_, _, rfl, q _ _ (st1.trans st2)⟩
  · exact q.elim
theorem ss_parvm {st : Stmt} {a b : Expr} {c : E} {i j : Nat} {ys : List PyData} (ha : PE X a (tEX X B W (den Φ c))) (hb : mtCl ys b = true) (sa : ∀ es, starEach (a :: es) X.env = (false, eval a X.env) :: starEach es X.env) (sb : starEach [b] X.env = (false, eval b X.env) :: starEach [] X.env) (hp : ∀ t, PA X [a, b] t → PS X st (tPar i j t)) : PS X st (tSX X B W (exS Φ (.parvm i j c ys))) := by
  obtain ⟨b1, b2⟩ := pe_consts (X := X) hb
  refine PS.weak (hp _ (pa_cons ha (pa_cons b1 pa_nil sb) (sa _))) fun D σ H ⟨ρ, r, q⟩ => ?_
  simp only [exS] at q
  refine ⟨ρ, r, (FlOk.dat q).mono fun v H1 ⟨d, ρ1, st, dp, q1⟩ => ?_⟩
  intro p hq
  split at q1
  · rename_i hc
    simp only [Bool.and_eq_true, decide_eq_true_eq] at hc
    obtain ⟨⟨h1, h2⟩, hij⟩ := hc
    have st1 := Step.put (i := i) (v := v) (s := .v d) st.rep rfl h1 dp
    have h2' : freeAt (ρ1.set i (.v d)) j = true := freeAt_set rfl h2
    have st2 := Step.putM (i := j) (Step.refl st1.rep) h2' hq (Sub.new hq) (.lst upd_same (b2 _))
    exact ⟨_, _, rfl, q1 _ _ (st1.trans st2)⟩
  · exact q1.elim
/-! ### list(x), new -/
theorem f_listOf {x : Expr} {c : E} {p : Pos} (hx : PE X x (tEX X B W (den Φ c))) (hg : Gl X "list") (hm : X.mg "list" = none) (hs : starEach [x] X.env = (false, eval x X.env) :: starEach [] X.env) (hcalm : X.calm = true) :
    PE X (.Call (.Name "list" p) [x] [] pos) (tEFX X B W (den Φ (.op1 .list c))) := by
  have hr : CallR X (.type "list") (fun vs H Q => ∃ (x : V) (S : ASet) (d z : PyData), vs = [x] ∧ DomS S H ∧ ARep X.K S H x d ∧ listD d = some z ∧ ∀ (p : Addr) (ws : List V) (ds : List PyData), z = .list ds → H p = none → DpAll X.K (Hid H S) ws ds → Q (.ref p) (upd H p (.lst ws))) := by
    refine CallR.both fun pins s σ H vs us Q I rv h => ?_
    obtain ⟨x, S, d, z, rfl, hd, ha, hz, q⟩ := h
    unfold listD at hz
    split at hz
    · obtain ⟨a, vs, rfl, h1, h2⟩ := ha.lst
      cases hz
      exact ⟨_, call_list_of, _, _, rfl, Or.inl h1, fun p hp => q _ _ _ rfl hp h2⟩
    · obtain ⟨a, vs, rfl, h1, h2⟩ := ha.tup
      cases hz
      exact ⟨_, call_list_of, _, _, rfl, Or.inr (h1.sqT), fun p hp => q _ _ _ rfl hp h2⟩
    · cases hz
      obtain ⟨a, rfl, h⟩ := ha.dict
      rcases h with ⟨kvs, h1, h2⟩ | ⟨kvs, q', rfl, h1, h2⟩
      · refine ⟨_, call_list_dK hcalm, a, kvs, rfl, h1, fun p hp => q _ _ _ rfl hp ?_⟩
        unfold dictKeys
        rw [(rowsD_K h2).1]
        exact keys_K h2
      · refine ⟨_, call_list_dT hcalm, a, kvs, rfl, .inl h1, fun p bs hp hk => q _ _ _ rfl hp ?_⟩
        exact keys_T h2 hk fun b xs hb => Hid_iff.mpr ⟨hb, fun z => by
          obtain ⟨o, e, nt⟩ := hd b z
          rw [hb] at e
          cases e
          exact nt _ rfl⟩
    · cases hz
  refine PE.weak (pe_callTy hr hg hm rfl (pa_cons hx pa_nil hs) (by decide) (by decide) hs rfl) fun σ H Q ⟨ρ, r, q⟩ => ?_
  refine ⟨ρ, r, ?_⟩
  simp only [den] at q
  cases e0 : den Φ c ρ with
  | bad => rw [e0] at q; exact q
  | ex x ρ' => rw [e0] at q; exact q
  | ok pv ρ1 =>
    rw [e0] at q
    intro v H1 st rp
    simp only [R.bind] at q
    cases e1 : res ρ1 pv with
    | none => rw [e1] at q; exact q.elim
    | some d =>
      rw [e1] at q
      dsimp only at q
      cases e2 : sem1 .list d with
      | none => rw [e2] at q; exact q.elim
      | some z =>
        rw [e2] at q
        simp only [lift] at q
        refine ⟨v, Hs B σ ρ1, d, z, rfl, st.rep.domS, st.rep.res rp e1, e2, fun p ws ds ez hp hw => ?_⟩
        subst ez
        exact q p H1 _ st hp (Sub.new hp) (.lst upd_same hw)
end
end G6
-- ## Match
/-! # Match: a piece of the text is a piece of Core -/
namespace G6
open PySem PySem.Spec PyProof.Rows L2

structure Tab where
  fn : Str → Option Fn
  cst : Str → Option PyData
  exc : Str → Bool
  /-- a def that tells which refusal an exception is: the class that is caught, the classes with their numbers -/
  wh : Str → Option (Str × List (Str × Int)) := fun _ => none
/-! ### looks at the text -/
def noStar : Expr → Bool
  | .Starred _ _ => false
  | _ => true
def notComp : Expr → Bool
  | .ListComp .. => false
  | .SetComp .. => false
  | .DictComp .. => false
  | _ => true
def notSet : Expr → Bool
  | .Set .. => false
  | _ => true
def notSlice : Expr → Bool
  | .Slice .. => false
  | _ => true
def notBare : Expr → Bool
  | .Call (.Name _ _) [] [] _ => false
  | _ => true
/-- its test is its value's truth -/
def plainTest : Expr → Bool
  | .UnaryOp .Not _ _ => false
  | .BoolOp _ _ _ => false
  | .IfExp _ _ _ _ => false
  | .Compare _ _ _ _ => false
  | _ => true
def isGl (sc : Scope) (x : Str) : Bool := decide (sc.names.lookup x = some .globalImplicit) && decide (x ≠ "__debug__")
def isLoc (sc : Scope) (N : List Str) (i : Nat) (x : Str) : Bool := decide (N[i]? = some x) && (match sc.names.lookup x with
  | some .local => true
  | some .cell => true
  | some .free => true
  | _ => false) && decide (x ≠ "__debug__") && decide (x ≠ "__classdict__")
def constIs : Const → PyData → Bool
  | .none, .none => true
  | .bool a, .bool b => a == b
  | .int a, .int b => decide (a = b)
  | .str a, .str b => decide (a = b)
  | _, _ => false
def cstIs : Option PyData → PyData → Bool
  | some (.int a), .int b => decide (a = b)
  | some (.str a), .str b => decide (a = b)
  | _, _ => false
section
variable {env : Env}
theorem star_cons {e : Expr} {es : List Expr} (h : noStar e = true) : starEach (e :: es) env = (false, eval e env) :: starEach es env := by
  cases e <;> first | (cases h; done) | rfl
theorem swaps_no {e : Expr} {t : Option Expr} {l : Nat} (h : notComp e = true) : swapsWith e t l env = pure false := by
  cases e <;> first | (cases h; done) | rfl
theorem folded_no {e : Expr} (h : notSet e = true) (x : Value) : foldedSetIterable e env x = pure x := by
  cases e <;> first | (cases h; done) | rfl
theorem marks_no {e : Expr} {op : CmpOp} (h : notSet e = true) : behindInMarks op e = false := by
  cases e <;> first | (cases h; done) | rfl
theorem base_no {e : Expr} {m : Str} {w : Sem Value} (h : notBare e = true) : attributeBase e m env w = w := by
  unfold attributeBase
  split
  · cases h
  · rfl
theorem slice_no {e : Expr} (h : notSlice e = true) : PlainIx e := by
  intro o i
  cases e <;> first | (cases h; done) | rfl
theorem test_no {e : Expr} (h : plainTest e = true) (whole : Sem Value) : isTrue e env whole = (do let v ← whole; standAt e.pos; holding [v] (truthy v)) := by
  cases e <;> first | (cases h; done) | rfl | skip
  rename_i op x p
  cases op <;> first | (cases h; done) | rfl
end
theorem gl_of {X : Cx} {x : Str} (h : isGl X.env.scope x = true) : Gl X x ∧ (x == ("__debug__" : Str)) = false := by
  unfold isGl at h
  simp only [Bool.and_eq_true, decide_eq_true_eq] at h
  exact ⟨h.1, beq_eq_false_iff_ne.mpr h.2⟩
theorem pe_loc {X : Cx} {i : Nat} {x : Str} {pos : Pos} (h : isLoc X.env.scope X.N i x = true) : PE X (.Name x pos) (tVar i) := by
  unfold isLoc at h
  simp only [Bool.and_eq_true, decide_eq_true_eq] at h
  obtain ⟨⟨⟨h1, h2⟩, h3⟩, h4⟩ := h
  refine pe_var h1 ?_ (beq_eq_false_iff_ne.mpr h3) (beq_eq_false_iff_ne.mpr h4)
  split at h2
  · exact .inl (by assumption)
  · exact .inr (.inl (by assumption))
  · exact .inr (.inr (by assumption))
  · cases h2

/-! ### the shapes of operations -/
def mtCall (sc : Scope) (f : Str) : Expr → Option Expr
  | .Call (.Name g _) [x] [] _ => if decide (g = f) && isGl sc f then some x else none
  | _ => none
def mtNeg : Expr → Option Expr
  | .UnaryOp .USub x _ => some x
  | _ => none
def mtIsN : Expr → Option Expr
  | .Compare x [.Is] [.Constant .none _ _] _ => some x
  | _ => none
def mtNotN : Expr → Option Expr
  | .Compare x [.IsNot] [.Constant .none _ _] _ => some x
  | _ => none
def mtRev : Expr → Option Expr
  | .Subscript x (.Slice none none (some (.UnaryOp .USub (.Constant (.int i) _ _) _)) _) _ => if i = 1 then some x else none
  | _ => none
def mtIsi (sc : Scope) (t : Ty) : Expr → Option Expr
  | .Call (.Name g _) [x, .Name y _] [] _ => if decide (g = "isinstance") && isGl sc "isinstance" && decide (y = Str.ofString (tyName t)) && isGl sc (Str.ofString (tyName t)) && noStar x then some x else none
  | _ => none
def mtView (sc : Scope) (m : Str) : Expr → Option Expr
  | .Call (.Name g _) [.Call (.Attribute o m' apos) [] [] cpos] [] _ => if decide (g = "sorted") && isGl sc "sorted" && decide (m' = m) && notBare o && (apos.endLine == cpos.line) then some o else none
  | _ => none
def mtIsB (b : Bool) (o : CmpOp) : Expr → Option Expr
  | .Compare x [op] [.Constant (.bool c) _ _] _ => if decide (c = b) && decide (op = o) then some x else none
  | _ => none
def mt1 (sc : Scope) (o : Op1) (e : Expr) : Option Expr := match o with
  | .neg => mtNeg e
  | .isNone => mtIsN e
  | .notNone => mtNotN e
  | .rev => mtRev e
  | .isi t => mtIsi sc t e
  | .ssort => (mtCall sc "sorted" e).bind (mtCall sc "set")
  | .slen => (mtCall sc "len" e).bind (mtCall sc "set")
  | .skeys => mtView sc "keys" e
  | .sitems => mtView sc "items" e
  | .rngT => (mtCall sc "tuple" e).bind (mtCall sc "range")
  | .rngL => (mtCall sc "list" e).bind (mtCall sc "range")
  | .isB b neg => mtIsB b (if neg then .IsNot else .Is) e
  | .len => mtCall sc "len" e
  | .sorted => mtCall sc "sorted" e
  | .all => mtCall sc "all" e
  | .any => mtCall sc "any" e
  | .max => mtCall sc "max" e
  | .min => mtCall sc "min" e
  | .list => mtCall sc "list" e
  | .tuple => mtCall sc "tuple" e
  | .int => mtCall sc "int" e
  | .str => mtCall sc "str" e
def bin2 : Op2 → Option Operator
  | .add => some .Add
  | .sub => some .Sub
  | .mul => some .Mult
  | .mod => some .Mod
  | .pow => some .Pow
  | _ => none
def cmp2 : Op2 → Option CmpOp
  | .eq => some .Eq
  | .ne => some .NotEq
  | .lt => some .Lt
  | .le => some .LtE
  | .gt => some .Gt
  | .ge => some .GtE
  | .isin => some .In
  | .notin => some .NotIn
  | _ => none
def mt2 (o : Op2) : Expr → Option (Expr × Expr)
  | .BinOp a op b _ => if bin2 o = some op then some (a, b) else none
  | .Compare a [op] [b] _ => if decide (cmp2 o = some op) && notSet b then some (a, b) else none
  | .Subscript a i _ => if decide (o = .idx) && notSlice i then some (a, i) else none
  | _ => none
/-- a target: one name, or two -/
def mtTg (N : List Str) : List Nat → Expr → Option (List (Str × Nat))
  | [i], .Name x _ => if N[i]? = some x then some [(x, i)] else none
  | [i, j], .Tuple [.Name x _, .Name y _] _ _ => if N[i]? = some x ∧ N[j]? = some y ∧ i ≠ j then some [(x, i), (y, j)] else none
  | _, _ => none
def isTuple : Expr → Bool
  | .Tuple .. => true
  | _ => false
def ownKind (sc : Scope) (x : Str) : Bool := match sc.names.lookup x with
  | some .local => true
  | some .cell => true
  | _ => false
def mName : M1 → Str
  | .join => "join"
  | .split => "split"
  | .part => "partition"
def mtMeth (m : Str) : Expr → Option (Expr × Expr)
  | .Call (.Attribute o m' apos) [x] [] cpos => if decide (m' = m) && notBare o && noStar x && (apos.endLine == cpos.line) then some (o, x) else none
  | _ => none
def mtMeth2 (m : Str) : Expr → Option (Expr × Expr × Expr)
  | .Call (.Attribute o m' apos) [x, y] [] cpos => if decide (m' = m) && notBare o && noStar x && noStar y && (apos.endLine == cpos.line) then some (o, x, y) else none
  | _ => none
def Es.len : Es → Nat
  | .nil => 0
  | .cons _ r => r.len + 1
def fnFits (T : Tab) (f : Str) (io : Option Nat) (n : Nat) : Bool := match T.fn f with
  | some fn => decide (fn.io = io) && decide (fn.np = n) && (match io with
    | some k => decide (k < n)
    | none => true)
  | none => false

/-- a row of names of defs -/
def mtFs (T : Tab) (sc : Scope) (n : Nat) : List Str → List Expr → Bool
  | [], [] => true
  | f :: fs, .Name g _ :: es => decide (f = g) && isGl sc f && fnFits T f none n && mtFs T sc n fs es
  | _, _ => false
mutual
def mtE (T : Tab) (N : List Str) : E → Scope → Expr → Bool
  | .var i, sc, e => match e with
    | .Name x _ => isLoc sc N i x
    | _ => false
  | .pk i, sc, e => match e with
    | .Name x _ => isLoc sc N i x
    | _ => false
  | .cst d, _, e => match e with
    | .Constant c _ _ => constIs c d
    | _ => false
  | .glb x d, sc, e => match e with
    | .Name y _ => decide (x = y) && isGl sc x && cstIs (T.cst x) d
    | _ => false
  | .fnv x, sc, e => match e with
    | .Name y _ => decide (x = y) && isGl sc x && (T.fn x).isSome
    | _ => false
  | .tup es, sc, e => match e with
    | .Tuple xs _ _ => mtEs T N es sc xs && decide (xs.length ≤ 1000)
    | _ => false
  | .lst es, sc, e => match e with
    | .List xs _ => mtEs T N es sc xs && decide (xs.length ≤ 1000)
    | _ => false
  | .op1 o a, sc, e => match mt1 sc o e with
    | some x => noStar x && mtE T N a sc x
    | none => false
  | .op2 o a b, sc, e => match mt2 o e with
    | some (x, y) => mtE T N a sc x && mtE T N b sc y
    | none => false
  | .chn o o' a b c, sc, e => match e with
    | .Compare x [p, p'] [y, z] _ => decide (cmp2 o = some p) && decide (cmp2 o' = some p') && notSet z && mtE T N a sc x && mtE T N b sc y && mtE T N c sc z
    | _ => false
  | .and a b, sc, e => match e with
    | .BoolOp .And [x, y] _ => mtE T N a sc x && mtE T N b sc y
    | .BoolOp .And (x :: y :: z :: r) p => mtE T N a sc x && mtE T N b sc (.BoolOp .And (y :: z :: r) p)
    | _ => false
  | .or a b, sc, e => match e with
    | .BoolOp .Or [x, y] _ => mtE T N a sc x && mtE T N b sc y
    | .BoolOp .Or (x :: y :: z :: r) p => mtE T N a sc x && mtE T N b sc (.BoolOp .Or (y :: z :: r) p)
    | _ => false
  | .not a, sc, e => match e with
    | .UnaryOp .Not x _ => mtE T N a sc x
    | _ => false
  | .ite c a b, sc, e => match e with
    | .IfExp t x y _ => mtE T N c sc t && mtE T N a sc x && mtE T N b sc y
    | _ => false
  | .slc a lo hi, sc, e => match e with
    | .Subscript x (.Slice l h none _) _ => mtE T N a sc x && mtO T N lo sc l && mtO T N hi sc h
    | _ => false
  | .call f io es, sc, e => match e with
    | .Call (.Name g _) (x :: xs) [] _ => decide (f = g) && isGl sc f && fnFits T f io es.len && mtEs T N es sc (x :: xs)
    | _ => false
  | .callv i fs es, sc, e => match e with
    | .Call (.Name g _) (x :: xs) [] _ => isLoc sc N i g && fs.all (fun f => fnFits T f none es.len) && mtEs T N es sc (x :: xs)
    | _ => false
  | .callt fs i es, sc, e => match e with
    | .Call (.Subscript (.List ns _) ix _) (x :: xs) [] _ => mtFs T sc es.len fs ns && decide (ns.length ≤ 1000) && notSlice ix && mtE T N i sc ix && mtEs T N es sc (x :: xs)
    | _ => false
  | .lc elt tg src cond, sc, e => match e with
    | .ListComp x [⟨tgt, iter, ifs, a⟩] scope _ => decide (a = 0) && mtSrc T N src sc tgt iter && notSet iter && (match mtTg N tg tgt with
      | some own => blkC N sc scope own && own.all (fun p => ownKind scope p.1) && mtE T N elt (relS scope sc) x && (match ifs with
        | [] => (match cond with
          | .no => true
          | .so _ => false)
        | [c] => (match cond with
          | .no => false
          | .so k => mtE T N k (relS scope sc) c)
        | _ => false)
      | none => false)
    | _ => false
  | .met m a b, sc, e => match mtMeth (mName m) e with
    | some (x, y) => mtE T N a sc x && mtE T N b sc y
    | none => false
  | .pop i a, sc, e => match e with
    | .Call (.Attribute (.Name x _) m apos) [y] [] cpos => decide (m = "pop") && isLoc sc N i x && noStar y && mtE T N a sc y && (apos.endLine == cpos.line)
    | _ => false
  | .dct a, sc, e => match mtCall sc "dict" e with
    | some x => noStar x && mtE T N a sc x
    | none => false
  | .dget1 o k, sc, e => match mtMeth "get" e with
    | some (x, y) => mtE T N o sc x && mtE T N k sc y
    | none => false
  | .dget2 o k d, sc, e => match mtMeth2 "get" e with
    | some (x, y, z) => mtE T N o sc x && mtE T N k sc y && mtE T N d sc z
    | none => false
def mtEs (T : Tab) (N : List Str) : Es → Scope → List Expr → Bool
  | .nil, _, es => es.isEmpty
  | .cons c cs, sc, es => match es with
    | [] => false
    | e :: r => noStar e && mtE T N c sc e && mtEs T N cs sc r
def mtO (T : Tab) (N : List Str) : Eo → Scope → Option Expr → Bool
  | .no, _, o => o.isNone
  | .so c, sc, o => match o with
    | some e => mtE T N c sc e
    | none => false
def mtSrc (T : Tab) (N : List Str) : Src → Scope → Expr → Expr → Bool
  | .of c, sc, _, e => mtE T N c sc e
  | .rng1 c, sc, _, e => match e with
    | .Call (.Name g _) [x] [] _ => decide (g = "range") && isGl sc "range" && noStar x && mtE T N c sc x
    | _ => false
  | .rng2 c c', sc, _, e => match e with
    | .Call (.Name g _) [x, y] [] _ => decide (g = "range") && isGl sc "range" && noStar x && noStar y && mtE T N c sc x && mtE T N c' sc y
    | _ => false
  | .enm c, sc, tg, e => match e with
    | .Call (.Name g _) [x] [] _ => isTuple tg && decide (g = "enumerate") && isGl sc "enumerate" && noStar x && mtE T N c sc x
    | _ => false
end
end G6
-- ## Sound
/-! # Sound: what matches is meant so -/
namespace G6
open PySem PySem.Spec PyProof.Rows L2
def blts : List Str := ["len", "sorted", "all", "any", "max", "min", "list", "tuple", "int", "str", "range", "enumerate", "isinstance", "set", "dict", "bool"]
abbrev veB : List Value := [.type "ValueError", .type "Exception", .type "BaseException", .type "object"]
/-! ### a def that calls none, called with the exception that is handled -/
def FnP (P : Program) (w : World) (K : PySem.W.Frag) (mg : Str → Option Value) (base : Heap) (f : Addr) (fd : FuncData) (ps : List Str) (C : Addr) (j : Int) : Prop :=
  ∀ (A : Around) (outer : List Env) (s : Shared) (H : Hp) (a : Addr) (oe : Obj) (Q : VK), L2H.RoomH 0 A → L2H.PinOk outer H s (a, oe) → Zc (.ref C) none oe → (∃ vs, oe.data = .fields vs) → Env0 P w K mg base A outer s H →
    BindsTo s fd ⟨[.ref a], []⟩ (ps.zip [.ref a]) → (∀ p H', H p = none → Sub H H' → H' p = some (.tup [.str "refused", .int j]) → Q (.ref p) H') →
    codeAny (model P w) A (.call (.ref f) ⟨[.ref a], []⟩) (CR (L2.CX P w) outer P w H s Q fun _ _ _ => False) s
/-- the def f tells which refusal an exception is, one that c takes -/
def WhGood (P : Program) (w : World) (K : PySem.W.Frag) (mg : Str → Option Value) (base : Heap) (f c : Str) (tab : List (Str × Int)) : Prop := ∃ (C a : Addr) (fd : FuncData) (ps : List Str), mg c = some (.ref C) ∧ mg f = some (.ref a) ∧ PySem.W.keepIn K (.ref a) = true ∧ Binds K fd ps [] ∧ ps.length = 1 ∧
  ∀ (k : Str) (j : Int), tab.lookup k = some j → ∃ D, mg k = some (.ref D) ∧ PySem.W.exmOne K (.ref D) (.ref C) = some true ∧ FnP P w K mg base a fd ps D j
structure CxOk (T : Tab) (Φ : Fenv) (n : Nat) (X : Cx) (W : WX) : Prop where
  calm : X.calm = true
  nd : X.N.Nodup
  room : Room n X.A
  tk : Takes X W
  po : PassesOwn (model X.prog X.w) X.A X.env X.xe
  fns : ∀ (f : Str) (fn : Fn), T.fn f = some fn → ∃ (a : Addr) (fd : FuncData) (ps : List Str), X.mg f = some (.ref a) ∧ PySem.W.keepIn X.K (.ref a) = true ∧ Binds X.K fd ps [] ∧ FnOk X.prog X.w X.K X.mg X.base (L2.CX X.prog X.w) n a fd ps (spOf X.K X.mg fn.io (Φ f))
  fno : ∀ (f : Str) (as : List Av), T.fn f = none → Φ f as = .bad
  csts : ∀ (x : Str) (d : PyData), cstIs (T.cst x) d = true → ∃ (v : V) (u : Value), X.mg x = some u ∧ RelV v u ∧ ∀ H, Dp X.K H v d
  blt : ∀ x, x ∈ blts → X.mg x = none
  excs : ∀ c, T.exc c = true → ∃ C, X.mg c = some (.ref C) ∧ PySem.W.excIn X.K C veB "ValueError.__new__" = true ∧ PySem.W.keepIn X.K (.ref C) = true ∧ PySem.W.subIn X.K (.ref C) (.type "BaseException") = some true ∧ PySem.W.typeIn X.K (.ref C) = some (.type "type")
  whs : ∀ (f c : Str) (tab : List (Str × Int)), T.wh f = some (c, tab) → WhGood X.prog X.w X.K X.mg X.base f c tab
theorem CxOk.blk {T : Tab} {Φ : Fenv} {n : Nat} {X : Cx} {W : WX} (c : CxOk T Φ n X W) (s : Shared) (H : Hp) (scope : Scope) (cenv : Env) (fp : List Addr) : CxOk T Φ n (X.blk s H scope cenv fp) W0 where
  calm := c.calm
  nd := c.nd
  room := c.room
  tk := takes0
  po := PassesOwn.never
  fns := c.fns
  fno := c.fno
  csts := c.csts
  blt := c.blt
  excs := c.excs
  whs := c.whs
section
variable {T : Tab} {Φ : Fenv} {n : Nat} {X : Cx} {W : WX} {B : ASet} {pos : Pos}
theorem CxOk.units (c : CxOk T Φ n X W) : X.A.units + 200 < cLine := by have := c.room.un; omega
theorem CxOk.glb (c : CxOk T Φ n X W) {x : Str} (hx : x ∈ blts) (h : isGl X.env.scope x = true) : Gl X x ∧ X.mg x = none ∧ (x == ("__debug__" : Str)) = false :=
  ⟨(gl_of h).1, c.blt x hx, (gl_of h).2⟩
theorem rDC_one {g : PyData → Option PyData} {v : V} {H : Hp} {Q : VK} : rDC X.K g [v] H Q = rD1 X.K g v H Q := by
  apply propext
  constructor
  · rintro ⟨x, e, h⟩
    cases e
    exact h
  · intro h
    exact ⟨v, rfl, h⟩
/-- f(x) of a built-in function, of a built-in type -/
theorem blt1 {f : Str} {id : String} {g : PyData → Option PyData} {x : Expr} {p : Pos} {t : TE} (hc : CallR X (.builtin id) (rDC X.K g)) (hg : Gl X f ∧ X.mg f = none ∧ (f == ("__debug__" : Str)) = false) (hv : bootBuiltins f = some (.builtin id)) (hn : f ≠ "__name__") (hs : noStar x = true) (hx : PE X x t) :
    PE X (.Call (.Name f p) [x] [] pos) fun σ H Q => t σ H fun v H1 => rD1 X.K g v H1 Q := by
  refine PE.weak (pe_callB hc hg.1 hg.2.1 hv (pa_cons hx pa_nil (star_cons hs)) hn hg.2.2 (star_cons hs) rfl) fun σ H Q q => ?_
  show t σ H fun x H1 => rDC X.K g [x] H1 Q
  simp only [rDC_one]
  exact q
theorem bty1 {f : Str} {id : String} {g : PyData → Option PyData} {x : Expr} {p : Pos} {t : TE} (hc : CallR X (.type id) (rDC X.K g)) (hg : Gl X f ∧ X.mg f = none ∧ (f == ("__debug__" : Str)) = false) (hv : bootBuiltins f = some (.type id)) (hn : f ≠ "__name__") (hs : noStar x = true) (hx : PE X x t) :
    PE X (.Call (.Name f p) [x] [] pos) fun σ H Q => t σ H fun v H1 => rD1 X.K g v H1 Q := by
  refine PE.weak (pe_callTy hc hg.1 hg.2.1 hv (pa_cons hx pa_nil (star_cons hs)) hn hg.2.2 (star_cons hs) rfl) fun σ H Q q => ?_
  show t σ H fun x H1 => rDC X.K g [x] H1 Q
  simp only [rDC_one]
  exact q
theorem mtCall_eq {sc : Scope} {f : Str} {e x : Expr} (h : mtCall sc f e = some x) : ∃ p pos, e = .Call (.Name f p) [x] [] pos ∧ isGl sc f = true := by
  unfold mtCall at h
  split at h
  · split at h
    · rename_i hc
      cases h
      simp only [Bool.and_eq_true, decide_eq_true_eq] at hc
      obtain ⟨rfl, hg⟩ := hc
      exact ⟨_, _, rfl, hg⟩
    · cases h
  · cases h
/-- the set's two words, proved apart -/
structure SetRules (X : Cx) : Prop where
  ssort : ∀ (x : Expr) (p p2 q pos : Pos) (t : TE), Gl X "sorted" → Gl X "set" → noStar x = true → PE X x t → PE X (.Call (.Name "sorted" p) [.Call (.Name "set" p2) [x] [] q] [] pos) fun σ H Q => t σ H fun v H1 => rD1 X.K (sem1 .ssort) v H1 Q
  slen : ∀ (x : Expr) (p p2 q pos : Pos) (t : TE), Gl X "len" → Gl X "set" → noStar x = true → PE X x t → PE X (.Call (.Name "len" p) [.Call (.Name "set" p2) [x] [] q] [] pos) fun σ H Q => t σ H fun v H1 => rD1 X.K (sem1 .slen) v H1 Q
abbrev SRs : Prop := ∀ X : Cx, X.calm = true → X.A.units + 200 < cLine → X.mg "sorted" = none → X.mg "set" = none → X.mg "len" = none → SetRules X
theorem CxOk.srs (c : CxOk T Φ n X W) (sr : SRs) : SetRules X := sr X c.calm c.units (c.blt _ (by decide)) (c.blt _ (by decide)) (c.blt _ (by decide))
theorem d_isN : OpR X (compareOp .Is) fun x y H Q => y = .non ∧ rD1 X.K (sem1 .isNone) x H Q := OpR.weak op_isN fun x y H Q ⟨e, S, d, z, hd, ha, hz, q⟩ => ⟨e, by
  cases hz
  rw [← isNone_V ha]
  exact q _ _ (Sub.refl _) (.bl _)⟩
theorem d_notN : OpR X (compareOp .IsNot) fun x y H Q => y = .non ∧ rD1 X.K (sem1 .notNone) x H Q := OpR.weak op_notN fun x y H Q ⟨e, S, d, z, hd, ha, hz, q⟩ => ⟨e, by
  cases hz
  rw [← isNone_V ha]
  exact q _ _ (Sub.refl _) (.bl _)⟩
theorem pe_isN {x : Expr} {k : Nat} {p : Pos} {t : TE} {op : CmpOp} {o : Op1} (hn : op ≠ .In) (hn2 : op ≠ .NotIn) (ho : OpR X (compareOp op) fun x y H Q => y = .non ∧ rD1 X.K (sem1 o) x H Q) (hx : PE X x t) : PE X (.Compare x [op] [.Constant .none k p] pos) fun σ H Q => t σ H fun v H1 => rD1 X.K (sem1 o) v H1 Q := by
  refine ⟨fun pins s σ H Q I h => ?_⟩
  refine wpAny_Compare1 (thn (hx.run pins s σ H _ I h) fun v s1 ⟨x, H1, I1, r1, q1⟩ => thn ((pe_non (X := X) (pos := p) (j := k)).run pins s1 σ H1 (fun u H2 => u = .non ∧ H2 = H1) I1 ⟨rfl, rfl⟩) fun u s2 ⟨y, H2, I2, r2, ey, eH⟩ => ?_) (nomark _ hn hn2)
  subst ey eH
  exact ho pins s2 σ H2 x .non v u Q I2 r1 r2 ⟨rfl, q1⟩
theorem pt_isN {x : Expr} {k : Nat} {p : Pos} {t : TE} {op : CmpOp} {o : Op1} (hn : op ≠ .In) (hn2 : op ≠ .NotIn) (ho : OpR X (compareOp op) fun x y H Q => y = .non ∧ rD1 X.K (sem1 o) x H Q) (hx : PE X x t) : PT X (.Compare x [op] [.Constant .none k p] pos) fun σ H Q => t σ H fun v H1 => rD1 X.K (sem1 o) v H1 fun w H2 => ∃ k, w = .bl k ∧ Q k H2 := by
  refine ⟨fun pins s σ H Q I h => ?_⟩
  refine wpAny_isTrue_Compare1 (thn (hx.run pins s σ H _ I h) fun v s1 ⟨x, H1, I1, r1, q1⟩ => thn ((pe_non (X := X) (pos := p) (j := k)).run pins s1 σ H1 (fun u H2 => u = .non ∧ H2 = H1) I1 ⟨rfl, rfl⟩) fun u s2 ⟨y, H2, I2, r2, ey, eH⟩ => ?_) (nomark _ hn hn2)
  subst ey eH
  refine thn (ho pins s2 σ H2 x .non v u _ I2 r1 r2 ⟨rfl, q1⟩) fun c s3 ⟨z, H3, I3, r3, k, e, q3⟩ => ?_
  subst e
  cases r3
  exact wpAny_truthy_bool ⟨H3, I3, q3⟩
theorem mtIsN_eq {e x : Expr} (h : mtIsN e = some x) : ∃ k p pos, e = .Compare x [.Is] [.Constant .none k p] pos := by
  unfold mtIsN at h
  split at h
  · cases h
    exact ⟨_, _, _, rfl⟩
  · cases h
theorem mtNotN_eq {e x : Expr} (h : mtNotN e = some x) : ∃ k p pos, e = .Compare x [.IsNot] [.Constant .none k p] pos := by
  unfold mtNotN at h
  split at h
  · cases h
    exact ⟨_, _, _, rfl⟩
  · cases h
theorem d_isi1 {t : Ty} : CallR X (.builtin "isinstance") fun vs H Q => ∃ x, vs = [x, .ty (tyName t)] ∧ rD1 X.K (sem1 (.isi t)) x H Q := CallR.weak (d_isi (t := t)) fun vs H Q ⟨x, e, S, d, z, hd, ha, hz, q⟩ => ⟨x, e, S, d, ha, by
  replace hz : (if noDict d then some (PyData.bool (isTy t d)) else none) = some z := hz
  split at hz
  · rename_i hn
    cases hz
    exact ⟨hn, q _ _ (Sub.refl _) (.bl _)⟩
  · cases hz⟩
theorem isi_one {t : Ty} {v : V} {H : Hp} {Q : VK} : (∃ x, [v, V.ty (tyName t)] = [x, .ty (tyName t)] ∧ rD1 X.K (sem1 (.isi t)) x H Q) = rD1 X.K (sem1 (.isi t)) v H Q := by
  apply propext
  constructor
  · rintro ⟨x, e, h⟩
    cases e
    exact h
  · intro h
    exact ⟨v, rfl, h⟩
theorem bootTy (t : Ty) : bootBuiltins (Str.ofString (tyName t)) = some (.type (tyName t)) := by cases t <;> rfl
theorem tyBlt (t : Ty) : Str.ofString (tyName t) ∈ blts := by cases t <;> decide
/-! ### is of a truth -/
theorem d_isB {b neg : Bool} : OpR X (compareOp (if neg then .IsNot else .Is)) fun x y H Q => y = .bl b ∧ rD1 X.K (sem1 (.isB b neg)) x H Q := by
  cases neg with
  | false =>
    refine OpR.weak op_is_bl fun x y H Q ⟨e, S, d, z, hd, ha, hz, q⟩ => ?_
    replace hz : isBD b false d = some z := hz
    cases d with
    | bool c =>
      obtain rfl := ha.bool
      subst e
      cases hz
      exact ⟨c, b, rfl, rfl, q _ _ (Sub.refl _) (.bl _)⟩
    | _ => cases hz
  | true =>
    refine OpR.weak op_isnot_bl fun x y H Q ⟨e, S, d, z, hd, ha, hz, q⟩ => ?_
    replace hz : isBD b true d = some z := hz
    cases d with
    | bool c =>
      obtain rfl := ha.bool
      subst e
      cases hz
      exact ⟨c, b, rfl, rfl, q _ _ (Sub.refl _) (.bl _)⟩
    | _ => cases hz
theorem pe_isBo {x : Expr} {k : Nat} {p : Pos} {t : TE} {op : CmpOp} {b : Bool} {o : Op1} (hn : op ≠ .In) (hn2 : op ≠ .NotIn) (ho : OpR X (compareOp op) fun x y H Q => y = .bl b ∧ rD1 X.K (sem1 o) x H Q) (hx : PE X x t) : PE X (.Compare x [op] [.Constant (.bool b) k p] pos) fun σ H Q => t σ H fun v H1 => rD1 X.K (sem1 o) v H1 Q := by
  refine ⟨fun pins s σ H Q I h => ?_⟩
  refine wpAny_Compare1 (thn (hx.run pins s σ H _ I h) fun v s1 ⟨x, H1, I1, r1, q1⟩ => thn ((pe_bl (X := X) (pos := p) (j := k) (b := b)).run pins s1 σ H1 (fun u H2 => u = .bl b ∧ H2 = H1) I1 ⟨rfl, rfl⟩) fun u s2 ⟨y, H2, I2, r2, ey, eH⟩ => ?_) (nomark _ hn hn2)
  subst ey eH
  exact ho pins s2 σ H2 x (.bl b) v u Q I2 r1 r2 ⟨rfl, q1⟩
theorem pt_isBo {x : Expr} {k : Nat} {p : Pos} {t : TE} {op : CmpOp} {b : Bool} {o : Op1} (hn : op ≠ .In) (hn2 : op ≠ .NotIn) (ho : OpR X (compareOp op) fun x y H Q => y = .bl b ∧ rD1 X.K (sem1 o) x H Q) (hx : PE X x t) : PT X (.Compare x [op] [.Constant (.bool b) k p] pos) fun σ H Q => t σ H fun v H1 => rD1 X.K (sem1 o) v H1 fun w H2 => ∃ k, w = .bl k ∧ Q k H2 := by
  refine ⟨fun pins s σ H Q I h => ?_⟩
  refine wpAny_isTrue_Compare1 (thn (hx.run pins s σ H _ I h) fun v s1 ⟨x, H1, I1, r1, q1⟩ => thn ((pe_bl (X := X) (pos := p) (j := k) (b := b)).run pins s1 σ H1 (fun u H2 => u = .bl b ∧ H2 = H1) I1 ⟨rfl, rfl⟩) fun u s2 ⟨y, H2, I2, r2, ey, eH⟩ => ?_) (nomark _ hn hn2)
  subst ey eH
  refine thn (ho pins s2 σ H2 x (.bl b) v u _ I2 r1 r2 ⟨rfl, q1⟩) fun c s3 ⟨z, H3, I3, r3, k, e, q3⟩ => ?_
  subst e
  cases r3
  exact wpAny_truthy_bool ⟨H3, I3, q3⟩
theorem mtIsB_eq {b : Bool} {o : CmpOp} {e x : Expr} (h : mtIsB b o e = some x) : ∃ k p pos, e = .Compare x [o] [.Constant (.bool b) k p] pos := by
  unfold mtIsB at h
  split at h
  · split at h
    · rename_i hc
      cases h
      simp only [Bool.and_eq_true, decide_eq_true_eq] at hc
      obtain ⟨rfl, rfl⟩ := hc
      exact ⟨_, _, _, rfl⟩
    · cases h
  · cases h
theorem isB_ne {neg : Bool} : (if neg then CmpOp.IsNot else CmpOp.Is) ≠ .In ∧ (if neg then CmpOp.IsNot else CmpOp.Is) ≠ .NotIn := by cases neg <;> exact ⟨by decide, by decide⟩
/-! ### tuple(range(n)), list(range(n)) -/
theorem ints_all {K : PySem.W.Frag} {H : Hp} : ∀ ns : List Int, DpAll K H (ns.map V.int) (ns.map PyData.int)
  | [] => .nil
  | n :: r => .cons (.int n) (ints_all r)
theorem rgV_all {K : PySem.W.Frag} {H : Hp} {j : Int} : DpAll K H (rgV 0 j) (intsD 0 j.toNat) := by
  have e1 : intsD 0 j.toNat = ((List.range j.toNat).map fun i : Nat => (0 : Int) + (i : Int)).map PyData.int := by simp [intsD, Function.comp_def]
  have e2 : rgV 0 j = ((List.range j.toNat).map fun i : Nat => (0 : Int) + (i : Int)).map V.int := by simp [rgV, Function.comp_def]
  rw [e1, e2]
  exact ints_all _
theorem inR_ok {j : Int} (h : inRange j = true) : -1000 ≤ j ∧ j ≤ 1000 := by
  unfold inRange at h
  simp only [Bool.and_eq_true, decide_eq_true_eq] at h
  exact h
theorem pe_mono {x : Expr} {t : TE} (hx : PE X x t) (C : VK) : PE X x fun σ H Q => t σ H C ∧ ∀ v H1, C v H1 → Q v H1 :=
  ⟨fun pins s σ H Q I ⟨h1, h2⟩ => wpAny_mono (hx.run pins s σ H C I h1) (fun u s' ⟨v, H1, I1, r, q⟩ => ⟨v, H1, I1, r, h2 v H1 q⟩) fun _ _ z => z⟩
theorem op1_rule (c : CxOk T Φ n X W) (sr : SRs) {o : Op1} {e x : Expr} (h : mt1 X.env.scope o e = some x) (hs : noStar x = true) (t : TE) (hx : PE X x t) : PE X e fun σ H Q => t σ H fun v H1 => rD1 X.K (sem1 o) v H1 Q := by
  have hu := c.units
  have hc := c.calm
  cases o with
  | neg =>
    replace h : mtNeg e = some x := h
    unfold mtNeg at h
    split at h
    · cases h
      exact pe_un d_neg hx
    · cases h
  | isNone =>
    obtain ⟨k, p, pos, rfl⟩ := mtIsN_eq h
    exact pe_isN (by decide) (by decide) d_isN hx
  | notNone =>
    obtain ⟨k, p, pos, rfl⟩ := mtNotN_eq h
    exact pe_isN (by decide) (by decide) d_notN hx
  | rev =>
    replace h : mtRev e = some x := h
    unfold mtRev at h
    split at h
    · split at h
      · rename_i e1
        cases h
        subst e1
        exact pe_rev hx
      · cases h
    · cases h
  | isi t0 =>
    replace h : mtIsi X.env.scope t0 e = some x := h
    unfold mtIsi at h
    split at h
    · split at h
      · rename_i g p1 x0 y p2 pos hc0
        cases h
        simp only [Bool.and_eq_true, decide_eq_true_eq] at hc0
        obtain ⟨⟨⟨⟨rfl, h2⟩, rfl⟩, h3⟩, h4⟩ := hc0
        obtain ⟨g1, m1, d1⟩ := c.glb (by decide) h2
        obtain ⟨g2, m2, d2⟩ := c.glb (tyBlt t0) h3
        refine PE.weak (pe_callB (d_isi1 (t := t0)) g1 m1 rfl (pa_cons hx (pa_cons (pe_bltn (v := .ty (tyName t0)) g2 m2 (bootTy t0) rfl (by cases t0 <;> decide) d2) pa_nil rfl) (star_cons hs)) (by decide) d1 (star_cons hs) rfl) fun σ H Q q => ?_
        show t σ H fun x H1 => ∃ x_1, [x, V.ty (tyName t0)] = [x_1, .ty (tyName t0)] ∧ rD1 X.K (sem1 (.isi t0)) x_1 H1 Q
        simp only [isi_one]
        exact q
      · cases h
    · cases h
  | ssort =>
    obtain ⟨y, h1, h2⟩ := Option.bind_eq_some_iff.mp h
    obtain ⟨p, pos, rfl, g1⟩ := mtCall_eq h1
    obtain ⟨p2, q, rfl, g2⟩ := mtCall_eq h2
    exact (c.srs sr).ssort x p p2 q pos t (gl_of g1).1 (gl_of g2).1 hs hx
  | slen =>
    obtain ⟨y, h1, h2⟩ := Option.bind_eq_some_iff.mp h
    obtain ⟨p, pos, rfl, g1⟩ := mtCall_eq h1
    obtain ⟨p2, q, rfl, g2⟩ := mtCall_eq h2
    exact (c.srs sr).slen x p p2 q pos t (gl_of g1).1 (gl_of g2).1 hs hx
  | skeys =>
    replace h : mtView X.env.scope "keys" e = some x := h
    unfold mtView at h
    split at h
    · split at h
      · rename_i hc0
        cases h
        simp only [Bool.and_eq_true, decide_eq_true_eq] at hc0
        obtain ⟨⟨⟨⟨rfl, g⟩, rfl⟩, h2⟩, h3⟩ := hc0
        obtain ⟨g1, m1, _⟩ := c.glb (by decide) g
        exact pe_skeys hc hu hx g1 m1 (base_no h2) h3
      · cases h
    · cases h
  | sitems =>
    replace h : mtView X.env.scope "items" e = some x := h
    unfold mtView at h
    split at h
    · split at h
      · rename_i hc0
        cases h
        simp only [Bool.and_eq_true, decide_eq_true_eq] at hc0
        obtain ⟨⟨⟨⟨rfl, g⟩, rfl⟩, h2⟩, h3⟩ := hc0
        obtain ⟨g1, m1, _⟩ := c.glb (by decide) g
        exact pe_sitems hc hu hx g1 m1 (base_no h2) h3
      · cases h
    · cases h
  | isB b neg =>
    obtain ⟨k, p, pos, rfl⟩ := mtIsB_eq h
    exact pe_isBo isB_ne.1 isB_ne.2 d_isB hx
  | rngT =>
    obtain ⟨y, h1, h2⟩ := Option.bind_eq_some_iff.mp h
    obtain ⟨p, pos, rfl, g1⟩ := mtCall_eq h1
    obtain ⟨p2, q, rfl, g2⟩ := mtCall_eq h2
    obtain ⟨a1, a2, a3⟩ := c.glb (by decide) g1
    obtain ⟨b1, b2, b3⟩ := c.glb (by decide) g2
    refine ⟨fun pins s σ H Q I q => (pe_tupRg hc a1 a2 (prg_1 b1 b2 (pe_mono hx fun v H1 => rD1 X.K (sem1 .rngT) v H1 Q) (star_cons hs)) rfl).run pins s σ H Q I ⟨q, fun v H1 ⟨S, d, z, hd, ha, hz, q1⟩ => ?_⟩⟩
    replace hz : rngTD d = some z := hz
    cases d with
    | int j =>
      obtain rfl := ha.int
      simp only [rngTD] at hz
      split at hz
      · rename_i hr
        cases hz
        obtain ⟨r1, r2⟩ := inR_ok hr
        exact ⟨j, rfl, ⟨by omega, by omega, by omega, by omega, by omega⟩, fun p hp => q1 _ _ (Sub.new hp) (new_tup hd hp rgV_all (rowsB_intsD _ _))⟩
      · cases hz
    | _ => cases hz
  | rngL =>
    obtain ⟨y, h1, h2⟩ := Option.bind_eq_some_iff.mp h
    obtain ⟨p, pos, rfl, g1⟩ := mtCall_eq h1
    obtain ⟨p2, q, rfl, g2⟩ := mtCall_eq h2
    obtain ⟨a1, a2, a3⟩ := c.glb (by decide) g1
    obtain ⟨b1, b2, b3⟩ := c.glb (by decide) g2
    refine ⟨fun pins s σ H Q I q => (pe_listRg hc a1 a2 (prg_1 b1 b2 (pe_mono hx fun v H1 => rD1 X.K (sem1 .rngL) v H1 Q) (star_cons hs)) rfl).run pins s σ H Q I ⟨q, fun v H1 ⟨S, d, z, hd, ha, hz, q1⟩ => ?_⟩⟩
    replace hz : rngLD d = some z := hz
    cases d with
    | int j =>
      obtain rfl := ha.int
      simp only [rngLD] at hz
      split at hz
      · rename_i hr
        cases hz
        obtain ⟨r1, r2⟩ := inR_ok hr
        exact ⟨j, rfl, ⟨by omega, by omega, by omega, by omega, by omega⟩, fun p hp => q1 _ _ (Sub.new hp) (new_lst hd hp rgV_all)⟩
      · cases hz
    | _ => cases hz
  | len => obtain ⟨p, pos, rfl, g⟩ := mtCall_eq h; exact blt1 d_len (c.glb (by decide) g) rfl (by decide) hs hx
  | sorted => obtain ⟨p, pos, rfl, g⟩ := mtCall_eq h; exact blt1 (d_sorted hu) (c.glb (by decide) g) rfl (by decide) hs hx
  | all => obtain ⟨p, pos, rfl, g⟩ := mtCall_eq h; exact blt1 (d_all hc) (c.glb (by decide) g) rfl (by decide) hs hx
  | any => obtain ⟨p, pos, rfl, g⟩ := mtCall_eq h; exact blt1 (d_any hc) (c.glb (by decide) g) rfl (by decide) hs hx
  | max => obtain ⟨p, pos, rfl, g⟩ := mtCall_eq h; exact blt1 (d_max hu hc) (c.glb (by decide) g) rfl (by decide) hs hx
  | min => obtain ⟨p, pos, rfl, g⟩ := mtCall_eq h; exact blt1 (d_min hu hc) (c.glb (by decide) g) rfl (by decide) hs hx
  | list => obtain ⟨p, pos, rfl, g⟩ := mtCall_eq h; exact bty1 (d_list hc) (c.glb (by decide) g) rfl (by decide) hs hx
  | tuple => obtain ⟨p, pos, rfl, g⟩ := mtCall_eq h; exact bty1 (d_tuple hc) (c.glb (by decide) g) rfl (by decide) hs hx
  | int => obtain ⟨p, pos, rfl, g⟩ := mtCall_eq h; exact bty1 d_int (c.glb (by decide) g) rfl (by decide) hs hx
  | str => obtain ⟨p, pos, rfl, g⟩ := mtCall_eq h; exact bty1 d_str (c.glb (by decide) g) rfl (by decide) hs hx
end
end G6
-- ## SetStr2
/-! # SetStr2: sorted(set(texts)), len(set(texts)) -/
namespace G6
open PySem PySem.Spec PyProof.Rows L2
/-! ### plain -/
theorem dedup_fold : ∀ (ss ks : List Str), ss.foldl stepS ks = ks ++ (dedup ss).filter fun y => decide (y ∉ ks)
  | [], ks => by simp [dedup]
  | x :: r, ks => by
    rw [List.foldl_cons, dedup_fold r]
    unfold stepS
    by_cases hx : x ∈ ks
    · rw [if_pos hx]
      simp only [dedup, List.filter_cons, hx, not_true_eq_false, decide_false, Bool.false_eq_true, if_false, List.filter_filter]
      congr 1
      apply List.filter_congr
      intro y _
      by_cases hy : y ∈ ks
      · simp [hy]
      · have : y ≠ x := fun e => hy (e ▸ hx)
        simp [hy, this]
    · rw [if_neg hx]
      simp only [dedup, List.filter_cons, hx, not_false_eq_true, decide_true, if_true, List.filter_filter, List.append_assoc, List.cons_append, List.nil_append]
      congr 2
      apply List.filter_congr
      intro y _
      by_cases hy : y ∈ ks <;> by_cases hy2 : y = x <;> simp [hy, hy2]
theorem dedup_set (ss : List Str) : ss.foldl stepS [] = dedup ss := by
  rw [dedup_fold]
  simp
abbrev leS (a b : Str) : Bool := decide (a.cps.toList ≤ b.cps.toList)
theorem leS_trans (a b c : Str) (h1 : leS a b = true) (h2 : leS b c = true) : leS a c = true := by
  simp only [leS, decide_eq_true_eq] at *
  exact List.le_trans h1 h2
theorem leS_total (a b : Str) : (leS a b || leS b a) = true := by
  simp only [leS, Bool.or_eq_true, decide_eq_true_eq]
  exact List.le_total _ _
theorem leS_anti {a b : Str} (h1 : leS a b = true) (h2 : leS b a = true) : a = b := by
  simp only [leS, decide_eq_true_eq] at *
  have := List.le_antisymm h1 h2
  cases a; cases b
  simp_all [Array.ext']
theorem eq_of_sorted {α : Type} {le : α → α → Bool} (anti : ∀ {a b}, le a b = true → le b a = true → a = b) : ∀ {l l' : List α}, l.Perm l' → l.Pairwise (fun a b => le a b = true) → l'.Pairwise (fun a b => le a b = true) → l = l'
  | [], l', p, _, _ => by rw [List.Perm.nil_eq p]
  | a :: l, [], p, _, _ => by simpa using p.length_eq
  | a :: l, b :: l', p, h1, h2 => by
    obtain ⟨h1a, h1b⟩ := List.pairwise_cons.mp h1
    obtain ⟨h2a, h2b⟩ := List.pairwise_cons.mp h2
    have e : a = b := by
      have ma : a ∈ b :: l' := p.mem_iff.mp List.mem_cons_self
      have mb : b ∈ a :: l := p.mem_iff.mpr List.mem_cons_self
      rcases List.mem_cons.mp ma with q | q
      · exact q
      · rcases List.mem_cons.mp mb with q' | q'
        · exact q'.symm
        · exact anti (h1a b q') (h2a a q)
    subst e
    rw [eq_of_sorted anti (List.Perm.cons_inv p) h1b h2b]
theorem sortStr_map (ks : List Str) : sortData (ks.map .str) = (ks.mergeSort leS).map .str := by
  have t := PySem.W.sort_maps (r := PySem.W.dataLe false (PyData.str)) (s := PySem.W.dataLe false id) (PyData.str) (l := ks) (fun _ _ _ _ => rfl)
  unfold sortData
  rw [← t, PySem.W.dataLe_str]
theorem sortStr_perm {ks ls : List Str} (p : ks.Perm ls) : ks.mergeSort leS = ls.mergeSort leS :=
  eq_of_sorted leS_anti ((List.mergeSort_perm ks leS).trans (p.trans (List.mergeSort_perm ls leS).symm)) (List.pairwise_mergeSort leS_trans leS_total ks) (List.pairwise_mergeSort leS_trans leS_total ls)
/-! ### the rules -/
section
variable {P : Program} {w : World} {A : Around} {E : Value → Shared → Prop} {s : Shared} {a : Addr} {ks : List Str}
theorem each_strs : ∀ (l : List Value), (∀ v ∈ l, ∃ k tk, v = Value.str k tk) → PySem.W.EachIs (fun v k => ∃ t, v = Value.str k t) l (l.map fun v => keyS (0, v))
  | [], _ => .nil
  | v :: l, h => by
    obtain ⟨k, tk, rfl⟩ := h v List.mem_cons_self
    exact .cons ⟨tk, rfl⟩ (each_strs l fun u hu => h u (List.mem_cons_of_mem _ hu))
theorem each_imp {R R' : Value → Str → Prop} (f : ∀ v k, R v k → R' v k) : ∀ {vs : List Value} {bs : List Str}, PySem.W.EachIs R vs bs → PySem.W.EachIs R' vs bs
  | _, _, .nil => .nil
  | _, _, .cons a b => .cons (f _ _ a) (each_imp f b)
theorem vals_strs : ∀ {vs : List Value} {bs : List Str}, PySem.W.EachIs (fun v k => ∃ t, v = Value.str k t) vs bs → Vals (bs.map V.str) vs
  | _, _, .nil => .nil
  | _, _, .cons a b => .cons a (vals_strs b)
theorem sorted_setS {Q : Value → Shared → Prop} (R : SetS w s.heap a ks) (hh : A.handled = none) (hu : A.units + 200 < cLine)
    (hQ : ∀ s' p (out : List Value) (c : Nat), (∀ b o, s.heap.get? b = some o → s'.heap.get? b = some o) → s'.gens = s.gens → s'.os = s.os → s.heap.objs.size ≤ p →
      s'.heap.get? p = some (seqObj "list" out.toArray c) → Vals ((ks.mergeSort leS).map V.str) out → Q (.ref p) s') :
    wpAny (model P w) A (call (.builtin "sorted") [.ref a]) Q E s := by
  obtain ⟨o, es, ep, t, ho, hex, hd, g, pk, hb, hf, hr, hl⟩ := R
  refine Calls.call_function_entry kind_sorted plain_sorted entry_sorted (args_sorted1 _) ?_
  unfold Builtin.«sorted»
  refine wpAny_bind (m := checkCount "sorted" 1 1 _) (wpAny_pure ?_)
  refine wpAny_bind (collect_set (A := A.in1) hh ⟨o, ho, hex.1, hd⟩ hf hb hr hl fun s1 vs k1 hz g1 o1 pm => ?_)
  have hstr : ∀ v ∈ vs, ∃ k tk, v = Value.str k tk := fun v hv => by
    obtain ⟨e, he, q⟩ := List.mem_map.mp (pm.mem_iff.mp hv)
    obtain ⟨k, tk, h1, _⟩ := g e he
    exact ⟨k, tk, by rw [← q]; exact h1⟩
  have hE := each_strs vs hstr
  have pv : (vs.map fun v => keyS (0, v)).Perm ks := by
    have q := pm.map fun v => keyS (0, v)
    rw [List.map_map] at q
    exact q.trans pk
  have hsz : vs.length ≤ sizeLine := by
    rw [pm.length_eq, List.length_map, Array.length_toList]
    exact fits_of_scanBound hb
  refine wpAny_bind (wpAny_newList ?_ hsz)
  have hoL : (s1.heap.push (seqObj "list" vs.toArray 0)).get? s1.heap.objs.size = some (seqObj "list" vs.toArray 0) := Heap.get?_push_size _ rfl
  refine wpAny_bind (wpAny_holding (PySem.W.list_sort_data (enc := PyData.str) hoL hE (each_imp (fun v k ⟨t, e⟩ => ⟨[], by rw [e]; exact .str k t, by simp⟩) hE) (PySem.W.AllAlike.of fun b b' => rfl) (PySem.W.Sortable.others fun b => ⟨(fun e => by cases e), fun xs e => by cases e⟩) (by rw [List.length_map]; exact hsz) (fun b hb => ?_) fun out ho' he' => ?_))
  · show A.in1.units + 1 + 0 < cLine
    have : A.in1.units ≤ A.units + 1 := by first | exact Nat.le_refl _ | simp [Around.in1]
    omega
  · obtain ⟨c, hc⟩ := sortedHeap_at (vs := vs) (out := out.toArray) hoL
    refine wpAny_pure ⟨_, rfl, hQ _ s1.heap.objs.size out c (fun b u e => ?_) g1 o1 hz hc ?_⟩
    · have q := k1 b u e
      have hlt := Heap.lt_size q
      show (sortedHeap (s1.heap.push (seqObj "list" vs.toArray 0)) s1.heap.objs.size vs out.toArray).get? b = some u
      rw [sortedHeap_old (Nat.ne_of_lt hlt) (by rw [size_push']; exact Nat.lt_succ_of_lt hlt)]
      exact Heap.get?_push_of_some _ q
    · rw [PySem.W.dataLe_str] at he'
      have := vals_strs he'
      rw [sortStr_perm pv] at this
      exact this
end
section
variable {X : Cx}
def SetOS (w : World) (a : Addr) (ks : List Str) : HO := .ext fun h => SetS w h a ks
theorem setOS_new {w : World} {P : Program} {H : Hp} {h : Heap} {a : Addr} {ks : List Str} (R : SetS w h a ks) : ObjOk P w H h a (SetOS w a ks) := by
  have ⟨o, _, _, _, ho, _⟩ := R
  exact ⟨R, ⟨o, ho⟩, fun h1 h2 p k => SetS.at p k⟩
theorem setOS_get {pins : List (Addr × Obj)} {σ : St} {H : Hp} {s : Shared} {a : Addr} {ks : List Str} (I : L2.Inv X pins σ H s) (ha : H a = some (SetOS X.w a ks)) : SetS X.w s.heap a ks := (I.hok a _ ha).1
/-- texts, in a list or a tuple -/
def Txts (K : PySem.W.Frag) (H : Hp) (x : V) (ss : List Str) : Prop := ∃ a, x = .ref a ∧ (SqL K H a (ss.map V.str) ∨ SqT K H a (ss.map V.str))
theorem cr_setS (hc : X.calm = true) : CallR X (.type "set") (fun vs H Q => ∃ x ss, vs = [x] ∧ Txts X.K H x ss ∧ ss.length < 1000 ∧ ∀ p, H p = none → Q (.ref p) (upd H p (SetOS X.w p (dedup ss)))) := by
  intro pins s σ H vs us Q I r h
  obtain ⟨x, ss, rfl, ⟨a, rfl, ha⟩, hl, q⟩ := h
  rw [Vals.ref1 r]
  have fin : ∀ (h' : Heap) (tk : Nat), SetS X.w h' s.heap.objs.size (ss.foldl stepS []) → (∀ b o, s.heap.get? b = some o → h'.get? b = some o) → EP X pins σ Q (.ref s.heap.objs.size) { s with heap := h', toks := tk } := fun h' tk hS hk => by
    rw [dedup_set] at hS
    exact ⟨.ref _, upd H s.heap.objs.size (SetOS X.w s.heap.objs.size (dedup ss)), I.laid (t' := tk) hk (Nat.le_refl _) (setOS_new hS), rfl, q _ (I.hok.fresh (Nat.le_refl _))⟩
  have hb : ss.length + 1 < scanBound := by unfold scanBound; omega
  rcases ha with ha | ha
  · obtain ⟨its, r, pl, hz⟩ := I.list ha
    exact call_setS_list ss (I.ok.hd hc) pl.isList (by simpa using strsAre_of r) hb fin
  · obtain ⟨its, r, pl, hz⟩ := I.tuple ha
    exact call_setS_tuple ss (I.ok.hd hc) pl (by simpa using strsAre_of r) hb fin
theorem cr_sortedS (hc : X.calm = true) (hu : X.A.units + 200 < cLine) : CallR X (.builtin "sorted") (fun vs H Q => ∃ a ks, vs = [.ref a] ∧ H a = some (SetOS X.w a ks) ∧ ks.length < 1000 ∧ ∀ p, H p = none → Q (.ref p) (upd H p (.lst ((ks.mergeSort leS).map V.str)))) := by
  intro pins s σ H vs us Q I r h
  obtain ⟨a, ks, rfl, ha, hl, q⟩ := h
  have R := setOS_get I ha
  rw [Vals.ref1 r]
  refine sorted_setS R (I.ok.hd hc) hu fun s' p out c k g o hp hg hv => ?_
  have hlen : ((ks.mergeSort leS).map V.str).length ≤ sizeLine := by rw [List.length_map, List.length_mergeSort, sizeLine_eq]; omega
  have hn : H p = none := I.hok.fresh hp
  have J : L2.Inv X pins σ (upd H p (.lst ((ks.mergeSort leS).map V.str))) { s with heap := s'.heap, gens := s'.gens, drawn := s'.drawn, toks := s'.toks } :=
    I.call (ch := []) (Un.laid k hp hn) (I.hok.laid k hp ⟨hlen, out, c, hv, hg⟩) (by rw [g]; exact I.bare) (fun _ z => nomatch z)
  have e : s' = { s with heap := s'.heap, gens := s'.gens, drawn := s'.drawn, toks := s'.toks } := by
    cases s'
    cases s
    cases o
    rfl
  rw [e]
  exact ⟨.ref p, _, J, rfl, q p hn⟩
theorem cr_lenS : CallR X (.builtin "len") (fun vs H Q => ∃ a ks, vs = [.ref a] ∧ H a = some (SetOS X.w a ks) ∧ Q (.int ks.length) H) := by
  intro pins s σ H vs us Q I r h
  obtain ⟨a, ks, rfl, ha, q⟩ := h
  obtain ⟨o, es, ep, t, ho, hex, hd, g, pk, hb, hf, hr, hl⟩ := setOS_get I ha
  rw [Vals.ref1 r]
  have hn : es.size = ks.length := by rw [← Array.length_toList, ← List.length_map (f := keyS), pk.length_eq]
  refine call_len_set ho hex hd hf (by have := hb; unfold scanBound at this; omega) ⟨.int ks.length, H, I.tok _, ⟨_, by rw [hn]⟩, q⟩
theorem txts_of {S : ASet} {H : Hp} {x : V} {d : PyData} {xs : List PyData} {ss : List Str} (ha : ARep X.K S H x d) (hi : itemsOf d = some xs) (hs : strsOf xs = some ss) : Txts X.K H x ss := by
  unfold itemsOf at hi
  split at hi
  · cases hi
    obtain ⟨a, vs, rfl, h1, h2⟩ := ha.lst
    rw [strsOf_eq hs] at h2
    rw [DpAll_strs h2] at h1
    exact ⟨a, rfl, .inl h1⟩
  · cases hi
    obtain ⟨a, vs, rfl, h1, h2⟩ := ha.tup
    rw [strsOf_eq hs] at h2
    rw [DpAll_strs h2] at h1
    exact ⟨a, rfl, .inr h1.sqT⟩
  · cases hi
/-! ### sets of pairs -/
theorem leP_anti {a b : Int × Int} (h1 : leP a b = true) (h2 : leP b a = true) : a = b := by
  obtain ⟨a1, a2⟩ := a
  obtain ⟨b1, b2⟩ := b
  simp only [leP, decide_eq_true_eq] at h1 h2
  have : a1 = b1 := by omega
  have : a2 = b2 := by omega
  subst_vars
  rfl
theorem leP_trans (a b c : Int × Int) (h1 : leP a b = true) (h2 : leP b c = true) : leP a c = true := by
  simp only [leP, decide_eq_true_eq] at *
  omega
theorem leP_total (a b : Int × Int) : (leP a b || leP b a) = true := by
  simp only [leP, Bool.or_eq_true, decide_eq_true_eq]
  omega
theorem mem_dedupP : ∀ {ps : List (Int × Int)} {p : Int × Int}, p ∈ dedupP ps ↔ p ∈ ps
  | [], p => Iff.rfl
  | x :: r, p => by
    simp only [dedupP, List.mem_cons, List.mem_filter, decide_eq_true_eq, mem_dedupP (ps := r)]
    constructor
    · rintro (h | ⟨h, _⟩)
      · exact .inl h
      · exact .inr h
    · rintro (h | h)
      · exact .inl h
      · by_cases e : p = x
        · exact .inl e
        · exact .inr ⟨h, e⟩
theorem dedupP_nodup : ∀ ps : List (Int × Int), (dedupP ps).Nodup
  | [] => List.nodup_nil
  | x :: r => by
    simp only [dedupP, List.nodup_cons, List.mem_filter, decide_eq_true_eq]
    exact ⟨fun h => h.2 rfl, (dedupP_nodup r).filter _⟩
abbrev p2l (p : Int × Int) : List Int := [p.1, p.2]
theorem pairD_eq {d : PyData} {p : Int × Int} (h : pairD d = some p) : d = .tuple [.int p.1, .int p.2] ∧ (0 ≤ p.1 ∧ p.1 < 64) ∧ 0 ≤ p.2 ∧ p.2 < 64 := by
  unfold pairD at h
  split at h
  · split at h
    · rename_i hc
      cases h
      exact ⟨rfl, ⟨hc.1, hc.2.1⟩, hc.2.2⟩
    · cases h
  · cases h
theorem pairs_at {K : PySem.W.Frag} {G : Hp} : ∀ {xs : List PyData} {vs : List V} {ps : List (Int × Int)}, DpAll K G vs xs → pairsD xs = some ps →
    ∃ ks : List (Addr × (Int × Int)), vs = (ks.map fun p => V.ref p.1) ∧ ks.map (·.2) = ps ∧ ∀ p ∈ ks, G p.1 = some (.tup ((p2l p.2).map V.int)) ∧ (0 ≤ p.2.1 ∧ p.2.1 < 64) ∧ 0 ≤ p.2.2 ∧ p.2.2 < 64
  | [], vs, ps, h, e => by
    simp only [pairsD, Option.some.injEq] at e
    subst e
    cases h
    exact ⟨[], rfl, rfl, fun p hp => (by cases hp)⟩
  | x :: r, vs, ps, h, e => by
    simp only [pairsD] at e
    split at e
    · rename_i p hp
      obtain ⟨qs, h1, h2⟩ := Option.map_eq_some_iff.mp e
      subst h2
      obtain ⟨rfl, b1, b2⟩ := pairD_eq hp
      cases h with
      | cons hv hr =>
        obtain ⟨ks, k1, k2, k3⟩ := pairs_at hr h1
        cases hv with
        | tup ha hx =>
          rename_i a zs
          cases hx with
          | cons c1 c2 =>
            cases c2 with
            | cons c3 c4 =>
              cases c4
              cases c1
              cases c3
              refine ⟨(a, p) :: ks, by rw [k1]; rfl, by rw [List.map_cons, k2], fun q hq => ?_⟩
              rcases List.mem_cons.mp hq with rfl | hq
              · exact ⟨ha.plain rfl, b1, b2⟩
              · exact k3 q hq
    · cases e
theorem pairs_end {ks : List (Addr × (Int × Int))} {ps : List (Int × Int)} {L L' : List (Addr × List Int)} (h2 : ks.map (·.2) = ps) (hb : ∀ p ∈ ks, (0 ≤ p.2.1 ∧ p.2.1 < 64) ∧ 0 ≤ p.2.2 ∧ p.2.2 < 64)
    (s1 : ∀ p ∈ L, p ∈ ks.map fun p => (p.1, p2l p.2)) (s2 : ∀ p ∈ ks.map (fun p => (p.1, p2l p.2)), p.2 ∈ L.map (·.2)) (pm : L'.Perm L) (nd : (L'.map (·.2)).Nodup) (pw : L'.Pairwise fun q r => TS.code 64 q.2 ≤ TS.code 64 r.2) :
    ∃ ms : List (Addr × (Int × Int)), L' = (ms.map fun p => (p.1, p2l p.2)) ∧ (∀ p ∈ ms, p ∈ ks) ∧ ms.map (·.2) = (dedupP ps).mergeSort leP := by
  have ex : ∀ (l : List (Addr × List Int)), (∀ p ∈ l, p ∈ ks.map fun p => (p.1, p2l p.2)) → ∃ ms : List (Addr × (Int × Int)), l = (ms.map fun p => (p.1, p2l p.2)) ∧ ∀ p ∈ ms, p ∈ ks := fun l => by
    induction l with
    | nil => exact fun _ => ⟨[], rfl, fun p hp => (by cases hp)⟩
    | cons x r ih =>
      intro h
      obtain ⟨ms, e, hm⟩ := ih fun p hp => h p (List.mem_cons_of_mem _ hp)
      obtain ⟨k, hk, rfl⟩ := List.mem_map.mp (h x List.mem_cons_self)
      refine ⟨k :: ms, by rw [e]; rfl, fun p hp => ?_⟩
      rcases List.mem_cons.mp hp with rfl | hp
      · exact hk
      · exact hm p hp
  obtain ⟨ms, e, hm⟩ := ex L' fun p hp => s1 p (pm.mem_iff.mp hp)
  refine ⟨ms, e, hm, ?_⟩
  have inj : ∀ {a b : Int × Int}, p2l a = p2l b → a = b := fun {a b} h => by
    obtain ⟨a1, a2⟩ := a
    obtain ⟨b1, b2⟩ := b
    simp only [p2l, List.cons.injEq, and_true] at h
    rw [h.1, h.2]
  have e2 : L'.map (·.2) = (ms.map (·.2)).map p2l := by rw [e]; simp [Function.comp_def]
  have nd2 : (ms.map (·.2)).Nodup := by
    rw [e2] at nd
    exact List.Pairwise.of_map p2l (fun a b hne z => hne (by rw [z])) nd
  have pw2 : (ms.map (·.2)).Pairwise fun a b => leP a b = true := by
    rw [e] at pw
    rw [List.pairwise_map] at pw ⊢
    refine List.Pairwise.imp_of_mem (fun {p q} hp hq h => ?_) pw
    have b1 := hb p (hm p hp)
    have b2 := hb q (hm q hq)
    have h : TS.code 64 (p2l p.2) ≤ TS.code 64 (p2l q.2) := h
    rw [show p2l p.2 = [p.2.1, p.2.2] from rfl, show p2l q.2 = [q.2.1, q.2.2] from rfl, code_pair, code_pair] at h
    simp only [leP, decide_eq_true_eq]
    omega
  refine eq_of_sorted leP_anti ((List.perm_ext_iff_of_nodup nd2 ((List.mergeSort_perm _ _).nodup_iff.mpr (dedupP_nodup ps))).mpr fun p => ?_) pw2 (List.pairwise_mergeSort leP_trans leP_total _)
  rw [List.mem_mergeSort, mem_dedupP]
  constructor
  · intro h
    obtain ⟨q, hq, rfl⟩ := List.mem_map.mp h
    rw [← h2]
    exact List.mem_map_of_mem (hm q hq)
  · intro h
    rw [← h2] at h
    obtain ⟨q, hq, rfl⟩ := List.mem_map.mp h
    have := s2 _ (List.mem_map.mpr ⟨q, hq, rfl⟩)
    obtain ⟨x, hx, ex⟩ := List.mem_map.mp this
    have hx' := pm.mem_iff.mpr hx
    rw [e] at hx'
    obtain ⟨m, hm1, rfl⟩ := List.mem_map.mp hx'
    rw [← inj ex]
    exact List.mem_map_of_mem hm1
theorem dedup_len : ∀ ss : List Str, (dedup ss).length ≤ ss.length
  | [] => Nat.le_refl _
  | x :: r => by
    simp only [dedup, List.length_cons]
    have := List.length_filter_le (fun y => decide (y ≠ x)) (dedup r)
    have := dedup_len r
    omega
end
theorem srs : SRs := fun X hc hu ms mt ml => by
  have upS : ∀ {H : Hp} {p q : Addr} {o : HO} {S : ASet} {vs : List V} {ds : List PyData}, DomS S H → H p = none → upd H p o q = none → DpAll X.K (Hid H S) vs ds → Dp X.K (Hid (upd (upd H p o) q (.lst vs)) S) (.ref q) (.list ds) := fun {H p q o S vs ds} hd hp hq h => by
    have hqp : q ≠ p := fun e => by
      subst e
      rw [upd_same] at hq
      cases hq
    have hq0 : H q = none := by rw [upd_ne hqp] at hq; exact hq
    refine .lst (SqL.of (Hid_iff.mpr ⟨upd_same, dom_new hd hq0⟩)) (DpAll_sub (Sub.hids ?_) _ h)
    exact (Sub.new hp).trans (Sub.new hq)
  refine ⟨fun x p p2 q pos t g1 g2 hs hx => ?_, fun x p p2 q pos t g1 g2 hs hx => ?_⟩
  · refine ⟨fun pins s σ H Q I h => ?_⟩
    refine Call_ (ld_blt I g1 ms boot_sorted ?_)
    refine PyProof.Rows.callWith_builtin1 (PyProof.Rows.args_cons ?_ rfl) rfl rfl
    refine Call_ (ld_blt I g2 mt boot_set ?_)
    refine PyProof.Rows.callWith_type1 (PyProof.Rows.args_cons (thn (hx.run pins s σ H _ I h) fun v s1 ⟨y, H1, I1, r1, q1⟩ => PyProof.Rows.args_nil ?_) (star_cons hs)) (star_cons hs) rfl
    obtain ⟨S, d, z, hd, ha, hz, q1⟩ := q1
    replace hz : ssortD d = some z := hz
    unfold ssortD at hz
    split at hz
    · rename_i xs hi
      split at hz
      · rename_i ss hss
        split at hz
        · rename_i hl
          cases hz
          have hdl := dedup_len ss
          refine thn (cr_setS hc pins s1 σ H1 [y] [v] (fun u H2 => ∃ p, u = .ref p ∧ H1 p = none ∧ H2 = upd H1 p (SetOS X.w p (dedup ss))) I1 (.cons r1 .nil) ⟨y, ss, rfl, txts_of ha hi hss, by omega, fun p hp => ⟨p, rfl, hp, rfl⟩⟩) fun u s2 ⟨y2, H2, I2, r2, p, e1, e2, e3⟩ => ?_
          subst e1 e3
          refine PyProof.Rows.args_nil ?_
          refine cr_sortedS hc hu pins s2 σ _ [.ref p] [u] Q I2 (.cons r2 .nil) ⟨p, dedup ss, rfl, upd_same, by omega, fun q hq => q1 _ _ ((Sub.new e2).trans (Sub.new hq)) ?_⟩
          unfold strSet
          rw [sortStr_map]
          exact upS hd e2 hq (DpAll_map (fun x => .str x) _)
        · cases hz
      · split at hz
        · rename_i xs'
          split at hz
          · rename_i ps hps
            split at hz
            · rename_i hl
              cases hz
              cases hi
              obtain ⟨a, vs, rfl, h1, h2⟩ := ha.lst
              obtain ⟨ks, k1, k2, k3⟩ := pairs_at h2 hps
              have hkl : ks.length = ps.length := by rw [← k2, List.length_map]
              have sqT : ∀ p ∈ ks.map (fun p => (p.1, p2l p.2)), SqT X.K H1 p.1 (p.2.map V.int) := fun p hp => by
                obtain ⟨q, hq, rfl⟩ := List.mem_map.mp hp
                exact SqT.of (Hid_iff.mp (k3 q hq).1).1
              rw [k1] at h1
              refine thn (cr_setOfT hc (by omega) pins s1 σ H1 [.ref a] [v] (fun u H2 => ∃ p L, u = .ref p ∧ H1 p = none ∧ H2 = upd H1 p (SetTO X.prog X.w p L) ∧ (∀ q ∈ L, q ∈ ks.map fun p => (p.1, p2l p.2)) ∧ ∀ q ∈ ks.map (fun p => (p.1, p2l p.2)), q.2 ∈ L.map (·.2)) I1 (.cons r1 .nil) ⟨a, ks.map fun p => (p.1, p2l p.2), rfl, by rw [List.map_map]; exact h1, sqT, by rw [List.length_map]; omega, fun p L hp s1 s2 => ⟨p, L, rfl, hp, rfl, s1, s2⟩⟩) fun u s2 ⟨y2, H2, I2, r2, p, L, e1, e2, e3, s3, s4⟩ => ?_
              subst e1 e3
              refine PyProof.Rows.args_nil ?_
              refine cr_sortedT hc pins s2 σ _ [.ref p] [u] Q I2 (.cons r2 .nil) ⟨p, L, 2, 64, rfl, upd_same, fun q hq => SqT_sub (Sub.new e2) (sqT q (s3 q hq)), by decide, fun q hq => ?_, fun L' q pm nd _ pw hq => ?_⟩
              · obtain ⟨k, hk, rfl⟩ := List.mem_map.mp (s3 q hq)
                obtain ⟨_, b1, b2⟩ := k3 k hk
                refine ⟨rfl, fun m hm => ?_⟩
                simp only [p2l, List.mem_cons, List.not_mem_nil, or_false] at hm
                rcases hm with rfl | rfl
                · exact b1
                · exact b2
              · obtain ⟨ms, m1, m2, m3⟩ := pairs_end k2 (fun p hp => (k3 p hp).2) s3 s4 pm nd pw
                refine q1 _ _ ((Sub.new e2).trans (Sub.new hq)) ?_
                unfold pairSet
                rw [← m3, m1, List.map_map, List.map_map]
                refine upS hd e2 hq ?_
                clear m1 m3
                induction ms with
                | nil => exact .nil
                | cons m r ih =>
                  refine .cons ?_ (ih fun q hq => m2 q (List.mem_cons_of_mem _ hq))
                  exact .tup (.inl ⟨rfl, (k3 m (m2 m List.mem_cons_self)).1⟩) (.cons (.int _) (.cons (.int _) .nil))
            · cases hz
          · cases hz
        · cases hz
    · cases hz
  · refine ⟨fun pins s σ H Q I h => ?_⟩
    refine Call_ (ld_blt I g1 ml boot_len ?_)
    refine PyProof.Rows.callWith_builtin1 (PyProof.Rows.args_cons ?_ rfl) rfl rfl
    refine Call_ (ld_blt I g2 mt boot_set ?_)
    refine PyProof.Rows.callWith_type1 (PyProof.Rows.args_cons (thn (hx.run pins s σ H _ I h) fun v s1 ⟨y, H1, I1, r1, q1⟩ => PyProof.Rows.args_nil ?_) (star_cons hs)) (star_cons hs) rfl
    obtain ⟨S, d, z, hd, ha, hz, q1⟩ := q1
    replace hz : slenD d = some z := hz
    unfold slenD at hz
    split at hz
    · rename_i xs hi
      split at hz
      · rename_i ss hss
        split at hz
        · rename_i hl
          cases hz
          refine thn (cr_setS hc pins s1 σ H1 [y] [v] (fun u H2 => ∃ p, u = .ref p ∧ H1 p = none ∧ H2 = upd H1 p (SetOS X.w p (dedup ss))) I1 (.cons r1 .nil) ⟨y, ss, rfl, txts_of ha hi hss, by omega, fun p hp => ⟨p, rfl, hp, rfl⟩⟩) fun u s2 ⟨y2, H2, I2, r2, p, e1, e2, e3⟩ => ?_
          subst e1 e3
          refine PyProof.Rows.args_nil ?_
          exact cr_lenS pins s2 σ _ [.ref p] [u] Q I2 (.cons r2 .nil) ⟨p, dedup ss, rfl, upd_same, q1 _ _ (Sub.new e2) (.int _)⟩
        · cases hz
      · cases hz
    · cases hz
end G6
-- ## P3
/-! # P3: offers, rules as data -/
namespace G6
open PySem
abbrev Ver := Int × Int
structure Offer where
  rows : List (Ver × List Str)
  least : Ver
  must : List Str
  bar : List Str
structure Rules where
  needs : List (Str × Str)
  bars : List (Str × Str)
  order : List Str
def eV (v : Ver) : PyData := .tuple [.int v.1, .int v.2]
def eT (ws : List Str) : PyData := .tuple (ws.map .str)
def eL (ws : List Str) : PyData := .list (ws.map .str)
def eRow (r : Ver × List Str) : PyData := .tuple [eV r.1, eT r.2]
def eP (p : Str × Str) : PyData := .tuple [.str p.1, .str p.2]
def eO (o : Offer) : PyData := .tuple [.tuple (o.rows.map eRow), eV o.least, eT o.must, eT o.bar]
def eR (r : Rules) : PyData := .tuple [.tuple (r.needs.map eP), .tuple (r.bars.map eP), eT r.order]
/-! ### depths -/
theorem depthAll_le_of {xs : List PyData} {n : Nat} (h : ∀ x ∈ xs, x.depth ≤ n) : PyData.depthAll xs ≤ n := by
  induction xs with
  | nil => simp [PyData.depthAll]
  | cons a r ih =>
    simp only [PyData.depthAll]
    have := h a List.mem_cons_self
    have := ih fun x hx => h x (List.mem_cons_of_mem _ hx)
    omega
theorem depth_str (s : Str) : (PyData.str s).depth = 0 := by simp [PyData.depth]
theorem depth_eT (ws : List Str) : (eT ws).depth ≤ 1 := by
  have : PyData.depthAll (ws.map .str) ≤ 0 := depthAll_le_of fun x hx => by
    obtain ⟨s, _, rfl⟩ := List.mem_map.mp hx
    rw [depth_str]; exact Nat.le_refl _
  simp only [eT, PyData.depth]
  omega
theorem depth_eL (ws : List Str) : (eL ws).depth ≤ 1 := by
  have : PyData.depthAll (ws.map .str) ≤ 0 := depthAll_le_of fun x hx => by
    obtain ⟨s, _, rfl⟩ := List.mem_map.mp hx
    rw [depth_str]; exact Nat.le_refl _
  simp only [eL, PyData.depth]
  omega
theorem depth_eV (v : Ver) : (eV v).depth ≤ 1 := by simp [eV, PyData.depth, PyData.depthAll]
theorem dOk {d : PyData} {n : Nat} (h : d.depth ≤ n) (hn : n ≤ 100) : depthOk d = true := decide_eq_true (Nat.le_trans h hn)
/-! ### equal, in -/
theorem eqvAll_strs : ∀ a b : List Str, PyData.eqvAll (a.map .str) (b.map .str) = decide (a = b)
  | [], [] => by simp [PyData.eqvAll]
  | [], _ :: _ => by simp [PyData.eqvAll]
  | _ :: _, [] => by simp [PyData.eqvAll]
  | x :: a, y :: b => by
    simp only [List.map_cons, PyData.eqvAll, eqvAll_strs a b, List.cons.injEq]
    by_cases e : x = y <;> by_cases e2 : a = b <;> simp [PyData.eqv, e, e2]
theorem eqv_str (a b : Str) : PyData.eqv (.str a) (.str b) = decide (a = b) := by by_cases e : a = b <;> simp [PyData.eqv, e]
theorem eqv_eV (a b : Ver) : PyData.eqv (eV a) (eV b) = decide (a = b) := by
  obtain ⟨a1, a2⟩ := a
  obtain ⟨b1, b2⟩ := b
  simp only [eV, PyData.eqv, PyData.eqvAll]
  by_cases e : a1 = b1 <;> by_cases e2 : a2 = b2 <;> simp [e, e2]
theorem eq_eL (a b : List Str) : eqD (eL a) (eL b) = some (decide (a = b)) := by
  unfold eqD
  rw [if_pos (by simp [eL, noDict]; exact .inl (dOk (depth_eL a) (by decide)))]
  simp only [eL, PyData.eqv, eqvAll_strs]
theorem eq_eT (a b : List Str) : eqD (eT a) (eT b) = some (decide (a = b)) := by
  unfold eqD
  rw [if_pos (by simp [eT, noDict]; exact .inl (dOk (depth_eT a) (by decide)))]
  simp only [eT, PyData.eqv, eqvAll_strs]
theorem eq_eV (a b : Ver) : eqD (eV a) (eV b) = some (decide (a = b)) := by
  unfold eqD
  rw [if_pos (by simp [eV, noDict]; exact .inl (dOk (depth_eV a) (by decide))), eqv_eV]
theorem any_eqv (s : Str) (ws : List Str) : ((ws.map PyData.str).any fun y => PyData.eqv y (.str s)) = decide (s ∈ ws) := by
  induction ws with
  | nil => rfl
  | cons w r ih =>
    simp only [List.map_cons, List.any_cons, ih, eqv_str, List.mem_cons]
    by_cases e : w = s
    · simp [e]
    · have : ¬ s = w := fun z => e z.symm
      simp [e, this]
theorem in_eT (s : Str) (ws : List Str) : inData (.str s) (eT ws) = some (decide (s ∈ ws)) := by
  unfold inData eT
  rw [← any_eqv]
  rfl
theorem in_eL (s : Str) (ws : List Str) : inData (.str s) (eL ws) = some (decide (s ∈ ws)) := by
  unfold inData eL
  rw [← any_eqv]
  rfl
/-! ### versions compared -/
def vlt (a b : Ver) : Bool := decide (a.1 < b.1 ∨ (a.1 = b.1 ∧ a.2 < b.2))
theorem alike_eV (a b : Ver) : PySem.W.alike (eV a) (eV b) = true := rfl
theorem lt_eV (a b : Ver) : ltD (eV a) (eV b) = some (vlt a b) := by
  unfold ltD
  rw [if_pos (by simp only [cmpOk, alike_eV, Bool.true_and, Bool.and_eq_true]; exact ⟨rfl, dOk (depth_eV a) (by decide)⟩)]
  simp only [eV, PySem.W.dataLt_ii, vlt]
theorem gt_eV (a b : Ver) : gtD (eV a) (eV b) = some (vlt b a) := by
  unfold gtD
  rw [if_pos (by simp only [cmpOk, alike_eV, Bool.true_and, Bool.and_eq_true]; exact ⟨rfl, dOk (depth_eV a) (by decide)⟩)]
  simp only [eV, PySem.W.dataLt_ii, vlt]
/-! ### tables -/
theorem bools_map {β : Type} (p : β → Bool) (ys : List β) : bools (ys.map fun y => .bool (p y)) = some (ys.map p) := by
  induction ys with
  | nil => rfl
  | cons y r ih => simp only [List.map_cons, bools, ih, Option.map_some]
theorem all_map {β : Type} (p : β → Bool) (ys : List β) : allD (.list (ys.map fun y => .bool (p y))) = some (.bool (ys.all p)) := by
  simp only [allD, bools_map, Option.map_some, List.all_map, Function.comp_def, id]
theorem any_map {β : Type} (p : β → Bool) (ys : List β) : anyD (.list (ys.map fun y => .bool (p y))) = some (.bool (ys.any p)) := by
  simp only [anyD, bools_map, Option.map_some, List.any_map, Function.comp_def, id]
theorem strsOf_map (ws : List Str) : strsOf (ws.map .str) = some ws := by
  induction ws with
  | nil => rfl
  | cons w r ih => simp only [List.map_cons, strsOf, ih, Option.map_some]
theorem atI_0 {α : Type} (x : α) (r : List α) : L2.atI (x :: r) 0 = some x := L2.atI_nat (j := 0) rfl
theorem atI_1 {α : Type} (x y : α) (r : List α) : L2.atI (x :: y :: r) 1 = some y := L2.atI_nat (j := 1) rfl
theorem atI_2 {α : Type} (x y z : α) (r : List α) : L2.atI (x :: y :: z :: r) 2 = some z := L2.atI_nat (j := 2) rfl
theorem atI_3 {α : Type} (x y z u : α) (r : List α) : L2.atI (x :: y :: z :: u :: r) 3 = some u := L2.atI_nat (j := 3) rfl
/-! ### what is fitting -/
/-- rising, no word twice -/
def risingS (ws : List Str) : Prop := ws.Pairwise fun a b => a.cps.toList < b.cps.toList
def okT (ws : List Str) : Prop := (∀ w ∈ ws, isWord w = true) ∧ ws.length ≤ 6 ∧ risingS ws
def okV (v : Ver) : Prop := 0 ≤ v.1 ∧ v.1 ≤ 99 ∧ 0 ≤ v.2 ∧ v.2 ≤ 99
structure okO (o : Offer) : Prop where
  len : 1 ≤ o.rows.length ∧ o.rows.length ≤ 6
  row : ∀ r ∈ o.rows, okV r.1 ∧ okT r.2
  ris : o.rows.Pairwise fun a b => vlt a.1 b.1 = true
  least : okV o.least
  must : okT o.must
  bar : okT o.bar
def okPs (ps : List (Str × Str)) : Prop := ps.length ≤ 8 ∧ ∀ p ∈ ps, isWord p.1 = true ∧ isWord p.2 = true ∧ p.1 ≠ p.2
structure okR (r : Rules) : Prop where
  needs : okPs r.needs
  bars : okPs r.bars
  word : ∀ w ∈ r.order, isWord w = true
  len : r.order.length ≤ 6
  nd : r.order.Nodup
/-! ### words that stand rising are their own sorted set -/
theorem mem_dedup : ∀ {ws : List Str} {w : Str}, w ∈ dedup ws ↔ w ∈ ws
  | [], w => Iff.rfl
  | x :: r, w => by
    simp only [dedup, List.mem_cons, List.mem_filter, decide_eq_true_eq, mem_dedup (ws := r)]
    constructor
    · rintro (h | ⟨h, _⟩)
      · exact .inl h
      · exact .inr h
    · rintro (h | h)
      · exact .inl h
      · by_cases e : w = x
        · exact .inl e
        · exact .inr ⟨h, e⟩
theorem dedup_nodup : ∀ ws : List Str, (dedup ws).Nodup
  | [] => List.nodup_nil
  | x :: r => by
    simp only [dedup, List.nodup_cons, List.mem_filter, decide_eq_true_eq]
    exact ⟨fun h => h.2 rfl, (dedup_nodup r).filter _⟩
theorem dedup_self : ∀ {ws : List Str}, ws.Nodup → dedup ws = ws
  | [], _ => rfl
  | x :: r, h => by
    obtain ⟨h1, h2⟩ := List.nodup_cons.mp h
    simp only [dedup, dedup_self h2, List.cons.injEq, true_and]
    apply List.filter_eq_self.mpr
    intro y hy
    simp only [decide_eq_true_eq]
    intro e
    exact h1 (e ▸ hy)
/-! ### how they answer -/
def eRows (rows : List (Ver × List Str)) : PyData := .tuple (rows.map eRow)
def ePs (ps : List (Str × Str)) : PyData := .tuple (ps.map eP)
def eOs (os : List Offer) : PyData := .list (os.map eO)
section
variable {ws : List Str} {v : Ver} {rows : List (Ver × List Str)} {ps : List (Str × Str)} {o : Offer} {r : Rules} {row : Ver × List Str} {p : Str × Str} {os : List Offer}
theorem len_eT : lenD (eT ws) = some (.int ws.length) := by simp [lenD, eT]
theorem len_eL : lenD (eL ws) = some (.int ws.length) := by simp [lenD, eL]
theorem len_eRows : lenD (eRows rows) = some (.int rows.length) := by simp [lenD, eRows]
theorem len_ePs : lenD (ePs ps) = some (.int ps.length) := by simp [lenD, ePs]
theorem len_eO : lenD (eO o) = some (.int 4) := rfl
theorem len_eR : lenD (eR r) = some (.int 3) := rfl
theorem len_eRow : lenD (eRow row) = some (.int 2) := rfl
theorem len_eV : lenD (eV v) = some (.int 2) := rfl
theorem len_eP : lenD (eP p) = some (.int 2) := rfl
theorem nd_eT : noDict (eT ws) = true := rfl
theorem nd_eL : noDict (eL ws) = true := rfl
theorem nd_eRows : noDict (eRows rows) = true := rfl
theorem nd_ePs : noDict (ePs ps) = true := rfl
theorem nd_eO : noDict (eO o) = true := rfl
theorem nd_eR : noDict (eR r) = true := rfl
theorem nd_eRow : noDict (eRow row) = true := rfl
theorem nd_eV : noDict (eV v) = true := rfl
theorem nd_eP : noDict (eP p) = true := rfl
theorem ty_eT : isTy .tuple (eT ws) = true := rfl
theorem ty_eL : isTy .list (eL ws) = true := rfl
theorem ty_eRows : isTy .tuple (eRows rows) = true := rfl
theorem ty_ePs : isTy .tuple (ePs ps) = true := rfl
theorem ty_eO : isTy .tuple (eO o) = true := rfl
theorem ty_eR : isTy .tuple (eR r) = true := rfl
theorem ty_eRow : isTy .tuple (eRow row) = true := rfl
theorem ty_eV : isTy .tuple (eV v) = true := rfl
theorem ty_eP : isTy .tuple (eP p) = true := rfl
theorem walk_eT : walkOf (eT ws) = some (ws.map .str) := rfl
theorem walk_eL : walkOf (eL ws) = some (ws.map .str) := rfl
theorem walk_eRows : walkOf (eRows rows) = some (rows.map eRow) := rfl
theorem walk_ePs : walkOf (ePs ps) = some (ps.map eP) := rfl
theorem walk_eOs : walkOf (eOs os) = some (os.map eO) := rfl
theorem walk_eP : walkOf (eP p) = some ([p.1, p.2].map .str) := rfl
theorem walk_eV : walkOf (eV v) = some ([v.1, v.2].map .int) := rfl
theorem list_eT : listD (eT ws) = some (eL ws) := rfl
theorem list_eL : listD (eL ws) = some (eL ws) := rfl
theorem tup_eL : tupleD (eL ws) = some (eT ws) := rfl
theorem tup_eT : tupleD (eT ws) = some (eT ws) := rfl
theorem ix_eO0 : idxD (eO o) (.int 0) = some (eRows o.rows) := atI_0 _ _
theorem ix_eO1 : idxD (eO o) (.int 1) = some (eV o.least) := atI_1 _ _ _
theorem ix_eO2 : idxD (eO o) (.int 2) = some (eT o.must) := atI_2 _ _ _ _
theorem ix_eO3 : idxD (eO o) (.int 3) = some (eT o.bar) := atI_3 _ _ _ _ _
theorem ix_eR0 : idxD (eR r) (.int 0) = some (ePs r.needs) := atI_0 _ _
theorem ix_eR1 : idxD (eR r) (.int 1) = some (ePs r.bars) := atI_1 _ _ _
theorem ix_eR2 : idxD (eR r) (.int 2) = some (eT r.order) := atI_2 _ _ _ _
theorem ix_eRow0 : idxD (eRow row) (.int 0) = some (eV row.1) := atI_0 _ _
theorem ix_eRow1 : idxD (eRow row) (.int 1) = some (eT row.2) := atI_1 _ _ _
theorem ix_eP0 : idxD (eP p) (.int 0) = some (.str p.1) := atI_0 _ _
theorem ix_eP1 : idxD (eP p) (.int 1) = some (.str p.2) := atI_1 _ _ _
theorem non_eV : isNoneD (eV v) = false := rfl
theorem non_eT : isNoneD (eT ws) = false := rfl
theorem non_eL : isNoneD (eL ws) = false := rfl
theorem ix_eRows {k : Nat} (h : rows[k]? = some row) : idxD (eRows rows) (.int k) = some (eRow row) := L2.atI_nat (by rw [List.getElem?_map, h]; rfl)
end
theorem nd_none  : noDict .none = true := rfl
theorem non_none  : isNoneD .none = true := rfl
theorem ty_str_none  : isTy .str .none = false := rfl
theorem ty_int_none  : isTy .int .none = false := rfl
theorem ty_bool_none  : isTy .bool .none = false := rfl
theorem ty_tuple_none  : isTy .tuple .none = false := rfl
theorem ty_list_none  : isTy .list .none = false := rfl
theorem nd_bool (b : Bool) : noDict (.bool b) = true := rfl
theorem non_bool (b : Bool) : isNoneD (.bool b) = false := rfl
theorem ty_str_bool (b : Bool) : isTy .str (.bool b) = false := rfl
theorem ty_int_bool (b : Bool) : isTy .int (.bool b) = true := rfl
theorem ty_bool_bool (b : Bool) : isTy .bool (.bool b) = true := rfl
theorem ty_tuple_bool (b : Bool) : isTy .tuple (.bool b) = false := rfl
theorem ty_list_bool (b : Bool) : isTy .list (.bool b) = false := rfl
theorem nd_int (i : Int) : noDict (.int i) = true := rfl
theorem non_int (i : Int) : isNoneD (.int i) = false := rfl
theorem ty_str_int (i : Int) : isTy .str (.int i) = false := rfl
theorem ty_int_int (i : Int) : isTy .int (.int i) = true := rfl
theorem ty_bool_int (i : Int) : isTy .bool (.int i) = false := rfl
theorem ty_tuple_int (i : Int) : isTy .tuple (.int i) = false := rfl
theorem ty_list_int (i : Int) : isTy .list (.int i) = false := rfl
theorem nd_str (s : Str) : noDict (.str s) = true := rfl
theorem non_str (s : Str) : isNoneD (.str s) = false := rfl
theorem ty_str_str (s : Str) : isTy .str (.str s) = true := rfl
theorem ty_int_str (s : Str) : isTy .int (.str s) = false := rfl
theorem ty_bool_str (s : Str) : isTy .bool (.str s) = false := rfl
theorem ty_tuple_str (s : Str) : isTy .tuple (.str s) = false := rfl
theorem ty_list_str (s : Str) : isTy .list (.str s) = false := rfl
theorem nd_list (xs : List PyData) : noDict (.list xs) = true := rfl
theorem non_list (xs : List PyData) : isNoneD (.list xs) = false := rfl
theorem ty_str_list (xs : List PyData) : isTy .str (.list xs) = false := rfl
theorem ty_int_list (xs : List PyData) : isTy .int (.list xs) = false := rfl
theorem ty_bool_list (xs : List PyData) : isTy .bool (.list xs) = false := rfl
theorem ty_tuple_list (xs : List PyData) : isTy .tuple (.list xs) = false := rfl
theorem ty_list_list (xs : List PyData) : isTy .list (.list xs) = true := rfl
theorem nd_tuple (xs : List PyData) : noDict (.tuple xs) = true := rfl
theorem non_tuple (xs : List PyData) : isNoneD (.tuple xs) = false := rfl
theorem ty_str_tuple (xs : List PyData) : isTy .str (.tuple xs) = false := rfl
theorem ty_int_tuple (xs : List PyData) : isTy .int (.tuple xs) = false := rfl
theorem ty_bool_tuple (xs : List PyData) : isTy .bool (.tuple xs) = false := rfl
theorem ty_tuple_tuple (xs : List PyData) : isTy .tuple (.tuple xs) = true := rfl
theorem ty_list_tuple (xs : List PyData) : isTy .list (.tuple xs) = false := rfl
theorem len_list (xs : List PyData) : lenD (.list xs) = some (.int xs.length) := rfl
theorem len_tuple (xs : List PyData) : lenD (.tuple xs) = some (.int xs.length) := rfl
theorem list_list (xs : List PyData) : listD (.list xs) = some (.list xs) := rfl
theorem list_tuple (xs : List PyData) : listD (.tuple xs) = some (.list xs) := rfl
theorem tup_list (xs : List PyData) : tupleD (.list xs) = some (.tuple xs) := rfl
theorem tup_tuple (xs : List PyData) : tupleD (.tuple xs) = some (.tuple xs) := rfl
theorem ix_list (xs : List PyData) (i : Int) : idxD (.list xs) (.int i) = L2.atI xs i := rfl
theorem ix_tuple (xs : List PyData) (i : Int) : idxD (.tuple xs) (.int i) = L2.atI xs i := rfl
theorem tr_bool (b : Bool) : truth (.bool b) = some b := rfl
theorem tr_none : truth .none = some false := rfl
theorem tr_int (i : Int) : truth (.int i) = some (i != 0) := rfl
theorem tr_list (xs : List PyData) : truth (.list xs) = some (!xs.isEmpty) := rfl
theorem tr_tuple (xs : List PyData) : truth (.tuple xs) = some (!xs.isEmpty) := rfl
theorem lst_list (xs : List PyData) : isLst (.list xs) = true := rfl
theorem lst_eL (ws : List Str) : isLst (eL ws) = true := rfl
local macro_rules | `(tactic| simp_arith [$ts,*]) => `(tactic| simp only [e_var, e_pk, e_cst, e_glb, e_fnv, e_tup, e_lst, e_op1, e_op2, e_chn, e_and, e_or, e_not, e_ite, e_slc, e_call, e_met, dens, deno, dsrc, x_set, x_setm, x_dnew, x_unp, x_par, x_app, x_ext, x_dput, x_ret, x_retn, x_rse, x_ite, x_loop, x_wh, x_brk, x_cnt, x_pas, x_exp, x_par3, x_parc, x_unpl, x_tryw, e_callt, x_nil, x_cons, R.bind, R.fl, Fl.seq, dataOf, resOf, res, rd, tst, lift, lift2, sem1, sem2, alls, outOf, ioOut, putV, putsV, freeAt_eq, fs_un, fs_v, fs_m, fs_f, plainAt, ps_un, ps_v, ps_f, ps_m, lcF', condF', List.getElem?_cons_zero, List.getElem?_cons_succ, List.set_cons_zero, List.set_cons_succ, if_true, if_false, Bool.false_eq_true, reduceCtorEq, Option.map_some, Option.map_none, Bool.and_true, Bool.true_and, Bool.not_true, Bool.not_false, len_eT, len_eL, len_eRows, len_ePs, len_eO, len_eR, len_eRow, len_eV, len_eP, nd_eT, nd_eL, nd_eRows, nd_ePs, nd_eO, nd_eR, nd_eRow, nd_eV, nd_eP, ty_eT, ty_eRows, ty_ePs, ty_eO, ty_eR, ty_eRow, ty_eV, ty_eP, walk_eT, walk_eL, walk_eRows, walk_ePs, walk_eP, walk_eV, list_eT, list_eL, tup_eL, tup_eT, ix_eO0, ix_eO1, ix_eO2, ix_eO3, ix_eR0, ix_eR1, ix_eR2, ix_eRow0, ix_eRow1, ix_eP0, ix_eP1, non_eV, non_eT, non_eL, walk_eOs, ty_eL, in_eT, in_eL, eq_eL, eq_eT, eq_eV, lt_eV, gt_eV, eq_int, eq_str, lt_int, gt_int, nd_none, non_none, ty_str_none, ty_int_none, ty_bool_none, ty_tuple_none, ty_list_none, nd_bool, non_bool, ty_str_bool, ty_int_bool, ty_bool_bool, ty_tuple_bool, ty_list_bool, nd_int, non_int, ty_str_int, ty_int_int, ty_bool_int, ty_tuple_int, ty_list_int, nd_str, non_str, ty_str_str, ty_int_str, ty_bool_str, ty_tuple_str, ty_list_str, nd_list, non_list, ty_str_list, ty_int_list, ty_bool_list, ty_tuple_list, ty_list_list, nd_tuple, non_tuple, ty_str_tuple, ty_int_tuple, ty_bool_tuple, ty_tuple_tuple, ty_list_tuple, len_list, len_tuple, list_list, list_tuple, tup_list, tup_tuple, ix_list, ix_tuple, tr_bool, tr_none, tr_int, tr_list, tr_tuple, lst_list, lst_eL, atI_0, atI_1, atI_2, atI_3, $ts,*])
end G6
-- ## P4
/-! # P4: sorted words; offers and rules are found good -/
namespace G6
open PySem
local macro_rules | `(tactic| simp_arith! [$ts,*]) => `(tactic| simp only [e_var, e_pk, e_cst, e_glb, e_fnv, e_tup, e_lst, e_op1, e_op2, e_chn, e_and, e_or, e_not, e_ite, e_slc, e_call, e_met, dens, deno, dsrc, x_set, x_setm, x_dnew, x_unp, x_par, x_app, x_ext, x_dput, x_ret, x_retn, x_rse, x_ite, x_loop, x_wh, x_brk, x_cnt, x_pas, x_exp, x_par3, x_parc, x_unpl, x_tryw, e_callt, x_nil, x_cons, R.bind, R.fl, Fl.seq, dataOf, resOf, res, rd, tst, truth, lift, lift2, sem1, sem2, alls, outOf, ioOut, putV, putsV, freeAt_eq, fs_un, fs_v, fs_m, fs_f, plainAt, ps_un, ps_v, ps_f, ps_m, mutL, mutD, chg, lcF', condF', List.getElem?_cons_zero, List.getElem?_cons_succ, List.set_cons_zero, List.set_cons_succ, if_true, if_false, Bool.false_eq_true, reduceCtorEq, Option.map_some, Option.map_none, noDict, isTy, isNoneD, Bool.and_true, Bool.true_and, Bool.not_true, Bool.not_false, lenD, listD, tupleD, idxD, isLst, $ts,*])
local macro_rules | `(tactic| simp_arith [$ts,*]) => `(tactic| simp only [e_var, e_pk, e_cst, e_glb, e_fnv, e_tup, e_lst, e_op1, e_op2, e_chn, e_and, e_or, e_not, e_ite, e_slc, e_call, e_met, dens, deno, dsrc, x_set, x_setm, x_dnew, x_unp, x_par, x_app, x_ext, x_dput, x_ret, x_retn, x_rse, x_ite, x_loop, x_wh, x_brk, x_cnt, x_pas, x_exp, x_par3, x_parc, x_unpl, x_tryw, e_callt, x_nil, x_cons, R.bind, R.fl, Fl.seq, dataOf, resOf, res, rd, tst, lift, lift2, sem1, sem2, alls, outOf, ioOut, putV, putsV, freeAt_eq, fs_un, fs_v, fs_m, fs_f, plainAt, ps_un, ps_v, ps_f, ps_m, lcF', condF', List.getElem?_cons_zero, List.getElem?_cons_succ, List.set_cons_zero, List.set_cons_succ, if_true, if_false, Bool.false_eq_true, reduceCtorEq, Option.map_some, Option.map_none, Bool.and_true, Bool.true_and, Bool.not_true, Bool.not_false, len_eT, len_eL, len_eRows, len_ePs, len_eO, len_eR, len_eRow, len_eV, len_eP, nd_eT, nd_eL, nd_eRows, nd_ePs, nd_eO, nd_eR, nd_eRow, nd_eV, nd_eP, ty_eT, ty_eRows, ty_ePs, ty_eO, ty_eR, ty_eRow, ty_eV, ty_eP, walk_eT, walk_eL, walk_eRows, walk_ePs, walk_eP, walk_eV, list_eT, list_eL, tup_eL, tup_eT, ix_eO0, ix_eO1, ix_eO2, ix_eO3, ix_eR0, ix_eR1, ix_eR2, ix_eRow0, ix_eRow1, ix_eP0, ix_eP1, non_eV, non_eT, non_eL, walk_eOs, ty_eL, in_eT, in_eL, eq_eL, eq_eT, eq_eV, lt_eV, gt_eV, eq_int, eq_str, lt_int, gt_int, nd_none, non_none, ty_str_none, ty_int_none, ty_bool_none, ty_tuple_none, ty_list_none, nd_bool, non_bool, ty_str_bool, ty_int_bool, ty_bool_bool, ty_tuple_bool, ty_list_bool, nd_int, non_int, ty_str_int, ty_int_int, ty_bool_int, ty_tuple_int, ty_list_int, nd_str, non_str, ty_str_str, ty_int_str, ty_bool_str, ty_tuple_str, ty_list_str, nd_list, non_list, ty_str_list, ty_int_list, ty_bool_list, ty_tuple_list, ty_list_list, nd_tuple, non_tuple, ty_str_tuple, ty_int_tuple, ty_bool_tuple, ty_tuple_tuple, ty_list_tuple, len_list, len_tuple, list_list, list_tuple, tup_list, tup_tuple, ix_list, ix_tuple, tr_bool, tr_none, tr_int, tr_list, tr_tuple, lst_list, lst_eL, atI_0, atI_1, atI_2, atI_3, $ts,*])
theorem lineK {n : Nat} (h : n ≤ 1000) : n ≤ sizeLine := by rw [sizeLine_eq]; omega
/-- sorted(set(ws)) -/
def setW (ws : List Str) : List Str := (dedup ws).mergeSort leS
theorem ssort_eT (ws : List Str) (h : ws.length < 64) : ssortD (eT ws) = some (eL (setW ws)) := by
  simp only [ssortD, eT, itemsOf, strsOf_map, if_pos h, strSet, sortStr_map, eL, setW]
theorem ssort_eL (ws : List Str) (h : ws.length < 64) : ssortD (eL ws) = some (eL (setW ws)) := by
  simp only [ssortD, eL, itemsOf, strsOf_map, if_pos h, strSet, sortStr_map, setW]
theorem slen_eT (ws : List Str) (h : ws.length < 64) : slenD (eT ws) = some (.int (dedup ws).length) := by
  simp only [slenD, eT, itemsOf, strsOf_map, if_pos h]
theorem sorted_eL (ws : List Str) (h : ws.length ≤ 1000) : sortedD (eL ws) = some (eL (ws.mergeSort leS)) := by
  simp only [sortedD, eL, sortOp]
  rw [if_pos]
  · rw [sortStr_map]
  · simp only [Bool.and_eq_true, decide_eq_true_eq, List.length_map]
    refine ⟨⟨⟨?_, ?_⟩, ?_⟩, lineK h⟩
    · simp only [alikeList, List.all_eq_true]
      intro x hx y hy
      obtain ⟨a, _, rfl⟩ := List.mem_map.mp hx
      obtain ⟨b, _, rfl⟩ := List.mem_map.mp hy
      rfl
    · simp only [Bool.or_eq_true, List.all_eq_true]
      refine .inr fun x hx => ?_
      obtain ⟨a, _, rfl⟩ := List.mem_map.mp hx
      rfl
    · simp only [List.all_eq_true]
      intro x hx
      obtain ⟨a, _, rfl⟩ := List.mem_map.mp hx
      rfl
theorem mem_setW {ws : List Str} {w : Str} : w ∈ setW ws ↔ w ∈ ws := by
  unfold setW
  rw [List.mem_mergeSort, mem_dedup]
theorem rising_nodup {ws : List Str} (h : risingS ws) : ws.Nodup := h.imp fun {a b} h e => by
  subst e
  exact List.lt_irrefl _ h
theorem rising_le {ws : List Str} (h : risingS ws) : ws.Pairwise fun a b => leS a b = true := h.imp fun {a b} h => by
  simp only [leS, decide_eq_true_eq]
  exact List.le_of_lt h
theorem setW_pair (ws : List Str) : (setW ws).Pairwise fun a b => leS a b = true := List.pairwise_mergeSort leS_trans leS_total _
theorem setW_nodup (ws : List Str) : (setW ws).Nodup := (List.mergeSort_perm _ _).nodup_iff.mpr (dedup_nodup ws)
theorem rising_of {ws : List Str} (h : ws.Pairwise fun a b => leS a b = true) (n : ws.Nodup) : risingS ws := by
  have := h.and n
  refine this.imp fun {a b} ⟨h1, h2⟩ => ?_
  by_cases z : a.cps.toList < b.cps.toList
  · exact z
  · exact absurd (leS_anti h1 (decide_eq_true (List.not_lt.mp z))) h2
theorem setW_rising (ws : List Str) : risingS (setW ws) := rising_of (setW_pair ws) (setW_nodup ws)
theorem rising_ext {a b : List Str} (ha : risingS a) (hb : risingS b) (h : ∀ w, w ∈ a ↔ w ∈ b) : a = b :=
  eq_of_sorted leS_anti ((List.perm_ext_iff_of_nodup (rising_nodup ha) (rising_nodup hb)).mpr h) (rising_le ha) (rising_le hb)
theorem setW_self {ws : List Str} (h : risingS ws) : setW ws = ws := rising_ext (setW_rising ws) h fun w => mem_setW
theorem sort_self {ws : List Str} (h : risingS ws) : ws.mergeSort leS = ws := List.mergeSort_of_pairwise (rising_le h)
/-! ### the defs -/
structure LibO (T : Str → Option Fn) : Prop where
  is_feature : T "is_feature" = some c_is_feature
  is_whole : T "is_whole" = some c_is_whole
  is_version : T "is_version" = some c_is_version
  are_features : T "are_features" = some c_are_features
  is_row : T "is_row" = some c_is_row
  is_offer : T "is_offer" = some c_is_offer
section
variable {T : Str → Option Fn} {n : Nat}
theorem phi_is_feature (L : LibO T) {s : Str} (h : isWord s = true) : Phi T (n + 1) "is_feature" [.d (.str s)] = .ret (.bool true) .none := by
  rw [Phi_succ L.is_feature, run_is_feature h]
theorem phi_is_whole (L : LibO T) {i : Int} (h0 : 0 ≤ i) (h1 : i ≤ 99) : Phi T (n + 1) "is_whole" [.d (.int i), .d (.int 99)] = .ret (.bool true) .none := by
  rw [Phi_succ L.is_whole, run1 [.v (.int i), .v (.int 99)] rfl rfl]
  have a : ¬ (i < 0) := by omega
  have b : ¬ ((99 : Int) < i) := by omega
  simp_arith! [c_is_whole, gt_int, a, b, decide_false]
theorem phi_is_version (L : LibO T) {v : Ver} (h : okV v) : Phi T (n + 2) "is_version" [.d (eV v)] = .ret (.bool true) .none := by
  rw [Phi_succ L.is_version, run1 [.v (eV v), .un] rfl rfl]
  have hlc := lcT1n (Φ := Phi T (n + 1)) (elt := .call "is_whole" none (.cons (.var 1) (.cons (.glb "GREAT" (.int 99)) .nil))) (src := .of (.var 0)) (i := 1) (ρ := [.v (eV v), .un]) (enc := PyData.int) (ys := [v.1, v.2]) (e := fun _ => .bool true) (by simp_arith []) rfl (fun y hy => by
    have : Phi T (n + 1) "is_whole" [.d (.int y), .d (.int 99)] = .ret (.bool true) .none := by
      simp only [List.mem_cons, List.not_mem_nil, or_false] at hy
      rcases hy with rfl | rfl
      · exact phi_is_whole L h.1 h.2.1
      · exact phi_is_whole L h.2.2.1 h.2.2.2
    simp_arith [callK_2 this])
  simp_arith [c_is_version, hlc, all_map (fun _ => true), decide_true]
  rfl
theorem phi_are_features (L : LibO T) {ws : List Str} (h : okT ws) : Phi T (n + 2) "are_features" [.d (eT ws)] = .ret (.bool true) .none := by
  rw [Phi_succ L.are_features, run1 [.v (eT ws), .un] rfl rfl]
  obtain ⟨h1, h2, h3⟩ := h
  have hlc := lcT1n (Φ := Phi T (n + 1)) (elt := .call "is_feature" none (.cons (.var 1) .nil)) (src := .of (.var 0)) (i := 1) (ρ := [.v (eT ws), .un]) (enc := PyData.str) (ys := ws) (e := fun _ => .bool true) (by simp_arith []) rfl (fun y hy => by
    have := phi_is_feature (n := n) L (h1 y hy)
    simp_arith [callK_1 this])
  have hl : ¬ ((6 : Int) < ws.length) := by omega
  have hs := ssort_eT ws (by omega)
  rw [setW_self h3] at hs
  have ha : ws.all (fun _ => true) = true := by simp
  simp_arith [c_are_features, hlc, hl, hs, decide_false, decide_true, all_map (fun _ => true), ha]
theorem phi_is_row (L : LibO T) {r : Ver × List Str} (h1 : okV r.1) (h2 : okT r.2) : Phi T (n + 3) "is_row" [.d (eRow r)] = .ret (.bool true) .none := by
  rw [Phi_succ L.is_row, run1 [.v (eRow r)] rfl rfl]
  simp_arith [c_is_row, decide_true, callK_1 (phi_is_version (n := n) L h1), callK_1 (phi_are_features (n := n) L h2)]
theorem phi_is_offer (L : LibO T) {o : Offer} (h : okO o) : Phi T (n + 4) "is_offer" [.d (eO o)] = .ret (.bool true) .none := by
  rw [Phi_succ L.is_offer, run1 [.v (eO o), .un, .un] rfl rfl]
  have hlc := lcT1n (Φ := Phi T (n + 3)) (elt := .call "is_row" none (.cons (.var 2) .nil)) (src := .of (.op2 .idx (.pk 0) (.cst (.int 0)))) (i := 2) (ρ := [.v (eO o), .un, .un]) (enc := eRow) (ys := o.rows) (e := fun _ => .bool true) (by simp_arith []) rfl (fun y hy => by
    have := phi_is_row (n := n) L (h.row y hy).1 (h.row y hy).2
    simp_arith [callK_1 this])
  have a1 : ¬ ((o.rows.length : Int) < 1) := by have := h.len.1; omega
  have a2 : ¬ ((6 : Int) < o.rows.length) := by have := h.len.2; omega
  have hr : inRange ((o.rows.length : Int) - 1) = true := by
    have := h.len
    simp only [inRange, Bool.and_eq_true, decide_eq_true_eq]
    omega
  have hlc2 := lcT1n (Φ := Phi T (n + 3)) (elt := .op2 .lt (.op2 .idx (.op2 .idx (.op2 .idx (.pk 0) (.cst (.int 0))) (.pk 1)) (.cst (.int 0))) (.op2 .idx (.op2 .idx (.op2 .idx (.pk 0) (.cst (.int 0))) (.op2 .add (.pk 1) (.cst (.int 1)))) (.cst (.int 0)))) (src := .rng1 (.op2 .sub (.op1 .len (.op2 .idx (.pk 0) (.cst (.int 0)))) (.cst (.int 1)))) (i := 1) (ρ := [.v (eO o), .un, .un])
    (enc := fun i : Nat => PyData.int (0 + (i : Int))) (ys := List.range ((o.rows.length : Int) - 1).toNat) (e := fun _ => .bool true) (by simp_arith [subD, hr]; rfl) rfl (fun y hy => by
    have hy' : y + 1 < o.rows.length := by
      rw [List.mem_range] at hy
      omega
    have k1 : o.rows[y]? = some o.rows[y] := List.getElem?_eq_getElem (by omega)
    have k2 : o.rows[y + 1]? = some o.rows[y + 1] := List.getElem?_eq_getElem hy'
    have z1 := ix_eRows k1
    have z2 : idxD (eRows o.rows) (.int ((y : Int) + 1)) = some (eRow o.rows[y + 1]) := by
      rw [show ((y : Int) + 1) = ((y + 1 : Nat) : Int) by omega]
      exact ix_eRows k2
    have hlt : vlt o.rows[y].1 o.rows[y + 1].1 = true := List.pairwise_iff_getElem.mp h.ris y (y + 1) (by omega) hy' (by omega)
    have ey : (0 : Int) + (y : Int) = (y : Int) := by omega
    simp_arith [addD, ey, z1, z2, hlt])
  have ha : o.rows.all (fun _ => true) = true := by simp
  have hb : (List.range ((o.rows.length : Int) - 1).toNat).all (fun _ => true) = true := by simp
  simp_arith [c_is_offer, hlc, hlc2, a1, a2, decide_false, decide_true, all_map (fun _ => true), ha, hb, callK_1 (phi_is_version (n := n + 1) L h.least), callK_1 (phi_are_features (n := n + 1) L h.must), callK_1 (phi_are_features (n := n + 1) L h.bar)]
end
end G6
-- ## P5
/-! # P5: rules are found good; need_offer, need_rules -/
namespace G6
open PySem
local macro_rules | `(tactic| simp_arith [$ts,*]) => `(tactic| simp only [e_var, e_pk, e_cst, e_glb, e_fnv, e_tup, e_lst, e_op1, e_op2, e_chn, e_and, e_or, e_not, e_ite, e_slc, e_call, e_met, dens, deno, dsrc, x_set, x_setm, x_dnew, x_unp, x_par, x_app, x_ext, x_dput, x_ret, x_retn, x_rse, x_ite, x_loop, x_wh, x_brk, x_cnt, x_pas, x_exp, x_par3, x_parc, x_unpl, x_tryw, e_callt, x_nil, x_cons, R.bind, R.fl, Fl.seq, dataOf, resOf, res, rd, tst, lift, lift2, sem1, sem2, alls, outOf, ioOut, putV, putsV, freeAt_eq, fs_un, fs_v, fs_m, fs_f, plainAt, ps_un, ps_v, ps_f, ps_m, lcF', condF', List.getElem?_cons_zero, List.getElem?_cons_succ, List.set_cons_zero, List.set_cons_succ, if_true, if_false, Bool.false_eq_true, reduceCtorEq, Option.map_some, Option.map_none, Bool.and_true, Bool.true_and, Bool.not_true, Bool.not_false, len_eT, len_eL, len_eRows, len_ePs, len_eO, len_eR, len_eRow, len_eV, len_eP, nd_eT, nd_eL, nd_eRows, nd_ePs, nd_eO, nd_eR, nd_eRow, nd_eV, nd_eP, ty_eT, ty_eRows, ty_ePs, ty_eO, ty_eR, ty_eRow, ty_eV, ty_eP, walk_eT, walk_eL, walk_eRows, walk_ePs, walk_eP, walk_eV, list_eT, list_eL, tup_eL, tup_eT, ix_eO0, ix_eO1, ix_eO2, ix_eO3, ix_eR0, ix_eR1, ix_eR2, ix_eRow0, ix_eRow1, ix_eP0, ix_eP1, non_eV, non_eT, non_eL, walk_eOs, ty_eL, in_eT, in_eL, eq_eL, eq_eT, eq_eV, lt_eV, gt_eV, eq_int, eq_str, lt_int, gt_int, nd_none, non_none, ty_str_none, ty_int_none, ty_bool_none, ty_tuple_none, ty_list_none, nd_bool, non_bool, ty_str_bool, ty_int_bool, ty_bool_bool, ty_tuple_bool, ty_list_bool, nd_int, non_int, ty_str_int, ty_int_int, ty_bool_int, ty_tuple_int, ty_list_int, nd_str, non_str, ty_str_str, ty_int_str, ty_bool_str, ty_tuple_str, ty_list_str, nd_list, non_list, ty_str_list, ty_int_list, ty_bool_list, ty_tuple_list, ty_list_list, nd_tuple, non_tuple, ty_str_tuple, ty_int_tuple, ty_bool_tuple, ty_tuple_tuple, ty_list_tuple, len_list, len_tuple, list_list, list_tuple, tup_list, tup_tuple, ix_list, ix_tuple, tr_bool, tr_none, tr_int, tr_list, tr_tuple, lst_list, lst_eL, atI_0, atI_1, atI_2, atI_3, $ts,*])
structure LibR (T : Str → Option Fn) : Prop extends LibO T where
  are_pairs : T "are_pairs" = some c_are_pairs
  are_rules : T "are_rules" = some c_are_rules
  need_rules : T "need_rules" = some c_need_rules
  need_offer : T "need_offer" = some c_need_offer
theorem foldS_go {α β : Type} {g : α → β → α} : ∀ (ys : List β) (a : α), foldS (fun a y => Stp.go (g a y)) ys a = .go (ys.foldl g a)
  | [], a => rfl
  | y :: r, a => by
    unfold foldS
    exact foldS_go r (g a y)
section
variable {T : Str → Option Fn} {n : Nat}
theorem phi_need_offer (L : LibR T) {o : Offer} (h : okO o) : Phi T (n + 5) "need_offer" [.d (eO o)] = .ret .none .none := by
  rw [Phi_succ L.need_offer, run1 [.v (eO o)] rfl rfl]
  simp_arith [c_need_offer, callK_1 (phi_is_offer (n := n) L.toLibO h)]
theorem phi_are_pairs (L : LibR T) {ps : List (Str × Str)} (h : okPs ps) : Phi T (n + 2) "are_pairs" [.d (ePs ps)] = .ret (.bool true) .none := by
  rw [Phi_succ L.are_pairs, run1 [.v (ePs ps), .un, .un] rfl rfl]
  have hl : ¬ ((8 : Int) < ps.length) := by have := h.1; omega
  have key := forT (enc := eP) (body := loopB (Phi T (n + 1)) (.cons (.ite (.or (.not (.op1 (.isi .tuple) (.pk 1))) (.or (.op2 .ne (.op1 .len (.pk 1)) (.cst (.int 2))) (.not (.op1 .all (.lc (.call "is_feature" none (.cons (.var 2) .nil)) [2] (.of (.var 1)) .no))))) (.cons (.ret (.cst (.bool false))) .nil) .nil) (.cons (.ite (.op2 .eq (.op2 .idx (.pk 1) (.cst (.int 0))) (.op2 .idx (.pk 1) (.cst (.int 1)))) (.cons (.ret (.cst (.bool false))) .nil) .nil) .nil)))
    (tg := [1]) (Rp := fun (_ : Unit) ρ => ∃ s1 s2, plainSl s1 = true ∧ plainSl s2 = true ∧ ρ = [.v (ePs ps), s1, s2]) (step := fun a _ => .go a) (ys := ps) (a := ()) (ρ := [.v (ePs ps), .un, .un]) ⟨.un, .un, rfl, rfl, rfl⟩ (fun a p ρ hp ⟨s1, s2, h1, h2, e⟩ => by
      subst e
      obtain ⟨w1, w2, w3⟩ := h.2 p hp
      refine ⟨by simp_arith [List.all_cons, List.all_nil, plain_free h1], [.v (ePs ps), .v (eP p), s2], rfl, _, ?_, .v (eP p), s2, rfl, h2, rfl⟩
      have hlc := lcT1n (Φ := Phi T (n + 1)) (elt := .call "is_feature" none (.cons (.var 2) .nil)) (src := .of (.var 1)) (i := 2) (ρ := [.v (ePs ps), .v (eP p), s2]) (enc := PyData.str) (ys := [p.1, p.2]) (e := fun _ => .bool true) (by simp_arith []) (by simp_arith [h2]) (fun y hy => by
        have hw : isWord y = true := by
          simp only [List.mem_cons, List.not_mem_nil, or_false] at hy
          rcases hy with rfl | rfl
          · exact w1
          · exact w2
        simp_arith [callK_1 (phi_is_feature (n := n) L.toLibO hw)])
      have ha : [p.1, p.2].all (fun _ => true) = true := rfl
      refine .inl ?_
      simp_arith [loopB, hlc, all_map (fun _ => true), ha, decide_true, w3, decide_false])
  rw [foldS_go (g := fun (a : Unit) (_ : Str × Str) => a)] at key
  obtain ⟨ρ', k1, s1, s2, k2, k3, k4⟩ := key
  simp_arith [c_are_pairs, hl, decide_false, k1, k4]
theorem phi_are_rules (L : LibR T) {r : Rules} (h : okR r) : Phi T (n + 3) "are_rules" [.d (eR r)] = .ret (.bool true) .none := by
  rw [Phi_succ L.are_rules, run1 [.v (eR r), .un] rfl rfl]
  have hl : ¬ ((6 : Int) < r.order.length) := by have := h.len; omega
  have hlc := lcT1n (Φ := Phi T (n + 2)) (elt := .call "is_feature" none (.cons (.var 1) .nil)) (src := .of (.op2 .idx (.pk 0) (.cst (.int 2)))) (i := 1) (ρ := [.v (eR r), .un]) (enc := PyData.str) (ys := r.order) (e := fun _ => .bool true) (by simp_arith []) rfl (fun y hy => by
    simp_arith [callK_1 (phi_is_feature (n := n + 1) L.toLibO (h.word y hy))])
  have ha : r.order.all (fun _ => true) = true := by simp
  have hs := slen_eT r.order (by have := h.len; omega)
  rw [dedup_self h.nd] at hs
  simp_arith [c_are_rules, hlc, hl, hs, decide_true, decide_false, all_map (fun _ => true), ha, callK_1 (phi_are_pairs (n := n) L h.needs), callK_1 (phi_are_pairs (n := n) L h.bars)]
theorem phi_need_rules (L : LibR T) {r : Rules} (h : okR r) : Phi T (n + 4) "need_rules" [.d (eR r)] = .ret .none .none := by
  rw [Phi_succ L.need_rules, run1 [.v (eR r)] rfl rfl]
  simp_arith [c_need_rules, callK_1 (phi_are_rules (n := n) L h)]
end
end G6
-- ## P6
/-! # P6: choosing: features_at, barred_pair, closure -/
namespace G6
open PySem
local macro_rules | `(tactic| simp_arith [$ts,*]) => `(tactic| simp only [e_var, e_pk, e_cst, e_glb, e_fnv, e_tup, e_lst, e_op1, e_op2, e_chn, e_and, e_or, e_not, e_ite, e_slc, e_call, e_met, dens, deno, dsrc, x_set, x_setm, x_dnew, x_unp, x_par, x_app, x_ext, x_dput, x_ret, x_retn, x_rse, x_ite, x_loop, x_wh, x_brk, x_cnt, x_pas, x_exp, x_par3, x_parc, x_unpl, x_tryw, e_callt, x_nil, x_cons, R.bind, R.fl, Fl.seq, dataOf, resOf, res, rd, tst, lift, lift2, sem1, sem2, alls, outOf, ioOut, putV, putsV, freeAt_eq, fs_un, fs_v, fs_m, fs_f, plainAt, ps_un, ps_v, ps_f, ps_m, lcF', condF', List.getElem?_cons_zero, List.getElem?_cons_succ, List.set_cons_zero, List.set_cons_succ, if_true, if_false, Bool.false_eq_true, reduceCtorEq, Option.map_some, Option.map_none, Bool.and_true, Bool.true_and, Bool.not_true, Bool.not_false, len_eT, len_eL, len_eRows, len_ePs, len_eO, len_eR, len_eRow, len_eV, len_eP, nd_eT, nd_eL, nd_eRows, nd_ePs, nd_eO, nd_eR, nd_eRow, nd_eV, nd_eP, ty_eT, ty_eRows, ty_ePs, ty_eO, ty_eR, ty_eRow, ty_eV, ty_eP, walk_eT, walk_eL, walk_eRows, walk_ePs, walk_eP, walk_eV, list_eT, list_eL, tup_eL, tup_eT, ix_eO0, ix_eO1, ix_eO2, ix_eO3, ix_eR0, ix_eR1, ix_eR2, ix_eRow0, ix_eRow1, ix_eP0, ix_eP1, non_eV, non_eT, non_eL, walk_eOs, ty_eL, in_eT, in_eL, eq_eL, eq_eT, eq_eV, lt_eV, gt_eV, eq_int, eq_str, lt_int, gt_int, nd_none, non_none, ty_str_none, ty_int_none, ty_bool_none, ty_tuple_none, ty_list_none, nd_bool, non_bool, ty_str_bool, ty_int_bool, ty_bool_bool, ty_tuple_bool, ty_list_bool, nd_int, non_int, ty_str_int, ty_int_int, ty_bool_int, ty_tuple_int, ty_list_int, nd_str, non_str, ty_str_str, ty_int_str, ty_bool_str, ty_tuple_str, ty_list_str, nd_list, non_list, ty_str_list, ty_int_list, ty_bool_list, ty_tuple_list, ty_list_list, nd_tuple, non_tuple, ty_str_tuple, ty_int_tuple, ty_bool_tuple, ty_tuple_tuple, ty_list_tuple, len_list, len_tuple, list_list, list_tuple, tup_list, tup_tuple, ix_list, ix_tuple, tr_bool, tr_none, tr_int, tr_list, tr_tuple, lst_list, lst_eL, atI_0, atI_1, atI_2, atI_3, $ts,*])
structure LibC0 (T : Str → Option Fn) : Prop extends LibR T where
  features_at : T "features_at" = some c_features_at
  closure : T "closure" = some c_closure
  barred_pair : T "barred_pair" = some c_barred_pair
  common : T "common" = some c_common
  musts : T "musts" = some c_musts
  versions_of : T "versions_of" = some c_versions_of
structure LibC (T : Str → Option Fn) : Prop extends LibC0 T where
  is_fit : T "is_fit" = some c_is_fit
  order_of : T "order_of" = some c_order_of
  best_at : T "best_at" = some c_best_at
  best_of : T "best_of" = some c_best_of
  choose : T "choose" = some c_choose
theorem foldS_find {β : Type} {p : β → Bool} {f : β → PyData} : ∀ (ys : List β), foldS (fun (_ : Unit) y => if p y then Stp.stop (f y) else .go ()) ys () = (match ys.find? p with
    | some y => .stop (f y)
    | none => .go ())
  | [] => rfl
  | y :: r => by
    unfold foldS
    rw [List.find?_cons]
    cases h : p y with
    | true => rfl
    | false => exact foldS_find r
def featuresAt (o : Offer) (v : Ver) : Option (List Str) := (o.rows.find? fun r => decide (r.1 = v)).map (·.2)
def eOT : Option (List Str) → PyData
  | none => .none
  | some ws => eT ws
def barredPair (r : Rules) (ws : List Str) : Option (Str × Str) := r.bars.find? fun p => decide (p.1 ∈ ws) && decide (p.2 ∈ ws)
def eOP : Option (Str × Str) → PyData
  | none => .none
  | some p => eP p
section
variable {T : Str → Option Fn} {n : Nat}
theorem phi_features_at (L : LibC0 T) (o : Offer) (v : Ver) : Phi T (n + 1) "features_at" [.d (eO o), .d (eV v)] = .ret (eOT (featuresAt o v)) .none := by
  rw [Phi_succ L.features_at, run1 [.v (eO o), .v (eV v), .un, .un] rfl rfl]
  have key := forT (enc := eRow) (body := loopB (Phi T n) (.cons (.ite (.op2 .eq (.pk 2) (.pk 1)) (.cons (.ret (.var 3)) .nil) .nil) .nil))
    (tg := [2, 3]) (Rp := fun (_ : Unit) ρ => ∃ s1 s2, plainSl s1 = true ∧ plainSl s2 = true ∧ ρ = [.v (eO o), .v (eV v), s1, s2]) (step := fun _ r => if decide (r.1 = v) then .stop (eT r.2) else .go ()) (ys := o.rows) (a := ()) (ρ := [.v (eO o), .v (eV v), .un, .un]) ⟨.un, .un, rfl, rfl, rfl⟩ (fun a r ρ hr ⟨s1, s2, h1, h2, e⟩ => by
      subst e
      refine ⟨by simp_arith [List.all_cons, List.all_nil, plain_free h1, plain_free h2], [.v (eO o), .v (eV v), .v (eV r.1), .v (eT r.2)], rfl, ?_⟩
      by_cases hv : r.1 = v
      · simp only [hv, decide_true, if_true]
        exact ⟨_, by simp_arith [loopB, hv, decide_true] <;> rfl⟩
      · simp only [hv, decide_false, Bool.false_eq_true, if_false]
        exact ⟨_, .inl (by simp_arith [loopB, hv, decide_false] <;> rfl), _, _, rfl, rfl, rfl⟩)
  rw [foldS_find (p := fun r : Ver × List Str => decide (r.1 = v)) (f := fun r => eT r.2)] at key
  unfold featuresAt
  cases hf : o.rows.find? (fun r => decide (r.1 = v)) with
  | none =>
    rw [hf] at key
    obtain ⟨ρ', k1, s1, s2, k2, k3, k4⟩ := key
    simp_arith [c_features_at, k1, k4]
    rfl
  | some r =>
    rw [hf] at key
    obtain ⟨ρ', k1⟩ := key
    simp_arith [c_features_at, k1]
    rfl
theorem phi_barred_pair (L : LibC0 T) (r : Rules) {d : PyData} {ws : List Str} (hd : ∀ x, inData (.str x) d = some (decide (x ∈ ws))) : Phi T (n + 1) "barred_pair" [.d (eR r), .d d] = .ret (eOP (barredPair r ws)) .none := by
  rw [Phi_succ L.barred_pair, run1 [.v (eR r), .v d, .un, .un] rfl rfl]
  have key := forT (enc := eP) (body := loopB (Phi T n) (.cons (.ite (.and (.op2 .isin (.pk 2) (.pk 1)) (.op2 .isin (.pk 3) (.pk 1))) (.cons (.ret (.tup (.cons (.var 2) (.cons (.var 3) .nil)))) .nil) .nil) .nil))
    (tg := [2, 3]) (Rp := fun (_ : Unit) ρ => ∃ s1 s2, plainSl s1 = true ∧ plainSl s2 = true ∧ ρ = [.v (eR r), .v d, s1, s2]) (step := fun _ p => if (decide (p.1 ∈ ws) && decide (p.2 ∈ ws)) then .stop (eP p) else .go ()) (ys := r.bars) (a := ()) (ρ := [.v (eR r), .v d, .un, .un]) ⟨.un, .un, rfl, rfl, rfl⟩ (fun a p ρ hp ⟨s1, s2, h1, h2, e⟩ => by
      subst e
      refine ⟨by simp_arith [List.all_cons, List.all_nil, plain_free h1, plain_free h2], [.v (eR r), .v d, .v (.str p.1), .v (.str p.2)], rfl, ?_⟩
      by_cases h1 : p.1 ∈ ws
      · by_cases h2 : p.2 ∈ ws
        · simp only [h1, h2, decide_true, if_true, Bool.and_self]
          exact ⟨_, by simp_arith [loopB, hd, h1, h2, decide_true] <;> rfl⟩
        · simp only [h1, h2, decide_true, decide_false, Bool.and_false, Bool.false_eq_true, if_false]
          exact ⟨_, .inl (by simp_arith [loopB, hd, h1, h2, decide_true, decide_false] <;> rfl), _, _, rfl, rfl, rfl⟩
      · simp only [h1, decide_false, Bool.false_and, Bool.false_eq_true, if_false]
        exact ⟨_, .inl (by simp_arith [loopB, hd, h1, decide_false] <;> rfl), _, _, rfl, rfl, rfl⟩)
  rw [foldS_find (p := fun p : Str × Str => decide (p.1 ∈ ws) && decide (p.2 ∈ ws)) (f := eP)] at key
  unfold barredPair
  cases hf : r.bars.find? (fun p => decide (p.1 ∈ ws) && decide (p.2 ∈ ws)) with
  | none =>
    rw [hf] at key
    obtain ⟨ρ', k1, s1, s2, k2, k3, k4⟩ := key
    simp_arith [c_barred_pair, k1, k4]
    rfl
  | some p =>
    rw [hf] at key
    obtain ⟨ρ', k1⟩ := key
    simp_arith [c_barred_pair, k1]
    rfl
end
/-! ### closure -/
def stepC (r : Rules) (f : List Str) : List Str := setW (f ++ (r.needs.filter fun p => decide (p.1 ∈ f)).map (·.2))
def cloN (r : Rules) : Nat → List Str → List Str
  | 0, f => f
  | k + 1, f => cloN r k (stepC r f)
def pot (r : Rules) (f : List Str) : Nat := (r.needs.filter fun p => decide (p.2 ∉ f)).length
theorem pot_le (r : Rules) (f : List Str) : pot r f ≤ r.needs.length := List.length_filter_le _ _
theorem mem_stepC {r : Rules} {f : List Str} {w : Str} : w ∈ stepC r f ↔ w ∈ f ∨ ∃ p ∈ r.needs, p.1 ∈ f ∧ p.2 = w := by
  unfold stepC
  rw [mem_setW]
  simp only [List.mem_append, List.mem_map, List.mem_filter, decide_eq_true_eq]
  constructor
  · rintro (h | ⟨p, ⟨h1, h2⟩, h3⟩)
    · exact .inl h
    · exact .inr ⟨p, h1, h2, h3⟩
  · rintro (h | ⟨p, h1, h2, h3⟩)
    · exact .inl h
    · exact .inr ⟨p, ⟨h1, h2⟩, h3⟩
theorem pot_lt {r : Rules} {f : List Str} (hf : risingS f) (h : stepC r f ≠ f) : pot r (stepC r f) < pot r f := by
  have : ∃ p ∈ r.needs, p.1 ∈ f ∧ p.2 ∉ f := by
    apply Classical.byContradiction
    intro hn
    refine h (rising_ext (setW_rising _) hf fun w => ?_)
    rw [mem_stepC]
    constructor
    · rintro (z | ⟨p, h1, h2, rfl⟩)
      · exact z
      · apply Classical.byContradiction
        intro z
        exact hn ⟨p, h1, h2, z⟩
    · exact .inl
  obtain ⟨p, h1, h2, h3⟩ := this
  unfold pot
  have hsub : (r.needs.filter fun q => decide (q.2 ∉ stepC r f)) = (r.needs.filter fun q => decide (q.2 ∉ f)).filter fun q => decide (q.2 ∉ stepC r f) := by
    rw [List.filter_filter]
    apply List.filter_congr
    intro q _
    by_cases hq : q.2 ∈ stepC r f
    · simp [hq]
    · have : q.2 ∉ f := fun z => hq (mem_stepC.mpr (.inl z))
      simp [hq, this]
  rw [hsub]
  apply List.length_filter_lt_length_iff_exists.mpr
  refine ⟨p, ?_, ?_⟩
  · rw [List.mem_filter]
    exact ⟨h1, by simpa using h3⟩
  · have : p.2 ∈ stepC r f := mem_stepC.mpr (.inr ⟨p, h1, h2, rfl⟩)
    simp [this]
theorem cloN_fix {r : Rules} {f : List Str} (h : stepC r f = f) : ∀ k, cloN r k f = f
  | 0 => rfl
  | k + 1 => by
    unfold cloN
    rw [h]
    exact cloN_fix h k
theorem cloN_end {r : Rules} : ∀ {k : Nat} {f : List Str}, risingS f → pot r f ≤ k → stepC r (cloN r (k + 1) f) = cloN r (k + 1) f
  | 0, f, hf, hp => by
    by_cases h : stepC r f = f
    · rw [cloN_fix h]
      exact h
    · have := pot_lt hf h
      omega
  | k + 1, f, hf, hp => by
    by_cases h : stepC r f = f
    · rw [cloN_fix h]
      exact h
    · have := pot_lt hf h
      show stepC r (cloN r (k + 1) (stepC r f)) = cloN r (k + 1) (stepC r f)
      exact cloN_end (setW_rising _) (by omega)
/-- closure(rules, ws) -/
def clo (r : Rules) (ws : List Str) : List Str := cloN r (r.needs.length + 1) (setW ws)
theorem clo_fix (r : Rules) (ws : List Str) : stepC r (clo r ws) = clo r ws := cloN_end (setW_rising _) (pot_le _ _)
theorem cloN_rising {r : Rules} : ∀ {k : Nat} {f : List Str}, risingS f → risingS (cloN r k f)
  | 0, _, h => h
  | k + 1, f, _ => by
    show risingS (cloN r k (stepC r f))
    exact cloN_rising (setW_rising _)
theorem clo_rising (r : Rules) (ws : List Str) : risingS (clo r ws) := cloN_rising (setW_rising _)
def Closed (r : Rules) (S : Str → Prop) : Prop := ∀ p ∈ r.needs, S p.1 → S p.2
theorem clo_closed (r : Rules) (ws : List Str) : Closed r (· ∈ clo r ws) := fun p hp h => by
  have := mem_stepC.mpr (.inr ⟨p, hp, h, rfl⟩)
  rw [clo_fix] at this
  exact this
theorem cloN_sub {r : Rules} : ∀ {k : Nat} {f : List Str} {w : Str}, w ∈ f → w ∈ cloN r k f
  | 0, _, _, h => h
  | k + 1, f, w, h => by
    show w ∈ cloN r k (stepC r f)
    exact cloN_sub (mem_stepC.mpr (.inl h))
theorem clo_sub (r : Rules) {ws : List Str} {w : Str} (h : w ∈ ws) : w ∈ clo r ws := cloN_sub (mem_setW.mpr h)
theorem cloN_least {r : Rules} {S : Str → Prop} (hS : Closed r S) : ∀ {k : Nat} {f : List Str}, (∀ w ∈ f, S w) → ∀ w ∈ cloN r k f, S w
  | 0, _, h => h
  | k + 1, f, h => by
    show ∀ w ∈ cloN r k (stepC r f), S w
    refine cloN_least hS fun w hw => ?_
    rcases mem_stepC.mp hw with z | ⟨p, h1, h2, rfl⟩
    · exact h w z
    · exact hS p h1 (h _ h2)
theorem clo_least (r : Rules) {ws : List Str} {S : Str → Prop} (hS : Closed r S) (h : ∀ w ∈ ws, S w) : ∀ w ∈ clo r ws, S w := cloN_least hS fun w hw => h w (mem_setW.mp hw)
end G6
-- ## P7
/-! # P7: closure's run -/
namespace G6
open PySem
local macro_rules | `(tactic| simp_arith [$ts,*]) => `(tactic| simp only [e_var, e_pk, e_cst, e_glb, e_fnv, e_tup, e_lst, e_op1, e_op2, e_chn, e_and, e_or, e_not, e_ite, e_slc, e_call, e_met, dens, deno, dsrc, x_set, x_setm, x_dnew, x_unp, x_par, x_app, x_ext, x_dput, x_ret, x_retn, x_rse, x_ite, x_loop, x_wh, x_brk, x_cnt, x_pas, x_exp, x_par3, x_parc, x_unpl, x_tryw, e_callt, x_nil, x_cons, R.bind, R.fl, Fl.seq, dataOf, resOf, res, rd, tst, lift, lift2, sem1, sem2, alls, outOf, ioOut, putV, putsV, freeAt_eq, fs_un, fs_v, fs_m, fs_f, plainAt, ps_un, ps_v, ps_f, ps_m, lcF', condF', List.getElem?_cons_zero, List.getElem?_cons_succ, List.set_cons_zero, List.set_cons_succ, if_true, if_false, Bool.false_eq_true, reduceCtorEq, Option.map_some, Option.map_none, Bool.and_true, Bool.true_and, Bool.not_true, Bool.not_false, len_eT, len_eL, len_eRows, len_ePs, len_eO, len_eR, len_eRow, len_eV, len_eP, nd_eT, nd_eL, nd_eRows, nd_ePs, nd_eO, nd_eR, nd_eRow, nd_eV, nd_eP, ty_eT, ty_eRows, ty_ePs, ty_eO, ty_eR, ty_eRow, ty_eV, ty_eP, walk_eT, walk_eL, walk_eRows, walk_ePs, walk_eP, walk_eV, list_eT, list_eL, tup_eL, tup_eT, ix_eO0, ix_eO1, ix_eO2, ix_eO3, ix_eR0, ix_eR1, ix_eR2, ix_eRow0, ix_eRow1, ix_eP0, ix_eP1, non_eV, non_eT, non_eL, walk_eOs, ty_eL, in_eT, in_eL, eq_eL, eq_eT, eq_eV, lt_eV, gt_eV, eq_int, eq_str, lt_int, gt_int, nd_none, non_none, ty_str_none, ty_int_none, ty_bool_none, ty_tuple_none, ty_list_none, nd_bool, non_bool, ty_str_bool, ty_int_bool, ty_bool_bool, ty_tuple_bool, ty_list_bool, nd_int, non_int, ty_str_int, ty_int_int, ty_bool_int, ty_tuple_int, ty_list_int, nd_str, non_str, ty_str_str, ty_int_str, ty_bool_str, ty_tuple_str, ty_list_str, nd_list, non_list, ty_str_list, ty_int_list, ty_bool_list, ty_tuple_list, ty_list_list, nd_tuple, non_tuple, ty_str_tuple, ty_int_tuple, ty_bool_tuple, ty_tuple_tuple, ty_list_tuple, len_list, len_tuple, list_list, list_tuple, tup_list, tup_tuple, ix_list, ix_tuple, tr_bool, tr_none, tr_int, tr_list, tr_tuple, lst_list, lst_eL, atI_0, atI_1, atI_2, atI_3, $ts,*])
theorem nodup_len : ∀ (l D : List Str), l.Nodup → (∀ x ∈ l, x ∈ D) → l.length ≤ D.length
  | [], D, _, _ => Nat.zero_le _
  | x :: l, D, h, hs => by
    obtain ⟨h1, h2⟩ := List.nodup_cons.mp h
    have hx := hs x List.mem_cons_self
    have := nodup_len l (D.erase x) h2 fun y hy => by
      have hne : y ≠ x := fun e => h1 (e ▸ hy)
      exact (List.mem_erase_of_ne hne).mpr (hs y (List.mem_cons_of_mem _ hy))
    rw [List.length_erase_of_mem hx] at this
    have hp : 0 < D.length := List.length_pos_of_mem hx
    simp only [List.length_cons]
    omega
theorem add_eL {a b : List Str} (h : a.length + b.length ≤ 1000) : addD (eL a) (eL b) = some (eL (a ++ b)) := by
  simp only [addD, eL]
  rw [if_pos (by simp only [List.length_map]; exact lineK h)]
  simp
section
variable {T : Str → Option Fn} {n : Nat}
theorem clo_len {r : Rules} {ws f : List Str} (hf : risingS f) (hs : ∀ w ∈ f, w ∈ ws ++ r.needs.map (·.2)) : f.length ≤ ws.length + r.needs.length := by
  have := nodup_len f _ (rising_nodup hf) hs
  simpa using this
theorem closure_body {Φ : Fenv} {r : Rules} {d : PyData} {f b : List Str} {s4 s5 s6 : Sl} (h4 : plainSl s4 = true) (h5 : plainSl s5 = true) (h6 : plainSl s6 = true) (hl : f.length + r.needs.length < 64) :
    loopB Φ (.cons (.set 3 (.var 2)) (.cons (.set 4 (.lc (.var 6) [5, 6] (.of (.op2 .idx (.pk 0) (.cst (.int 0)))) (.so (.op2 .isin (.pk 5) (.pk 2))))) (.cons (.set 2 (.op1 .ssort (.op2 .add (.pk 2) (.pk 4)))) .nil))) [.v (eR r), .v d, .v (eL f), .v (eL b), s4, s5, s6] =
      .nx [.v (eR r), .v d, .v (eL (stepC r f)), .v (eL f), .v (eL ((r.needs.filter fun p => decide (p.1 ∈ f)).map (·.2))), s5, s6] := by
  have hlc := lcT2 (Φ := Φ) (elt := .var 6) (src := .of (.op2 .idx (.pk 0) (.cst (.int 0)))) (cond := .so (.op2 .isin (.pk 5) (.pk 2))) (i := 5) (j := 6) (ρ := [.v (eR r), .v d, .v (eL f), .v (eL f), s4, s5, s6]) (enc := eP) (ys := r.needs) (a := fun p => .str p.1) (b := fun p => .str p.2) (c := fun p => decide (p.1 ∈ f)) (e := fun p => .str p.2) (by decide) (fun _ _ => rfl) (by simp_arith []) (by simp_arith [h5]) (by simp_arith [h6])
    (fun p hp => by simp_arith []) (fun p hp _ => by simp_arith [])
  have em : (PyData.list ((r.needs.filter fun p => decide (p.1 ∈ f)).map fun p => .str p.2)) = eL ((r.needs.filter fun p => decide (p.1 ∈ f)).map (·.2)) := by simp [eL]
  rw [em] at hlc
  have hm : ((r.needs.filter fun p => decide (p.1 ∈ f)).map (·.2)).length ≤ r.needs.length := by
    rw [List.length_map]
    exact List.length_filter_le _ _
  have ha := add_eL (a := f) (b := (r.needs.filter fun p => decide (p.1 ∈ f)).map (·.2)) (by omega)
  have hs := ssort_eL (f ++ (r.needs.filter fun p => decide (p.1 ∈ f)).map (·.2)) (by rw [List.length_append]; omega)
  simp_arith [loopB, hlc, plain_free h4, ha, hs]
  rfl
theorem closure_test {Φ : Fenv} {r : Rules} {d : PyData} {f b : List Str} {s4 s5 s6 : Sl} : testB Φ (.op2 .ne (.pk 3) (.pk 2)) [.v (eR r), .v d, .v (eL f), .v (eL b), s4, s5, s6] = .ok (!decide (b = f)) [.v (eR r), .v d, .v (eL f), .v (eL b), s4, s5, s6] := by
  simp_arith [testB]
theorem closure_run {Φ : Fenv} {r : Rules} {d : PyData} {ws : List Str} (hl : ws.length + 2 * r.needs.length < 64) : ∀ (k m : Nat) (f b : List Str) (s4 s5 s6 : Sl), plainSl s4 = true → plainSl s5 = true → plainSl s6 = true → risingS f → (∀ w ∈ f, w ∈ ws ++ r.needs.map (·.2)) → pot r f ≤ k → k + 3 ≤ m → (b = f → stepC r f = f) →
    ∃ b' s4' s5' s6', whL (fun ρ1 => testB Φ (.op2 .ne (.pk 3) (.pk 2)) ρ1) (loopB Φ (.cons (.set 3 (.var 2)) (.cons (.set 4 (.lc (.var 6) [5, 6] (.of (.op2 .idx (.pk 0) (.cst (.int 0)))) (.so (.op2 .isin (.pk 5) (.pk 2))))) (.cons (.set 2 (.op1 .ssort (.op2 .add (.pk 2) (.pk 4)))) .nil)))) m [.v (eR r), .v d, .v (eL f), .v (eL b), s4, s5, s6] =
      .nx [.v (eR r), .v d, .v (eL (cloN r (k + 1) f)), b', s4', s5', s6'] := fun k m f b s4 s5 s6 h4 h5 h6 hf hs hp hm hb => by
  induction k generalizing m f b s4 s5 s6 with
  | zero =>
    obtain ⟨m, rfl⟩ : ∃ m', m = m' + 2 := ⟨m - 2, by omega⟩
    have hfix : stepC r f = f := by
      apply Classical.byContradiction
      intro h
      have := pot_lt hf h
      omega
    have hlen := clo_len hf hs
    rw [cloN_fix hfix]
    unfold whL
    rw [closure_test]
    by_cases e : b = f
    · simp only [R.fl, e, decide_true, Bool.not_true, Bool.false_eq_true, if_false]
      exact ⟨_, _, _, _, rfl⟩
    · simp only [R.fl, e, decide_false, Bool.not_false, if_true]
      rw [closure_body h4 h5 h6 (by omega), hfix]
      dsimp only
      unfold whL
      rw [closure_test]
      simp only [R.fl, decide_true, Bool.not_true, Bool.false_eq_true, if_false]
      exact ⟨_, _, _, _, rfl⟩
  | succ k ih =>
    obtain ⟨m, rfl⟩ : ∃ m', m = m' + 1 := ⟨m - 1, by omega⟩
    have hlen := clo_len hf hs
    unfold whL
    rw [closure_test]
    by_cases e : b = f
    · rw [cloN_fix (hb e)]
      simp only [R.fl, e, decide_true, Bool.not_true, Bool.false_eq_true, if_false]
      exact ⟨_, _, _, _, rfl⟩
    · simp only [R.fl, e, decide_false, Bool.not_false, if_true]
      rw [closure_body h4 h5 h6 (by omega)]
      dsimp only
      have hp' : pot r (stepC r f) ≤ k ∨ stepC r f = f := by
        by_cases h : stepC r f = f
        · exact .inr h
        · have := pot_lt hf h
          exact .inl (by omega)
      rcases hp' with hp' | hfix
      · refine ih m (stepC r f) f _ s5 s6 rfl h5 h6 (setW_rising _) (fun w hw => ?_) hp' (by omega) (fun e => by rw [← e, ← e])
        rcases mem_stepC.mp hw with z | ⟨p, h1, h2, rfl⟩
        · exact hs w z
        · exact List.mem_append_right _ (List.mem_map_of_mem h1)
      · rw [cloN_fix hfix, hfix]
        obtain ⟨m, rfl⟩ : ∃ m', m = m' + 1 := ⟨m - 1, by omega⟩
        unfold whL
        rw [closure_test]
        simp only [R.fl, decide_true, Bool.not_true, Bool.false_eq_true, if_false]
        exact ⟨_, _, _, _, rfl⟩
theorem phi_closure (L : LibC0 T) {r : Rules} {d : PyData} {ws : List Str} (hr : r.needs.length ≤ 8) (hw : ws.length ≤ 40) (hd : ssortD d = some (eL (setW ws))) : Phi T (n + 1) "closure" [.d (eR r), .d d] = .ret (eL (clo r ws)) .none := by
  rw [Phi_succ L.closure, run1 [.v (eR r), .v d, .un, .un, .un, .un, .un] rfl rfl]
  obtain ⟨b', s4', s5', s6', h⟩ := closure_run (Φ := Phi T n) (r := r) (d := d) (ws := ws) (by omega) r.needs.length 200 (setW ws) [] .un .un .un rfl rfl rfl (setW_rising _) (fun w hw => List.mem_append_left _ (mem_setW.mp hw)) (pot_le _ _) (by omega) (fun e => by
    rw [← e]
    refine rising_ext (setW_rising _) List.Pairwise.nil fun w => ?_
    rw [mem_stepC]
    simp)
  have e0 : PyData.list [] = eL [] := rfl
  simp_arith [c_closure, hd, e0, h]
  rfl
end
end G6
-- ## P8
/-! # P8: common, musts, is_fit, order_of -/
namespace G6
open PySem
local macro_rules | `(tactic| simp_arith [$ts,*]) => `(tactic| simp only [e_var, e_pk, e_cst, e_glb, e_fnv, e_tup, e_lst, e_op1, e_op2, e_chn, e_and, e_or, e_not, e_ite, e_slc, e_call, e_met, dens, deno, dsrc, x_set, x_setm, x_dnew, x_unp, x_par, x_app, x_ext, x_dput, x_ret, x_retn, x_rse, x_ite, x_loop, x_wh, x_brk, x_cnt, x_pas, x_exp, x_par3, x_parc, x_unpl, x_tryw, e_callt, x_nil, x_cons, R.bind, R.fl, Fl.seq, dataOf, resOf, res, rd, tst, lift, lift2, sem1, sem2, alls, outOf, ioOut, putV, putsV, freeAt_eq, fs_un, fs_v, fs_m, fs_f, plainAt, ps_un, ps_v, ps_f, ps_m, lcF', condF', List.getElem?_cons_zero, List.getElem?_cons_succ, List.set_cons_zero, List.set_cons_succ, if_true, if_false, Bool.false_eq_true, reduceCtorEq, Option.map_some, Option.map_none, Bool.and_true, Bool.true_and, Bool.not_true, Bool.not_false, len_eT, len_eL, len_eRows, len_ePs, len_eO, len_eR, len_eRow, len_eV, len_eP, nd_eT, nd_eL, nd_eRows, nd_ePs, nd_eO, nd_eR, nd_eRow, nd_eV, nd_eP, ty_eT, ty_eRows, ty_ePs, ty_eO, ty_eR, ty_eRow, ty_eV, ty_eP, walk_eT, walk_eL, walk_eRows, walk_ePs, walk_eP, walk_eV, list_eT, list_eL, tup_eL, tup_eT, ix_eO0, ix_eO1, ix_eO2, ix_eO3, ix_eR0, ix_eR1, ix_eR2, ix_eRow0, ix_eRow1, ix_eP0, ix_eP1, non_eV, non_eT, non_eL, walk_eOs, ty_eL, in_eT, in_eL, eq_eL, eq_eT, eq_eV, lt_eV, gt_eV, eq_int, eq_str, lt_int, gt_int, nd_none, non_none, ty_str_none, ty_int_none, ty_bool_none, ty_tuple_none, ty_list_none, nd_bool, non_bool, ty_str_bool, ty_int_bool, ty_bool_bool, ty_tuple_bool, ty_list_bool, nd_int, non_int, ty_str_int, ty_int_int, ty_bool_int, ty_tuple_int, ty_list_int, nd_str, non_str, ty_str_str, ty_int_str, ty_bool_str, ty_tuple_str, ty_list_str, nd_list, non_list, ty_str_list, ty_int_list, ty_bool_list, ty_tuple_list, ty_list_list, nd_tuple, non_tuple, ty_str_tuple, ty_int_tuple, ty_bool_tuple, ty_tuple_tuple, ty_list_tuple, len_list, len_tuple, list_list, list_tuple, tup_list, tup_tuple, ix_list, ix_tuple, tr_bool, tr_none, tr_int, tr_list, tr_tuple, lst_list, lst_eL, atI_0, atI_1, atI_2, atI_3, $ts,*])
theorem ix_eOs {os : List Offer} {k : Nat} {o : Offer} (h : os[k]? = some o) : idxD (eOs os) (.int k) = some (eO o) := L2.atI_nat (by rw [List.getElem?_map, h]; rfl)
def featsOf (o : Offer) (v : Ver) : List Str := (featuresAt o v).getD []
def keepC (v : Ver) (acc : List Str) (o : Offer) : List Str := acc.filter fun w => decide (w ∈ featsOf o v) && !decide (w ∈ o.bar)
def commonW (os : List Offer) (v : Ver) : List Str := os.foldl (keepC v) (match os with
  | [] => []
  | o :: _ => featsOf o v)
theorem feats_some {o : Offer} {v : Ver} (h : (featuresAt o v).isSome = true) : featuresAt o v = some (featsOf o v) := by
  unfold featsOf
  cases e : featuresAt o v with
  | none => rw [e] at h; cases h
  | some ws => rfl
section
variable {T : Str → Option Fn} {n : Nat}
theorem phi_common (L : LibC0 T) {o0 : Offer} {rest : List Offer} {v : Ver} (h : ∀ o ∈ o0 :: rest, (featuresAt o v).isSome = true) : Phi T (n + 2) "common" [.d (eOs (o0 :: rest)), .d (eV v)] = .ret (eL (commonW (o0 :: rest) v)) .none := by
  rw [Phi_succ L.common, run1 [.v (eOs (o0 :: rest)), .v (eV v), .un, .un, .un, .un] rfl rfl]
  have hf0 := phi_features_at (n := n) L o0 v
  rw [feats_some (h o0 List.mem_cons_self)] at hf0
  have i0 : idxD (eOs (o0 :: rest)) (.int 0) = some (eO o0) := ix_eOs (k := 0) rfl
  have e1 : eOT (some (featsOf o0 v)) = eT (featsOf o0 v) := rfl
  rw [e1] at hf0
  have hlc := lcT1n (Φ := Phi T (n + 1)) (elt := .var 5) (src := .of (.call "features_at" none (.cons (.op2 .idx (.pk 0) (.cst (.int 0))) (.cons (.var 1) .nil)))) (i := 5) (ρ := [.v (eOs (o0 :: rest)), .v (eV v), .un, .un, .un, .un]) (enc := PyData.str) (ys := featsOf o0 v) (e := PyData.str) (by simp_arith [i0, callK_2 hf0]) rfl (fun y hy => by simp_arith [])
  have em : PyData.list ((featsOf o0 v).map .str) = eL (featsOf o0 v) := rfl
  rw [em] at hlc
  have key := forT (enc := eO) (body := loopB (Phi T (n + 1)) (.cons (.set 4 (.call "features_at" none (.cons (.var 3) (.cons (.var 1) .nil)))) (.cons (.set 2 (.lc (.var 5) [5] (.of (.var 2)) (.so (.and (.op2 .isin (.pk 5) (.pk 4)) (.op2 .notin (.pk 5) (.op2 .idx (.pk 3) (.cst (.int 3)))))))) .nil)))
    (tg := [3]) (Rp := fun (acc : List Str) ρ => ∃ s3 s4 s5, plainSl s3 = true ∧ plainSl s4 = true ∧ plainSl s5 = true ∧ ρ = [.v (eOs (o0 :: rest)), .v (eV v), .v (eL acc), s3, s4, s5]) (step := fun acc o => .go (keepC v acc o)) (ys := o0 :: rest) (a := featsOf o0 v) (ρ := [.v (eOs (o0 :: rest)), .v (eV v), .v (eL (featsOf o0 v)), .un, .un, .un]) ⟨.un, .un, .un, rfl, rfl, rfl, rfl⟩ (fun acc o ρ ho ⟨s3, s4, s5, h3, h4, h5, e⟩ => by
      subst e
      have hf := phi_features_at (n := n) L o v
      rw [feats_some (h o ho)] at hf
      have e1 : eOT (some (featsOf o v)) = eT (featsOf o v) := rfl
      rw [e1] at hf
      have hlc := lcT1 (Φ := Phi T (n + 1)) (elt := .var 5) (src := .of (.var 2)) (cond := .so (.and (.op2 .isin (.pk 5) (.pk 4)) (.op2 .notin (.pk 5) (.op2 .idx (.pk 3) (.cst (.int 3)))))) (i := 5) (ρ := [.v (eOs (o0 :: rest)), .v (eV v), .v (eL acc), .v (eO o), .v (eT (featsOf o v)), s5]) (enc := PyData.str) (ys := acc) (c := fun w => decide (w ∈ featsOf o v) && !decide (w ∈ o.bar)) (e := PyData.str) (by simp_arith []) (by simp_arith [h5]) (fun w hw => by
        by_cases h1 : w ∈ featsOf o v
        · simp_arith [h1, decide_true]
        · simp_arith [h1, decide_false, Bool.false_and]) (fun y hy _ => by simp_arith [])
      have em : PyData.list ((acc.filter fun w => decide (w ∈ featsOf o v) && !decide (w ∈ o.bar)).map .str) = eL (keepC v acc o) := rfl
      rw [em] at hlc
      refine ⟨by simp_arith [List.all_cons, List.all_nil, plain_free h3], [.v (eOs (o0 :: rest)), .v (eV v), .v (eL acc), .v (eO o), s4, s5], rfl, _, .inl ?_, .v (eO o), .v (eT (featsOf o v)), s5, rfl, rfl, h5, rfl⟩
      simp_arith [loopB, callK_2 hf, plain_free h4, hlc])
  rw [foldS_go (g := keepC v)] at key
  obtain ⟨ρ', k1, s3, s4, s5, _, _, _, k4⟩ := key
  simp_arith [c_common, hlc, walk_eOs, k1, k4]
  rfl
/-! ### musts -/
def eD (ks : List Str) : PyData := .dict (ks.map fun k => (.str k, .bool true))
theorem tup_eD (ks : List Str) : tupDict (ks.map fun k => (PyData.str k, PyData.bool true)) = false := by cases ks <;> rfl
theorem rows_eD (ks : List Str) : rowsD (ks.map fun k => (PyData.str k, PyData.bool true)) = ks.map fun k => (PyData.str k, PyData.bool true) := by cases ks <;> rfl
theorem put_eD {ks : List Str} (w : Str) (h : ks.length < 1000) : dputD (.str w) (.bool true) (eD ks) = some (eD (stepS ks w)) := by
  unfold dputD eD
  have hk : keyFits (ks.map fun k => (PyData.str k, PyData.bool true)) (.str w) = true := by
    unfold keyFits
    rw [tup_eD]
    rfl
  simp only [hk, List.length_map, h, decide_true, Bool.and_self, if_true]
  have ha : ((ks.map fun k => (PyData.str k, PyData.bool true)).any fun r => PyData.eqv r.1 (.str w)) = decide (w ∈ ks) := by
    rw [← any_eqv]
    simp [List.any_map, Function.comp_def]
  unfold putRow stepS
  rw [ha]
  by_cases hw : w ∈ ks
  · simp only [hw, decide_true, if_true]
    congr 2
    rw [List.map_map]
    apply List.map_congr_left
    intro k _
    simp only [Function.comp, eqv_str]
    by_cases e : k = w <;> simp [e]
  · simp [hw]
theorem keys_eD (ks : List Str) : listD (eD ks) = some (eL ks) := by
  simp only [listD, eD, dictKeys, rows_eD, List.map_map, eL]
  rfl
def mustsW (os : List Offer) : List Str := setW (os.flatMap (·.must))
theorem musts_inner {Φ : Fenv} {d : PyData} {o : Offer} : ∀ {ws : List Str} {ks : List Str} {s2 s3 : Sl}, plainSl s3 = true → ks.length + ws.length < 1000 →
    ∃ s3', plainSl s3' = true ∧ forL (loopB Φ (.cons (.dput 1 (.var 3) (.cst (.bool true))) .nil)) [3] (ws.map .str) [.v d, .m (eD ks), s2, s3] = .nx [.v d, .m (eD (ws.foldl stepS ks)), s2, s3']
  | [], ks, s2, s3, h3, _ => ⟨s3, h3, rfl⟩
  | w :: r, ks, s2, s3, h3, hl => by
    simp only [List.length_cons] at hl
    have hm : mutD [.v d, .m (eD ks), s2, .v (.str w)] 1 = true := rfl
    have hc : chg [.v d, .m (eD ks), s2, .v (.str w)] 1 (dputD (.str w) (.bool true)) = some [.v d, .m (eD (stepS ks w)), s2, .v (.str w)] := by
      simp only [chg, List.getElem?_cons_zero, List.getElem?_cons_succ, put_eD w (by omega : ks.length < 1000), Option.map_some, List.set_cons_succ, List.set_cons_zero]
    have hb : loopB Φ (.cons (.dput 1 (.var 3) (.cst (.bool true))) .nil) [.v d, .m (eD ks), s2, .v (.str w)] = .nx [.v d, .m (eD (stepS ks w)), s2, .v (.str w)] := by
      simp_arith [loopB, hm, hc]
    rw [List.map_cons]
    unfold forL
    have hf : [3].all (freeAt [.v d, .m (eD ks), s2, s3]) = true := by simp_arith [List.all_cons, List.all_nil, plain_free h3]
    rw [if_pos hf]
    have hbt : bindT [3] (.str w) [.v d, .m (eD ks), s2, s3] = some [.v d, .m (eD ks), s2, .v (.str w)] := rfl
    rw [hbt]
    dsimp only
    rw [hb]
    dsimp only
    have := stepS_len ks w
    exact musts_inner (ws := r) (ks := stepS ks w) (o := o) rfl (by omega)
theorem musts_outer {Φ : Fenv} {d : PyData} : ∀ {os : List Offer} {ks : List Str} {s2 s3 : Sl}, plainSl s2 = true → plainSl s3 = true → ks.length + (os.flatMap (·.must)).length < 1000 →
    ∃ s2' s3', forL (loopB Φ (.cons (.loop [3] (.of (.op2 .idx (.pk 2) (.cst (.int 2)))) (.cons (.dput 1 (.var 3) (.cst (.bool true))) .nil)) .nil)) [2] (os.map eO) [.v d, .m (eD ks), s2, s3] = .nx [.v d, .m (eD ((os.flatMap (·.must)).foldl stepS ks)), s2', s3']
  | [], ks, s2, s3, h2, h3, _ => ⟨s2, s3, rfl⟩
  | o :: r, ks, s2, s3, h2, h3, hl => by
    simp only [List.flatMap_cons, List.length_append] at hl
    obtain ⟨s3', h3', hi⟩ := musts_inner (Φ := Φ) (d := d) (o := o) (ws := o.must) (ks := ks) (s2 := .v (eO o)) (s3 := s3) h3 (by omega)
    have hb : loopB Φ (.cons (.loop [3] (.of (.op2 .idx (.pk 2) (.cst (.int 2)))) (.cons (.dput 1 (.var 3) (.cst (.bool true))) .nil)) .nil) [.v d, .m (eD ks), .v (eO o), s3] = .nx [.v d, .m (eD (o.must.foldl stepS ks)), .v (eO o), s3'] := by
      rw [loopB]
      simp_arith [hi]
    rw [List.map_cons]
    unfold forL
    have hf : [2].all (freeAt [.v d, .m (eD ks), s2, s3]) = true := by simp_arith [List.all_cons, List.all_nil, plain_free h2]
    rw [if_pos hf]
    have hbt : bindT [2] (eO o) [.v d, .m (eD ks), s2, s3] = some [.v d, .m (eD ks), .v (eO o), s3] := rfl
    rw [hbt]
    dsimp only
    rw [hb]
    dsimp only
    have := foldS_len o.must ks
    obtain ⟨s2'', s3'', hh⟩ := musts_outer (Φ := Φ) (d := d) (os := r) (ks := o.must.foldl stepS ks) (s2 := .v (eO o)) (s3 := s3') rfl h3' (by omega)
    refine ⟨s2'', s3'', ?_⟩
    rw [hh, List.flatMap_cons, List.foldl_append]
theorem phi_musts (L : LibC0 T) {os : List Offer} (hl : (os.flatMap (·.must)).length < 1000) : Phi T (n + 1) "musts" [.d (eOs os)] = .ret (eL (mustsW os)) .none := by
  rw [Phi_succ L.musts, run1 [.v (eOs os), .un, .un, .un] rfl rfl]
  obtain ⟨s2', s3', hh⟩ := musts_outer (Φ := Phi T n) (d := eOs os) (os := os) (ks := []) (s2 := .un) (s3 := .un) rfl rfl (by simpa using hl)
  have e0 : PyData.dict [] = eD [] := rfl
  have hd : (os.flatMap (·.must)).foldl stepS [] = dedup (os.flatMap (·.must)) := dedup_set _
  rw [hd] at hh
  have hs := sorted_eL (dedup (os.flatMap (·.must))) (by have := dedup_len (os.flatMap (·.must)); omega)
  have hk := keys_eD (dedup (os.flatMap (·.must)))
  simp_arith [c_musts, e0, walk_eOs, hh, hk, hs]
  rfl
/-! ### is_fit, order_of -/
def isFit (r : Rules) (known ws : List Str) : Bool := ws.all (fun w => decide (w ∈ known)) && (barredPair r ws).isNone && decide (clo r ws = ws.mergeSort leS)
theorem phi_is_fit (L : LibC T) {r : Rules} (hr : r.needs.length ≤ 8) {known ws : List Str} (hw : ws.length ≤ 40) : Phi T (n + 2) "is_fit" [.d (eR r), .d (eL known), .d (eL ws)] = .ret (.bool (isFit r known ws)) .none := by
  rw [Phi_succ L.is_fit, run1 [.v (eR r), .v (eL known), .v (eL ws), .un] rfl rfl]
  have hlc := lcT1n (Φ := Phi T (n + 1)) (elt := .op2 .isin (.pk 3) (.pk 1)) (src := .of (.var 2)) (i := 3) (ρ := [.v (eR r), .v (eL known), .v (eL ws), .un]) (enc := PyData.str) (ys := ws) (e := fun w => .bool (decide (w ∈ known))) (by simp_arith []) rfl (fun y hy => by simp_arith [])
  have hb := phi_barred_pair (n := n) L.toLibC0 r (d := eL ws) (ws := ws) (fun x => in_eL x ws)
  have hc := phi_closure (n := n) L.toLibC0 (r := r) (d := eL ws) (ws := ws) hr hw (ssort_eL ws (by omega))
  have hs := sorted_eL ws (by omega)
  unfold isFit
  cases ha : ws.all (fun w => decide (w ∈ known)) with
  | false =>
    simp_arith [c_is_fit, hlc, all_map (fun w => decide (w ∈ known)), ha, Bool.false_and]
  | true =>
    cases hp : barredPair r ws with
    | some p =>
      rw [hp] at hb
      have e1 : eOP (some p) = eP p := rfl
      rw [e1] at hb
      have e2 : isNoneD (eP p) = false := rfl
      simp_arith [c_is_fit, hlc, all_map (fun w => decide (w ∈ known)), ha, callK_2 hb, e2, Option.isNone_some, Bool.false_and]
    | none =>
      rw [hp] at hb
      have e1 : eOP none = PyData.none := rfl
      rw [e1] at hb
      simp_arith [c_is_fit, hlc, all_map (fun w => decide (w ∈ known)), ha, callK_2 hb, callK_2 hc, hs, Option.isNone_none]
def orderOf (r : Rules) (known : List Str) : List Str := r.order.filter (fun w => decide (w ∈ known)) ++ known.filter (fun w => !decide (w ∈ r.order))
theorem phi_order_of (L : LibC T) {r : Rules} {known : List Str} (h1 : r.order.length ≤ 6) (h2 : known.length ≤ 900) : Phi T (n + 1) "order_of" [.d (eR r), .d (eL known)] = .ret (eL (orderOf r known)) .none := by
  rw [Phi_succ L.order_of, run1 [.v (eR r), .v (eL known), .un] rfl rfl]
  have l1 := lcT1 (Φ := Phi T n) (elt := .var 2) (src := .of (.op2 .idx (.pk 0) (.cst (.int 2)))) (cond := .so (.op2 .isin (.pk 2) (.pk 1))) (i := 2) (ρ := [.v (eR r), .v (eL known), .un]) (enc := PyData.str) (ys := r.order) (c := fun w => decide (w ∈ known)) (e := PyData.str) (by simp_arith []) rfl (fun y hy => by simp_arith []) (fun y hy _ => by simp_arith [])
  have l2 := lcT1 (Φ := Phi T n) (elt := .var 2) (src := .of (.var 1)) (cond := .so (.op2 .notin (.pk 2) (.op2 .idx (.pk 0) (.cst (.int 2))))) (i := 2) (ρ := [.v (eR r), .v (eL known), .un]) (enc := PyData.str) (ys := known) (c := fun w => !decide (w ∈ r.order)) (e := PyData.str) (by simp_arith []) rfl (fun y hy => by simp_arith []) (fun y hy _ => by simp_arith [])
  have a := add_eL (a := r.order.filter fun w => decide (w ∈ known)) (b := known.filter fun w => !decide (w ∈ r.order)) (by
    have := List.length_filter_le (fun w => decide (w ∈ known)) r.order
    have := List.length_filter_le (fun w => !decide (w ∈ r.order)) known
    omega)
  simp only [eL] at a l1 l2 ⊢
  simp_arith [c_order_of, l1, l2, a]
  simp [orderOf]
end
end G6
-- ## P9
/-! # P9: versions_of, best_at, best_of, choose -/
namespace G6
open PySem
local macro_rules | `(tactic| simp_arith [$ts,*]) => `(tactic| simp only [e_var, e_pk, e_cst, e_glb, e_fnv, e_tup, e_lst, e_op1, e_op2, e_chn, e_and, e_or, e_not, e_ite, e_slc, e_call, e_met, dens, deno, dsrc, x_set, x_setm, x_dnew, x_unp, x_par, x_app, x_ext, x_dput, x_ret, x_retn, x_rse, x_ite, x_loop, x_wh, x_brk, x_cnt, x_pas, x_exp, x_par3, x_parc, x_unpl, x_tryw, e_callt, x_nil, x_cons, R.bind, R.fl, Fl.seq, dataOf, resOf, res, rd, tst, lift, lift2, sem1, sem2, alls, outOf, ioOut, putV, putsV, freeAt_eq, fs_un, fs_v, fs_m, fs_f, plainAt, ps_un, ps_v, ps_f, ps_m, lcF', condF', List.getElem?_cons_zero, List.getElem?_cons_succ, List.set_cons_zero, List.set_cons_succ, if_true, if_false, Bool.false_eq_true, reduceCtorEq, Option.map_some, Option.map_none, Bool.and_true, Bool.true_and, Bool.not_true, Bool.not_false, len_eT, len_eL, len_eRows, len_ePs, len_eO, len_eR, len_eRow, len_eV, len_eP, nd_eT, nd_eL, nd_eRows, nd_ePs, nd_eO, nd_eR, nd_eRow, nd_eV, nd_eP, ty_eT, ty_eRows, ty_ePs, ty_eO, ty_eR, ty_eRow, ty_eV, ty_eP, walk_eT, walk_eL, walk_eRows, walk_ePs, walk_eP, walk_eV, list_eT, list_eL, tup_eL, tup_eT, ix_eO0, ix_eO1, ix_eO2, ix_eO3, ix_eR0, ix_eR1, ix_eR2, ix_eRow0, ix_eRow1, ix_eP0, ix_eP1, non_eV, non_eT, non_eL, walk_eOs, ty_eL, in_eT, in_eL, eq_eL, eq_eT, eq_eV, lt_eV, gt_eV, eq_int, eq_str, lt_int, gt_int, nd_none, non_none, ty_str_none, ty_int_none, ty_bool_none, ty_tuple_none, ty_list_none, nd_bool, non_bool, ty_str_bool, ty_int_bool, ty_bool_bool, ty_tuple_bool, ty_list_bool, nd_int, non_int, ty_str_int, ty_int_int, ty_bool_int, ty_tuple_int, ty_list_int, nd_str, non_str, ty_str_str, ty_int_str, ty_bool_str, ty_tuple_str, ty_list_str, nd_list, non_list, ty_str_list, ty_int_list, ty_bool_list, ty_tuple_list, ty_list_list, nd_tuple, non_tuple, ty_str_tuple, ty_int_tuple, ty_bool_tuple, ty_tuple_tuple, ty_list_tuple, len_list, len_tuple, list_list, list_tuple, tup_list, tup_tuple, ix_list, ix_tuple, tr_bool, tr_none, tr_int, tr_list, tr_tuple, lst_list, lst_eL, atI_0, atI_1, atI_2, atI_3, $ts,*])
def eVs (vs : List Ver) : PyData := .list (vs.map eV)
theorem walk_eVs (vs : List Ver) : walkOf (eVs vs) = some (vs.map eV) := rfl
theorem rev_eVs (vs : List Ver) : revD (eVs vs) = some (eVs vs.reverse) := by simp [revD, eVs]
def keepV (acc : List Ver) (o : Offer) : List Ver := acc.filter fun v => (featuresAt o v).isSome
def versionsOf (os : List Offer) : List Ver := (os.foldl keepV (match os with
  | [] => []
  | o :: _ => o.rows.map (·.1))).reverse
section
variable {T : Str → Option Fn} {n : Nat}
theorem eOT_non (o : Option (List Str)) : isNoneD (eOT o) = !o.isSome := by cases o <;> rfl
theorem phi_versions_of (L : LibC0 T) {o0 : Offer} {rest : List Offer} : Phi T (n + 2) "versions_of" [.d (eOs (o0 :: rest))] = .ret (eVs (versionsOf (o0 :: rest))) .none := by
  rw [Phi_succ L.versions_of, run1 [.v (eOs (o0 :: rest)), .un, .un, .un, .un] rfl rfl]
  have i0 : idxD (eOs (o0 :: rest)) (.int 0) = some (eO o0) := ix_eOs (k := 0) rfl
  have hlc := lcT2n (Φ := Phi T (n + 1)) (elt := .var 3) (src := .of (.op2 .idx (.op2 .idx (.pk 0) (.cst (.int 0))) (.cst (.int 0)))) (i := 3) (j := 4) (ρ := [.v (eOs (o0 :: rest)), .un, .un, .un, .un]) (enc := eRow) (ys := o0.rows) (a := fun r => eV r.1) (b := fun r => eT r.2) (e := fun r => eV r.1) (by decide) (fun _ _ => rfl) (by simp_arith [i0]) rfl rfl (fun y hy => by simp_arith [])
  have em : PyData.list (o0.rows.map fun r => eV r.1) = eVs (o0.rows.map (·.1)) := by simp [eVs, Function.comp_def]
  rw [em] at hlc
  have key := forT (enc := eO) (body := loopB (Phi T (n + 1)) (.cons (.set 1 (.lc (.var 3) [3] (.of (.var 1)) (.so (.op1 .notNone (.call "features_at" none (.cons (.var 2) (.cons (.var 3) .nil))))))) .nil))
    (tg := [2]) (Rp := fun (acc : List Ver) ρ => ∃ s2 s3 s4, plainSl s2 = true ∧ plainSl s3 = true ∧ plainSl s4 = true ∧ ρ = [.v (eOs (o0 :: rest)), .v (eVs acc), s2, s3, s4]) (step := fun acc o => .go (keepV acc o)) (ys := o0 :: rest) (a := o0.rows.map (·.1)) (ρ := [.v (eOs (o0 :: rest)), .v (eVs (o0.rows.map (·.1))), .un, .un, .un]) ⟨.un, .un, .un, rfl, rfl, rfl, rfl⟩ (fun acc o ρ ho ⟨s2, s3, s4, h2, h3, h4, e⟩ => by
      subst e
      have hlc := lcT1 (Φ := Phi T (n + 1)) (elt := .var 3) (src := .of (.var 1)) (cond := .so (.op1 .notNone (.call "features_at" none (.cons (.var 2) (.cons (.var 3) .nil))))) (i := 3) (ρ := [.v (eOs (o0 :: rest)), .v (eVs acc), .v (eO o), s3, s4]) (enc := eV) (ys := acc) (c := fun v => (featuresAt o v).isSome) (e := eV) (by simp_arith [walk_eVs]) (by simp_arith [h3]) (fun v hv => by
        simp_arith [callK_2 (phi_features_at (n := n) L o v), eOT_non, Bool.not_not]) (fun y hy _ => by simp_arith [])
      have em : PyData.list ((acc.filter fun v => (featuresAt o v).isSome).map eV) = eVs (keepV acc o) := rfl
      rw [em] at hlc
      refine ⟨by simp_arith [List.all_cons, List.all_nil, plain_free h2], [.v (eOs (o0 :: rest)), .v (eVs acc), .v (eO o), s3, s4], rfl, _, .inl ?_, .v (eO o), s3, s4, rfl, h3, h4, rfl⟩
      simp_arith [loopB, hlc])
  rw [foldS_go (g := keepV)] at key
  obtain ⟨ρ', k1, s3, s4, s5, _, _, _, k4⟩ := key
  simp_arith [c_versions_of, hlc, walk_eOs, k1, k4, rev_eVs]
  rfl
/-! ### best_at -/
def tryF (r : Rules) (known : List Str) (acc : List Str) (f : Str) : List Str := if isFit r known (clo r (acc ++ [f])) then clo r (acc ++ [f]) else acc
def bestAt (os : List Offer) (r : Rules) (v : Ver) : Option (List Str) := if isFit r (commonW os v) (clo r (mustsW os)) then some ((orderOf r (commonW os v)).foldl (tryF r (commonW os v)) (clo r (mustsW os))) else none
theorem one_eL (f : Str) : PyData.list [.str f] = eL [f] := rfl
/-- words of a small world -/
structure Small (r : Rules) (U : List Str) : Prop where
  len : U.length ≤ 12
  needs : r.needs.length ≤ 8
  two : ∀ p ∈ r.needs, p.2 ∈ U
theorem small_clo {r : Rules} {U ws : List Str} (s : Small r U) (h : ∀ w ∈ ws, w ∈ U) : (∀ w ∈ clo r ws, w ∈ U) ∧ (clo r ws).length ≤ 12 := by
  have h1 : ∀ w ∈ clo r ws, w ∈ U := clo_least r (S := (· ∈ U)) (fun p hp _ => s.two p hp) h
  exact ⟨h1, Nat.le_trans (nodup_len _ _ (rising_nodup (clo_rising r ws)) h1) s.len⟩
theorem phi_best_at (L : LibC T) {o0 : Offer} {rest : List Offer} {r : Rules} {v : Ver} {U : List Str} (s : Small r U) (hU : ∀ o ∈ o0 :: rest, ∀ w ∈ o.must, w ∈ U) (hm : ((o0 :: rest).flatMap (·.must)).length < 1000) (hord : r.order.length ≤ 6) (hv : ∀ o ∈ o0 :: rest, (featuresAt o v).isSome = true) (hk : ∀ w ∈ commonW (o0 :: rest) v, w ∈ U) (hkl : (commonW (o0 :: rest) v).length ≤ 12) (ho : ∀ w ∈ r.order, w ∈ U) :
    Phi T (n + 3) "best_at" [.d (eOs (o0 :: rest)), .d (eR r), .d (eV v)] = .ret (eOT (bestAt (o0 :: rest) r v)) .none := by
  rw [Phi_succ L.best_at, run1 [.v (eOs (o0 :: rest)), .v (eR r), .v (eV v), .un, .un, .un, .un] rfl rfl]
  have h1 := phi_common (n := n) L.toLibC0 hv
  have h2 := phi_musts (n := n + 1) L.toLibC0 hm
  have mU : ∀ w ∈ mustsW (o0 :: rest), w ∈ U := fun w hw => by
    obtain ⟨o, ho, hw⟩ := List.mem_flatMap.mp (mem_setW.mp hw)
    exact hU o ho w hw
  have ml : (mustsW (o0 :: rest)).length ≤ 12 := Nat.le_trans (nodup_len _ _ (setW_nodup _) mU) s.len
  have h3 := phi_closure (n := n + 1) L.toLibC0 (r := r) (d := eL (mustsW (o0 :: rest))) (ws := mustsW (o0 :: rest)) s.needs (by omega) (ssort_eL _ (by omega))
  obtain ⟨c1, c2⟩ := small_clo s mU
  have h4 := phi_is_fit (n := n) L s.needs (known := commonW (o0 :: rest) v) (ws := clo r (mustsW (o0 :: rest))) (by omega)
  have h5 := phi_order_of (n := n + 1) L (r := r) (known := commonW (o0 :: rest) v) hord (by omega)
  unfold bestAt
  cases hf : isFit r (commonW (o0 :: rest) v) (clo r (mustsW (o0 :: rest))) with
  | false =>
    rw [hf] at h4
    simp_arith [c_best_at, callK_2 h1, callK_1 h2, callK_2 h3, callK_3 h4]
    rfl
  | true =>
    rw [hf] at h4
    have key := forT (enc := PyData.str) (body := loopB (Phi T (n + 2)) (.cons (.set 6 (.call "closure" none (.cons (.var 1) (.cons (.op2 .add (.pk 4) (.lst (.cons (.var 5) .nil))) .nil)))) (.cons (.ite (.call "is_fit" none (.cons (.var 1) (.cons (.var 3) (.cons (.var 6) .nil)))) (.cons (.set 4 (.var 6)) .nil) .nil) .nil)))
      (tg := [5]) (Rp := fun (acc : List Str) ρ => (∀ w ∈ acc, w ∈ U) ∧ acc.length ≤ 12 ∧ ∃ s5 s6, plainSl s5 = true ∧ plainSl s6 = true ∧ ρ = [.v (eOs (o0 :: rest)), .v (eR r), .v (eV v), .v (eL (commonW (o0 :: rest) v)), .v (eL acc), s5, s6]) (step := fun acc f => .go (tryF r (commonW (o0 :: rest) v) acc f)) (ys := orderOf r (commonW (o0 :: rest) v)) (a := clo r (mustsW (o0 :: rest)))
      (ρ := [.v (eOs (o0 :: rest)), .v (eR r), .v (eV v), .v (eL (commonW (o0 :: rest) v)), .v (eL (clo r (mustsW (o0 :: rest)))), .un, .un]) ⟨c1, c2, .un, .un, rfl, rfl, rfl⟩ (fun acc f ρ hfm ⟨a1, a2, s5, s6, p5, p6, e⟩ => by
        subst e
        have fU : f ∈ U := by
          unfold orderOf at hfm
          rcases List.mem_append.mp hfm with z | z
          · exact ho f (List.mem_filter.mp z).1
          · exact hk f (List.mem_filter.mp z).1
        have aU : ∀ w ∈ acc ++ [f], w ∈ U := fun w hw => by
          rcases List.mem_append.mp hw with z | z
          · exact a1 w z
          · rw [List.mem_singleton.mp z]; exact fU
        obtain ⟨d1, d2⟩ := small_clo s aU
        have b1 := phi_closure (n := n + 1) L.toLibC0 (r := r) (d := eL (acc ++ [f])) (ws := acc ++ [f]) s.needs (by simp; omega) (ssort_eL _ (by simp; omega))
        have b2 := phi_is_fit (n := n) L s.needs (known := commonW (o0 :: rest) v) (ws := clo r (acc ++ [f])) (by omega)
        have ad := add_eL (a := acc) (b := [f]) (by simp; omega)
        refine ⟨by simp_arith [List.all_cons, List.all_nil, plain_free p5], [.v (eOs (o0 :: rest)), .v (eR r), .v (eV v), .v (eL (commonW (o0 :: rest) v)), .v (eL acc), .v (.str f), s6], rfl, ?_⟩
        unfold tryF
        cases hg : isFit r (commonW (o0 :: rest) v) (clo r (acc ++ [f])) with
        | true =>
          rw [hg] at b2
          simp only [if_true]
          refine ⟨_, .inl ?_, d1, d2, .v (.str f), .v (eL (clo r (acc ++ [f]))), rfl, rfl, rfl⟩
          simp_arith [loopB, one_eL, ad, callK_2 b1, callK_3 b2, plain_free p6]
        | false =>
          rw [hg] at b2
          simp only [Bool.false_eq_true, if_false]
          refine ⟨_, .inl ?_, a1, a2, .v (.str f), .v (eL (clo r (acc ++ [f]))), rfl, rfl, rfl⟩
          simp_arith [loopB, one_eL, ad, callK_2 b1, callK_3 b2, plain_free p6])
    rw [foldS_go (g := tryF r (commonW (o0 :: rest) v))] at key
    obtain ⟨ρ', k1, _, _, s5, s6, _, _, k4⟩ := key
    simp_arith [c_best_at, callK_2 h1, callK_1 h2, callK_2 h3, callK_3 h4, callK_2 h5, k1, k4]
    rfl
end
end G6
-- ## P10
/-! # P10: best_of, choose -/
namespace G6
open PySem
local macro_rules | `(tactic| simp_arith [$ts,*]) => `(tactic| simp only [e_var, e_pk, e_cst, e_glb, e_fnv, e_tup, e_lst, e_op1, e_op2, e_chn, e_and, e_or, e_not, e_ite, e_slc, e_call, e_met, dens, deno, dsrc, x_set, x_setm, x_dnew, x_unp, x_par, x_app, x_ext, x_dput, x_ret, x_retn, x_rse, x_ite, x_loop, x_wh, x_brk, x_cnt, x_pas, x_exp, x_par3, x_parc, x_unpl, x_tryw, e_callt, x_nil, x_cons, R.bind, R.fl, Fl.seq, dataOf, resOf, res, rd, tst, lift, lift2, sem1, sem2, alls, outOf, ioOut, putV, putsV, freeAt_eq, fs_un, fs_v, fs_m, fs_f, plainAt, ps_un, ps_v, ps_f, ps_m, lcF', condF', List.getElem?_cons_zero, List.getElem?_cons_succ, List.set_cons_zero, List.set_cons_succ, if_true, if_false, Bool.false_eq_true, reduceCtorEq, Option.map_some, Option.map_none, Bool.and_true, Bool.true_and, Bool.not_true, Bool.not_false, len_eT, len_eL, len_eRows, len_ePs, len_eO, len_eR, len_eRow, len_eV, len_eP, nd_eT, nd_eL, nd_eRows, nd_ePs, nd_eO, nd_eR, nd_eRow, nd_eV, nd_eP, ty_eT, ty_eRows, ty_ePs, ty_eO, ty_eR, ty_eRow, ty_eV, ty_eP, walk_eT, walk_eL, walk_eRows, walk_ePs, walk_eP, walk_eV, list_eT, list_eL, tup_eL, tup_eT, ix_eO0, ix_eO1, ix_eO2, ix_eO3, ix_eR0, ix_eR1, ix_eR2, ix_eRow0, ix_eRow1, ix_eP0, ix_eP1, non_eV, non_eT, non_eL, walk_eOs, ty_eL, in_eT, in_eL, eq_eL, eq_eT, eq_eV, lt_eV, gt_eV, eq_int, eq_str, lt_int, gt_int, nd_none, non_none, ty_str_none, ty_int_none, ty_bool_none, ty_tuple_none, ty_list_none, nd_bool, non_bool, ty_str_bool, ty_int_bool, ty_bool_bool, ty_tuple_bool, ty_list_bool, nd_int, non_int, ty_str_int, ty_int_int, ty_bool_int, ty_tuple_int, ty_list_int, nd_str, non_str, ty_str_str, ty_int_str, ty_bool_str, ty_tuple_str, ty_list_str, nd_list, non_list, ty_str_list, ty_int_list, ty_bool_list, ty_tuple_list, ty_list_list, nd_tuple, non_tuple, ty_str_tuple, ty_int_tuple, ty_bool_tuple, ty_tuple_tuple, ty_list_tuple, len_list, len_tuple, list_list, list_tuple, tup_list, tup_tuple, ix_list, ix_tuple, tr_bool, tr_none, tr_int, tr_list, tr_tuple, lst_list, lst_eL, atI_0, atI_1, atI_2, atI_3, $ts,*])
def maxV (a : Ver) (vs : List Ver) : Ver := vs.foldl (fun m x => if vlt m x then x else m) a
theorem dataLt_eV (a b : Ver) : PySem.W.dataLt (eV a) (eV b) = vlt a b := by simp only [eV, PySem.W.dataLt_ii, vlt]
theorem maxD_eV : ∀ (a : Ver) (vs : List Ver), PySem.W.maxD (eV a) (vs.map eV) = eV (maxV a vs) := fun a vs => by
  unfold PySem.W.maxD maxV
  induction vs generalizing a with
  | nil => rfl
  | cons x r ih =>
    simp only [List.map_cons, List.foldl_cons, dataLt_eV]
    cases h : vlt a x with
    | true => simpa using ih x
    | false => simpa using ih a
theorem max_eVs (a : Ver) (vs : List Ver) : maxOp (eVs (a :: vs)) = some (eV (maxV a vs)) := by
  simp only [maxOp, eVs, List.map_cons]
  rw [if_pos, maxD_eV]
  have al : ∀ x ∈ eV a :: vs.map eV, ∃ v, x = eV v := fun x hx => by
    rcases List.mem_cons.mp hx with rfl | hx
    · exact ⟨a, rfl⟩
    · obtain ⟨v, _, rfl⟩ := List.mem_map.mp hx
      exact ⟨v, rfl⟩
  simp only [mmOk, alikeList, Bool.and_eq_true, List.all_eq_true]
  refine ⟨⟨fun x hx y hy => ?_, fun x hx => ?_⟩, fun x hx => ?_⟩
  · obtain ⟨v, rfl⟩ := al x hx
    obtain ⟨u, rfl⟩ := al y hy
    rfl
  · obtain ⟨v, rfl⟩ := al x hx
    rfl
  · obtain ⟨v, rfl⟩ := al x hx
    exact dOk (depth_eV v) (by decide)
def leastOf (os : List Offer) : Ver := match os with
  | [] => (0, 0)
  | o :: r => maxV o.least (r.map (·.least))
def bestOf (os : List Offer) (r : Rules) : Option (Ver × List Str) := (versionsOf os).findSome? fun v => if vlt v (leastOf os) then none else (bestAt os r v).map fun ws => (v, ws)
def eC : Option (Ver × List Str) → PyData
  | none => .none
  | some c => .tuple [eV c.1, eT c.2]
def stopIf {γ : Type} (f : γ → PyData) : Option γ → Stp Unit
  | some c => .stop (f c)
  | none => .go ()
theorem foldS_findSome {β γ : Type} {p : β → Option γ} {f : γ → PyData} : ∀ (ys : List β), foldS (fun (_ : Unit) y => stopIf f (p y)) ys () = stopIf f (ys.findSome? p)
  | [] => rfl
  | y :: r => by
    unfold foldS
    rw [List.findSome?_cons]
    cases h : p y with
    | some c => rfl
    | none => exact foldS_findSome r
/-- two or more offers over a small world of words -/
structure World1 (os : List Offer) (r : Rules) (U : List Str) : Prop where
  small : Small r U
  ne : os ≠ []
  must : ∀ o ∈ os, ∀ w ∈ o.must, w ∈ U
  mlen : (os.flatMap (·.must)).length < 1000
  feat : ∀ o ∈ os, ∀ row ∈ o.rows, (∀ w ∈ row.2, w ∈ U) ∧ row.2.length ≤ 6
  olen : r.order.length ≤ 6
  ord : ∀ w ∈ r.order, w ∈ U
theorem mem_keepV {v : Ver} : ∀ {os : List Offer} {acc : List Ver}, v ∈ os.foldl keepV acc ↔ v ∈ acc ∧ ∀ o ∈ os, (featuresAt o v).isSome = true
  | [], acc => by simp
  | o :: r, acc => by
    rw [List.foldl_cons, mem_keepV (os := r)]
    unfold keepV
    simp only [List.mem_filter, List.mem_cons, forall_eq_or_imp, and_assoc]
theorem mem_versionsOf {o0 : Offer} {rest : List Offer} {v : Ver} : v ∈ versionsOf (o0 :: rest) ↔ ∀ o ∈ o0 :: rest, (featuresAt o v).isSome = true := by
  unfold versionsOf
  rw [List.mem_reverse, mem_keepV]
  constructor
  · exact fun h => h.2
  · intro h
    refine ⟨?_, h⟩
    have := h o0 List.mem_cons_self
    unfold featuresAt at this
    cases e : o0.rows.find? (fun r => decide (r.1 = v)) with
    | none => rw [e] at this; cases this
    | some row =>
      have h1 := List.find?_some e
      have h2 := List.mem_of_find?_eq_some e
      exact List.mem_map.mpr ⟨row, h2, of_decide_eq_true h1⟩
theorem mem_keepC {v : Ver} {w : Str} : ∀ {os : List Offer} {acc : List Str}, w ∈ os.foldl (keepC v) acc ↔ w ∈ acc ∧ ∀ o ∈ os, w ∈ featsOf o v ∧ w ∉ o.bar
  | [], acc => by simp
  | o :: r, acc => by
    rw [List.foldl_cons, mem_keepC (os := r)]
    unfold keepC
    simp only [List.mem_filter, List.mem_cons, forall_eq_or_imp, Bool.and_eq_true, decide_eq_true_eq, Bool.not_eq_true', decide_eq_false_iff_not, and_assoc]
theorem mem_common {o0 : Offer} {rest : List Offer} {v : Ver} {w : Str} : w ∈ commonW (o0 :: rest) v ↔ ∀ o ∈ o0 :: rest, w ∈ featsOf o v ∧ w ∉ o.bar := by
  unfold commonW
  rw [mem_keepC]
  exact ⟨fun h => h.2, fun h => ⟨(h o0 List.mem_cons_self).1, h⟩⟩
theorem foldl_keepC_len {v : Ver} : ∀ (os : List Offer) (acc : List Str), (os.foldl (keepC v) acc).length ≤ acc.length
  | [], acc => Nat.le_refl _
  | o :: r, acc => Nat.le_trans (foldl_keepC_len r _) (List.length_filter_le _ _)
theorem featsOf_mem {o : Offer} {v : Ver} : featsOf o v = [] ∨ ∃ row ∈ o.rows, row.1 = v ∧ featsOf o v = row.2 := by
  unfold featsOf featuresAt
  cases e : o.rows.find? (fun r => decide (r.1 = v)) with
  | none => exact .inl rfl
  | some row =>
    have h1 := List.find?_some e
    exact .inr ⟨row, List.mem_of_find?_eq_some e, of_decide_eq_true h1, rfl⟩
theorem World1.common {o0 : Offer} {rest : List Offer} {r : Rules} {U : List Str} (W : World1 (o0 :: rest) r U) (v : Ver) : (∀ w ∈ commonW (o0 :: rest) v, w ∈ U) ∧ (commonW (o0 :: rest) v).length ≤ 12 := by
  have hf : (∀ w ∈ featsOf o0 v, w ∈ U) ∧ (featsOf o0 v).length ≤ 6 := by
    rcases featsOf_mem (o := o0) (v := v) with h | ⟨row, h1, _, h2⟩
    · rw [h]; exact ⟨fun w hw => (by cases hw), Nat.zero_le _⟩
    · rw [h2]; exact W.feat o0 List.mem_cons_self row h1
  refine ⟨fun w hw => hf.1 w (mem_common.mp hw o0 List.mem_cons_self).1, ?_⟩
  have h1 : (commonW (o0 :: rest) v).length ≤ (featsOf o0 v).length := foldl_keepC_len (v := v) (o0 :: rest) (featsOf o0 v)
  have := hf.2
  omega
section
variable {T : Str → Option Fn} {n : Nat}
theorem phi_best_of (L : LibC T) {os : List Offer} {r : Rules} {U : List Str} (W : World1 os r U) : Phi T (n + 4) "best_of" [.d (eOs os), .d (eR r)] = .ret (eC (bestOf os r)) .none := by
  cases os with
  | nil => exact absurd rfl W.ne
  | cons o0 rest =>
    rw [Phi_succ L.best_of, run1 [.v (eOs (o0 :: rest)), .v (eR r), .un, .un, .un, .un] rfl rfl]
    have hlc := lcT1n (Φ := Phi T (n + 3)) (elt := .op2 .idx (.pk 5) (.cst (.int 1))) (src := .of (.var 0)) (i := 5) (ρ := [.v (eOs (o0 :: rest)), .v (eR r), .un, .un, .un, .un]) (enc := eO) (ys := o0 :: rest) (e := fun o => eV o.least) (by simp_arith [walk_eOs]) rfl (fun y hy => by simp_arith [])
    have em : PyData.list ((o0 :: rest).map fun o => eV o.least) = eVs (o0.least :: rest.map (·.least)) := by simp [eVs, Function.comp_def]
    rw [em] at hlc
    have hmx := max_eVs o0.least (rest.map (·.least))
    have hvs := phi_versions_of (n := n + 1) L.toLibC0 (o0 := o0) (rest := rest)
    have key := forT (enc := eV) (body := loopB (Phi T (n + 3)) (.cons (.ite (.op2 .ge (.pk 3) (.pk 2)) (.cons (.set 4 (.call "best_at" none (.cons (.var 0) (.cons (.var 1) (.cons (.var 3) .nil))))) (.cons (.ite (.op1 .notNone (.pk 4)) (.cons (.ret (.tup (.cons (.var 3) (.cons (.var 4) .nil)))) .nil) .nil) .nil)) .nil) .nil))
      (tg := [3]) (Rp := fun (_ : Unit) ρ => ∃ s3 s4 s5, plainSl s3 = true ∧ plainSl s4 = true ∧ plainSl s5 = true ∧ ρ = [.v (eOs (o0 :: rest)), .v (eR r), .v (eV (leastOf (o0 :: rest))), s3, s4, s5]) (step := fun _ v => stopIf (fun c => eC (some c)) (if vlt v (leastOf (o0 :: rest)) then none else (bestAt (o0 :: rest) r v).map fun ws => (v, ws))) (ys := versionsOf (o0 :: rest)) (a := ()) (ρ := [.v (eOs (o0 :: rest)), .v (eR r), .v (eV (leastOf (o0 :: rest))), .un, .un, .un]) ⟨.un, .un, .un, rfl, rfl, rfl, rfl⟩ (fun a v ρ hv ⟨s3, s4, s5, h3, h4, h5, e⟩ => by
        subst e
        refine ⟨by simp_arith [List.all_cons, List.all_nil, plain_free h3], [.v (eOs (o0 :: rest)), .v (eR r), .v (eV (leastOf (o0 :: rest))), .v (eV v), s4, s5], rfl, ?_⟩
        cases hl : vlt v (leastOf (o0 :: rest)) with
        | true =>
          simp only [if_true]
          exact ⟨_, .inl (by simp_arith [loopB, hl] <;> rfl), .v (eV v), s4, s5, rfl, h4, h5, rfl⟩
        | false =>
          have hb := phi_best_at (n := n) L W.small W.must W.mlen W.olen (mem_versionsOf.mp hv) (W.common v).1 (W.common v).2 W.ord
          cases hba : bestAt (o0 :: rest) r v with
          | none =>
            rw [hba] at hb
            have e1 : eOT none = PyData.none := rfl
            rw [e1] at hb
            simp only [Bool.false_eq_true, if_false, Option.map_none]
            exact ⟨_, .inl (by simp_arith [loopB, hl, callK_3 hb, plain_free h4] <;> rfl), .v (eV v), .v .none, s5, rfl, rfl, h5, rfl⟩
          | some ws =>
            rw [hba] at hb
            have e1 : eOT (some ws) = eT ws := rfl
            rw [e1] at hb
            simp only [Bool.false_eq_true, if_false, Option.map_some]
            exact ⟨_, by simp_arith [loopB, hl, callK_3 hb, plain_free h4] <;> rfl⟩)
    rw [foldS_findSome (p := fun v => if vlt v (leastOf (o0 :: rest)) then none else (bestAt (o0 :: rest) r v).map fun ws => (v, ws)) (f := fun c => eC (some c))] at key
    unfold bestOf
    have el : leastOf (o0 :: rest) = maxV o0.least (rest.map (·.least)) := rfl
    cases hf : (versionsOf (o0 :: rest)).findSome? (fun v => if vlt v (leastOf (o0 :: rest)) then none else (bestAt (o0 :: rest) r v).map fun ws => (v, ws)) with
    | none =>
      rw [hf] at key
      obtain ⟨ρ', k1, s3, s4, s5, _, _, _, k4⟩ := key
      rw [el] at k1 k4
      simp_arith [c_best_of, hlc, hmx, callK_1 hvs, walk_eVs, k1, k4]
      rfl
    | some c =>
      rw [hf] at key
      obtain ⟨ρ', k1⟩ := key
      rw [el] at k1
      simp_arith [c_best_of, hlc, hmx, callK_1 hvs, walk_eVs, k1]
theorem phi_choose (L : LibC T) {mine theirs : Offer} {r : Rules} {U : List Str} (h1 : okO mine) (h2 : okO theirs) (h3 : okR r) (W : World1 [mine, theirs] r U) : Phi T (n + 6) "choose" [.d (eO mine), .d (eO theirs), .d (eR r)] = .ret (eC (bestOf [mine, theirs] r)) .none := by
  rw [Phi_succ L.choose, run1 [.v (eO mine), .v (eO theirs), .v (eR r)] rfl rfl]
  have e0 : PyData.list [eO mine, eO theirs] = eOs [mine, theirs] := rfl
  simp_arith [c_choose, callK_1 (phi_need_offer (n := n) L.toLibR h1), callK_1 (phi_need_offer (n := n) L.toLibR h2), callK_1 (phi_need_rules (n := n + 1) L.toLibR h3), e0, callK_2 (phi_best_of (n := n + 1) L W)]
end
end G6
-- ## P11
/-! # P11: what a script builds: numbers, words, the pool -/
namespace G6
open PySem
local macro_rules | `(tactic| simp_arith [$ts,*]) => `(tactic| simp only [e_var, e_pk, e_cst, e_glb, e_fnv, e_tup, e_lst, e_op1, e_op2, e_chn, e_and, e_or, e_not, e_ite, e_slc, e_call, e_met, dens, deno, dsrc, x_set, x_setm, x_dnew, x_unp, x_par, x_app, x_ext, x_dput, x_ret, x_retn, x_rse, x_ite, x_loop, x_wh, x_brk, x_cnt, x_pas, x_exp, x_par3, x_parc, x_unpl, x_tryw, e_callt, x_nil, x_cons, R.bind, R.fl, Fl.seq, dataOf, resOf, res, rd, tst, lift, lift2, sem1, sem2, alls, outOf, ioOut, putV, putsV, freeAt_eq, fs_un, fs_v, fs_m, fs_f, plainAt, ps_un, ps_v, ps_f, ps_m, lcF', condF', List.getElem?_cons_zero, List.getElem?_cons_succ, List.set_cons_zero, List.set_cons_succ, if_true, if_false, Bool.false_eq_true, reduceCtorEq, Option.map_some, Option.map_none, Bool.and_true, Bool.true_and, Bool.not_true, Bool.not_false, len_eT, len_eL, len_eRows, len_ePs, len_eO, len_eR, len_eRow, len_eV, len_eP, nd_eT, nd_eL, nd_eRows, nd_ePs, nd_eO, nd_eR, nd_eRow, nd_eV, nd_eP, ty_eT, ty_eRows, ty_ePs, ty_eO, ty_eR, ty_eRow, ty_eV, ty_eP, walk_eT, walk_eL, walk_eRows, walk_ePs, walk_eP, walk_eV, list_eT, list_eL, tup_eL, tup_eT, ix_eO0, ix_eO1, ix_eO2, ix_eO3, ix_eR0, ix_eR1, ix_eR2, ix_eRow0, ix_eRow1, ix_eP0, ix_eP1, non_eV, non_eT, non_eL, walk_eOs, ty_eL, in_eT, in_eL, eq_eL, eq_eT, eq_eV, lt_eV, gt_eV, eq_int, eq_str, lt_int, gt_int, nd_none, non_none, ty_str_none, ty_int_none, ty_bool_none, ty_tuple_none, ty_list_none, nd_bool, non_bool, ty_str_bool, ty_int_bool, ty_bool_bool, ty_tuple_bool, ty_list_bool, nd_int, non_int, ty_str_int, ty_int_int, ty_bool_int, ty_tuple_int, ty_list_int, nd_str, non_str, ty_str_str, ty_int_str, ty_bool_str, ty_tuple_str, ty_list_str, nd_list, non_list, ty_str_list, ty_int_list, ty_bool_list, ty_tuple_list, ty_list_list, nd_tuple, non_tuple, ty_str_tuple, ty_int_tuple, ty_bool_tuple, ty_tuple_tuple, ty_list_tuple, len_list, len_tuple, list_list, list_tuple, tup_list, tup_tuple, ix_list, ix_tuple, tr_bool, tr_none, tr_int, tr_list, tr_tuple, lst_list, lst_eL, atI_0, atI_1, atI_2, atI_3, $ts,*])
def eI (ns : List Int) : PyData := .list (ns.map .int)
def cellAt (ns : List Int) (k : Int) : Int := if k < ns.length then ns.getD k.toNat 0 else if ns = [] then 0 else ns.getD (k % ns.length).toNat 0 * 31 + k
def drawn (ns : List Int) (k : Int) : Int := (cellAt ns k + 7919 * k + 1) * 48271 % 2147483647
def mixed (ns : List Int) (k many : Int) : Int := (drawn ns k * drawn ns k + 7 * drawn ns k + k) % 2147483629 % many
theorem mixed_lt {ns : List Int} {k many : Int} (h : 0 < many) : 0 ≤ mixed ns k many ∧ mixed ns k many < many := ⟨Int.emod_nonneg _ (by omega), Int.emod_lt_of_pos _ h⟩
theorem drawn_lt (ns : List Int) (k : Int) : 0 ≤ drawn ns k ∧ drawn ns k < 2147483647 := ⟨Int.emod_nonneg _ (by omega), Int.emod_lt_of_pos _ (by omega)⟩
theorem len_eI (ns : List Int) : lenD (eI ns) = some (.int ns.length) := by simp [lenD, eI]
theorem at_eI {ns : List Int} {k : Int} (h0 : 0 ≤ k) (h1 : k < ns.length) : idxD (eI ns) (.int k) = some (.int (ns.getD k.toNat 0)) := by
  have hk : k.toNat < ns.length := by omega
  have e : ((k.toNat : Nat) : Int) = k := by omega
  have : L2.atI (ns.map PyData.int) ((k.toNat : Nat) : Int) = some (.int (ns.getD k.toNat 0)) := L2.atI_nat (by
    rw [List.getElem?_map, List.getElem?_eq_getElem hk, List.getD_eq_getElem?_getD, List.getElem?_eq_getElem hk]
    rfl)
  rw [e] at this
  exact this
theorem depth_eI (ns : List Int) : (eI ns).depth ≤ 1 := by
  have : PyData.depthAll (ns.map .int) ≤ 0 := depthAll_le_of fun x hx => by
    obtain ⟨s, _, rfl⟩ := List.mem_map.mp hx
    simp [PyData.depth]
  simp only [eI, PyData.depth]
  omega
theorem eq_nil (ns : List Int) : eqD (eI ns) (.list []) = some (decide (ns = [])) := by
  unfold eqD
  rw [if_pos (by simp [eI, noDict]; exact .inl (dOk (depth_eI ns) (by decide)))]
  cases ns <;> simp [eI, PyData.eqv, PyData.eqvAll]
theorem mul_int {i j : Int} (h : (-(2 ^ 64) < i ∧ i < 2 ^ 64) ∨ (-(2 ^ 64) < j ∧ j < 2 ^ 64)) : mulD (.int i) (.int j) = some (.int (i * j)) := by
  simp only [mulD]
  rw [if_pos]
  simp only [smallInt, Bool.or_eq_true, Bool.and_eq_true, decide_eq_true_eq]
  exact h
theorem add_int (i j : Int) : addD (.int i) (.int j) = some (.int (i + j)) := rfl
theorem mod_int {i j : Int} (h : 0 < j) : modD (.int i) (.int j) = some (.int (i % j)) := by
  simp only [modD]
  rw [if_pos h]
structure LibG (T : Str → Option Fn) : Prop where
  cell_at : T "_law_cell_at" = some c_law_cell_at
  mixed : T "_law_mixed" = some c_law_mixed
  word : T "_law_word" = some c_law_word
  pool : T "_law_pool" = some c_law_pool
  some_ : T "_law_some" = some c_law_some
  offer : T "_law_offer" = some c_law_offer
  pairs : T "_law_pairs" = some c_law_pairs
  rules : T "_law_rules" = some c_law_rules
section
variable {T : Str → Option Fn} {n : Nat}
theorem phi_cell (G : LibG T) {ns : List Int} {k : Int} (hk : 0 ≤ k) : Phi T (n + 1) "_law_cell_at" [.d (eI ns), .d (.int k)] = .ret (.int (cellAt ns k)) .none := by
  rw [Phi_succ G.cell_at, run1 [.v (eI ns), .v (.int k)] rfl rfl]
  unfold cellAt
  by_cases h1 : k < ns.length
  · simp_arith [c_law_cell_at, len_eI, h1, decide_true, at_eI hk h1]
  · by_cases h2 : ns = []
    · have h3 : decide (ns = []) = true := decide_eq_true h2
      have h4 : decide (k < (ns.length : Int)) = false := decide_eq_false h1
      rw [if_neg h1, if_pos h2]
      simp_arith [c_law_cell_at, len_eI, lt_int, h4, eq_nil, h3]
    · have hl : 0 < ns.length := List.length_pos_iff.mpr h2
      have hp : (0 : Int) < ns.length := by omega
      have m1 : 0 ≤ k % ns.length := Int.emod_nonneg _ (by omega)
      have m2 : k % ns.length < ns.length := Int.emod_lt_of_pos _ hp
      have hm := mul_int (i := ns.getD (k % ns.length).toNat 0) (j := 31) (.inr (by decide))
      simp_arith [c_law_cell_at, len_eI, h1, decide_false, eq_nil, h2, mod_int hp, at_eI m1 m2, hm, add_int]
theorem phi_mixed (G : LibG T) {ns : List Int} {k many : Int} (hk : 0 ≤ k) (hm : 0 < many) : Phi T (n + 2) "_law_mixed" [.d (eI ns), .d (.int k), .d (.int many)] = .ret (.int (mixed ns k many)) .none := by
  rw [Phi_succ G.mixed, run1 [.v (eI ns), .v (.int k), .v (.int many), .un] rfl rfl]
  have hc := phi_cell (n := n) (T := T) G (ns := ns) hk
  have d := drawn_lt ns k
  have m1 := mul_int (i := 7919) (j := k) (.inl (by decide))
  have m2 := mul_int (i := cellAt ns k + 7919 * k + 1) (j := 48271) (.inr (by decide))
  have m3 := mul_int (i := drawn ns k) (j := drawn ns k) (.inl ⟨by omega, by omega⟩)
  have m4 := mul_int (i := 7) (j := drawn ns k) (.inl (by decide))
  have md : (cellAt ns k + 7919 * k + 1) * 48271 % 2147483647 = drawn ns k := rfl
  simp_arith [c_law_mixed, callK_2 hc, m1, add_int, m2, mod_int (show (0 : Int) < 2147483647 by decide), md, m3, m4, mod_int (show (0 : Int) < 2147483629 by decide), mod_int hm]
  rfl
end
end G6
-- ## P12
/-! # P12: words, the pool, some of it -/
namespace G6
open PySem
local macro_rules | `(tactic| simp_arith [$ts,*]) => `(tactic| simp only [e_var, e_pk, e_cst, e_glb, e_fnv, e_tup, e_lst, e_op1, e_op2, e_chn, e_and, e_or, e_not, e_ite, e_slc, e_call, e_met, dens, deno, dsrc, x_set, x_setm, x_dnew, x_unp, x_par, x_app, x_ext, x_dput, x_ret, x_retn, x_rse, x_ite, x_loop, x_wh, x_brk, x_cnt, x_pas, x_exp, x_par3, x_parc, x_unpl, x_tryw, e_callt, x_nil, x_cons, R.bind, R.fl, Fl.seq, dataOf, resOf, res, rd, tst, lift, lift2, sem1, sem2, alls, outOf, ioOut, putV, putsV, freeAt_eq, fs_un, fs_v, fs_m, fs_f, plainAt, ps_un, ps_v, ps_f, ps_m, lcF', condF', List.getElem?_cons_zero, List.getElem?_cons_succ, List.set_cons_zero, List.set_cons_succ, if_true, if_false, Bool.false_eq_true, reduceCtorEq, Option.map_some, Option.map_none, Bool.and_true, Bool.true_and, Bool.not_true, Bool.not_false, len_eT, len_eL, len_eRows, len_ePs, len_eO, len_eR, len_eRow, len_eV, len_eP, nd_eT, nd_eL, nd_eRows, nd_ePs, nd_eO, nd_eR, nd_eRow, nd_eV, nd_eP, ty_eT, ty_eRows, ty_ePs, ty_eO, ty_eR, ty_eRow, ty_eV, ty_eP, walk_eT, walk_eL, walk_eRows, walk_ePs, walk_eP, walk_eV, list_eT, list_eL, tup_eL, tup_eT, ix_eO0, ix_eO1, ix_eO2, ix_eO3, ix_eR0, ix_eR1, ix_eR2, ix_eRow0, ix_eRow1, ix_eP0, ix_eP1, non_eV, non_eT, non_eL, walk_eOs, ty_eL, in_eT, in_eL, eq_eL, eq_eT, eq_eV, lt_eV, gt_eV, eq_int, eq_str, lt_int, gt_int, nd_none, non_none, ty_str_none, ty_int_none, ty_bool_none, ty_tuple_none, ty_list_none, nd_bool, non_bool, ty_str_bool, ty_int_bool, ty_bool_bool, ty_tuple_bool, ty_list_bool, nd_int, non_int, ty_str_int, ty_int_int, ty_bool_int, ty_tuple_int, ty_list_int, nd_str, non_str, ty_str_str, ty_int_str, ty_bool_str, ty_tuple_str, ty_list_str, nd_list, non_list, ty_str_list, ty_int_list, ty_bool_list, ty_tuple_list, ty_list_list, nd_tuple, non_tuple, ty_str_tuple, ty_int_tuple, ty_bool_tuple, ty_tuple_tuple, ty_list_tuple, len_list, len_tuple, list_list, list_tuple, tup_list, tup_tuple, ix_list, ix_tuple, tr_bool, tr_none, tr_int, tr_list, tr_tuple, lst_list, lst_eL, atI_0, atI_1, atI_2, atI_3, $ts,*])
/-- a loop that never leaves early, by the number of turns done -/
theorem forI {α β : Type} {enc : β → PyData} {body : Rho → Fl} {tg : List Nat} {Rp : Nat → α → Rho → Prop} {g : α → β → α} : ∀ {ys : List β} {i : Nat} {a : α} {ρ : Rho}, Rp i a ρ →
    (∀ j a y ρ, j < i + ys.length → y ∈ ys → Rp j a ρ → tg.all (freeAt ρ) = true ∧ ∃ ρ1, bindT tg (enc y) ρ = some ρ1 ∧ ∃ ρ2, (body ρ1 = .nx ρ2 ∨ body ρ1 = .ct ρ2) ∧ Rp (j + 1) (g a y) ρ2) →
    ∃ ρ', forL body tg (ys.map enc) ρ = .nx ρ' ∧ Rp (i + ys.length) (ys.foldl g a) ρ'
  | [], i, a, ρ, h, _ => ⟨ρ, rfl, h⟩
  | y :: r, i, a, ρ, h, hs => by
    obtain ⟨h1, ρ1, h2, ρ2, h3, h4⟩ := hs i a y ρ (by simp) List.mem_cons_self h
    have ih := forI (ys := r) (i := i + 1) (enc := enc) (body := body) (tg := tg) (g := g) h4 fun j a y ρ hj hy => hs j a y ρ (by simp only [List.length_cons]; omega) (List.mem_cons_of_mem _ hy)
    obtain ⟨ρ', k1, k2⟩ := ih
    refine ⟨ρ', ?_, by rw [List.length_cons, List.foldl_cons, show i + (r.length + 1) = i + 1 + r.length by omega]; exact k2⟩
    rw [List.map_cons]
    unfold forL
    rw [if_pos h1, h2]
    dsimp only
    rcases h3 with h3 | h3 <;> rw [h3] <;> exact k1
theorem foldl_snoc {β γ : Type} (f : β → γ) : ∀ (ys : List β) (a : List γ), ys.foldl (fun l y => l ++ [f y]) a = a ++ ys.map f
  | [], a => by simp
  | y :: r, a => by simp [foldl_snoc f r]
def ofL (l : List Nat) : Str := ⟨l.toArray⟩
theorem atI_map {α β : Type} (f : α → β) (xs : List α) (i : Int) : L2.atI (xs.map f) i = (L2.atI xs i).map f := by
  unfold L2.atI
  rw [List.length_map]
  cases L2.ixN xs.length i with
  | none => rfl
  | some j => simp
theorem letters_at0 : ∀ i < 26, L2.atI ("abcdefghijklmnopqrstuvwxyz" : Str).cps.toList ((i : Nat) : Int) = some (97 + i) := by decide +kernel
theorem letters_at (i : Nat) (h : i < 26) : idxD (.str "abcdefghijklmnopqrstuvwxyz") (.int (i : Nat)) = some (.str (ofL [97 + i])) := by
  simp only [idxD]
  rw [if_pos (lineK (by decide +kernel)), letters_at0 i h]
  rfl
theorem letter_at {i : Int} (h0 : 0 ≤ i) (h1 : i < 26) : idxD (.str "abcdefghijklmnopqrstuvwxyz") (.int i) = some (.str (ofL [97 + i.toNat])) := by
  have := letters_at i.toNat (by omega)
  rw [show ((i.toNat : Nat) : Int) = i by omega] at this
  exact this
theorem add_ofL {a b : List Nat} (h : a.length + b.length ≤ 1000) : addD (.str (ofL a)) (.str (ofL b)) = some (.str (ofL (a ++ b))) := by
  have e : ofL a ++ ofL b = ofL (a ++ b) := by
    show (⟨(ofL a).cps ++ (ofL b).cps⟩ : Str) = _
    simp [ofL]
  have la : (ofL a).length = a.length := by simp [ofL, Str.length]
  have lb : (ofL b).length = b.length := by simp [ofL, Str.length]
  simp only [addD, e, la, lb]
  rw [if_pos (lineK h)]
/-! ### words -/
def wordN (ns : List Int) (at_ : Int) : Nat := [1, 2, 3, 6, 1, 4].getD (mixed ns at_ 6).toNat 1
def wordCs (ns : List Int) (at_ : Int) : List Nat := (List.range (wordN ns at_)).map fun k => 97 + (mixed ns (at_ + 1 + (k : Nat)) 26).toNat
def wordOf (ns : List Int) (at_ : Int) : Str := ofL (wordCs ns at_)
theorem wordN_bd (ns : List Int) (at_ : Int) : 1 ≤ wordN ns at_ ∧ wordN ns at_ ≤ 6 := by
  have h := mixed_lt (ns := ns) (k := at_) (many := 6) (by decide)
  have : ∀ i < 6, 1 ≤ [1, 2, 3, 6, 1, 4].getD i 1 ∧ [1, 2, 3, 6, 1, 4].getD i 1 ≤ 6 := by decide
  exact this _ (by omega)
theorem wordOf_ok (ns : List Int) (at_ : Int) : isWord (wordOf ns at_) = true := by
  have hl := wordN_bd ns at_
  have e : (wordOf ns at_).length = wordN ns at_ := by simp [wordOf, ofL, Str.length, wordCs]
  simp only [isWord, e, Bool.and_eq_true, decide_eq_true_eq, List.all_eq_true]
  refine ⟨hl, fun c hc => ?_⟩
  have hc' : c ∈ wordCs ns at_ := by simpa [wordOf, ofL] using hc
  obtain ⟨k, _, rfl⟩ := List.mem_map.mp hc'
  have := mixed_lt (ns := ns) (k := at_ + 1 + (k : Nat)) (many := 26) (by decide)
  simp only [letter, Bool.and_eq_true, decide_eq_true_eq]
  omega
section
variable {T : Str → Option Fn} {n : Nat}
theorem wordN_ix (ns : List Int) (at_ : Int) : idxD (.list [.int 1, .int 2, .int 3, .int 6, .int 1, .int 4]) (.int (mixed ns at_ 6)) = some (.int (wordN ns at_ : Nat)) := by
  have h := mixed_lt (ns := ns) (k := at_) (many := 6) (by decide)
  have : ∀ i < 6, L2.atI [(1 : Int), 2, 3, 6, 1, 4] ((i : Nat) : Int) = some (([1, 2, 3, 6, 1, 4].getD i 1 : Nat) : Int) := by decide +kernel
  have := this (mixed ns at_ 6).toNat (by omega)
  rw [show (((mixed ns at_ 6).toNat : Nat) : Int) = mixed ns at_ 6 by omega] at this
  show L2.atI ([(1 : Int), 2, 3, 6, 1, 4].map PyData.int) _ = _
  rw [atI_map, this]
  rfl
theorem phi_word (G : LibG T) {ns : List Int} {at_ : Int} (h : 0 ≤ at_) : Phi T (n + 3) "_law_word" [.d (eI ns), .d (.int at_)] = .ret (.str (wordOf ns at_)) .none := by
  rw [Phi_succ G.word, run1 [.v (eI ns), .v (.int at_), .un, .un] rfl rfl]
  have hm := phi_mixed (n := n) G (ns := ns) (k := at_) (many := 6) h (by decide)
  have hn := wordN_bd ns at_
  have hr : inRange ((wordN ns at_ : Nat) : Int) = true := by simp only [inRange, Bool.and_eq_true, decide_eq_true_eq]; omega
  obtain ⟨ρ', k1, s3, _, _, k2⟩ := forI (enc := fun k : Nat => PyData.int (0 + (k : Int))) (body := loopB (Phi T (n + 2)) (.cons (.set 2 (.op2 .add (.pk 2) (.op2 .idx (.cst (.str "abcdefghijklmnopqrstuvwxyz")) (.call "_law_mixed" none (.cons (.var 0) (.cons (.op2 .add (.op2 .add (.pk 1) (.cst (.int 1))) (.pk 3)) (.cons (.cst (.int 26)) .nil))))))) .nil))
    (tg := [3]) (Rp := fun j (l : List Nat) ρ => ∃ s3, plainSl s3 = true ∧ l.length = j ∧ ρ = [.v (eI ns), .v (.int at_), .v (.str (ofL l)), s3]) (g := fun l k => l ++ [97 + (mixed ns (at_ + 1 + (k : Nat)) 26).toNat]) (ys := List.range (wordN ns at_)) (i := 0) (a := []) (ρ := [.v (eI ns), .v (.int at_), .v (.str (ofL [])), .un]) ⟨.un, rfl, rfl, rfl⟩
    (fun j l k ρ hj hk ⟨s3, h3, hl, e⟩ => by
      subst e
      simp only [List.length_range] at hj
      have ez : (0 : Int) + (k : Int) = k := by omega
      have hmm := phi_mixed (n := n) G (ns := ns) (k := at_ + 1 + (k : Nat)) (many := 26) (by omega) (by decide)
      have hb := mixed_lt (ns := ns) (k := at_ + 1 + (k : Nat)) (many := 26) (by decide)
      have hla := letter_at hb.1 hb.2
      have had := add_ofL (a := l) (b := [97 + (mixed ns (at_ + 1 + (k : Nat)) 26).toNat]) (by simp only [List.length_cons, List.length_nil]; omega)
      refine ⟨by simp_arith [List.all_cons, List.all_nil, plain_free h3], [.v (eI ns), .v (.int at_), .v (.str (ofL l)), .v (.int (0 + (k : Int)))], rfl, _, .inl ?_, .v (.int (0 + (k : Int))), rfl, by simp [hl], rfl⟩
      simp_arith [loopB, ez, add_int, callK_3 hmm, hla, had])
  rw [foldl_snoc, List.nil_append] at k2
  have e0 : ofL [] = ("" : Str) := rfl
  rw [e0] at k1
  have hi : intsD 0 ((wordN ns at_ : Nat) : Int).toNat = (List.range (wordN ns at_)).map fun k : Nat => PyData.int (0 + (k : Int)) := by simp [intsD]
  have hix : L2.atI [PyData.int 1, .int 2, .int 3, .int 6, .int 1, .int 4] (mixed ns at_ 6) = some (.int (wordN ns at_ : Nat)) := wordN_ix ns at_
  simp_arith [c_law_word, callK_3 hm, hix, hr, hi, k1, k2]
  rfl
/-! ### the pool -/
def poolWs (ns : List Int) (at_ : Int) : List Str := (List.range 6).map fun k => wordOf ns (at_ + 10 * (k : Nat))
def poolOf (ns : List Int) (at_ : Int) : List Str := setW (poolWs ns at_)
theorem mem_poolOf {ns : List Int} {at_ : Int} {w : Str} : w ∈ poolOf ns at_ → isWord w = true := fun h => by
  obtain ⟨k, _, rfl⟩ := List.mem_map.mp (mem_setW.mp h)
  exact wordOf_ok _ _
theorem poolOf_len (ns : List Int) (at_ : Int) : 1 ≤ (poolOf ns at_).length ∧ (poolOf ns at_).length ≤ 6 := by
  constructor
  · have : wordOf ns (at_ + 10 * ((0 : Nat) : Int)) ∈ poolOf ns at_ := mem_setW.mpr (List.mem_map.mpr ⟨0, by simp, rfl⟩)
    exact List.length_pos_of_mem this
  · have : (poolOf ns at_).length = (dedup (poolWs ns at_)).length := List.length_mergeSort _
    rw [this]
    exact Nat.le_trans (dedup_len _) (by simp [poolWs])
theorem phi_pool (G : LibG T) {ns : List Int} {at_ : Int} (h : 0 ≤ at_) : Phi T (n + 4) "_law_pool" [.d (eI ns), .d (.int at_)] = .ret (eL (poolOf ns at_)) .none := by
  rw [Phi_succ G.pool, run1 [.v (eI ns), .v (.int at_), .un, .un] rfl rfl]
  obtain ⟨ρ', k1, s3, _, _, k2⟩ := forI (enc := fun k : Nat => PyData.int (0 + (k : Int))) (body := loopB (Phi T (n + 3)) (.cons (.dput 2 (.call "_law_word" none (.cons (.var 0) (.cons (.op2 .add (.pk 1) (.op2 .mul (.cst (.int 10)) (.pk 3))) .nil))) (.cst (.bool true))) .nil))
    (tg := [3]) (Rp := fun j (ks : List Str) ρ => ∃ s3, plainSl s3 = true ∧ ks.length ≤ j ∧ ρ = [.v (eI ns), .v (.int at_), .m (eD ks), s3]) (g := fun ks k => stepS ks (wordOf ns (at_ + 10 * (k : Nat)))) (ys := List.range 6) (i := 0) (a := []) (ρ := [.v (eI ns), .v (.int at_), .m (eD []), .un]) ⟨.un, rfl, Nat.le_refl _, rfl⟩
    (fun j ks k ρ hj hk ⟨s3, h3, hl, e⟩ => by
      subst e
      simp only [List.length_range] at hj
      have ez : (0 : Int) + (k : Int) = k := by omega
      have hw := phi_word (n := n) G (ns := ns) (at_ := at_ + 10 * (k : Nat)) (by omega)
      have hm := mul_int (i := 10) (j := (k : Int)) (.inl (by decide))
      have hmu : mutD [.v (eI ns), .v (.int at_), .m (eD ks), .v (.int k)] 2 = true := rfl
      have hc : chg [.v (eI ns), .v (.int at_), .m (eD ks), .v (.int k)] 2 (dputD (.str (wordOf ns (at_ + 10 * (k : Nat)))) (.bool true)) = some [.v (eI ns), .v (.int at_), .m (eD (stepS ks (wordOf ns (at_ + 10 * (k : Nat))))), .v (.int k)] := by
        simp only [chg, List.getElem?_cons_zero, List.getElem?_cons_succ, put_eD _ (by omega : ks.length < 1000), Option.map_some, List.set_cons_succ, List.set_cons_zero]
      have := stepS_len ks (wordOf ns (at_ + 10 * (k : Nat)))
      refine ⟨by simp_arith [List.all_cons, List.all_nil, plain_free h3], [.v (eI ns), .v (.int at_), .m (eD ks), .v (.int (0 + (k : Int)))], rfl, _, .inl ?_, .v (.int (k : Int)), rfl, by omega, rfl⟩
      simp_arith [loopB, ez, hm, add_int, callK_2 hw, hmu, hc])
  have e0 : PyData.dict [] = eD [] := rfl
  have hf : (List.range 6).foldl (fun ks k => stepS ks (wordOf ns (at_ + 10 * (k : Nat)))) [] = dedup (poolWs ns at_) := by
    rw [← dedup_set]
    unfold poolWs
    rw [List.foldl_map]
  rw [hf] at k2
  have hs := sorted_eL (dedup (poolWs ns at_)) (by have := dedup_len (poolWs ns at_); have : (poolWs ns at_).length = 6 := (by simp [poolWs]); omega)
  have hk := keys_eD (dedup (poolWs ns at_))
  have hi : intsD 0 (6 : Int).toNat = (List.range 6).map fun k : Nat => PyData.int (0 + (k : Int)) := rfl
  have hr : inRange 6 = true := rfl
  simp_arith [c_law_pool, e0, hr, hi, k1, k2, hk, hs]
  rfl
/-! ### some of the pool -/
theorem enumD_map {β : Type} (enc : β → PyData) : ∀ (ys : List β) (k : Nat), enumD k (ys.map enc) = (ys.zipIdx k).map fun p => .tuple [.int (p.2 : Nat), enc p.1]
  | [], k => rfl
  | y :: r, k => by
    simp only [List.map_cons, enumD, List.zipIdx_cons, enumD_map enc r]
def someOf (ns : List Int) (at_ : Int) (pool : List Str) (part : Int) : List Str := (pool.zipIdx.filter fun p => decide (mixed ns (at_ + (p.2 : Nat)) 6 < part)).map (·.1)
theorem phi_some (G : LibG T) {ns : List Int} {at_ part : Int} {pool : List Str} (h : 0 ≤ at_) : Phi T (n + 3) "_law_some" [.d (eI ns), .d (.int at_), .d (eL pool), .d (.int part)] = .ret (eT (someOf ns at_ pool part)) .none := by
  rw [Phi_succ G.some_, run1 [.v (eI ns), .v (.int at_), .v (eL pool), .v (.int part), .un, .un] rfl rfl]
  have hlc := lcT2 (Φ := Phi T (n + 2)) (elt := .var 5) (src := .enm (.var 2)) (cond := .so (.op2 .lt (.call "_law_mixed" none (.cons (.var 0) (.cons (.op2 .add (.pk 1) (.pk 4)) (.cons (.cst (.int 6)) .nil)))) (.pk 3))) (i := 4) (j := 5) (ρ := [.v (eI ns), .v (.int at_), .v (eL pool), .v (.int part), .un, .un]) (enc := fun p : Str × Nat => .tuple [.int (p.2 : Nat), .str p.1]) (ys := pool.zipIdx) (a := fun p => .int (p.2 : Nat)) (b := fun p => .str p.1) (c := fun p => decide (mixed ns (at_ + (p.2 : Nat)) 6 < part)) (e := fun p => .str p.1) (by decide) (fun _ _ => rfl) (by simp_arith []; exact congrArg (fun z => R.ok z _) (enumD_map PyData.str pool 0)) rfl rfl (fun p hp => by
      have hm := phi_mixed (n := n) G (ns := ns) (k := at_ + (p.2 : Nat)) (many := 6) (by omega) (by decide)
      simp_arith [add_int, callK_3 hm]) (fun p hp _ => by simp_arith [])
  have em : PyData.list ((pool.zipIdx.filter fun p => decide (mixed ns (at_ + (p.2 : Nat)) 6 < part)).map fun p => .str p.1) = eL (someOf ns at_ pool part) := by simp [eL, someOf]
  rw [em] at hlc
  simp_arith [c_law_some, hlc]
end
end G6
-- ## P13
/-! # P13: pairs, rules -/
namespace G6
open PySem
local macro_rules | `(tactic| simp_arith [$ts,*]) => `(tactic| simp only [e_var, e_pk, e_cst, e_glb, e_fnv, e_tup, e_lst, e_op1, e_op2, e_chn, e_and, e_or, e_not, e_ite, e_slc, e_call, e_met, dens, deno, dsrc, x_set, x_setm, x_dnew, x_unp, x_par, x_app, x_ext, x_dput, x_ret, x_retn, x_rse, x_ite, x_loop, x_wh, x_brk, x_cnt, x_pas, x_exp, x_par3, x_parc, x_unpl, x_tryw, e_callt, x_nil, x_cons, R.bind, R.fl, Fl.seq, dataOf, resOf, res, rd, tst, lift, lift2, sem1, sem2, alls, outOf, ioOut, putV, putsV, freeAt_eq, fs_un, fs_v, fs_m, fs_f, plainAt, ps_un, ps_v, ps_f, ps_m, lcF', condF', List.getElem?_cons_zero, List.getElem?_cons_succ, List.set_cons_zero, List.set_cons_succ, if_true, if_false, Bool.false_eq_true, reduceCtorEq, Option.map_some, Option.map_none, Bool.and_true, Bool.true_and, Bool.not_true, Bool.not_false, len_eT, len_eL, len_eRows, len_ePs, len_eO, len_eR, len_eRow, len_eV, len_eP, nd_eT, nd_eL, nd_eRows, nd_ePs, nd_eO, nd_eR, nd_eRow, nd_eV, nd_eP, ty_eT, ty_eRows, ty_ePs, ty_eO, ty_eR, ty_eRow, ty_eV, ty_eP, walk_eT, walk_eL, walk_eRows, walk_ePs, walk_eP, walk_eV, list_eT, list_eL, tup_eL, tup_eT, ix_eO0, ix_eO1, ix_eO2, ix_eO3, ix_eR0, ix_eR1, ix_eR2, ix_eRow0, ix_eRow1, ix_eP0, ix_eP1, non_eV, non_eT, non_eL, walk_eOs, ty_eL, in_eT, in_eL, eq_eL, eq_eT, eq_eV, lt_eV, gt_eV, eq_int, eq_str, lt_int, gt_int, nd_none, non_none, ty_str_none, ty_int_none, ty_bool_none, ty_tuple_none, ty_list_none, nd_bool, non_bool, ty_str_bool, ty_int_bool, ty_bool_bool, ty_tuple_bool, ty_list_bool, nd_int, non_int, ty_str_int, ty_int_int, ty_bool_int, ty_tuple_int, ty_list_int, nd_str, non_str, ty_str_str, ty_int_str, ty_bool_str, ty_tuple_str, ty_list_str, nd_list, non_list, ty_str_list, ty_int_list, ty_bool_list, ty_tuple_list, ty_list_list, nd_tuple, non_tuple, ty_str_tuple, ty_int_tuple, ty_bool_tuple, ty_tuple_tuple, ty_list_tuple, len_list, len_tuple, list_list, list_tuple, tup_list, tup_tuple, ix_list, ix_tuple, tr_bool, tr_none, tr_int, tr_list, tr_tuple, lst_list, lst_eL, atI_0, atI_1, atI_2, atI_3, $ts,*])
def pickW (pool : List Str) (i : Int) : Str := pool.getD i.toNat Str.empty
theorem at_eL {pool : List Str} {i : Int} (h0 : 0 ≤ i) (h1 : i < pool.length) : idxD (eL pool) (.int i) = some (.str (pickW pool i)) := by
  have hk : i.toNat < pool.length := by omega
  have e : ((i.toNat : Nat) : Int) = i := by omega
  have : L2.atI (pool.map PyData.str) ((i.toNat : Nat) : Int) = some (.str (pickW pool i)) := L2.atI_nat (by
    unfold pickW
    rw [List.getElem?_map, List.getElem?_eq_getElem hk, List.getD_eq_getElem?_getD, List.getElem?_eq_getElem hk]
    rfl)
  rw [e] at this
  exact this
theorem pickW_mem {pool : List Str} {i : Int} (h0 : 0 ≤ i) (h1 : i < pool.length) : pickW pool i ∈ pool := by
  have hk : i.toNat < pool.length := by omega
  unfold pickW
  rw [List.getD_eq_getElem?_getD, List.getElem?_eq_getElem hk]
  exact List.getElem_mem hk
def ePL (ps : List (Str × Str)) : PyData := .list (ps.map eP)
theorem app_ePL {ps : List (Str × Str)} (p : Str × Str) (h : ps.length < 1000) : appD (eP p) (ePL ps) = some (ePL (ps ++ [p])) := by
  simp only [appD, ePL, List.length_map]
  rw [if_pos (Nat.lt_of_lt_of_le h (lineK (Nat.le_refl _)))]
  simp
theorem app_eL {ws : List Str} (w : Str) (h : ws.length < 1000) : appD (.str w) (eL ws) = some (eL (ws ++ [w])) := by
  simp only [appD, eL, List.length_map]
  rw [if_pos (Nat.lt_of_lt_of_le h (lineK (Nat.le_refl _)))]
  simp
theorem tup_ePL (ps : List (Str × Str)) : tupleD (ePL ps) = some (ePs ps) := rfl
def pairStep (ns : List Int) (at_ : Int) (pool : List Str) (ps : List (Str × Str)) (k : Nat) : List (Str × Str) :=
  if pickW pool (mixed ns (at_ + 1 + 2 * (k : Nat)) pool.length) = pickW pool (mixed ns (at_ + 2 + 2 * (k : Nat)) pool.length) then ps
  else ps ++ [(pickW pool (mixed ns (at_ + 1 + 2 * (k : Nat)) pool.length), pickW pool (mixed ns (at_ + 2 + 2 * (k : Nat)) pool.length))]
def pairsOf (ns : List Int) (at_ : Int) (pool : List Str) (most : Int) : List (Str × Str) := (List.range (mixed ns at_ (most + 1)).toNat).foldl (pairStep ns at_ pool) []
section
variable {T : Str → Option Fn} {n : Nat}
theorem phi_pairs (G : LibG T) {ns : List Int} {at_ most : Int} {pool : List Str} (h : 0 ≤ at_) (hp : 0 < pool.length) (hmo : 0 ≤ most ∧ most ≤ 100) : Phi T (n + 3) "_law_pairs" [.d (eI ns), .d (.int at_), .d (eL pool), .d (.int most)] = .ret (ePs (pairsOf ns at_ pool most)) .none := by
  rw [Phi_succ G.pairs, run1 [.v (eI ns), .v (.int at_), .v (eL pool), .v (.int most), .un, .un, .un, .un] rfl rfl]
  have hpl : (0 : Int) < pool.length := by omega
  have hm := phi_mixed (n := n) G (ns := ns) (k := at_) (many := most + 1) h (by omega)
  have hb := mixed_lt (ns := ns) (k := at_) (many := most + 1) (by omega)
  have hr : inRange (mixed ns at_ (most + 1)) = true := by simp only [inRange, Bool.and_eq_true, decide_eq_true_eq]; omega
  obtain ⟨ρ', k1, s5, s6, s7, _, _, _, _, k2⟩ := forI (enc := fun k : Nat => PyData.int (0 + (k : Int))) (body := loopB (Phi T (n + 2)) (.cons (.set 6 (.op2 .idx (.pk 2) (.call "_law_mixed" none (.cons (.var 0) (.cons (.op2 .add (.op2 .add (.pk 1) (.cst (.int 1))) (.op2 .mul (.cst (.int 2)) (.pk 5))) (.cons (.op1 .len (.pk 2)) .nil)))))) (.cons (.set 7 (.op2 .idx (.pk 2) (.call "_law_mixed" none (.cons (.var 0) (.cons (.op2 .add (.op2 .add (.pk 1) (.cst (.int 2))) (.op2 .mul (.cst (.int 2)) (.pk 5))) (.cons (.op1 .len (.pk 2)) .nil)))))) (.cons (.ite (.op2 .ne (.pk 6) (.pk 7)) (.cons (.app 4 (.tup (.cons (.var 6) (.cons (.var 7) .nil)))) .nil) .nil) .nil))))
    (tg := [5]) (Rp := fun j (ps : List (Str × Str)) ρ => ∃ s5 s6 s7, plainSl s5 = true ∧ plainSl s6 = true ∧ plainSl s7 = true ∧ ps.length ≤ j ∧ ρ = [.v (eI ns), .v (.int at_), .v (eL pool), .v (.int most), .m (ePL ps), s5, s6, s7]) (g := pairStep ns at_ pool) (ys := List.range (mixed ns at_ (most + 1)).toNat) (i := 0) (a := []) (ρ := [.v (eI ns), .v (.int at_), .v (eL pool), .v (.int most), .m (ePL []), .un, .un, .un]) ⟨.un, .un, .un, rfl, rfl, rfl, Nat.le_refl _, rfl⟩
    (fun j ps k ρ hj hk ⟨s5, s6, s7, h5, h6, h7, hl, e⟩ => by
      subst e
      simp only [List.length_range] at hj
      have ez : (0 : Int) + (k : Int) = k := by omega
      have m2 := mul_int (i := 2) (j := (k : Int)) (.inl (by decide))
      have a1 := phi_mixed (n := n) G (ns := ns) (k := at_ + 1 + 2 * (k : Nat)) (many := pool.length) (by omega) hpl
      have a2 := phi_mixed (n := n) G (ns := ns) (k := at_ + 2 + 2 * (k : Nat)) (many := pool.length) (by omega) hpl
      have b1 := mixed_lt (ns := ns) (k := at_ + 1 + 2 * (k : Nat)) (many := pool.length) hpl
      have b2 := mixed_lt (ns := ns) (k := at_ + 2 + 2 * (k : Nat)) (many := pool.length) hpl
      have c1 := at_eL b1.1 b1.2
      have c2 := at_eL b2.1 b2.2
      refine ⟨by simp_arith [List.all_cons, List.all_nil, plain_free h5], [.v (eI ns), .v (.int at_), .v (eL pool), .v (.int most), .m (ePL ps), .v (.int (0 + (k : Int))), s6, s7], rfl, ?_⟩
      unfold pairStep
      generalize hx : pickW pool (mixed ns (at_ + 1 + 2 * (k : Nat)) pool.length) = x at c1 ⊢
      generalize hy : pickW pool (mixed ns (at_ + 2 + 2 * (k : Nat)) pool.length) = y at c2 ⊢
      by_cases hxy : x = y
      · rw [if_pos hxy]
        refine ⟨_, .inl ?_, .v (.int k), .v (.str x), .v (.str y), rfl, rfl, rfl, by omega, rfl⟩
        simp_arith [loopB, ez, m2, add_int, callK_3 a1, callK_3 a2, c1, c2, plain_free h6, plain_free h7, hxy, decide_true]
      · rw [if_neg hxy]
        have hmu : mutL [.v (eI ns), .v (.int at_), .v (eL pool), .v (.int most), .m (ePL ps), .v (.int k), .v (.str x), .v (.str y)] 4 = true := rfl
        have et2 : PyData.tuple [.str x, .str y] = eP (x, y) := rfl
        have hc : chg [.v (eI ns), .v (.int at_), .v (eL pool), .v (.int most), .m (ePL ps), .v (.int k), .v (.str x), .v (.str y)] 4 (appD (eP (x, y))) = some [.v (eI ns), .v (.int at_), .v (eL pool), .v (.int most), .m (ePL (ps ++ [(x, y)])), .v (.int k), .v (.str x), .v (.str y)] := by
          simp only [chg, List.getElem?_cons_zero, List.getElem?_cons_succ, app_ePL (x, y) (by omega : ps.length < 1000), Option.map_some, List.set_cons_succ, List.set_cons_zero]
        refine ⟨_, .inl ?_, .v (.int k), .v (.str x), .v (.str y), rfl, rfl, rfl, by simp; omega, rfl⟩
        simp_arith [loopB, ez, m2, add_int, callK_3 a1, callK_3 a2, c1, c2, plain_free h6, plain_free h7, hxy, decide_false, hmu, et2, hc])
  have e0 : PyData.list [] = ePL [] := rfl
  have l0 : isLst (ePL []) = true := rfl
  have hi : intsD 0 (mixed ns at_ (most + 1)).toNat = (List.range (mixed ns at_ (most + 1)).toNat).map fun k : Nat => PyData.int (0 + (k : Int)) := rfl
  simp_arith [c_law_pairs, e0, l0, add_int, callK_3 hm, hr, hi, k1, k2, tup_ePL]
  rfl
end
end G6
-- ## P14
/-! # P14: rules -/
namespace G6
open PySem
local macro_rules | `(tactic| simp_arith [$ts,*]) => `(tactic| simp only [e_var, e_pk, e_cst, e_glb, e_fnv, e_tup, e_lst, e_op1, e_op2, e_chn, e_and, e_or, e_not, e_ite, e_slc, e_call, e_met, dens, deno, dsrc, x_set, x_setm, x_dnew, x_unp, x_par, x_app, x_ext, x_dput, x_ret, x_retn, x_rse, x_ite, x_loop, x_wh, x_brk, x_cnt, x_pas, x_exp, x_par3, x_parc, x_unpl, x_tryw, e_callt, x_nil, x_cons, R.bind, R.fl, Fl.seq, dataOf, resOf, res, rd, tst, lift, lift2, sem1, sem2, alls, outOf, ioOut, putV, putsV, freeAt_eq, fs_un, fs_v, fs_m, fs_f, plainAt, ps_un, ps_v, ps_f, ps_m, lcF', condF', List.getElem?_cons_zero, List.getElem?_cons_succ, List.set_cons_zero, List.set_cons_succ, if_true, if_false, Bool.false_eq_true, reduceCtorEq, Option.map_some, Option.map_none, Bool.and_true, Bool.true_and, Bool.not_true, Bool.not_false, len_eT, len_eL, len_eRows, len_ePs, len_eO, len_eR, len_eRow, len_eV, len_eP, nd_eT, nd_eL, nd_eRows, nd_ePs, nd_eO, nd_eR, nd_eRow, nd_eV, nd_eP, ty_eT, ty_eRows, ty_ePs, ty_eO, ty_eR, ty_eRow, ty_eV, ty_eP, walk_eT, walk_eL, walk_eRows, walk_ePs, walk_eP, walk_eV, list_eT, list_eL, tup_eL, tup_eT, ix_eO0, ix_eO1, ix_eO2, ix_eO3, ix_eR0, ix_eR1, ix_eR2, ix_eRow0, ix_eRow1, ix_eP0, ix_eP1, non_eV, non_eT, non_eL, walk_eOs, ty_eL, in_eT, in_eL, eq_eL, eq_eT, eq_eV, lt_eV, gt_eV, eq_int, eq_str, lt_int, gt_int, nd_none, non_none, ty_str_none, ty_int_none, ty_bool_none, ty_tuple_none, ty_list_none, nd_bool, non_bool, ty_str_bool, ty_int_bool, ty_bool_bool, ty_tuple_bool, ty_list_bool, nd_int, non_int, ty_str_int, ty_int_int, ty_bool_int, ty_tuple_int, ty_list_int, nd_str, non_str, ty_str_str, ty_int_str, ty_bool_str, ty_tuple_str, ty_list_str, nd_list, non_list, ty_str_list, ty_int_list, ty_bool_list, ty_tuple_list, ty_list_list, nd_tuple, non_tuple, ty_str_tuple, ty_int_tuple, ty_bool_tuple, ty_tuple_tuple, ty_list_tuple, len_list, len_tuple, list_list, list_tuple, tup_list, tup_tuple, ix_list, ix_tuple, tr_bool, tr_none, tr_int, tr_list, tr_tuple, lst_list, lst_eL, atI_0, atI_1, atI_2, atI_3, $ts,*])
def ordStep (ns : List Int) (at_ : Int) (pool : List Str) (ws : List Str) (k : Nat) : List Str := stepS ws (pickW pool (mixed ns (at_ + 1 + (k : Nat)) pool.length))
def orderW (ns : List Int) (at_ : Int) (pool : List Str) : List Str := (List.range (mixed ns at_ 5).toNat).foldl (ordStep ns at_ pool) []
def rulesOf (ns : List Int) (at_ : Int) (pool : List Str) : Rules := ⟨pairsOf ns (at_ + 10) pool 4, pairsOf ns (at_ + 30) pool 3, orderW ns at_ pool⟩
section
variable {T : Str → Option Fn} {n : Nat}
theorem phi_rules (G : LibG T) {ns : List Int} {at_ : Int} {pool : List Str} (h : 0 ≤ at_) (hp : 0 < pool.length) : Phi T (n + 4) "_law_rules" [.d (eI ns), .d (.int at_), .d (eL pool)] = .ret (eR (rulesOf ns at_ pool)) .none := by
  rw [Phi_succ G.rules, run1 [.v (eI ns), .v (.int at_), .v (eL pool), .un, .un, .un] rfl rfl]
  have hpl : (0 : Int) < pool.length := by omega
  have hm := phi_mixed (n := n + 1) G (ns := ns) (k := at_) (many := 5) h (by omega)
  have hb := mixed_lt (ns := ns) (k := at_) (many := 5) (by omega)
  have hr : inRange (mixed ns at_ 5) = true := by simp only [inRange, Bool.and_eq_true, decide_eq_true_eq]; omega
  obtain ⟨ρ', k1, s4, s5, _, _, _, k2⟩ := forI (enc := fun k : Nat => PyData.int (0 + (k : Int))) (body := loopB (Phi T (n + 3)) (.cons (.set 5 (.op2 .idx (.pk 2) (.call "_law_mixed" none (.cons (.var 0) (.cons (.op2 .add (.op2 .add (.pk 1) (.cst (.int 1))) (.pk 4)) (.cons (.op1 .len (.pk 2)) .nil)))))) (.cons (.ite (.op2 .notin (.pk 5) (.pk 3)) (.cons (.app 3 (.var 5)) .nil) .nil) .nil)))
    (tg := [4]) (Rp := fun j (ws : List Str) ρ => ∃ s4 s5, plainSl s4 = true ∧ plainSl s5 = true ∧ ws.length ≤ j ∧ ρ = [.v (eI ns), .v (.int at_), .v (eL pool), .m (eL ws), s4, s5]) (g := ordStep ns at_ pool) (ys := List.range (mixed ns at_ 5).toNat) (i := 0) (a := []) (ρ := [.v (eI ns), .v (.int at_), .v (eL pool), .m (eL []), .un, .un]) ⟨.un, .un, rfl, rfl, Nat.le_refl _, rfl⟩
    (fun j ws k ρ hj hk ⟨s4, s5, h4, h5, hl, e⟩ => by
      subst e
      simp only [List.length_range] at hj
      have ez : (0 : Int) + (k : Int) = k := by omega
      have a1 := phi_mixed (n := n + 1) G (ns := ns) (k := at_ + 1 + (k : Nat)) (many := pool.length) (by omega) hpl
      have b1 := mixed_lt (ns := ns) (k := at_ + 1 + (k : Nat)) (many := pool.length) hpl
      have c1 := at_eL b1.1 b1.2
      refine ⟨by simp_arith [List.all_cons, List.all_nil, plain_free h4], [.v (eI ns), .v (.int at_), .v (eL pool), .m (eL ws), .v (.int (0 + (k : Int))), s5], rfl, ?_⟩
      unfold ordStep
      generalize hx : pickW pool (mixed ns (at_ + 1 + (k : Nat)) pool.length) = x at c1 ⊢
      have := stepS_len ws x
      unfold stepS at this ⊢
      by_cases hxy : x ∈ ws
      · rw [if_pos hxy]
        refine ⟨_, .inl ?_, .v (.int k), .v (.str x), rfl, rfl, by omega, rfl⟩
        simp_arith [loopB, ez, add_int, callK_3 a1, c1, plain_free h5, hxy, decide_true]
      · rw [if_neg hxy]
        have hmu : mutL [.v (eI ns), .v (.int at_), .v (eL pool), .m (eL ws), .v (.int k), .v (.str x)] 3 = true := rfl
        have hc : chg [.v (eI ns), .v (.int at_), .v (eL pool), .m (eL ws), .v (.int k), .v (.str x)] 3 (appD (.str x)) = some [.v (eI ns), .v (.int at_), .v (eL pool), .m (eL (ws ++ [x])), .v (.int k), .v (.str x)] := by
          simp only [chg, List.getElem?_cons_zero, List.getElem?_cons_succ, app_eL x (by omega : ws.length < 1000), Option.map_some, List.set_cons_succ, List.set_cons_zero]
        refine ⟨_, .inl ?_, .v (.int k), .v (.str x), rfl, rfl, by simp; omega, rfl⟩
        simp_arith [loopB, ez, add_int, callK_3 a1, c1, plain_free h5, hxy, decide_false, hmu, hc])
  have e0 : PyData.list [] = eL [] := rfl
  have hi : intsD 0 (mixed ns at_ 5).toNat = (List.range (mixed ns at_ 5).toNat).map fun k : Nat => PyData.int (0 + (k : Int)) := rfl
  have p1 := phi_pairs (n := n) G (ns := ns) (at_ := at_ + 10) (most := 4) (pool := pool) (by omega) hp (by omega)
  have p2 := phi_pairs (n := n) G (ns := ns) (at_ := at_ + 30) (most := 3) (pool := pool) (by omega) hp (by omega)
  simp_arith [c_law_rules, e0, add_int, callK_3 hm, hr, hi, k1, k2, callK_4 p1, callK_4 p2]
  rfl
end
end G6
-- ## P15
/-! # P15: an offer -/
namespace G6
open PySem
abbrev RowsV := List (Ver × List Str)
def eDV (rows : RowsV) : PyData := .dict ((.none, .none) :: rows.map fun r => (eV r.1, eT r.2))
def putV' (rows : RowsV) (v : Ver) (ws : List Str) : RowsV := if rows.any (fun r => decide (r.1 = v)) then rows.map (fun r => if r.1 = v then (r.1, ws) else r) else rows ++ [(v, ws)]
theorem put_eDV {rows : RowsV} (v : Ver) (ws : List Str) (h : rows.length < 900) : dputD (eV v) (eT ws) (eDV rows) = some (eDV (putV' rows v ws)) := by
  unfold dputD eDV
  have hk : keyFits ((PyData.none, PyData.none) :: rows.map fun r => (eV r.1, eT r.2)) (eV v) = true := rfl
  have hl : (rows.length + 1 < 1000) := by omega
  simp only [hk, List.length_cons, List.length_map, hl, decide_true, Bool.and_self, if_true]
  have h0 : PyData.eqv .none (eV v) = false := rfl
  have ha : (((PyData.none, PyData.none) :: rows.map fun r => (eV r.1, eT r.2)).any fun r => PyData.eqv r.1 (eV v)) = rows.any fun r => decide (r.1 = v) := by
    simp only [List.any_cons, h0, Bool.false_or, List.any_map, Function.comp_def, eqv_eV]
  unfold putRow putV'
  rw [ha]
  cases hb : rows.any (fun r => decide (r.1 = v)) with
  | true =>
    simp only [if_true, List.map_cons, h0, Bool.false_eq_true, if_false, List.map_map]
    congr 3
    apply List.map_congr_left
    intro r _
    simp only [Function.comp, eqv_eV, decide_eq_true_eq]
    by_cases e : r.1 = v <;> simp [e]
  | false => simp
theorem keys_eDV (rows : RowsV) : listD (eDV rows) = some (eVs (rows.map (·.1))) := by
  simp only [listD, eDV, dictKeys, rowsD, List.map_map, eVs]
  rfl
theorem find_eDV (rows : RowsV) (v : Ver) : idxD (eDV rows) (eV v) = (rows.find? fun r => decide (r.1 = v)).map fun r => eT r.2 := by
  have hk : keyFits ((PyData.none, PyData.none) :: rows.map fun r => (eV r.1, eT r.2)) (eV v) = true := rfl
  have : idxD (eDV rows) (eV v) = if keyFits ((PyData.none, PyData.none) :: rows.map fun r => (eV r.1, eT r.2)) (eV v) then dfind ((PyData.none, PyData.none) :: rows.map fun r => (eV r.1, eT r.2)) (eV v) else none := rfl
  rw [this, if_pos hk]
  unfold dfind
  simp only [rowsD, List.find?_map, Option.map_map, Function.comp_def, eqv_eV]
/-! ### versions sorted -/
def leV (a b : Ver) : Bool := !vlt b a
theorem sortV_map (vs : List Ver) : sortData (vs.map eV) = (vs.mergeSort leV).map eV := by
  have t := PySem.W.sort_maps (r := PySem.W.dataLe false eV) (s := PySem.W.dataLe false id) eV (l := vs) (fun _ _ _ _ => rfl)
  unfold sortData
  rw [← t]
  congr 2
  funext a b
  simp only [PySem.W.dataLe_eq, leV, dataLt_eV, cond_false]
theorem sorted_eVs (vs : List Ver) (h : vs.length ≤ 1000) : sortedD (eVs vs) = some (eVs (vs.mergeSort leV)) := by
  simp only [sortedD, eVs, sortOp]
  have al : ∀ x ∈ vs.map eV, ∃ v, x = eV v := fun x hx => by
    obtain ⟨v, _, rfl⟩ := List.mem_map.mp hx
    exact ⟨v, rfl⟩
  rw [if_pos, sortV_map]
  simp only [Bool.and_eq_true, decide_eq_true_eq, List.length_map]
  refine ⟨⟨⟨?_, ?_⟩, ?_⟩, lineK h⟩
  · simp only [alikeList, List.all_eq_true]
    intro x hx y hy
    obtain ⟨v, rfl⟩ := al x hx
    obtain ⟨u, rfl⟩ := al y hy
    rfl
  · simp only [Bool.or_eq_true, List.all_eq_true]
    refine .inl fun x hx => ?_
    obtain ⟨v, rfl⟩ := al x hx
    rfl
  · simp only [List.all_eq_true]
    intro x hx
    obtain ⟨v, rfl⟩ := al x hx
    exact dOk (depth_eV v) (by decide)
theorem vlt_iff {a b : Ver} : vlt a b = true ↔ (a.1 < b.1 ∨ (a.1 = b.1 ∧ a.2 < b.2)) := by simp [vlt]
theorem vlt_trans {a b c : Ver} (h1 : vlt a b = true) (h2 : vlt b c = true) : vlt a c = true := by
  rw [vlt_iff] at *
  omega
theorem vlt_irrefl (a : Ver) : vlt a a = false := by
  cases h : vlt a a with
  | false => rfl
  | true => rw [vlt_iff] at h; omega
theorem vlt_tri (a b : Ver) : vlt a b = true ∨ a = b ∨ vlt b a = true := by
  rw [vlt_iff, vlt_iff]
  by_cases h : a.1 = b.1
  · by_cases h2 : a.2 = b.2
    · exact .inr (.inl (Prod.ext h h2))
    · omega
  · omega
theorem leV_trans (a b c : Ver) (h1 : leV a b = true) (h2 : leV b c = true) : leV a c = true := by
  simp only [leV, Bool.not_eq_true'] at *
  cases h : vlt c a with
  | false => rfl
  | true =>
    rcases vlt_tri a b with z | z | z
    · have := vlt_trans h z
      rw [h2] at this; cases this
    · subst z
      rw [h2] at h; cases h
    · rw [h1] at z; cases z
theorem leV_total (a b : Ver) : (leV a b || leV b a) = true := by
  simp only [leV, Bool.or_eq_true, Bool.not_eq_true']
  cases h : vlt b a with
  | false => exact .inl rfl
  | true =>
    refine .inr ?_
    cases h2 : vlt a b with
    | false => rfl
    | true =>
      have := vlt_trans h h2
      rw [vlt_irrefl] at this; cases this
theorem sortV_rising {vs : List Ver} (h : vs.Nodup) : (vs.mergeSort leV).Pairwise fun a b => vlt a b = true := by
  have h1 := List.pairwise_mergeSort leV_trans leV_total vs
  have h2 : (vs.mergeSort leV).Nodup := (List.mergeSort_perm _ _).nodup_iff.mpr h
  refine (h1.and h2).imp fun {a b} ⟨x, y⟩ => ?_
  simp only [leV, Bool.not_eq_true'] at x
  rcases vlt_tri a b with z | z | z
  · exact z
  · exact absurd z y
  · rw [x] at z; cases z
end G6
-- ## P16
/-! # P16: _law_offer -/
namespace G6
open PySem
local macro_rules | `(tactic| simp_arith [$ts,*]) => `(tactic| simp only [e_var, e_pk, e_cst, e_glb, e_fnv, e_tup, e_lst, e_op1, e_op2, e_chn, e_and, e_or, e_not, e_ite, e_slc, e_call, e_met, dens, deno, dsrc, x_set, x_setm, x_dnew, x_unp, x_par, x_app, x_ext, x_dput, x_ret, x_retn, x_rse, x_ite, x_loop, x_wh, x_brk, x_cnt, x_pas, x_exp, x_par3, x_parc, x_unpl, x_tryw, e_callt, x_nil, x_cons, R.bind, R.fl, Fl.seq, dataOf, resOf, res, rd, tst, lift, lift2, sem1, sem2, alls, outOf, ioOut, putV, putsV, freeAt_eq, fs_un, fs_v, fs_m, fs_f, plainAt, ps_un, ps_v, ps_f, ps_m, lcF', condF', List.getElem?_cons_zero, List.getElem?_cons_succ, List.set_cons_zero, List.set_cons_succ, if_true, if_false, Bool.false_eq_true, reduceCtorEq, Option.map_some, Option.map_none, Bool.and_true, Bool.true_and, Bool.not_true, Bool.not_false, len_eT, len_eL, len_eRows, len_ePs, len_eO, len_eR, len_eRow, len_eV, len_eP, nd_eT, nd_eL, nd_eRows, nd_ePs, nd_eO, nd_eR, nd_eRow, nd_eV, nd_eP, ty_eT, ty_eRows, ty_ePs, ty_eO, ty_eR, ty_eRow, ty_eV, ty_eP, walk_eT, walk_eL, walk_eRows, walk_ePs, walk_eP, walk_eV, list_eT, list_eL, tup_eL, tup_eT, ix_eO0, ix_eO1, ix_eO2, ix_eO3, ix_eR0, ix_eR1, ix_eR2, ix_eRow0, ix_eRow1, ix_eP0, ix_eP1, non_eV, non_eT, non_eL, walk_eOs, ty_eL, in_eT, in_eL, eq_eL, eq_eT, eq_eV, lt_eV, gt_eV, eq_int, eq_str, lt_int, gt_int, nd_none, non_none, ty_str_none, ty_int_none, ty_bool_none, ty_tuple_none, ty_list_none, nd_bool, non_bool, ty_str_bool, ty_int_bool, ty_bool_bool, ty_tuple_bool, ty_list_bool, nd_int, non_int, ty_str_int, ty_int_int, ty_bool_int, ty_tuple_int, ty_list_int, nd_str, non_str, ty_str_str, ty_int_str, ty_bool_str, ty_tuple_str, ty_list_str, nd_list, non_list, ty_str_list, ty_int_list, ty_bool_list, ty_tuple_list, ty_list_list, nd_tuple, non_tuple, ty_str_tuple, ty_int_tuple, ty_bool_tuple, ty_tuple_tuple, ty_list_tuple, len_list, len_tuple, list_list, list_tuple, tup_list, tup_tuple, ix_list, ix_tuple, tr_bool, tr_none, tr_int, tr_list, tr_tuple, lst_list, lst_eL, atI_0, atI_1, atI_2, atI_3, $ts,*])
def rowStep (ns : List Int) (at_ : Int) (pool : List Str) (rows : RowsV) (k : Nat) : RowsV :=
  putV' rows (1 + mixed ns (at_ + 10 + 12 * (k : Nat)) 2, mixed ns (at_ + 10 + 12 * (k : Nat) + 1) 3) (someOf ns (at_ + 10 + 12 * (k : Nat) + 2) pool 5)
def rowsRaw (ns : List Int) (at_ : Int) (pool : List Str) : RowsV := (List.range (1 + mixed ns at_ 4).toNat).foldl (rowStep ns at_ pool) []
def atV (rows : RowsV) (v : Ver) : List Str := ((rows.find? fun r => decide (r.1 = v)).map (·.2)).getD []
def rowsOf (ns : List Int) (at_ : Int) (pool : List Str) : RowsV := (((rowsRaw ns at_ pool).map (·.1)).mergeSort leV).map fun v => (v, atV (rowsRaw ns at_ pool) v)
def leastN (ns : List Int) (at_ : Int) : Ver := if 0 < mixed ns (at_ + 2) 3 then (0, 0) else [(0, 0), (1, 0), (1, 1), (2, 0)].getD (mixed ns (at_ + 1) 8 % 4).toNat (0, 0)
def partN (ns : List Int) (k : Int) : Int := [0, 0, 1].getD (mixed ns k 3).toNat 0
def offerOf (ns : List Int) (at_ : Int) (pool : List Str) : Offer := ⟨rowsOf ns at_ pool, leastN ns at_, someOf ns (at_ + 70) pool (partN ns (at_ + 3)), someOf ns (at_ + 80) pool (partN ns (at_ + 4))⟩
theorem putV_len (rows : RowsV) (v : Ver) (ws : List Str) : (putV' rows v ws).length ≤ rows.length + 1 := by
  unfold putV'
  split <;> simp
theorem part_ix (ns : List Int) (k : Int) : L2.atI [PyData.int 0, .int 0, .int 1] (mixed ns k 3) = some (.int (partN ns k)) := by
  have h := mixed_lt (ns := ns) (k := k) (many := 3) (by decide)
  have : ∀ i < 3, L2.atI [(0 : Int), 0, 1] ((i : Nat) : Int) = some ([0, 0, 1].getD i 0) := by decide +kernel
  have := this (mixed ns k 3).toNat (by omega)
  rw [show (((mixed ns k 3).toNat : Nat) : Int) = mixed ns k 3 by omega] at this
  show L2.atI ([(0 : Int), 0, 1].map PyData.int) _ = _
  rw [atI_map, this]
  rfl
theorem least_ix (i : Int) (h0 : 0 ≤ i) (h1 : i < 4) : L2.atI [PyData.tuple [.int 0, .int 0], .tuple [.int 1, .int 0], .tuple [.int 1, .int 1], .tuple [.int 2, .int 0]] i = some (eV ([(0, 0), (1, 0), (1, 1), (2, 0)].getD i.toNat (0, 0))) := by
  have : ∀ i < 4, L2.atI [((0, 0) : Ver), (1, 0), (1, 1), (2, 0)] ((i : Nat) : Int) = some ([(0, 0), (1, 0), (1, 1), (2, 0)].getD i (0, 0)) := by decide +kernel
  have := this i.toNat (by omega)
  rw [show ((i.toNat : Nat) : Int) = i by omega] at this
  show L2.atI ([((0, 0) : Ver), (1, 0), (1, 1), (2, 0)].map eV) _ = _
  rw [atI_map, this]
  rfl
section
variable {T : Str → Option Fn} {n : Nat}
theorem phi_offer (G : LibG T) {ns : List Int} {at_ : Int} {pool : List Str} (h : 0 ≤ at_) : Phi T (n + 4) "_law_offer" [.d (eI ns), .d (.int at_), .d (eL pool)] = .ret (eO (offerOf ns at_ pool)) .none := by
  rw [Phi_succ G.offer, run1 [.v (eI ns), .v (.int at_), .v (eL pool), .un, .un, .un, .un, .un, .un, .un] rfl rfl]
  have hm := phi_mixed (n := n + 1) G (ns := ns) (k := at_) (many := 4) h (by omega)
  have hb := mixed_lt (ns := ns) (k := at_) (many := 4) (by omega)
  have hr : inRange (1 + mixed ns at_ 4) = true := by simp only [inRange, Bool.and_eq_true, decide_eq_true_eq]; omega
  obtain ⟨ρ', k1, s4, s8, s9, _, _, p9, hlen, k2⟩ := forI (enc := fun k : Nat => PyData.int (0 + (k : Int))) (body := loopB (Phi T (n + 3)) (.cons (.set 8 (.op2 .add (.op2 .add (.pk 1) (.cst (.int 10))) (.op2 .mul (.cst (.int 12)) (.pk 4)))) (.cons (.set 9 (.tup (.cons (.op2 .add (.cst (.int 1)) (.call "_law_mixed" none (.cons (.var 0) (.cons (.var 8) (.cons (.cst (.int 2)) .nil))))) (.cons (.call "_law_mixed" none (.cons (.var 0) (.cons (.op2 .add (.pk 8) (.cst (.int 1))) (.cons (.cst (.int 3)) .nil)))) .nil)))) (.cons (.dput 3 (.var 9) (.call "_law_some" none (.cons (.var 0) (.cons (.op2 .add (.pk 8) (.cst (.int 2))) (.cons (.var 2) (.cons (.cst (.int 5)) .nil)))))) .nil))))
    (tg := [4]) (Rp := fun j (rows : RowsV) ρ => ∃ s4 s8 s9, plainSl s4 = true ∧ plainSl s8 = true ∧ plainSl s9 = true ∧ rows.length ≤ j ∧ ρ = [.v (eI ns), .v (.int at_), .v (eL pool), .m (eDV rows), s4, .un, .un, .un, s8, s9]) (g := rowStep ns at_ pool) (ys := List.range (1 + mixed ns at_ 4).toNat) (i := 0) (a := []) (ρ := [.v (eI ns), .v (.int at_), .v (eL pool), .m (eDV []), .un, .un, .un, .un, .un, .un]) ⟨.un, .un, .un, rfl, rfl, rfl, Nat.le_refl _, rfl⟩
    (fun j rows k ρ hj hk ⟨s4, s8, s9, h4, h8, h9, hl, e⟩ => by
      subst e
      simp only [List.length_range] at hj
      have ez : (0 : Int) + (k : Int) = k := by omega
      have m2 := mul_int (i := 12) (j := (k : Int)) (.inl (by decide))
      generalize hh : at_ + 10 + 12 * (k : Int) = here
      have hh0 : 0 ≤ here := by omega
      have a1 := phi_mixed (n := n + 1) G (ns := ns) (k := here) (many := 2) hh0 (by decide)
      have a2 := phi_mixed (n := n + 1) G (ns := ns) (k := here + 1) (many := 3) (by omega) (by decide)
      have a3 := phi_some (n := n) G (ns := ns) (at_ := here + 2) (part := 5) (pool := pool) (by omega)
      have ev2 : PyData.tuple [.int (1 + mixed ns here 2), .int (mixed ns (here + 1) 3)] = eV (1 + mixed ns here 2, mixed ns (here + 1) 3) := rfl
      have eg : rowStep ns at_ pool rows k = putV' rows (1 + mixed ns here 2, mixed ns (here + 1) 3) (someOf ns (here + 2) pool 5) := by unfold rowStep; rw [hh]
      rw [eg]
      generalize hv : ((1 + mixed ns here 2, mixed ns (here + 1) 3) : Ver) = v at ev2
      generalize hw : someOf ns (here + 2) pool 5 = ws at a3
      have hmu : mutD [.v (eI ns), .v (.int at_), .v (eL pool), .m (eDV rows), .v (.int k), .un, .un, .un, .v (.int here), .v (eV v)] 3 = true := rfl
      have hc : chg [.v (eI ns), .v (.int at_), .v (eL pool), .m (eDV rows), .v (.int k), .un, .un, .un, .v (.int here), .v (eV v)] 3 (dputD (eV v) (eT ws)) = some [.v (eI ns), .v (.int at_), .v (eL pool), .m (eDV (putV' rows v ws)), .v (.int k), .un, .un, .un, .v (.int here), .v (eV v)] := by
        simp only [chg, List.getElem?_cons_zero, List.getElem?_cons_succ, put_eDV v ws (by omega : rows.length < 900), Option.map_some, List.set_cons_succ, List.set_cons_zero]
      have := putV_len rows v ws
      refine ⟨by simp_arith [List.all_cons, List.all_nil, plain_free h4], [.v (eI ns), .v (.int at_), .v (eL pool), .m (eDV rows), .v (.int (0 + (k : Int))), .un, .un, .un, s8, s9], rfl, _, .inl ?_, .v (.int k), .v (.int here), .v (eV v), rfl, rfl, rfl, by omega, rfl⟩
      simp_arith [loopB, ez, m2, add_int, hh, callK_3 a1, callK_3 a2, callK_4 a3, ev2, plain_free h8, plain_free h9, hmu, hc])
  have e0 : PyData.dict [(.none, .none)] = eDV [] := rfl
  have hi : intsD 0 (1 + mixed ns at_ 4).toNat = (List.range (1 + mixed ns at_ 4).toNat).map fun k : Nat => PyData.int (0 + (k : Int)) := rfl
  have q1 := phi_mixed (n := n + 1) G (ns := ns) (k := at_ + 1) (many := 8) (by omega) (by decide)
  have q2 := phi_mixed (n := n + 1) G (ns := ns) (k := at_ + 2) (many := 3) (by omega) (by decide)
  have q3 := phi_mixed (n := n + 1) G (ns := ns) (k := at_ + 3) (many := 3) (by omega) (by decide)
  have q4 := phi_mixed (n := n + 1) G (ns := ns) (k := at_ + 4) (many := 3) (by omega) (by decide)
  have r1 := phi_some (n := n) G (ns := ns) (at_ := at_ + 70) (part := partN ns (at_ + 3)) (pool := pool) (by omega)
  have r2 := phi_some (n := n) G (ns := ns) (at_ := at_ + 80) (part := partN ns (at_ + 4)) (pool := pool) (by omega)
  have lx := least_ix (mixed ns (at_ + 1) 8 % 4) (Int.emod_nonneg _ (by decide)) (Int.emod_lt_of_pos _ (by decide))
  rw [Nat.zero_add, List.length_range] at hlen
  have hrl : (rowsRaw ns at_ pool).length ≤ 4 := by
    have : (1 + mixed ns at_ 4).toNat ≤ 4 := by omega
    exact Nat.le_trans hlen this
  have hsv := sorted_eVs ((rowsRaw ns at_ pool).map (·.1)) (by rw [List.length_map]; omega)
  have hlc : ∀ l m b : PyData, den (Phi T (n + 3)) (.lc (.tup (.cons (.var 9) (.cons (.op2 .idx (.pk 3) (.pk 9)) .nil))) [9] (.of (.op1 .sorted (.op1 .list (.pk 3)))) .no) [.v (eI ns), .v (.int at_), .v (eL pool), .m (eDV (rowsRaw ns at_ pool)), s4, .v l, .v m, .v b, s8, s9] =
      .ok (.dat (.list ((rowsOf ns at_ pool).map eRow))) [.v (eI ns), .v (.int at_), .v (eL pool), .m (eDV (rowsRaw ns at_ pool)), s4, .v l, .v m, .v b, s8, s9] := fun l m b => by
    have := lcT1n (Φ := Phi T (n + 3)) (elt := .tup (.cons (.var 9) (.cons (.op2 .idx (.pk 3) (.pk 9)) .nil))) (src := .of (.op1 .sorted (.op1 .list (.pk 3)))) (i := 9) (ρ := [.v (eI ns), .v (.int at_), .v (eL pool), .m (eDV (rowsRaw ns at_ pool)), s4, .v l, .v m, .v b, s8, s9]) (enc := eV) (ys := ((rowsRaw ns at_ pool).map (·.1)).mergeSort leV) (e := fun v => eRow (v, atV (rowsRaw ns at_ pool) v)) (by simp_arith [keys_eDV, hsv, walk_eVs]) (by simp_arith [p9]) (fun v hv => by
      have hv' := List.mem_mergeSort.mp hv
      obtain ⟨row, hr1, hr2⟩ := List.mem_map.mp hv'
      have hf : ((rowsRaw ns at_ pool).find? fun r => decide (r.1 = v)).isSome = true := List.find?_isSome.mpr ⟨row, hr1, decide_eq_true hr2⟩
      obtain ⟨row', hf'⟩ := Option.isSome_iff_exists.mp hf
      have hfe : idxD (eDV (rowsRaw ns at_ pool)) (eV v) = some (eT (atV (rowsRaw ns at_ pool) v)) := by
        rw [find_eDV, atV, hf']
        rfl
      simp_arith [hfe]
      rfl)
    rw [this]
    unfold rowsOf
    rw [List.map_map]
    rfl
  have k2' : ρ' = [.v (eI ns), .v (.int at_), .v (eL pool), .m (eDV (rowsRaw ns at_ pool)), s4, .un, .un, .un, s8, s9] := k2
  have m4 := mod_int (i := mixed ns (at_ + 1) 8) (j := 4) (by decide)
  have z0 : PyData.tuple [.int 0, .int 0] = eV (0, 0) := rfl
  have lx' := lx
  by_cases hg : 0 < mixed ns (at_ + 2) 3
  · have hl : leastN ns at_ = (0, 0) := by unfold leastN; rw [if_pos hg]
    simp_arith [c_law_offer, e0, add_int, callK_3 hm, hr, hi, k1, k2', callK_3 q1, m4, lx', callK_3 q2, hg, decide_true, callK_3 q3, part_ix, callK_3 q4, callK_4 r1, callK_4 r2, hlc]
    simp only [offerOf, eO, hl] <;> rfl
  · have hl : leastN ns at_ = [(0, 0), (1, 0), (1, 1), (2, 0)].getD (mixed ns (at_ + 1) 8 % 4).toNat (0, 0) := by unfold leastN; rw [if_neg hg]
    simp_arith [c_law_offer, e0, add_int, callK_3 hm, hr, hi, k1, k2', callK_3 q1, m4, lx', callK_3 q2, hg, decide_false, callK_3 q3, part_ix, callK_3 q4, callK_4 r1, callK_4 r2, hlc]
    simp only [offerOf, eO, hl] <;> rfl
end
end G6
-- ## P17
/-! # P17: what is built is good -/
namespace G6
open PySem
structure PoolOk (pool : List Str) : Prop where
  word : ∀ w ∈ pool, isWord w = true
  ris : risingS pool
  pos : 1 ≤ pool.length
  len : pool.length ≤ 6
theorem poolOk (ns : List Int) (at_ : Int) : PoolOk (poolOf ns at_) := ⟨fun _ h => mem_poolOf h, setW_rising _, (poolOf_len ns at_).1, (poolOf_len ns at_).2⟩
theorem someOf_sub (ns : List Int) (at_ : Int) (pool : List Str) (part : Int) : (someOf ns at_ pool part).Sublist pool := by
  have h := (List.filter_sublist (p := fun p : Str × Nat => decide (mixed ns (at_ + (p.2 : Nat)) 6 < part)) (l := pool.zipIdx)).map (·.1)
  rw [List.zipIdx_map_fst] at h
  exact h
theorem sub_okT {pool ws : List Str} (P : PoolOk pool) (h : ws.Sublist pool) : okT ws := ⟨fun w hw => P.word w (h.subset hw), Nat.le_trans h.length_le P.len, List.Pairwise.sublist h P.ris⟩
/-- rows that are good -/
structure RowsOk (pool : List Str) (rows : RowsV) : Prop where
  nd : (rows.map (·.1)).Nodup
  row : ∀ r ∈ rows, okV r.1 ∧ r.2.Sublist pool
theorem putV_ok {pool : List Str} {rows : RowsV} {v : Ver} {ws : List Str} (h : RowsOk pool rows) (hv : okV v) (hw : ws.Sublist pool) : RowsOk pool (putV' rows v ws) ∧ rows.length ≤ (putV' rows v ws).length ∧ 1 ≤ (putV' rows v ws).length := by
  unfold putV'
  cases hb : rows.any (fun r => decide (r.1 = v)) with
  | true =>
    simp only [if_true]
    have hk : (rows.map fun r => if r.1 = v then (r.1, ws) else r).map (·.1) = rows.map (·.1) := by
      rw [List.map_map]
      apply List.map_congr_left
      intro r _
      simp only [Function.comp]
      by_cases e : r.1 = v <;> simp [e]
    have hpos : 1 ≤ rows.length := by
      obtain ⟨r, hr, _⟩ := List.any_eq_true.mp hb
      exact List.length_pos_of_mem hr
    refine ⟨⟨by rw [hk]; exact h.nd, fun r hr => ?_⟩, by simp, by simpa using hpos⟩
    obtain ⟨r0, h0, rfl⟩ := List.mem_map.mp hr
    by_cases e : r0.1 = v
    · rw [if_pos e]
      exact ⟨by rw [e]; exact hv, hw⟩
    · rw [if_neg e]
      exact h.row r0 h0
  | false =>
    simp only [Bool.false_eq_true, if_false]
    refine ⟨⟨?_, fun r hr => ?_⟩, by simp, by simp⟩
    · rw [List.map_append, List.nodup_append]
      refine ⟨h.nd, by simp, fun a ha b hb' => ?_⟩
      simp only [List.map_cons, List.map_nil, List.mem_singleton] at hb'
      subst hb'
      intro e
      subst e
      obtain ⟨r, hr, he⟩ := List.mem_map.mp ha
      have := List.any_eq_false.mp hb r hr
      simp [he] at this
    · rcases List.mem_append.mp hr with z | z
      · exact h.row r z
      · rw [List.mem_singleton.mp z]
        exact ⟨hv, hw⟩
theorem rowsRaw_ok {pool : List Str} (ns : List Int) (at_ : Int) : RowsOk pool (rowsRaw ns at_ pool) ∧ 1 ≤ (rowsRaw ns at_ pool).length ∧ (rowsRaw ns at_ pool).length ≤ 4 := by
  have step : ∀ (rows : RowsV) (k : Nat), RowsOk pool rows → RowsOk pool (rowStep ns at_ pool rows k) ∧ rows.length ≤ (rowStep ns at_ pool rows k).length ∧ 1 ≤ (rowStep ns at_ pool rows k).length := fun rows k h => by
    unfold rowStep
    have b1 := mixed_lt (ns := ns) (k := at_ + 10 + 12 * (k : Nat)) (many := 2) (by decide)
    have b2 := mixed_lt (ns := ns) (k := at_ + 10 + 12 * (k : Nat) + 1) (many := 3) (by decide)
    exact putV_ok h ⟨by show 0 ≤ 1 + _; omega, by show 1 + _ ≤ 99; omega, b2.1, by show mixed _ _ _ ≤ 99; omega⟩ (someOf_sub _ _ _ _)
  have all : ∀ (l : List Nat) (rows : RowsV), RowsOk pool rows → RowsOk pool (l.foldl (rowStep ns at_ pool) rows) ∧ rows.length ≤ (l.foldl (rowStep ns at_ pool) rows).length ∧ (l ≠ [] → 1 ≤ (l.foldl (rowStep ns at_ pool) rows).length) ∧ (l.foldl (rowStep ns at_ pool) rows).length ≤ rows.length + l.length := fun l => by
    induction l with
    | nil => intro rows h; exact ⟨h, Nat.le_refl _, fun z => absurd rfl z, by simp⟩
    | cons k r ih =>
      intro rows h
      obtain ⟨h1, h2, h3⟩ := step rows k h
      obtain ⟨i1, i2, i3, i4⟩ := ih _ h1
      have : (rowStep ns at_ pool rows k).length ≤ rows.length + 1 := putV_len _ _ _
      refine ⟨i1, by simp only [List.foldl_cons]; omega, fun _ => by simp only [List.foldl_cons]; omega, by simp only [List.foldl_cons, List.length_cons]; omega⟩
  have hb := mixed_lt (ns := ns) (k := at_) (many := 4) (by omega)
  obtain ⟨h1, _, h3, h4⟩ := all (List.range (1 + mixed ns at_ 4).toNat) [] ⟨List.nodup_nil, fun r hr => by cases hr⟩
  refine ⟨h1, h3 ?_, ?_⟩
  · intro e
    have := congrArg List.length e
    simp only [List.length_range, List.length_nil] at this
    omega
  · simp only [List.length_range, List.length_nil] at h4
    unfold rowsRaw
    omega
theorem atV_mem {rows : RowsV} {v : Ver} (h : v ∈ rows.map (·.1)) : ∃ r ∈ rows, r.1 = v ∧ atV rows v = r.2 := by
  obtain ⟨row, hr1, hr2⟩ := List.mem_map.mp h
  have hf : (rows.find? fun r => decide (r.1 = v)).isSome = true := List.find?_isSome.mpr ⟨row, hr1, decide_eq_true hr2⟩
  obtain ⟨row', hf'⟩ := Option.isSome_iff_exists.mp hf
  have h1 := List.find?_some hf'
  exact ⟨row', List.mem_of_find?_eq_some hf', of_decide_eq_true h1, by rw [atV, hf']; rfl⟩
theorem leastN_ok (ns : List Int) (at_ : Int) : okV (leastN ns at_) := by
  unfold leastN
  split
  · exact ⟨by decide, by decide, by decide, by decide⟩
  · have : ∀ i < 4, okV ([(0, 0), (1, 0), (1, 1), (2, 0)].getD i (0, 0)) := by
      unfold okV
      decide
    have h1 : 0 ≤ mixed ns (at_ + 1) 8 % 4 := Int.emod_nonneg _ (by decide)
    have h2 : mixed ns (at_ + 1) 8 % 4 < 4 := Int.emod_lt_of_pos _ (by decide)
    exact this _ (by omega)
theorem rowsOf_mem {ns : List Int} {at_ : Int} {pool : List Str} {r : Ver × List Str} (h : r ∈ rowsOf ns at_ pool) : okV r.1 ∧ r.2.Sublist pool := by
  unfold rowsOf at h
  obtain ⟨v, hv, rfl⟩ := List.mem_map.mp h
  obtain ⟨row, h1, h2, h3⟩ := atV_mem (List.mem_mergeSort.mp hv)
  have := (rowsRaw_ok (pool := pool) ns at_).1.row row h1
  exact ⟨by rw [← h2]; exact this.1, by show (atV _ v).Sublist pool; rw [h3]; exact this.2⟩
theorem offer_ok {pool : List Str} (P : PoolOk pool) (ns : List Int) (at_ : Int) : okO (offerOf ns at_ pool) := by
  obtain ⟨r1, r2, r3⟩ := rowsRaw_ok (pool := pool) ns at_
  have hl : (rowsOf ns at_ pool).length = (rowsRaw ns at_ pool).length := by
    unfold rowsOf
    rw [List.length_map, List.length_mergeSort, List.length_map]
  refine ⟨⟨by show 1 ≤ (rowsOf ns at_ pool).length; omega, by show (rowsOf ns at_ pool).length ≤ 6; omega⟩, fun r hr => ?_, ?_, leastN_ok ns at_, sub_okT P (someOf_sub _ _ _ _), sub_okT P (someOf_sub _ _ _ _)⟩
  · obtain ⟨h1, h2⟩ := rowsOf_mem hr
    exact ⟨h1, sub_okT P h2⟩
  · show (rowsOf ns at_ pool).Pairwise _
    unfold rowsOf
    rw [List.pairwise_map]
    exact sortV_rising r1.nd
theorem pairStep_ok {pool : List Str} (hp : 0 < pool.length) (ns : List Int) (at_ : Int) : ∀ (l : List Nat) (ps : List (Str × Str)), (∀ p ∈ ps, p.1 ∈ pool ∧ p.2 ∈ pool ∧ p.1 ≠ p.2) → (∀ p ∈ l.foldl (pairStep ns at_ pool) ps, p.1 ∈ pool ∧ p.2 ∈ pool ∧ p.1 ≠ p.2) ∧ (l.foldl (pairStep ns at_ pool) ps).length ≤ ps.length + l.length
  | [], ps, h => ⟨h, by simp⟩
  | k :: r, ps, h => by
    have hpl : (0 : Int) < pool.length := by omega
    have b1 := mixed_lt (ns := ns) (k := at_ + 1 + 2 * (k : Nat)) (many := pool.length) hpl
    have b2 := mixed_lt (ns := ns) (k := at_ + 2 + 2 * (k : Nat)) (many := pool.length) hpl
    have hs : (∀ p ∈ pairStep ns at_ pool ps k, p.1 ∈ pool ∧ p.2 ∈ pool ∧ p.1 ≠ p.2) ∧ (pairStep ns at_ pool ps k).length ≤ ps.length + 1 := by
      unfold pairStep
      split
      · exact ⟨h, by omega⟩
      · rename_i hne
        refine ⟨fun p hp => ?_, by simp⟩
        rcases List.mem_append.mp hp with z | z
        · exact h p z
        · rw [List.mem_singleton.mp z]
          exact ⟨pickW_mem b1.1 b1.2, pickW_mem b2.1 b2.2, hne⟩
    obtain ⟨i1, i2⟩ := pairStep_ok hp ns at_ r _ hs.1
    exact ⟨i1, by have := hs.2; simp only [List.foldl_cons, List.length_cons]; omega⟩
theorem pairs_ok {pool : List Str} (P : PoolOk pool) (ns : List Int) (at_ : Int) {most : Int} (hm : 0 ≤ most ∧ most ≤ 8) : okPs (pairsOf ns at_ pool most) ∧ ∀ p ∈ pairsOf ns at_ pool most, p.1 ∈ pool ∧ p.2 ∈ pool := by
  obtain ⟨h1, h2⟩ := pairStep_ok (pool := pool) (by have := P.pos; omega) ns at_ (List.range (mixed ns at_ (most + 1)).toNat) [] (fun p hp => by cases hp)
  have hb := mixed_lt (ns := ns) (k := at_) (many := most + 1) (by omega)
  simp only [List.length_range, List.length_nil] at h2
  refine ⟨⟨by unfold pairsOf; omega, fun p hp => ?_⟩, fun p hp => ⟨(h1 p hp).1, (h1 p hp).2.1⟩⟩
  obtain ⟨a, b, c⟩ := h1 p hp
  exact ⟨P.word _ a, P.word _ b, c⟩
theorem stepS_nodup {ks : List Str} {k : Str} (h : ks.Nodup) : (stepS ks k).Nodup := by
  unfold stepS
  split
  · exact h
  · rename_i hk
    rw [List.nodup_append]
    refine ⟨h, by simp, fun a ha b hb e => ?_⟩
    rw [List.mem_singleton.mp hb] at e
    exact hk (e ▸ ha)
theorem ord_ok {pool : List Str} (hp : 0 < pool.length) (ns : List Int) (at_ : Int) : ∀ (l : List Nat) (ws : List Str), ws.Nodup → (∀ w ∈ ws, w ∈ pool) → (l.foldl (ordStep ns at_ pool) ws).Nodup ∧ (∀ w ∈ l.foldl (ordStep ns at_ pool) ws, w ∈ pool) ∧ (l.foldl (ordStep ns at_ pool) ws).length ≤ ws.length + l.length
  | [], ws, h1, h2 => ⟨h1, h2, by simp⟩
  | k :: r, ws, h1, h2 => by
    have hpl : (0 : Int) < pool.length := by omega
    have b1 := mixed_lt (ns := ns) (k := at_ + 1 + (k : Nat)) (many := pool.length) hpl
    have hm : ∀ w ∈ ordStep ns at_ pool ws k, w ∈ pool := fun w hw => by
      unfold ordStep stepS at hw
      split at hw
      · exact h2 w hw
      · rcases List.mem_append.mp hw with z | z
        · exact h2 w z
        · rw [List.mem_singleton.mp z]
          exact pickW_mem b1.1 b1.2
    obtain ⟨i1, i2, i3⟩ := ord_ok hp ns at_ r _ (stepS_nodup h1) hm
    refine ⟨i1, i2, ?_⟩
    have : (ordStep ns at_ pool ws k).length ≤ ws.length + 1 := stepS_len _ _
    simp only [List.foldl_cons, List.length_cons]
    have i3' : (List.foldl (ordStep ns at_ pool) (ordStep ns at_ pool ws k) r).length ≤ (ordStep ns at_ pool ws k).length + r.length := i3
    omega
theorem rules_ok {pool : List Str} (P : PoolOk pool) (ns : List Int) (at_ : Int) : okR (rulesOf ns at_ pool) ∧ (∀ p ∈ (rulesOf ns at_ pool).needs, p.1 ∈ pool ∧ p.2 ∈ pool) ∧ (∀ p ∈ (rulesOf ns at_ pool).bars, p.1 ∈ pool ∧ p.2 ∈ pool) ∧ ∀ w ∈ (rulesOf ns at_ pool).order, w ∈ pool := by
  have p1 := pairs_ok P ns (at_ + 10) (most := 4) (by omega)
  have p2 := pairs_ok P ns (at_ + 30) (most := 3) (by omega)
  obtain ⟨o1, o2, o3⟩ := ord_ok (pool := pool) (by have := P.pos; omega) ns at_ (List.range (mixed ns at_ 5).toNat) [] List.nodup_nil (fun w hw => by cases hw)
  have hb := mixed_lt (ns := ns) (k := at_) (many := 5) (by omega)
  simp only [List.length_range, List.length_nil] at o3
  exact ⟨⟨p1.1, p2.1, fun w hw => P.word w (o2 w hw), by show (orderW ns at_ pool).length ≤ 6; unfold orderW; omega, o1⟩, p1.2, p2.2, o2⟩
theorem world_ok {pool : List Str} (P : PoolOk pool) (ns : List Int) {os : List Offer} (ne : os ≠ []) (ho : ∀ o ∈ os, ∃ a, o = offerOf ns a pool) (hlen : os.length ≤ 10) (at_ : Int) : World1 os (rulesOf ns at_ pool) pool := by
  obtain ⟨r1, r2, r3, r4⟩ := rules_ok P ns at_
  refine ⟨⟨by have := P.len; omega, r1.needs.1, fun p hp => (r2 p hp).2⟩, ne, fun o h w hw => ?_, ?_, fun o h row hr => ?_, r1.len, r4⟩
  · obtain ⟨a, rfl⟩ := ho o h
    exact (someOf_sub _ _ _ _).subset hw
  · have : ∀ l : List Offer, (∀ o ∈ l, o.must.length ≤ 6) → (l.flatMap (·.must)).length ≤ 6 * l.length := fun l => by
      induction l with
      | nil => intro _; simp
      | cons o r ih =>
        intro h
        have h1 := h o List.mem_cons_self
        have h2 := ih fun o ho => h o (List.mem_cons_of_mem _ ho)
        simp only [List.flatMap_cons, List.length_append, List.length_cons]
        omega
    have := this os fun o h => by
      obtain ⟨a, rfl⟩ := ho o h
      exact (offer_ok P ns a).must.2.1
    omega
  · obtain ⟨a, rfl⟩ := ho o h
    obtain ⟨_, h2⟩ := rowsOf_mem hr
    exact ⟨fun w hw => h2.subset hw, Nat.le_trans h2.length_le P.len⟩
end G6
-- ## P18
/-! # P18: _law_known, _law_fits, _law_subsets -/
namespace G6
open PySem
local macro_rules | `(tactic| simp_arith [$ts,*]) => `(tactic| simp only [e_var, e_pk, e_cst, e_glb, e_fnv, e_tup, e_lst, e_op1, e_op2, e_chn, e_and, e_or, e_not, e_ite, e_slc, e_call, e_met, dens, deno, dsrc, x_set, x_setm, x_dnew, x_unp, x_par, x_app, x_ext, x_dput, x_ret, x_retn, x_rse, x_ite, x_loop, x_wh, x_brk, x_cnt, x_pas, x_exp, x_par3, x_parc, x_unpl, x_tryw, e_callt, x_nil, x_cons, R.bind, R.fl, Fl.seq, dataOf, resOf, res, rd, tst, lift, lift2, sem1, sem2, alls, outOf, ioOut, putV, putsV, freeAt_eq, fs_un, fs_v, fs_m, fs_f, plainAt, ps_un, ps_v, ps_f, ps_m, lcF', condF', List.getElem?_cons_zero, List.getElem?_cons_succ, List.set_cons_zero, List.set_cons_succ, if_true, if_false, Bool.false_eq_true, reduceCtorEq, Option.map_some, Option.map_none, Bool.and_true, Bool.true_and, Bool.not_true, Bool.not_false, len_eT, len_eL, len_eRows, len_ePs, len_eO, len_eR, len_eRow, len_eV, len_eP, nd_eT, nd_eL, nd_eRows, nd_ePs, nd_eO, nd_eR, nd_eRow, nd_eV, nd_eP, ty_eT, ty_eRows, ty_ePs, ty_eO, ty_eR, ty_eRow, ty_eV, ty_eP, walk_eT, walk_eL, walk_eRows, walk_ePs, walk_eP, walk_eV, list_eT, list_eL, tup_eL, tup_eT, ix_eO0, ix_eO1, ix_eO2, ix_eO3, ix_eR0, ix_eR1, ix_eR2, ix_eRow0, ix_eRow1, ix_eP0, ix_eP1, non_eV, non_eT, non_eL, walk_eOs, ty_eL, in_eT, in_eL, eq_eL, eq_eT, eq_eV, lt_eV, gt_eV, eq_int, eq_str, lt_int, gt_int, nd_none, non_none, ty_str_none, ty_int_none, ty_bool_none, ty_tuple_none, ty_list_none, nd_bool, non_bool, ty_str_bool, ty_int_bool, ty_bool_bool, ty_tuple_bool, ty_list_bool, nd_int, non_int, ty_str_int, ty_int_int, ty_bool_int, ty_tuple_int, ty_list_int, nd_str, non_str, ty_str_str, ty_int_str, ty_bool_str, ty_tuple_str, ty_list_str, nd_list, non_list, ty_str_list, ty_int_list, ty_bool_list, ty_tuple_list, ty_list_list, nd_tuple, non_tuple, ty_str_tuple, ty_int_tuple, ty_bool_tuple, ty_tuple_tuple, ty_list_tuple, len_list, len_tuple, list_list, list_tuple, tup_list, tup_tuple, ix_list, ix_tuple, tr_bool, tr_none, tr_int, tr_list, tr_tuple, lst_list, lst_eL, atI_0, atI_1, atI_2, atI_3, $ts,*])
structure LibF (T : Str → Option Fn) : Prop where
  known : T "_law_known" = some c_law_known
  fits : T "_law_fits" = some c_law_fits
def knownL (o : Offer) (v : Ver) : List (List Str) := (o.rows.filter fun r => decide (r.1 = v)).map (·.2)
def eTs (l : List (List Str)) : PyData := .list (l.map eT)
section
variable {T : Str → Option Fn} {n : Nat}
theorem phi_known (F : LibF T) (o : Offer) (v : Ver) : Phi T (n + 1) "_law_known" [.d (eO o), .d (eV v)] = .ret (eTs (knownL o v)) .none := by
  rw [Phi_succ F.known, run1 [.v (eO o), .v (eV v), .un] rfl rfl]
  have hlc := lcT1 (Φ := Phi T n) (elt := .op2 .idx (.pk 2) (.cst (.int 1))) (src := .of (.op2 .idx (.pk 0) (.cst (.int 0)))) (cond := .so (.op2 .eq (.op2 .idx (.pk 2) (.cst (.int 0))) (.pk 1))) (i := 2) (ρ := [.v (eO o), .v (eV v), .un]) (enc := eRow) (ys := o.rows) (c := fun r => decide (r.1 = v)) (e := fun r => eT r.2) (by simp_arith []) rfl (fun r hr => by simp_arith []) (fun r hr _ => by simp_arith [])
  have em : PyData.list ((o.rows.filter fun r => decide (r.1 = v)).map fun r => eT r.2) = eTs (knownL o v) := by simp [eTs, knownL, Function.comp_def]
  rw [em] at hlc
  simp_arith [c_law_known, hlc]
end
end G6
-- ## P19
/-! # P19: _law_fits -/
namespace G6
open PySem
local macro_rules | `(tactic| simp_arith [$ts,*]) => `(tactic| simp only [e_var, e_pk, e_cst, e_glb, e_fnv, e_tup, e_lst, e_op1, e_op2, e_chn, e_and, e_or, e_not, e_ite, e_slc, e_call, e_met, dens, deno, dsrc, x_set, x_setm, x_dnew, x_unp, x_par, x_app, x_ext, x_dput, x_ret, x_retn, x_rse, x_ite, x_loop, x_wh, x_brk, x_cnt, x_pas, x_exp, x_par3, x_parc, x_unpl, x_tryw, e_callt, x_nil, x_cons, R.bind, R.fl, Fl.seq, dataOf, resOf, res, rd, tst, lift, lift2, sem1, sem2, alls, outOf, ioOut, putV, putsV, freeAt_eq, fs_un, fs_v, fs_m, fs_f, plainAt, ps_un, ps_v, ps_f, ps_m, lcF', condF', List.getElem?_cons_zero, List.getElem?_cons_succ, List.set_cons_zero, List.set_cons_succ, if_true, if_false, Bool.false_eq_true, reduceCtorEq, Option.map_some, Option.map_none, Bool.and_true, Bool.true_and, Bool.not_true, Bool.not_false, len_eT, len_eL, len_eRows, len_ePs, len_eO, len_eR, len_eRow, len_eV, len_eP, nd_eT, nd_eL, nd_eRows, nd_ePs, nd_eO, nd_eR, nd_eRow, nd_eV, nd_eP, ty_eT, ty_eRows, ty_ePs, ty_eO, ty_eR, ty_eRow, ty_eV, ty_eP, walk_eT, walk_eL, walk_eRows, walk_ePs, walk_eP, walk_eV, list_eT, list_eL, tup_eL, tup_eT, ix_eO0, ix_eO1, ix_eO2, ix_eO3, ix_eR0, ix_eR1, ix_eR2, ix_eRow0, ix_eRow1, ix_eP0, ix_eP1, non_eV, non_eT, non_eL, walk_eOs, ty_eL, in_eT, in_eL, eq_eL, eq_eT, eq_eV, lt_eV, gt_eV, eq_int, eq_str, lt_int, gt_int, nd_none, non_none, ty_str_none, ty_int_none, ty_bool_none, ty_tuple_none, ty_list_none, nd_bool, non_bool, ty_str_bool, ty_int_bool, ty_bool_bool, ty_tuple_bool, ty_list_bool, nd_int, non_int, ty_str_int, ty_int_int, ty_bool_int, ty_tuple_int, ty_list_int, nd_str, non_str, ty_str_str, ty_int_str, ty_bool_str, ty_tuple_str, ty_list_str, nd_list, non_list, ty_str_list, ty_int_list, ty_bool_list, ty_tuple_list, ty_list_list, nd_tuple, non_tuple, ty_str_tuple, ty_int_tuple, ty_bool_tuple, ty_tuple_tuple, ty_list_tuple, len_list, len_tuple, list_list, list_tuple, tup_list, tup_tuple, ix_list, ix_tuple, tr_bool, tr_none, tr_int, tr_list, tr_tuple, lst_list, lst_eL, atI_0, atI_1, atI_2, atI_3, $ts,*])
theorem eq_eTs_nil (l : List (List Str)) : eqD (eTs l) (.list []) = some (decide (l = [])) := by
  unfold eqD
  rw [if_pos (by
    have : depthOk (.list []) = true := by decide
    simp [eTs, noDict, this])]
  cases l <;> simp [eTs, PyData.eqv, PyData.eqvAll]
theorem ix_eTs0 (k : List Str) (r : List (List Str)) : idxD (eTs (k :: r)) (.int 0) = some (eT k) := L2.atI_nat (j := 0) rfl
def fitsOne (v : Ver) (ws : List Str) (o : Offer) : Bool := match knownL o v with
  | [] => false
  | k :: _ => !vlt v o.least && o.must.all (fun w => decide (w ∈ ws)) && ws.all (fun w => decide (w ∈ k) && !decide (w ∈ o.bar))
def needsOk (r : Rules) (ws : List Str) : Bool := (r.needs.filter fun p => decide (p.1 ∈ ws)).all fun p => decide (p.2 ∈ ws)
def barsIn (r : Rules) (ws : List Str) : Bool := r.bars.any fun p => decide (p.1 ∈ ws) && decide (p.2 ∈ ws)
def lawFits (os : List Offer) (r : Rules) (v : Ver) (ws : List Str) : Bool := os.all (fitsOne v ws) && needsOk r ws && !barsIn r ws
section
variable {T : Str → Option Fn} {n : Nat}
theorem phi_fits (F : LibF T) (os : List Offer) (r : Rules) (v : Ver) (ws : List Str) : Phi T (n + 2) "_law_fits" [.d (eOs os), .d (eR r), .d (eV v), .d (eT ws)] = .ret (.bool (lawFits os r v ws)) .none := by
  rw [Phi_succ F.fits, run1 [.v (eOs os), .v (eR r), .v (eV v), .v (eT ws), .un, .un, .un, .un] rfl rfl]
  have key := forT (enc := eO) (body := loopB (Phi T (n + 1)) (.cons (.set 5 (.call "_law_known" none (.cons (.var 4) (.cons (.var 2) .nil)))) (.cons (.ite (.or (.op2 .eq (.pk 5) (.lst .nil)) (.or (.op2 .lt (.pk 2) (.op2 .idx (.pk 4) (.cst (.int 1)))) (.not (.op1 .all (.lc (.op2 .isin (.pk 6) (.pk 3)) [6] (.of (.op2 .idx (.pk 4) (.cst (.int 2)))) .no))))) (.cons (.ret (.cst (.bool false))) .nil) .nil) (.cons (.ite (.not (.op1 .all (.lc (.and (.op2 .isin (.pk 6) (.op2 .idx (.pk 5) (.cst (.int 0)))) (.op2 .notin (.pk 6) (.op2 .idx (.pk 4) (.cst (.int 3))))) [6] (.of (.var 3)) .no))) (.cons (.ret (.cst (.bool false))) .nil) .nil) .nil))))
    (tg := [4]) (Rp := fun (_ : Unit) ρ => ∃ s4 s5 s6 s7, plainSl s4 = true ∧ plainSl s5 = true ∧ plainSl s6 = true ∧ plainSl s7 = true ∧ ρ = [.v (eOs os), .v (eR r), .v (eV v), .v (eT ws), s4, s5, s6, s7]) (step := fun _ o => if (!fitsOne v ws o) then .stop (.bool false) else .go ()) (ys := os) (a := ()) (ρ := [.v (eOs os), .v (eR r), .v (eV v), .v (eT ws), .un, .un, .un, .un]) ⟨.un, .un, .un, .un, rfl, rfl, rfl, rfl, rfl⟩ (fun a o ρ ho ⟨s4, s5, s6, s7, h4, h5, h6, h7, e⟩ => by
      subst e
      refine ⟨by simp_arith [List.all_cons, List.all_nil, plain_free h4], [.v (eOs os), .v (eR r), .v (eV v), .v (eT ws), .v (eO o), s5, s6, s7], rfl, ?_⟩
      have hk := phi_known (n := n) F o v
      have l1 := lcT1n (Φ := Phi T (n + 1)) (elt := .op2 .isin (.pk 6) (.pk 3)) (src := .of (.op2 .idx (.pk 4) (.cst (.int 2)))) (i := 6) (ρ := [.v (eOs os), .v (eR r), .v (eV v), .v (eT ws), .v (eO o), .v (eTs (knownL o v)), s6, s7]) (enc := PyData.str) (ys := o.must) (e := fun w => .bool (decide (w ∈ ws))) (by simp_arith []) (by simp_arith [h6]) (fun w hw => by simp_arith [])
      unfold fitsOne
      cases hkl : knownL o v with
      | nil =>
        rw [hkl] at hk l1
        simp only [Bool.not_false, if_true]
        exact ⟨_, by simp_arith [loopB, callK_2 hk, plain_free h5, eq_eTs_nil, decide_true] <;> rfl⟩
      | cons k kr =>
        rw [hkl] at hk l1
        have l2 := lcT1n (Φ := Phi T (n + 1)) (elt := .and (.op2 .isin (.pk 6) (.op2 .idx (.pk 5) (.cst (.int 0)))) (.op2 .notin (.pk 6) (.op2 .idx (.pk 4) (.cst (.int 3))))) (src := .of (.var 3)) (i := 6) (ρ := [.v (eOs os), .v (eR r), .v (eV v), .v (eT ws), .v (eO o), .v (eTs (k :: kr)), s6, s7]) (enc := PyData.str) (ys := ws) (e := fun w => .bool (decide (w ∈ k) && !decide (w ∈ o.bar))) (by simp_arith []) (by simp_arith [h6]) (fun w hw => by
          by_cases hwk : w ∈ k
          · simp_arith [ix_eTs0, hwk, decide_true]
          · simp_arith [ix_eTs0, hwk, decide_false, Bool.false_and])
        have hne : decide (k :: kr = []) = false := rfl
        cases hv : vlt v o.least with
        | true =>
          simp only [Bool.not_true, Bool.false_and, Bool.not_false, if_true]
          exact ⟨_, by simp_arith [loopB, callK_2 hk, plain_free h5, eq_eTs_nil, hne, decide_false, hv] <;> rfl⟩
        | false =>
          cases hm : o.must.all (fun w => decide (w ∈ ws)) with
          | false =>
            simp only [Bool.not_false, Bool.true_and, Bool.false_and, if_true]
            exact ⟨_, by simp_arith [loopB, callK_2 hk, plain_free h5, eq_eTs_nil, hne, decide_false, hv, l1, all_map (fun w => decide (w ∈ ws)), hm] <;> rfl⟩
          | true =>
            cases hw : ws.all (fun w => decide (w ∈ k) && !decide (w ∈ o.bar)) with
            | false =>
              simp only [hw, Bool.not_false, Bool.true_and, if_true]
              exact ⟨_, by simp_arith [loopB, callK_2 hk, plain_free h5, eq_eTs_nil, hne, decide_false, hv, l1, all_map (fun w => decide (w ∈ ws)), hm, l2, all_map (fun w => decide (w ∈ k) && !decide (w ∈ o.bar)), hw] <;> rfl⟩
            | true =>
              simp only [hw, Bool.not_false, Bool.true_and, Bool.not_true, Bool.false_eq_true, if_false]
              exact ⟨_, .inl (by simp_arith [loopB, callK_2 hk, plain_free h5, eq_eTs_nil, hne, decide_false, hv, l1, all_map (fun w => decide (w ∈ ws)), hm, l2, all_map (fun w => decide (w ∈ k) && !decide (w ∈ o.bar)), hw] <;> rfl), .v (eO o), .v (eTs (k :: kr)), s6, s7, rfl, rfl, h6, h7, rfl⟩)
  rw [foldS_find (p := fun o => !fitsOne v ws o) (f := fun _ => PyData.bool false)] at key
  unfold lawFits
  cases hf : os.find? (fun o => !fitsOne v ws o) with
  | some o =>
    rw [hf] at key
    obtain ⟨ρ', k1⟩ := key
    have : os.all (fitsOne v ws) = false := by
      have h1 := List.find?_some hf
      rw [List.all_eq_false]
      exact ⟨o, List.mem_of_find?_eq_some hf, by simpa using h1⟩
    simp_arith [c_law_fits, walk_eOs, k1, this, Bool.false_and]
  | none =>
    rw [hf] at key
    obtain ⟨ρ', k1, s4, s5, s6, s7, _, _, h6, h7, k2⟩ := key
    have hall : os.all (fitsOne v ws) = true := by
      rw [List.all_eq_true]
      intro o ho
      have := List.find?_eq_none.mp hf o ho
      simpa using this
    have l3 := lcT2 (Φ := Phi T (n + 1)) (elt := .op2 .isin (.pk 7) (.pk 3)) (src := .of (.op2 .idx (.pk 1) (.cst (.int 0)))) (cond := .so (.op2 .isin (.pk 6) (.pk 3))) (i := 6) (j := 7) (ρ := [.v (eOs os), .v (eR r), .v (eV v), .v (eT ws), s4, s5, s6, s7]) (enc := eP) (ys := r.needs) (a := fun p => .str p.1) (b := fun p => .str p.2) (c := fun p => decide (p.1 ∈ ws)) (e := fun p => .bool (decide (p.2 ∈ ws))) (by decide) (fun _ _ => rfl) (by simp_arith []) (by simp_arith [h6]) (by simp_arith [h7]) (fun p hp => by simp_arith []) (fun p hp _ => by simp_arith [])
    have l4 := lcT2n (Φ := Phi T (n + 1)) (elt := .and (.op2 .isin (.pk 6) (.pk 3)) (.op2 .isin (.pk 7) (.pk 3))) (src := .of (.op2 .idx (.pk 1) (.cst (.int 1)))) (i := 6) (j := 7) (ρ := [.v (eOs os), .v (eR r), .v (eV v), .v (eT ws), s4, s5, s6, s7]) (enc := eP) (ys := r.bars) (a := fun p => .str p.1) (b := fun p => .str p.2) (e := fun p => .bool (decide (p.1 ∈ ws) && decide (p.2 ∈ ws))) (by decide) (fun _ _ => rfl) (by simp_arith []) (by simp_arith [h6]) (by simp_arith [h7]) (fun p hp => by
      by_cases hp1 : p.1 ∈ ws
      · simp_arith [hp1, decide_true]
      · simp_arith [hp1, decide_false, Bool.false_and])
    have hn : (r.needs.filter fun p => decide (p.1 ∈ ws)).all (fun p => decide (p.2 ∈ ws)) = needsOk r ws := rfl
    have hbz : r.bars.any (fun p => decide (p.1 ∈ ws) && decide (p.2 ∈ ws)) = barsIn r ws := rfl
    cases hno : needsOk r ws with
    | false => simp_arith [c_law_fits, walk_eOs, k1, k2, hall, l3, all_map (fun p : Str × Str => decide (p.2 ∈ ws)), hn, hno, Bool.and_false, Bool.false_and]
    | true => simp_arith [c_law_fits, walk_eOs, k1, k2, hall, l3, all_map (fun p : Str × Str => decide (p.2 ∈ ws)), hn, hno, l4, any_map (fun p : Str × Str => decide (p.1 ∈ ws) && decide (p.2 ∈ ws)), hbz]
end
end G6
-- ## P20
/-! # P20: what fits, in plain words -/
namespace G6
open PySem
structure Fits (os : List Offer) (r : Rules) (v : Ver) (ws : List Str) : Prop where
  ver : ∀ o ∈ os, (featuresAt o v).isSome = true
  least : ∀ o ∈ os, vlt v o.least = false
  must : ∀ o ∈ os, ∀ w ∈ o.must, w ∈ ws
  feat : ∀ o ∈ os, ∀ w ∈ ws, w ∈ featsOf o v ∧ w ∉ o.bar
  closed : Closed r (· ∈ ws)
  bars : ∀ p ∈ r.bars, ¬ (p.1 ∈ ws ∧ p.2 ∈ ws)
theorem known_head (o : Offer) (v : Ver) : (knownL o v).head? = featuresAt o v := by
  unfold knownL featuresAt
  rw [List.head?_map, List.head?_filter]
theorem fitsOne_iff {v : Ver} {ws : List Str} {o : Offer} : fitsOne v ws o = true ↔ (featuresAt o v).isSome = true ∧ vlt v o.least = false ∧ (∀ w ∈ o.must, w ∈ ws) ∧ ∀ w ∈ ws, w ∈ featsOf o v ∧ w ∉ o.bar := by
  have hk := known_head o v
  unfold fitsOne featsOf
  cases h : knownL o v with
  | nil =>
    rw [h] at hk
    rw [← hk]
    simp
  | cons k kr =>
    rw [h] at hk
    rw [← hk]
    simp only [List.head?_cons, Option.isSome_some, Option.getD_some, true_and, Bool.and_eq_true, Bool.not_eq_true', List.all_eq_true, decide_eq_true_eq, decide_eq_false_iff_not, and_assoc]
theorem lawFits_iff {os : List Offer} {r : Rules} {v : Ver} {ws : List Str} : lawFits os r v ws = true ↔ Fits os r v ws := by
  unfold lawFits needsOk barsIn
  simp only [Bool.and_eq_true, List.all_eq_true, fitsOne_iff, Bool.not_eq_true', List.any_eq_false, List.mem_filter, decide_eq_true_eq, and_imp]
  constructor
  · rintro ⟨⟨h1, h2⟩, h3⟩
    exact ⟨fun o ho => (h1 o ho).1, fun o ho => (h1 o ho).2.1, fun o ho => (h1 o ho).2.2.1, fun o ho => (h1 o ho).2.2.2, fun p hp hw => h2 p hp hw, fun p hp ab => h3 p hp ab⟩
  · intro h
    exact ⟨⟨fun o ho => ⟨h.ver o ho, h.least o ho, h.must o ho, h.feat o ho⟩, fun p hp hw => h.closed p hp hw⟩, fun p hp ab => h.bars p hp ab⟩
theorem isFit_iff {r : Rules} {known ws : List Str} (hr : risingS ws) : isFit r known ws = true ↔ (∀ w ∈ ws, w ∈ known) ∧ (∀ p ∈ r.bars, ¬ (p.1 ∈ ws ∧ p.2 ∈ ws)) ∧ clo r ws = ws := by
  unfold isFit
  rw [sort_self hr]
  simp only [Bool.and_eq_true, List.all_eq_true, decide_eq_true_eq, Option.isNone_iff_eq_none, and_assoc]
  have : barredPair r ws = none ↔ ∀ p ∈ r.bars, ¬ (p.1 ∈ ws ∧ p.2 ∈ ws) := by
    unfold barredPair
    simp [List.find?_eq_none]
  rw [this]
theorem clo_self {r : Rules} {ws : List Str} (hr : risingS ws) (hc : Closed r (· ∈ ws)) : clo r ws = ws :=
  rising_ext (clo_rising r ws) hr fun w => ⟨clo_least r hc (fun w h => h) w, clo_sub r⟩
theorem clo_clo (r : Rules) (ws : List Str) : clo r (clo r ws) = clo r ws := clo_self (clo_rising r ws) (clo_closed r ws)
end G6
-- ## P21
/-! # P21: the best at a version is the greatest that fits there -/
namespace G6
open PySem
structure Good (r : Rules) (known acc : List Str) : Prop where
  ris : risingS acc
  fit : isFit r known acc = true
theorem tryF_good {r : Rules} {known acc : List Str} {f : Str} (h : Good r known acc) : Good r known (tryF r known acc f) ∧ ∀ w ∈ acc, w ∈ tryF r known acc f := by
  unfold tryF
  split
  · rename_i hf
    exact ⟨⟨clo_rising _ _, hf⟩, fun w hw => clo_sub r (List.mem_append_left _ hw)⟩
  · exact ⟨h, fun w hw => hw⟩
theorem fold_good {r : Rules} {known : List Str} : ∀ (fs : List Str) (acc : List Str), Good r known acc → Good r known (fs.foldl (tryF r known) acc) ∧ ∀ w ∈ acc, w ∈ fs.foldl (tryF r known) acc
  | [], acc, h => ⟨h, fun w hw => hw⟩
  | f :: fs, acc, h => by
    obtain ⟨h1, h2⟩ := tryF_good (f := f) h
    obtain ⟨h3, h4⟩ := fold_good fs _ h1
    exact ⟨h3, fun w hw => h4 w (h2 w hw)⟩
theorem fold_max {r : Rules} {known : List Str} {S : Str → Prop} (hc : Closed r S) (hk : ∀ w, S w → w ∈ known) (hb : ∀ p ∈ r.bars, ¬ (S p.1 ∧ S p.2)) : ∀ (fs : List Str) (acc : List Str), Good r known acc → (∀ w ∈ fs.foldl (tryF r known) acc, S w) → ∀ f ∈ fs, S f → f ∈ fs.foldl (tryF r known) acc
  | [], acc, _, _, f, hf, _ => by cases hf
  | g :: fs, acc, h, hS, f, hf, hs => by
    obtain ⟨h1, h2⟩ := tryF_good (f := g) h
    obtain ⟨h3, h4⟩ := fold_good fs _ h1
    rcases List.mem_cons.mp hf with e | e
    · subst e
      have ha : ∀ w ∈ acc ++ [f], S w := fun w hw => by
        rcases List.mem_append.mp hw with z | z
        · exact hS w (h4 w (h2 w z))
        · rw [List.mem_singleton.mp z]; exact hs
      have hcl := clo_least r hc ha
      have hfit : isFit r known (clo r (acc ++ [f])) = true := (isFit_iff (clo_rising _ _)).mpr ⟨fun w hw => hk w (hcl w hw), fun p hp ⟨a, b⟩ => hb p hp ⟨hcl _ a, hcl _ b⟩, clo_clo _ _⟩
      refine h4 f ?_
      unfold tryF
      rw [if_pos hfit]
      exact clo_sub r (List.mem_append_right _ (List.mem_singleton.mpr rfl))
    · exact fold_max hc hk hb fs _ h1 hS f e hs
theorem mem_musts {os : List Offer} {w : Str} : w ∈ mustsW os ↔ ∃ o ∈ os, w ∈ o.must := by
  unfold mustsW
  rw [mem_setW, List.mem_flatMap]
theorem mem_order {r : Rules} {known : List Str} {w : Str} (h : w ∈ known) : w ∈ orderOf r known := by
  unfold orderOf
  rw [List.mem_append, List.mem_filter, List.mem_filter]
  by_cases z : w ∈ r.order
  · exact .inl ⟨z, by simpa using h⟩
  · exact .inr ⟨h, by simpa using z⟩
section
variable {o0 : Offer} {rest : List Offer} {r : Rules} {v : Ver}
theorem fits_known {ws : List Str} (h : Fits (o0 :: rest) r v ws) : ∀ w ∈ ws, w ∈ commonW (o0 :: rest) v := fun w hw => mem_common.mpr fun o ho => h.feat o ho w hw
/-- something fits: then there is a best -/
theorem bestAt_some {ws : List Str} (h : Fits (o0 :: rest) r v ws) : ∃ C, bestAt (o0 :: rest) r v = some C := by
  have hm : ∀ w ∈ mustsW (o0 :: rest), w ∈ ws := fun w hw => by
    obtain ⟨o, ho, hw⟩ := mem_musts.mp hw
    exact h.must o ho w hw
  have hcl := clo_least r h.closed hm
  have hfit : isFit r (commonW (o0 :: rest) v) (clo r (mustsW (o0 :: rest))) = true := (isFit_iff (clo_rising _ _)).mpr ⟨fun w hw => fits_known h w (hcl w hw), fun p hp ⟨a, b⟩ => h.bars p hp ⟨hcl _ a, hcl _ b⟩, clo_clo _ _⟩
  unfold bestAt
  rw [if_pos hfit]
  exact ⟨_, rfl⟩
theorem bestAt_good {C : List Str} (h : bestAt (o0 :: rest) r v = some C) : Good r (commonW (o0 :: rest) v) C ∧ (∀ o ∈ o0 :: rest, ∀ w ∈ o.must, w ∈ C) ∧ ∀ ws, Fits (o0 :: rest) r v ws → (∀ w ∈ C, w ∈ ws) → ∀ w ∈ ws, w ∈ C := by
  unfold bestAt at h
  split at h
  · rename_i hf
    cases h
    have g0 : Good r (commonW (o0 :: rest) v) (clo r (mustsW (o0 :: rest))) := ⟨clo_rising _ _, hf⟩
    obtain ⟨g1, g2⟩ := fold_good (orderOf r (commonW (o0 :: rest) v)) _ g0
    refine ⟨g1, fun o ho w hw => g2 w (clo_sub r (mem_musts.mpr ⟨o, ho, hw⟩)), fun ws hw hs w hww => ?_⟩
    exact fold_max (S := (· ∈ ws)) hw.closed (fits_known hw) hw.bars _ _ g0 hs w (mem_order (fits_known hw w hww)) hww
  · cases h
/-- the best fits -/
theorem bestAt_fits {C : List Str} (h : bestAt (o0 :: rest) r v = some C) (hv : ∀ o ∈ o0 :: rest, (featuresAt o v).isSome = true) (hl : ∀ o ∈ o0 :: rest, vlt v o.least = false) : Fits (o0 :: rest) r v C := by
  obtain ⟨g, hm, _⟩ := bestAt_good h
  obtain ⟨a, b, c⟩ := (isFit_iff g.ris).mp g.fit
  refine ⟨hv, hl, hm, fun o ho w hw => mem_common.mp (a w hw) o ho, ?_, b⟩
  rw [← c]
  exact clo_closed r C
end
end G6
-- ## P22
/-! # P22: the best of all versions -/
namespace G6
open PySem
theorem maxV_mem : ∀ (vs : List Ver) (a : Ver), maxV a vs ∈ a :: vs
  | [], a => by simp [maxV]
  | x :: r, a => by
    have := maxV_mem r (if vlt a x then x else a)
    show (r.foldl _ (if vlt a x = true then x else a)) ∈ _
    have h : maxV (if vlt a x then x else a) r ∈ (if vlt a x then x else a) :: r := this
    rcases List.mem_cons.mp h with z | z
    · have e : (r.foldl (fun m x => if vlt m x = true then x else m) (if vlt a x = true then x else a)) = (if vlt a x then x else a) := z
      rw [e]
      split <;> simp
    · exact List.mem_cons_of_mem _ (List.mem_cons_of_mem _ z)
theorem vlt_le {a b c : Ver} (h1 : vlt b a = false) (h2 : vlt c b = false) : vlt c a = false := by
  cases h : vlt c a with
  | false => rfl
  | true =>
    rcases vlt_tri a b with z | z | z
    · have := vlt_trans h z
      rw [h2] at this; cases this
    · subst z; rw [h2] at h; cases h
    · rw [h1] at z; cases z
theorem vlt_asym {a b : Ver} (h : vlt a b = true) : vlt b a = false := by
  cases z : vlt b a with
  | false => rfl
  | true =>
    have := vlt_trans h z
    rw [vlt_irrefl] at this; cases this
theorem maxV_ge : ∀ (vs : List Ver) (a : Ver), ∀ x ∈ a :: vs, vlt (maxV a vs) x = false
  | [], a, x, hx => by
    simp only [List.mem_singleton] at hx
    subst hx
    exact vlt_irrefl _
  | y :: r, a, x, hx => by
    have ih := maxV_ge r (if vlt a y then y else a)
    have e : maxV a (y :: r) = maxV (if vlt a y then y else a) r := rfl
    rw [e]
    have hm := ih _ List.mem_cons_self
    rcases List.mem_cons.mp hx with z | z
    · subst z
      refine vlt_le ?_ hm
      split
      · rename_i h; exact vlt_asym h
      · exact vlt_irrefl _
    · rcases List.mem_cons.mp z with z | z
      · subst z
        refine vlt_le ?_ hm
        split
        · exact vlt_irrefl _
        · rename_i h; simpa using h
      · exact ih x (List.mem_cons_of_mem _ z)
theorem least_iff {o0 : Offer} {rest : List Offer} {v : Ver} : vlt v (leastOf (o0 :: rest)) = false ↔ ∀ o ∈ o0 :: rest, vlt v o.least = false := by
  have hm := maxV_mem (rest.map (·.least)) o0.least
  have hg := maxV_ge (rest.map (·.least)) o0.least
  have hmap : o0.least :: rest.map (·.least) = (o0 :: rest).map (·.least) := rfl
  rw [hmap] at hm hg
  constructor
  · intro h o ho
    exact vlt_le (hg _ (List.mem_map_of_mem ho)) h
  · intro h
    obtain ⟨o, ho, e⟩ := List.mem_map.mp hm
    show vlt v (maxV o0.least (rest.map (·.least))) = false
    rw [← e]
    exact h o ho
theorem keepV_sub : ∀ (os : List Offer) (acc : List Ver), (os.foldl keepV acc).Sublist acc
  | [], acc => List.Sublist.refl _
  | o :: r, acc => (keepV_sub r _).trans List.filter_sublist
theorem versions_fall {o0 : Offer} {rest : List Offer} (h : o0.rows.Pairwise fun a b => vlt a.1 b.1 = true) : (versionsOf (o0 :: rest)).Pairwise fun a b => vlt b a = true := by
  unfold versionsOf
  rw [List.pairwise_reverse]
  refine List.Pairwise.sublist (keepV_sub _ _) ?_
  rw [List.pairwise_map]
  exact h
section
variable {o0 : Offer} {rest : List Offer} {r : Rules}
theorem bestOf_none (h : bestOf (o0 :: rest) r = none) (v : Ver) (ws : List Str) : ¬ Fits (o0 :: rest) r v ws := fun hf => by
  unfold bestOf at h
  rw [List.findSome?_eq_none_iff] at h
  have := h v (mem_versionsOf.mpr hf.ver)
  rw [least_iff.mpr hf.least] at this
  obtain ⟨C, hC⟩ := bestAt_some hf
  rw [hC] at this
  cases this
theorem bestOf_some (hr : o0.rows.Pairwise fun a b => vlt a.1 b.1 = true) {v : Ver} {C : List Str} (h : bestOf (o0 :: rest) r = some (v, C)) : bestAt (o0 :: rest) r v = some C ∧ Fits (o0 :: rest) r v C ∧ ∀ v' ws, vlt v v' = true → ¬ Fits (o0 :: rest) r v' ws := by
  unfold bestOf at h
  obtain ⟨l1, a, l2, e, ha, hn⟩ := List.findSome?_eq_some_iff.mp h
  have hva : a = v ∧ vlt v (leastOf (o0 :: rest)) = false ∧ bestAt (o0 :: rest) r v = some C := by
    split at ha
    · cases ha
    · rename_i hl
      obtain ⟨ws, h1, h2⟩ := Option.map_eq_some_iff.mp ha
      cases h2
      exact ⟨rfl, by simpa using hl, h1⟩
  obtain ⟨rfl, hl, hb⟩ := hva
  have hmem : a ∈ versionsOf (o0 :: rest) := by rw [e]; simp
  refine ⟨hb, bestAt_fits hb (mem_versionsOf.mp hmem) (least_iff.mp hl), fun v' ws hv hf => ?_⟩
  have hm' : v' ∈ versionsOf (o0 :: rest) := mem_versionsOf.mpr hf.ver
  have hp := versions_fall (rest := rest) hr
  rw [e] at hm' hp
  have h1 : v' ∈ l1 := by
    rcases List.mem_append.mp hm' with z | z
    · exact z
    · rcases List.mem_cons.mp z with z | z
      · subst z
        rw [vlt_irrefl] at hv; cases hv
      · have := (List.pairwise_cons.mp (List.pairwise_append.mp hp).2.1).1 v' z
        have := vlt_trans hv this
        rw [vlt_irrefl] at this; cases this
  have := hn v' h1
  rw [least_iff.mpr hf.least] at this
  obtain ⟨C', hC⟩ := bestAt_some hf
  rw [hC] at this
  cases this
end
end G6
-- ## P23
/-! # P23: reason, why -/
namespace G6
open PySem
local macro_rules | `(tactic| simp_arith [$ts,*]) => `(tactic| simp only [e_var, e_pk, e_cst, e_glb, e_fnv, e_tup, e_lst, e_op1, e_op2, e_chn, e_and, e_or, e_not, e_ite, e_slc, e_call, e_met, dens, deno, dsrc, x_set, x_setm, x_dnew, x_unp, x_par, x_app, x_ext, x_dput, x_ret, x_retn, x_rse, x_ite, x_loop, x_wh, x_brk, x_cnt, x_pas, x_exp, x_par3, x_parc, x_unpl, x_tryw, e_callt, x_nil, x_cons, R.bind, R.fl, Fl.seq, dataOf, resOf, res, rd, tst, lift, lift2, sem1, sem2, alls, outOf, ioOut, putV, putsV, freeAt_eq, fs_un, fs_v, fs_m, fs_f, plainAt, ps_un, ps_v, ps_f, ps_m, lcF', condF', List.getElem?_cons_zero, List.getElem?_cons_succ, List.set_cons_zero, List.set_cons_succ, if_true, if_false, Bool.false_eq_true, reduceCtorEq, Option.map_some, Option.map_none, Bool.and_true, Bool.true_and, Bool.not_true, Bool.not_false, len_eT, len_eL, len_eRows, len_ePs, len_eO, len_eR, len_eRow, len_eV, len_eP, nd_eT, nd_eL, nd_eRows, nd_ePs, nd_eO, nd_eR, nd_eRow, nd_eV, nd_eP, ty_eT, ty_eRows, ty_ePs, ty_eO, ty_eR, ty_eRow, ty_eV, ty_eP, walk_eT, walk_eL, walk_eRows, walk_ePs, walk_eP, walk_eV, list_eT, list_eL, tup_eL, tup_eT, ix_eO0, ix_eO1, ix_eO2, ix_eO3, ix_eR0, ix_eR1, ix_eR2, ix_eRow0, ix_eRow1, ix_eP0, ix_eP1, non_eV, non_eT, non_eL, walk_eOs, ty_eL, in_eT, in_eL, eq_eL, eq_eT, eq_eV, lt_eV, gt_eV, eq_int, eq_str, lt_int, gt_int, nd_none, non_none, ty_str_none, ty_int_none, ty_bool_none, ty_tuple_none, ty_list_none, nd_bool, non_bool, ty_str_bool, ty_int_bool, ty_bool_bool, ty_tuple_bool, ty_list_bool, nd_int, non_int, ty_str_int, ty_int_int, ty_bool_int, ty_tuple_int, ty_list_int, nd_str, non_str, ty_str_str, ty_int_str, ty_bool_str, ty_tuple_str, ty_list_str, nd_list, non_list, ty_str_list, ty_int_list, ty_bool_list, ty_tuple_list, ty_list_list, nd_tuple, non_tuple, ty_str_tuple, ty_int_tuple, ty_bool_tuple, ty_tuple_tuple, ty_list_tuple, len_list, len_tuple, list_list, list_tuple, tup_list, tup_tuple, ix_list, ix_tuple, tr_bool, tr_none, tr_int, tr_list, tr_tuple, lst_list, lst_eL, atI_0, atI_1, atI_2, atI_3, $ts,*])
/-! ### equal to itself; small data -/
/-! ### reason -/
theorem int_bool (b : Bool) : intD (.bool b) = some (.int (if b then 1 else 0)) := rfl
section
variable {T : Str → Option Fn} {n : Nat}
end
end G6
-- ## P24
/-! # P24: _law_all_needed, _law_reason -/
namespace G6
open PySem
local macro_rules | `(tactic| simp_arith [$ts,*]) => `(tactic| simp only [e_var, e_pk, e_cst, e_glb, e_fnv, e_tup, e_lst, e_op1, e_op2, e_chn, e_and, e_or, e_not, e_ite, e_slc, e_call, e_met, dens, deno, dsrc, x_set, x_setm, x_dnew, x_unp, x_par, x_app, x_ext, x_dput, x_ret, x_retn, x_rse, x_ite, x_loop, x_wh, x_brk, x_cnt, x_pas, x_exp, x_par3, x_parc, x_unpl, x_tryw, e_callt, x_nil, x_cons, R.bind, R.fl, Fl.seq, dataOf, resOf, res, rd, tst, lift, lift2, sem1, sem2, alls, outOf, ioOut, putV, putsV, freeAt_eq, fs_un, fs_v, fs_m, fs_f, plainAt, ps_un, ps_v, ps_f, ps_m, lcF', condF', List.getElem?_cons_zero, List.getElem?_cons_succ, List.set_cons_zero, List.set_cons_succ, if_true, if_false, Bool.false_eq_true, reduceCtorEq, Option.map_some, Option.map_none, Bool.and_true, Bool.true_and, Bool.not_true, Bool.not_false, len_eT, len_eL, len_eRows, len_ePs, len_eO, len_eR, len_eRow, len_eV, len_eP, nd_eT, nd_eL, nd_eRows, nd_ePs, nd_eO, nd_eR, nd_eRow, nd_eV, nd_eP, ty_eT, ty_eRows, ty_ePs, ty_eO, ty_eR, ty_eRow, ty_eV, ty_eP, walk_eT, walk_eL, walk_eRows, walk_ePs, walk_eP, walk_eV, list_eT, list_eL, tup_eL, tup_eT, ix_eO0, ix_eO1, ix_eO2, ix_eO3, ix_eR0, ix_eR1, ix_eR2, ix_eRow0, ix_eRow1, ix_eP0, ix_eP1, non_eV, non_eT, non_eL, walk_eOs, ty_eL, in_eT, in_eL, eq_eL, eq_eT, eq_eV, lt_eV, gt_eV, eq_int, eq_str, lt_int, gt_int, nd_none, non_none, ty_str_none, ty_int_none, ty_bool_none, ty_tuple_none, ty_list_none, nd_bool, non_bool, ty_str_bool, ty_int_bool, ty_bool_bool, ty_tuple_bool, ty_list_bool, nd_int, non_int, ty_str_int, ty_int_int, ty_bool_int, ty_tuple_int, ty_list_int, nd_str, non_str, ty_str_str, ty_int_str, ty_bool_str, ty_tuple_str, ty_list_str, nd_list, non_list, ty_str_list, ty_int_list, ty_bool_list, ty_tuple_list, ty_list_list, nd_tuple, non_tuple, ty_str_tuple, ty_int_tuple, ty_bool_tuple, ty_tuple_tuple, ty_list_tuple, len_list, len_tuple, list_list, list_tuple, tup_list, tup_tuple, ix_list, ix_tuple, tr_bool, tr_none, tr_int, tr_list, tr_tuple, lst_list, lst_eL, atI_0, atI_1, atI_2, atI_3, $ts,*])
/-! ### what is needed, by turns -/
/-! ### the defs -/
section
variable {T : Str → Option Fn} {n : Nat}
/-! ### _law_reason -/
end
end G6
-- ## P25
/-! # P25: two drawn offers and rules; versions of two -/
namespace G6
open PySem
theorem at_own {o : Offer} {row : Ver × List Str} (h : row ∈ o.rows) : (featuresAt o row.1).isSome = true := by
  unfold featuresAt
  rw [Option.isSome_map, List.find?_isSome]
  exact ⟨row, h, by simp⟩
/-! ### data that is equal to itself -/
end G6
-- ## P26
/-! # P26: whichever is named first; all sets; what fits, by reason -/
namespace G6
open PySem
/-! ### all sets of a pool -/
theorem rising_sublist {a b : List Str} (ha : risingS a) (hb : risingS b) (h : ∀ w ∈ a, w ∈ b) : a.Sublist b := by
  have e : a = b.filter fun w => decide (w ∈ a) := rising_ext ha (List.Pairwise.sublist List.filter_sublist hb) fun w => by
    rw [List.mem_filter]
    simp only [decide_eq_true_eq]
    exact ⟨fun z => ⟨h w z, z⟩, fun z => z.2⟩
  rw [e]
  exact List.filter_sublist
/-! ### a falling row of versions -/
section
variable {o1 o2 : Offer} {r : Rules} {v : Ver}
end
/-! ### no reason, so it fits -/
section
variable {o0 : Offer} {rest : List Offer} {r : Rules} {v : Ver}
end
end G6
-- ## P27
/-! # P27: fits_both, is_choice, with_feature, without_feature -/
namespace G6
open PySem
local macro_rules | `(tactic| simp_arith [$ts,*]) => `(tactic| simp only [e_var, e_pk, e_cst, e_glb, e_fnv, e_tup, e_lst, e_op1, e_op2, e_chn, e_and, e_or, e_not, e_ite, e_slc, e_call, e_met, dens, deno, dsrc, x_set, x_setm, x_dnew, x_unp, x_par, x_app, x_ext, x_dput, x_ret, x_retn, x_rse, x_ite, x_loop, x_wh, x_brk, x_cnt, x_pas, x_exp, x_par3, x_parc, x_unpl, x_tryw, e_callt, x_nil, x_cons, R.bind, R.fl, Fl.seq, dataOf, resOf, res, rd, tst, lift, lift2, sem1, sem2, alls, outOf, ioOut, putV, putsV, freeAt_eq, fs_un, fs_v, fs_m, fs_f, plainAt, ps_un, ps_v, ps_f, ps_m, lcF', condF', List.getElem?_cons_zero, List.getElem?_cons_succ, List.set_cons_zero, List.set_cons_succ, if_true, if_false, Bool.false_eq_true, reduceCtorEq, Option.map_some, Option.map_none, Bool.and_true, Bool.true_and, Bool.not_true, Bool.not_false, len_eT, len_eL, len_eRows, len_ePs, len_eO, len_eR, len_eRow, len_eV, len_eP, nd_eT, nd_eL, nd_eRows, nd_ePs, nd_eO, nd_eR, nd_eRow, nd_eV, nd_eP, ty_eT, ty_eRows, ty_ePs, ty_eO, ty_eR, ty_eRow, ty_eV, ty_eP, walk_eT, walk_eL, walk_eRows, walk_ePs, walk_eP, walk_eV, list_eT, list_eL, tup_eL, tup_eT, ix_eO0, ix_eO1, ix_eO2, ix_eO3, ix_eR0, ix_eR1, ix_eR2, ix_eRow0, ix_eRow1, ix_eP0, ix_eP1, non_eV, non_eT, non_eL, walk_eOs, ty_eL, in_eT, in_eL, eq_eL, eq_eT, eq_eV, lt_eV, gt_eV, eq_int, eq_str, lt_int, gt_int, nd_none, non_none, ty_str_none, ty_int_none, ty_bool_none, ty_tuple_none, ty_list_none, nd_bool, non_bool, ty_str_bool, ty_int_bool, ty_bool_bool, ty_tuple_bool, ty_list_bool, nd_int, non_int, ty_str_int, ty_int_int, ty_bool_int, ty_tuple_int, ty_list_int, nd_str, non_str, ty_str_str, ty_int_str, ty_bool_str, ty_tuple_str, ty_list_str, nd_list, non_list, ty_str_list, ty_int_list, ty_bool_list, ty_tuple_list, ty_list_list, nd_tuple, non_tuple, ty_str_tuple, ty_int_tuple, ty_bool_tuple, ty_tuple_tuple, ty_list_tuple, len_list, len_tuple, list_list, list_tuple, tup_list, tup_tuple, ix_list, ix_tuple, tr_bool, tr_none, tr_int, tr_list, tr_tuple, lst_list, lst_eL, atI_0, atI_1, atI_2, atI_3, $ts,*])
theorem in_eVs (v : Ver) (vs : List Ver) : inData (eV v) (eVs vs) = some (decide (v ∈ vs)) := by
  unfold inData eVs
  have : (noDict (eV v) && depthOk (eV v)) = true := by rw [nd_eV, dOk (depth_eV v) (by decide)]; rfl
  dsimp only
  rw [if_pos this]
  congr 1
  induction vs with
  | nil => rfl
  | cons a r ih =>
    simp only [List.map_cons, List.any_cons, ih, eqv_eV, List.mem_cons]
    by_cases e : a = v
    · simp [e]
    · have : ¬ v = a := fun z => e z.symm
      simp [e, this]
abbrev Chc := Ver × List Str
def eCh (c : Chc) : PyData := .tuple [eV c.1, eT c.2]
theorem eC_some (c : Chc) : eC (some c) = eCh c := rfl
section
variable {c : Chc}
theorem len_eCh : lenD (eCh c) = some (.int 2) := rfl
theorem nd_eCh : noDict (eCh c) = true := rfl
theorem ty_eCh : isTy .tuple (eCh c) = true := rfl
theorem ix_eCh0 : idxD (eCh c) (.int 0) = some (eV c.1) := atI_0 _ _
theorem ix_eCh1 : idxD (eCh c) (.int 1) = some (eT c.2) := atI_1 _ _ _
theorem non_eCh : isNoneD (eCh c) = false := rfl
end
def fitsBoth (o1 o2 : Offer) (r : Rules) (c : Chc) : Bool := decide (c.1 ∈ versionsOf [o1, o2]) && !vlt c.1 (leastOf [o1, o2]) && (mustsW [o1, o2]).all (fun w => decide (w ∈ c.2)) && isFit r (commonW [o1, o2] c.1) c.2
theorem fitsBoth_iff {o1 o2 : Offer} {r : Rules} {c : Chc} (hr : risingS c.2) : fitsBoth o1 o2 r c = true ↔ Fits [o1, o2] r c.1 c.2 := by
  unfold fitsBoth
  simp only [Bool.and_eq_true, decide_eq_true_eq, Bool.not_eq_true', List.all_eq_true, isFit_iff hr, mem_versionsOf, least_iff, mem_common]
  constructor
  · rintro ⟨⟨⟨h1, h2⟩, h3⟩, h4, h5, h6⟩
    refine ⟨h1, h2, fun o ho w hw => h3 w (mem_musts.mpr ⟨o, ho, hw⟩), fun o ho w hw => h4 w hw o ho, ?_, h5⟩
    have := clo_closed r c.2
    rw [h6] at this
    exact this
  · intro h
    refine ⟨⟨⟨h.ver, h.least⟩, fun w hw => ?_⟩, fun w hw o ho => h.feat o ho w hw, h.bars, clo_self hr h.closed⟩
    obtain ⟨o, ho, hw⟩ := mem_musts.mp hw
    exact h.must o ho w hw
section
variable {T : Str → Option Fn} {n : Nat} {o1 o2 : Offer} {r : Rules} {U : List Str} {c : Chc}
theorem phi_fits_both (L : LibC T) (H : T "fits_both" = some c_fits_both) (W : World1 [o1, o2] r U) (hv : okV c.1) (hw : okT c.2) :
    Phi T (n + 3) "fits_both" [.d (eO o1), .d (eO o2), .d (eR r), .d (eCh c)] = .ret (.bool (fitsBoth o1 o2 r c)) .none := by
  rw [Phi_succ H, run1 [.v (eO o1), .v (eO o2), .v (eR r), .v (eCh c), .un, .un, .un] rfl rfl]
  have a1 := phi_is_version (n := n) L.toLibO hv
  have a2 := phi_are_features (n := n) L.toLibO hw
  have e0 : PyData.list [eO o1, eO o2] = eOs [o1, o2] := rfl
  have hvs := phi_versions_of (n := n) L.toLibC0 (o0 := o1) (rest := [o2])
  have l1 : den (Phi T (n + 2)) l_fits_both_1 [.v (eO o1), .v (eO o2), .v (eR r), .v (eCh c), .v (eOs [o1, o2]), .un, .un] = .ok (.dat (eVs [o1.least, o2.least])) [.v (eO o1), .v (eO o2), .v (eR r), .v (eCh c), .v (eOs [o1, o2]), .un, .un] :=
    lcT1n (enc := eO) (ys := [o1, o2]) (e := fun o => eV o.least) (by simp_arith [walk_eOs]) rfl (fun y hy => by simp_arith [])
  have hmx := max_eVs o1.least [o2.least]
  have el : maxV o1.least [o2.least] = leastOf [o1, o2] := rfl
  rw [el] at hmx
  have hm := phi_musts (n := n + 1) L.toLibC0 W.mlen
  have l2 : den (Phi T (n + 2)) l_fits_both_2 [.v (eO o1), .v (eO o2), .v (eR r), .v (eCh c), .v (eOs [o1, o2]), .un, .un] = .ok (.dat (.list ((mustsW [o1, o2]).map fun w => .bool (decide (w ∈ c.2))))) [.v (eO o1), .v (eO o2), .v (eR r), .v (eCh c), .v (eOs [o1, o2]), .un, .un] :=
    lcT1n (enc := PyData.str) (ys := mustsW [o1, o2]) (e := fun w => .bool (decide (w ∈ c.2))) (by simp_arith [callK_1 hm]) rfl (fun y hy => by simp_arith [ix_eCh1])
  unfold fitsBoth
  by_cases h1 : c.1 ∈ versionsOf [o1, o2]
  · cases h2 : vlt c.1 (leastOf [o1, o2]) with
    | true => simp_arith [c_fits_both, nd_eCh, ty_eCh, len_eCh, ix_eCh0, ix_eCh1, callK_1 a1, callK_1 a2, e0, callK_1 hvs, in_eVs, h1, decide_true, l1, hmx, h2, Bool.and_false, Bool.false_and]
    | false =>
      cases h3 : (mustsW [o1, o2]).all (fun w => decide (w ∈ c.2)) with
      | false => simp_arith [c_fits_both, nd_eCh, ty_eCh, len_eCh, ix_eCh0, ix_eCh1, callK_1 a1, callK_1 a2, e0, callK_1 hvs, in_eVs, h1, decide_true, l1, hmx, h2, l2, all_map (fun w => decide (w ∈ c.2)), h3, Bool.and_false, Bool.false_and]
      | true =>
        have hc := phi_common (n := n) L.toLibC0 (mem_versionsOf.mp h1)
        have hf := phi_is_fit (n := n) L W.small.needs (known := commonW [o1, o2] c.1) (ws := c.2) (by have := hw.2.1; omega)
        simp_arith [c_fits_both, nd_eCh, ty_eCh, len_eCh, ix_eCh0, ix_eCh1, callK_1 a1, callK_1 a2, e0, callK_1 hvs, in_eVs, h1, decide_true, l1, hmx, h2, l2, all_map (fun w => decide (w ∈ c.2)), h3, callK_2 hc, callK_3 hf]
  · simp_arith [c_fits_both, nd_eCh, ty_eCh, len_eCh, ix_eCh0, ix_eCh1, callK_1 a1, callK_1 a2, e0, callK_1 hvs, in_eVs, h1, decide_true, decide_false, Bool.false_and]
theorem phi_is_choice (L : LibC T) (H : T "fits_both" = some c_fits_both) (H2 : T "is_choice" = some c_is_choice) (h1 : okO o1) (h2 : okO o2) (h3 : okR r) (W : World1 [o1, o2] r U) (hv : okV c.1) (hw : okT c.2) :
    Phi T (n + 6) "is_choice" [.d (eO o1), .d (eO o2), .d (eR r), .d (eCh c)] = .ret (.bool (fitsBoth o1 o2 r c)) .none := by
  rw [Phi_succ H2, run1 [.v (eO o1), .v (eO o2), .v (eR r), .v (eCh c)] rfl rfl]
  simp_arith [c_is_choice, callK_1 (phi_need_offer (n := n) L.toLibR h1), callK_1 (phi_need_offer (n := n) L.toLibR h2), callK_1 (phi_need_rules (n := n + 1) L.toLibR h3), callK_4 (phi_fits_both (n := n + 2) L H W hv hw)]
/-! ### with a feature more -/
/-! ### without a feature -/
theorem okT_sub {a b : List Str} (h : okT b) (s : a.Sublist b) : okT a := ⟨fun w hw => h.1 w (s.subset hw), Nat.le_trans s.length_le h.2.1, List.Pairwise.sublist s h.2.2⟩
end
/-! ### what they tell -/
section
variable {os : List Offer} {o1 o2 : Offer} {r : Rules} {v : Ver} {C ws : List Str} {f : Str}
end
end G6
-- ## P28
/-! # P28: the best choice of two, and changes of it -/
namespace G6
open PySem
theorem fits_ver {o0 : Offer} {rest : List Offer} {r : Rules} {v : Ver} {ws : List Str} (h : Fits (o0 :: rest) r v ws) (k : okO o0) : okV v := by
  have := h.ver o0 List.mem_cons_self
  unfold featuresAt at this
  rw [Option.isSome_map, List.find?_isSome] at this
  obtain ⟨row, h1, h2⟩ := this
  rw [← of_decide_eq_true h2]
  exact (k.row row h1).1
structure BestOk (pool : List Str) (o1 o2 : Offer) (r : Rules) (v : Ver) (C : List Str) : Prop where
  ver : okV v
  ok : okT C
  fits : Fits [o1, o2] r v C
  most : ∀ ws, Fits [o1, o2] r v ws → (∀ w ∈ C, w ∈ ws) → ∀ w ∈ ws, w ∈ C
  sub : C.Sublist pool
theorem fits_sub {pool : List Str} {o1 o2 : Offer} {r : Rules} {v : Ver} {C : List Str} (P : PoolOk pool) (W : World1 [o1, o2] r pool) (hf : Fits [o1, o2] r v C) (hr : risingS C) : C.Sublist pool ∧ okT C := by
  have hs := rising_sublist hr P.ris fun w hw => (W.common v).1 w (fits_known hf w hw)
  exact ⟨hs, sub_okT P hs⟩
theorem best_ok {pool : List Str} {o1 o2 : Offer} {r : Rules} {v : Ver} {C : List Str} (P : PoolOk pool) (k1 : okO o1) (W : World1 [o1, o2] r pool) (h : bestOf [o1, o2] r = some (v, C)) : BestOk pool o1 o2 r v C := by
  obtain ⟨b1, b2, b3⟩ := bestOf_some k1.ris h
  obtain ⟨g, _, gm⟩ := bestAt_good b1
  obtain ⟨hs, ho⟩ := fits_sub P W b2 g.ris
  exact ⟨fits_ver b2 k1, ho, b2, gm, hs⟩
section
variable {o1 o2 : Offer} {r : Rules} {v : Ver} {C L : List Str} {f : Str}
end
end G6
-- ## P29
/-! # P29: the least that has it, the greatest that has it not -/
namespace G6
open PySem
/-! ### all sets, none twice -/
/-! ### min and max of lengths -/
end G6
-- ## P30
/-! # P30: the best choice depends on who is there alone; _law_best -/
namespace G6
open PySem
/-! ### whoever is named first -/
section
variable {o0 o0' : Offer} {rest rest' : List Offer} {r : Rules}
end
/-! ### by going through all sets -/
section
variable {o0 : Offer} {rest : List Offer} {r : Rules} {v : Ver} {pool : List Str}
end
end G6
-- ## P31
/-! # P31: _law_best; several offers -/
namespace G6
open PySem
local macro_rules | `(tactic| simp_arith [$ts,*]) => `(tactic| simp only [e_var, e_pk, e_cst, e_glb, e_fnv, e_tup, e_lst, e_op1, e_op2, e_chn, e_and, e_or, e_not, e_ite, e_slc, e_call, e_met, dens, deno, dsrc, x_set, x_setm, x_dnew, x_unp, x_par, x_app, x_ext, x_dput, x_ret, x_retn, x_rse, x_ite, x_loop, x_wh, x_brk, x_cnt, x_pas, x_exp, x_par3, x_parc, x_unpl, x_tryw, e_callt, x_nil, x_cons, R.bind, R.fl, Fl.seq, dataOf, resOf, res, rd, tst, lift, lift2, sem1, sem2, alls, outOf, ioOut, putV, putsV, freeAt_eq, fs_un, fs_v, fs_m, fs_f, plainAt, ps_un, ps_v, ps_f, ps_m, lcF', condF', List.getElem?_cons_zero, List.getElem?_cons_succ, List.set_cons_zero, List.set_cons_succ, if_true, if_false, Bool.false_eq_true, reduceCtorEq, Option.map_some, Option.map_none, Bool.and_true, Bool.true_and, Bool.not_true, Bool.not_false, len_eT, len_eL, len_eRows, len_ePs, len_eO, len_eR, len_eRow, len_eV, len_eP, nd_eT, nd_eL, nd_eRows, nd_ePs, nd_eO, nd_eR, nd_eRow, nd_eV, nd_eP, ty_eT, ty_eRows, ty_ePs, ty_eO, ty_eR, ty_eRow, ty_eV, ty_eP, walk_eT, walk_eL, walk_eRows, walk_ePs, walk_eP, walk_eV, list_eT, list_eL, tup_eL, tup_eT, ix_eO0, ix_eO1, ix_eO2, ix_eO3, ix_eR0, ix_eR1, ix_eR2, ix_eRow0, ix_eRow1, ix_eP0, ix_eP1, non_eV, non_eT, non_eL, walk_eOs, ty_eL, in_eT, in_eL, eq_eL, eq_eT, eq_eV, lt_eV, gt_eV, eq_int, eq_str, lt_int, gt_int, nd_none, non_none, ty_str_none, ty_int_none, ty_bool_none, ty_tuple_none, ty_list_none, nd_bool, non_bool, ty_str_bool, ty_int_bool, ty_bool_bool, ty_tuple_bool, ty_list_bool, nd_int, non_int, ty_str_int, ty_int_int, ty_bool_int, ty_tuple_int, ty_list_int, nd_str, non_str, ty_str_str, ty_int_str, ty_bool_str, ty_tuple_str, ty_list_str, nd_list, non_list, ty_str_list, ty_int_list, ty_bool_list, ty_tuple_list, ty_list_list, nd_tuple, non_tuple, ty_str_tuple, ty_int_tuple, ty_bool_tuple, ty_tuple_tuple, ty_list_tuple, len_list, len_tuple, list_list, list_tuple, tup_list, tup_tuple, ix_list, ix_tuple, tr_bool, tr_none, tr_int, tr_list, tr_tuple, lst_list, lst_eL, atI_0, atI_1, atI_2, atI_3, $ts,*])
section
variable {T : Str → Option Fn} {n : Nat}
end
/-! ### drawn offers have small versions -/
end G6
-- ## P32
/-! # P32: several offers: need_offers, choose_all, pairs -/
namespace G6
open PySem
local macro_rules | `(tactic| simp_arith [$ts,*]) => `(tactic| simp only [e_var, e_pk, e_cst, e_glb, e_fnv, e_tup, e_lst, e_op1, e_op2, e_chn, e_and, e_or, e_not, e_ite, e_slc, e_call, e_met, dens, deno, dsrc, x_set, x_setm, x_dnew, x_unp, x_par, x_app, x_ext, x_dput, x_ret, x_retn, x_rse, x_ite, x_loop, x_wh, x_brk, x_cnt, x_pas, x_exp, x_par3, x_parc, x_unpl, x_tryw, e_callt, x_nil, x_cons, R.bind, R.fl, Fl.seq, dataOf, resOf, res, rd, tst, lift, lift2, sem1, sem2, alls, outOf, ioOut, putV, putsV, freeAt_eq, fs_un, fs_v, fs_m, fs_f, plainAt, ps_un, ps_v, ps_f, ps_m, lcF', condF', List.getElem?_cons_zero, List.getElem?_cons_succ, List.set_cons_zero, List.set_cons_succ, if_true, if_false, Bool.false_eq_true, reduceCtorEq, Option.map_some, Option.map_none, Bool.and_true, Bool.true_and, Bool.not_true, Bool.not_false, len_eT, len_eL, len_eRows, len_ePs, len_eO, len_eR, len_eRow, len_eV, len_eP, nd_eT, nd_eL, nd_eRows, nd_ePs, nd_eO, nd_eR, nd_eRow, nd_eV, nd_eP, ty_eT, ty_eRows, ty_ePs, ty_eO, ty_eR, ty_eRow, ty_eV, ty_eP, walk_eT, walk_eL, walk_eRows, walk_ePs, walk_eP, walk_eV, list_eT, list_eL, tup_eL, tup_eT, ix_eO0, ix_eO1, ix_eO2, ix_eO3, ix_eR0, ix_eR1, ix_eR2, ix_eRow0, ix_eRow1, ix_eP0, ix_eP1, non_eV, non_eT, non_eL, walk_eOs, ty_eL, in_eT, in_eL, eq_eL, eq_eT, eq_eV, lt_eV, gt_eV, eq_int, eq_str, lt_int, gt_int, nd_none, non_none, ty_str_none, ty_int_none, ty_bool_none, ty_tuple_none, ty_list_none, nd_bool, non_bool, ty_str_bool, ty_int_bool, ty_bool_bool, ty_tuple_bool, ty_list_bool, nd_int, non_int, ty_str_int, ty_int_int, ty_bool_int, ty_tuple_int, ty_list_int, nd_str, non_str, ty_str_str, ty_int_str, ty_bool_str, ty_tuple_str, ty_list_str, nd_list, non_list, ty_str_list, ty_int_list, ty_bool_list, ty_tuple_list, ty_list_list, nd_tuple, non_tuple, ty_str_tuple, ty_int_tuple, ty_bool_tuple, ty_tuple_tuple, ty_list_tuple, len_list, len_tuple, list_list, list_tuple, tup_list, tup_tuple, ix_list, ix_tuple, tr_bool, tr_none, tr_int, tr_list, tr_tuple, lst_list, lst_eL, atI_0, atI_1, atI_2, atI_3, $ts,*])
section
variable {os : List Offer}
end
/-! ### slices -/
theorem cut_from {α : Type} (f : α → PyData) (xs : List α) {t : Int} (h0 : 0 ≤ t) : cutD (xs.map f) (some t) none = (xs.drop t.toNat).map f := by
  unfold cutD
  simp only [HT.sIx, List.length_map]
  rw [if_neg (by omega)]
  rw [← List.map_drop]
  by_cases h : t.toNat ≤ xs.length
  · rw [Nat.min_eq_left h, List.take_of_length_le (by simp)]
  · rw [Nat.min_eq_right (by omega), List.drop_eq_nil_of_le (Nat.le_refl _), List.drop_eq_nil_of_le (by omega)]
    simp
section
variable {T : Str → Option Fn} {n : Nat} {os : List Offer} {r : Rules} {U : List Str}
/-! ### pairs -/
end
end G6
-- ## P40
/-! # P40: what a script builds, with a town: numbers, some words, pairs, rules -/
namespace G6
open PySem
local macro_rules | `(tactic| simp_arith [$ts,*]) => `(tactic| simp only [e_var, e_pk, e_cst, e_glb, e_fnv, e_tup, e_lst, e_op1, e_op2, e_chn, e_and, e_or, e_not, e_ite, e_slc, e_call, e_met, dens, deno, dsrc, x_set, x_setm, x_dnew, x_unp, x_par, x_app, x_ext, x_dput, x_ret, x_retn, x_rse, x_ite, x_loop, x_wh, x_brk, x_cnt, x_pas, x_exp, x_par3, x_parc, x_unpl, x_tryw, e_callt, x_nil, x_cons, R.bind, R.fl, Fl.seq, dataOf, resOf, res, rd, tst, lift, lift2, sem1, sem2, alls, outOf, ioOut, putV, putsV, freeAt_eq, fs_un, fs_v, fs_m, fs_f, plainAt, ps_un, ps_v, ps_f, ps_m, lcF', condF', List.getElem?_cons_zero, List.getElem?_cons_succ, List.set_cons_zero, List.set_cons_succ, if_true, if_false, Bool.false_eq_true, reduceCtorEq, Option.map_some, Option.map_none, Bool.and_true, Bool.true_and, Bool.not_true, Bool.not_false, len_eT, len_eL, len_eRows, len_ePs, len_eO, len_eR, len_eRow, len_eV, len_eP, nd_eT, nd_eL, nd_eRows, nd_ePs, nd_eO, nd_eR, nd_eRow, nd_eV, nd_eP, ty_eT, ty_eRows, ty_ePs, ty_eO, ty_eR, ty_eRow, ty_eV, ty_eP, walk_eT, walk_eL, walk_eRows, walk_ePs, walk_eP, walk_eV, list_eT, list_eL, tup_eL, tup_eT, ix_eO0, ix_eO1, ix_eO2, ix_eO3, ix_eR0, ix_eR1, ix_eR2, ix_eRow0, ix_eRow1, ix_eP0, ix_eP1, non_eV, non_eT, non_eL, walk_eOs, ty_eL, in_eT, in_eL, eq_eL, eq_eT, eq_eV, lt_eV, gt_eV, eq_int, eq_str, lt_int, gt_int, nd_none, non_none, ty_str_none, ty_int_none, ty_bool_none, ty_tuple_none, ty_list_none, nd_bool, non_bool, ty_str_bool, ty_int_bool, ty_bool_bool, ty_tuple_bool, ty_list_bool, nd_int, non_int, ty_str_int, ty_int_int, ty_bool_int, ty_tuple_int, ty_list_int, nd_str, non_str, ty_str_str, ty_int_str, ty_bool_str, ty_tuple_str, ty_list_str, nd_list, non_list, ty_str_list, ty_int_list, ty_bool_list, ty_tuple_list, ty_list_list, nd_tuple, non_tuple, ty_str_tuple, ty_int_tuple, ty_bool_tuple, ty_tuple_tuple, ty_list_tuple, len_list, len_tuple, list_list, list_tuple, tup_list, tup_tuple, ix_list, ix_tuple, tr_bool, tr_none, tr_int, tr_list, tr_tuple, lst_list, lst_eL, atI_0, atI_1, atI_2, atI_3, $ts,*])
section
variable {Φ : Fenv} {ρ : Rho}
variable {f : Str} {a c z t t' : PyData} {s0 : Sl} {r : Rho}
end
section
variable {T : Str → Option Fn} {n : Nat}
/-! ### some words -/
end
end G6
-- ## P41
/-! # P41: pairs, rules, with a town -/
namespace G6
open PySem
local macro_rules | `(tactic| simp_arith [$ts,*]) => `(tactic| simp only [e_var, e_pk, e_cst, e_glb, e_fnv, e_tup, e_lst, e_op1, e_op2, e_chn, e_and, e_or, e_not, e_ite, e_slc, e_call, e_met, dens, deno, dsrc, x_set, x_setm, x_dnew, x_unp, x_par, x_app, x_ext, x_dput, x_ret, x_retn, x_rse, x_ite, x_loop, x_wh, x_brk, x_cnt, x_pas, x_exp, x_par3, x_parc, x_unpl, x_tryw, e_callt, x_nil, x_cons, R.bind, R.fl, Fl.seq, dataOf, resOf, res, rd, tst, lift, lift2, sem1, sem2, alls, outOf, ioOut, putV, putsV, freeAt_eq, fs_un, fs_v, fs_m, fs_f, plainAt, ps_un, ps_v, ps_f, ps_m, lcF', condF', List.getElem?_cons_zero, List.getElem?_cons_succ, List.set_cons_zero, List.set_cons_succ, if_true, if_false, Bool.false_eq_true, reduceCtorEq, Option.map_some, Option.map_none, Bool.and_true, Bool.true_and, Bool.not_true, Bool.not_false, len_eT, len_eL, len_eRows, len_ePs, len_eO, len_eR, len_eRow, len_eV, len_eP, nd_eT, nd_eL, nd_eRows, nd_ePs, nd_eO, nd_eR, nd_eRow, nd_eV, nd_eP, ty_eT, ty_eRows, ty_ePs, ty_eO, ty_eR, ty_eRow, ty_eV, ty_eP, walk_eT, walk_eL, walk_eRows, walk_ePs, walk_eP, walk_eV, list_eT, list_eL, tup_eL, tup_eT, ix_eO0, ix_eO1, ix_eO2, ix_eO3, ix_eR0, ix_eR1, ix_eR2, ix_eRow0, ix_eRow1, ix_eP0, ix_eP1, non_eV, non_eT, non_eL, walk_eOs, ty_eL, in_eT, in_eL, eq_eL, eq_eT, eq_eV, lt_eV, gt_eV, eq_int, eq_str, lt_int, gt_int, nd_none, non_none, ty_str_none, ty_int_none, ty_bool_none, ty_tuple_none, ty_list_none, nd_bool, non_bool, ty_str_bool, ty_int_bool, ty_bool_bool, ty_tuple_bool, ty_list_bool, nd_int, non_int, ty_str_int, ty_int_int, ty_bool_int, ty_tuple_int, ty_list_int, nd_str, non_str, ty_str_str, ty_int_str, ty_bool_str, ty_tuple_str, ty_list_str, nd_list, non_list, ty_str_list, ty_int_list, ty_bool_list, ty_tuple_list, ty_list_list, nd_tuple, non_tuple, ty_str_tuple, ty_int_tuple, ty_bool_tuple, ty_tuple_tuple, ty_list_tuple, len_list, len_tuple, list_list, list_tuple, tup_list, tup_tuple, ix_list, ix_tuple, tr_bool, tr_none, tr_int, tr_list, tr_tuple, lst_list, lst_eL, atI_0, atI_1, atI_2, atI_3, $ts,*])
section
variable {T : Str → Option Fn} {n : Nat}
end
end G6
-- ## Ext
/-! # Ext: a table that is closed under calls may be read as part of a greater one -/
namespace G6
open PySem
section
variable {p : Str → Bool} {Φ Ψ : Fenv} (h : ∀ f as, p f = true → Φ f as = Ψ f as)
include h
end
end G6
-- ## P42
/-! # P42: the rules of a town are good; the defs that all laws may lean on -/
namespace G6
open PySem
end G6
-- ## P45
/-! # P45: an offer, with a town -/
namespace G6
open PySem
local macro_rules | `(tactic| simp_arith [$ts,*]) => `(tactic| simp only [e_var, e_pk, e_cst, e_glb, e_fnv, e_tup, e_lst, e_op1, e_op2, e_chn, e_and, e_or, e_not, e_ite, e_slc, e_call, e_met, dens, deno, dsrc, x_set, x_setm, x_dnew, x_unp, x_par, x_app, x_ext, x_dput, x_ret, x_retn, x_rse, x_ite, x_loop, x_wh, x_brk, x_cnt, x_pas, x_exp, x_par3, x_parc, x_unpl, x_tryw, e_callt, x_nil, x_cons, R.bind, R.fl, Fl.seq, dataOf, resOf, res, rd, tst, lift, lift2, sem1, sem2, alls, outOf, ioOut, putV, putsV, freeAt_eq, fs_un, fs_v, fs_m, fs_f, plainAt, ps_un, ps_v, ps_f, ps_m, lcF', condF', List.getElem?_cons_zero, List.getElem?_cons_succ, List.set_cons_zero, List.set_cons_succ, if_true, if_false, Bool.false_eq_true, reduceCtorEq, Option.map_some, Option.map_none, Bool.and_true, Bool.true_and, Bool.not_true, Bool.not_false, len_eT, len_eL, len_eRows, len_ePs, len_eO, len_eR, len_eRow, len_eV, len_eP, nd_eT, nd_eL, nd_eRows, nd_ePs, nd_eO, nd_eR, nd_eRow, nd_eV, nd_eP, ty_eT, ty_eRows, ty_ePs, ty_eO, ty_eR, ty_eRow, ty_eV, ty_eP, walk_eT, walk_eL, walk_eRows, walk_ePs, walk_eP, walk_eV, list_eT, list_eL, tup_eL, tup_eT, ix_eO0, ix_eO1, ix_eO2, ix_eO3, ix_eR0, ix_eR1, ix_eR2, ix_eRow0, ix_eRow1, ix_eP0, ix_eP1, non_eV, non_eT, non_eL, walk_eOs, ty_eL, in_eT, in_eL, eq_eL, eq_eT, eq_eV, lt_eV, gt_eV, eq_int, eq_str, lt_int, gt_int, nd_none, non_none, ty_str_none, ty_int_none, ty_bool_none, ty_tuple_none, ty_list_none, nd_bool, non_bool, ty_str_bool, ty_int_bool, ty_bool_bool, ty_tuple_bool, ty_list_bool, nd_int, non_int, ty_str_int, ty_int_int, ty_bool_int, ty_tuple_int, ty_list_int, nd_str, non_str, ty_str_str, ty_int_str, ty_bool_str, ty_tuple_str, ty_list_str, nd_list, non_list, ty_str_list, ty_int_list, ty_bool_list, ty_tuple_list, ty_list_list, nd_tuple, non_tuple, ty_str_tuple, ty_int_tuple, ty_bool_tuple, ty_tuple_tuple, ty_list_tuple, len_list, len_tuple, list_list, list_tuple, tup_list, tup_tuple, ix_list, ix_tuple, tr_bool, tr_none, tr_int, tr_list, tr_tuple, lst_list, lst_eL, atI_0, atI_1, atI_2, atI_3, $ts,*])
/-! ### rows sorted -/
def leRow (a b : Ver × List Str) : Bool := leV a.1 b.1
theorem leRow_rising {rows : RowsV} (h : (rows.map (·.1)).Nodup) : (rows.mergeSort leRow).Pairwise fun a b => vlt a.1 b.1 = true := by
  have h1 := List.pairwise_mergeSort (le := leRow) (fun a b c => leV_trans a.1 b.1 c.1) (fun a b => leV_total a.1 b.1) rows
  have h2 : ((rows.mergeSort leRow).map (·.1)).Nodup := ((List.mergeSort_perm rows leRow).map (·.1)).nodup_iff.mpr h
  have h3 : (rows.mergeSort leRow).Pairwise fun a b => a.1 ≠ b.1 := List.pairwise_map.mp h2
  refine (h1.and h3).imp fun {a b} ⟨x, y⟩ => ?_
  simp only [leRow, leV, Bool.not_eq_true'] at x
  rcases vlt_tri a.1 b.1 with z | z | z
  · exact z
  · exact absurd z y
  · rw [x] at z; cases z
/-! ### an offer -/
section
variable {T : Str → Option Fn} {n : Nat}
end
end G6
-- ## P46
/-! # P46: _law_known of several offers -/
namespace G6
open PySem
local macro_rules | `(tactic| simp_arith [$ts,*]) => `(tactic| simp only [e_var, e_pk, e_cst, e_glb, e_fnv, e_tup, e_lst, e_op1, e_op2, e_chn, e_and, e_or, e_not, e_ite, e_slc, e_call, e_met, dens, deno, dsrc, x_set, x_setm, x_dnew, x_unp, x_par, x_app, x_ext, x_dput, x_ret, x_retn, x_rse, x_ite, x_loop, x_wh, x_brk, x_cnt, x_pas, x_exp, x_par3, x_parc, x_unpl, x_tryw, e_callt, x_nil, x_cons, R.bind, R.fl, Fl.seq, dataOf, resOf, res, rd, tst, lift, lift2, sem1, sem2, alls, outOf, ioOut, putV, putsV, freeAt_eq, fs_un, fs_v, fs_m, fs_f, plainAt, ps_un, ps_v, ps_f, ps_m, lcF', condF', List.getElem?_cons_zero, List.getElem?_cons_succ, List.set_cons_zero, List.set_cons_succ, if_true, if_false, Bool.false_eq_true, reduceCtorEq, Option.map_some, Option.map_none, Bool.and_true, Bool.true_and, Bool.not_true, Bool.not_false, len_eT, len_eL, len_eRows, len_ePs, len_eO, len_eR, len_eRow, len_eV, len_eP, nd_eT, nd_eL, nd_eRows, nd_ePs, nd_eO, nd_eR, nd_eRow, nd_eV, nd_eP, ty_eT, ty_eRows, ty_ePs, ty_eO, ty_eR, ty_eRow, ty_eV, ty_eP, walk_eT, walk_eL, walk_eRows, walk_ePs, walk_eP, walk_eV, list_eT, list_eL, tup_eL, tup_eT, ix_eO0, ix_eO1, ix_eO2, ix_eO3, ix_eR0, ix_eR1, ix_eR2, ix_eRow0, ix_eRow1, ix_eP0, ix_eP1, non_eV, non_eT, non_eL, walk_eOs, ty_eL, in_eT, in_eL, eq_eL, eq_eT, eq_eV, lt_eV, gt_eV, eq_int, eq_str, lt_int, gt_int, nd_none, non_none, ty_str_none, ty_int_none, ty_bool_none, ty_tuple_none, ty_list_none, nd_bool, non_bool, ty_str_bool, ty_int_bool, ty_bool_bool, ty_tuple_bool, ty_list_bool, nd_int, non_int, ty_str_int, ty_int_int, ty_bool_int, ty_tuple_int, ty_list_int, nd_str, non_str, ty_str_str, ty_int_str, ty_bool_str, ty_tuple_str, ty_list_str, nd_list, non_list, ty_str_list, ty_int_list, ty_bool_list, ty_tuple_list, ty_list_list, nd_tuple, non_tuple, ty_str_tuple, ty_int_tuple, ty_bool_tuple, ty_tuple_tuple, ty_list_tuple, len_list, len_tuple, list_list, list_tuple, tup_list, tup_tuple, ix_list, ix_tuple, tr_bool, tr_none, tr_int, tr_list, tr_tuple, lst_list, lst_eL, atI_0, atI_1, atI_2, atI_3, $ts,*])
section
variable {T : Str → Option Fn} {n : Nat}
end
end G6
-- ## P47
/-! # P47: _law_fits of several offers -/
namespace G6
open PySem
local macro_rules | `(tactic| simp_arith [$ts,*]) => `(tactic| simp only [e_var, e_pk, e_cst, e_glb, e_fnv, e_tup, e_lst, e_op1, e_op2, e_chn, e_and, e_or, e_not, e_ite, e_slc, e_call, e_met, dens, deno, dsrc, x_set, x_setm, x_dnew, x_unp, x_par, x_app, x_ext, x_dput, x_ret, x_retn, x_rse, x_ite, x_loop, x_wh, x_brk, x_cnt, x_pas, x_exp, x_par3, x_parc, x_unpl, x_tryw, e_callt, x_nil, x_cons, R.bind, R.fl, Fl.seq, dataOf, resOf, res, rd, tst, lift, lift2, sem1, sem2, alls, outOf, ioOut, putV, putsV, freeAt_eq, fs_un, fs_v, fs_m, fs_f, plainAt, ps_un, ps_v, ps_f, ps_m, lcF', condF', List.getElem?_cons_zero, List.getElem?_cons_succ, List.set_cons_zero, List.set_cons_succ, if_true, if_false, Bool.false_eq_true, reduceCtorEq, Option.map_some, Option.map_none, Bool.and_true, Bool.true_and, Bool.not_true, Bool.not_false, len_eT, len_eL, len_eRows, len_ePs, len_eO, len_eR, len_eRow, len_eV, len_eP, nd_eT, nd_eL, nd_eRows, nd_ePs, nd_eO, nd_eR, nd_eRow, nd_eV, nd_eP, ty_eT, ty_eRows, ty_ePs, ty_eO, ty_eR, ty_eRow, ty_eV, ty_eP, walk_eT, walk_eL, walk_eRows, walk_ePs, walk_eP, walk_eV, list_eT, list_eL, tup_eL, tup_eT, ix_eO0, ix_eO1, ix_eO2, ix_eO3, ix_eR0, ix_eR1, ix_eR2, ix_eRow0, ix_eRow1, ix_eP0, ix_eP1, non_eV, non_eT, non_eL, walk_eOs, ty_eL, in_eT, in_eL, eq_eL, eq_eT, eq_eV, lt_eV, gt_eV, eq_int, eq_str, lt_int, gt_int, nd_none, non_none, ty_str_none, ty_int_none, ty_bool_none, ty_tuple_none, ty_list_none, nd_bool, non_bool, ty_str_bool, ty_int_bool, ty_bool_bool, ty_tuple_bool, ty_list_bool, nd_int, non_int, ty_str_int, ty_int_int, ty_bool_int, ty_tuple_int, ty_list_int, nd_str, non_str, ty_str_str, ty_int_str, ty_bool_str, ty_tuple_str, ty_list_str, nd_list, non_list, ty_str_list, ty_int_list, ty_bool_list, ty_tuple_list, ty_list_list, nd_tuple, non_tuple, ty_str_tuple, ty_int_tuple, ty_bool_tuple, ty_tuple_tuple, ty_list_tuple, len_list, len_tuple, list_list, list_tuple, tup_list, tup_tuple, ix_list, ix_tuple, tr_bool, tr_none, tr_int, tr_list, tr_tuple, lst_list, lst_eL, atI_0, atI_1, atI_2, atI_3, $ts,*])
section
variable {T : Str → Option Fn} {n : Nat}
theorem add_row {s : List Str} (w : Str) (h : s.length ≤ 900) : addD (eT s) (.tuple [.str w]) = some (eT (s ++ [w])) := by
  simp only [addD, eT, List.length_map]
  rw [if_pos (lineK (by simp only [List.length_cons, List.length_nil]; omega))]
  simp
end
end G6
-- ## P48
/-! # P48: the best by its key -/
namespace G6
open PySem
section
variable {o0 : Offer} {rest : List Offer} {r : Rules} {v : Ver}
end
end G6
-- ## P49
/-! # P49: _law_best of several offers -/
namespace G6
open PySem
local macro_rules | `(tactic| simp_arith [$ts,*]) => `(tactic| simp only [e_var, e_pk, e_cst, e_glb, e_fnv, e_tup, e_lst, e_op1, e_op2, e_chn, e_and, e_or, e_not, e_ite, e_slc, e_call, e_met, dens, deno, dsrc, x_set, x_setm, x_dnew, x_unp, x_par, x_app, x_ext, x_dput, x_ret, x_retn, x_rse, x_ite, x_loop, x_wh, x_brk, x_cnt, x_pas, x_exp, x_par3, x_parc, x_unpl, x_tryw, e_callt, x_nil, x_cons, R.bind, R.fl, Fl.seq, dataOf, resOf, res, rd, tst, lift, lift2, sem1, sem2, alls, outOf, ioOut, putV, putsV, freeAt_eq, fs_un, fs_v, fs_m, fs_f, plainAt, ps_un, ps_v, ps_f, ps_m, lcF', condF', List.getElem?_cons_zero, List.getElem?_cons_succ, List.set_cons_zero, List.set_cons_succ, if_true, if_false, Bool.false_eq_true, reduceCtorEq, Option.map_some, Option.map_none, Bool.and_true, Bool.true_and, Bool.not_true, Bool.not_false, len_eT, len_eL, len_eRows, len_ePs, len_eO, len_eR, len_eRow, len_eV, len_eP, nd_eT, nd_eL, nd_eRows, nd_ePs, nd_eO, nd_eR, nd_eRow, nd_eV, nd_eP, ty_eT, ty_eRows, ty_ePs, ty_eO, ty_eR, ty_eRow, ty_eV, ty_eP, walk_eT, walk_eL, walk_eRows, walk_ePs, walk_eP, walk_eV, list_eT, list_eL, tup_eL, tup_eT, ix_eO0, ix_eO1, ix_eO2, ix_eO3, ix_eR0, ix_eR1, ix_eR2, ix_eRow0, ix_eRow1, ix_eP0, ix_eP1, non_eV, non_eT, non_eL, walk_eOs, ty_eL, in_eT, in_eL, eq_eL, eq_eT, eq_eV, lt_eV, gt_eV, eq_int, eq_str, lt_int, gt_int, nd_none, non_none, ty_str_none, ty_int_none, ty_bool_none, ty_tuple_none, ty_list_none, nd_bool, non_bool, ty_str_bool, ty_int_bool, ty_bool_bool, ty_tuple_bool, ty_list_bool, nd_int, non_int, ty_str_int, ty_int_int, ty_bool_int, ty_tuple_int, ty_list_int, nd_str, non_str, ty_str_str, ty_int_str, ty_bool_str, ty_tuple_str, ty_list_str, nd_list, non_list, ty_str_list, ty_int_list, ty_bool_list, ty_tuple_list, ty_list_list, nd_tuple, non_tuple, ty_str_tuple, ty_int_tuple, ty_bool_tuple, ty_tuple_tuple, ty_list_tuple, len_list, len_tuple, list_list, list_tuple, tup_list, tup_tuple, ix_list, ix_tuple, tr_bool, tr_none, tr_int, tr_list, tr_tuple, lst_list, lst_eL, atI_0, atI_1, atI_2, atI_3, $ts,*])
theorem sortV_self {vs : List Ver} (h : vs.Pairwise fun a b => vlt a b = true) : vs.mergeSort leV = vs := List.mergeSort_of_pairwise (h.imp fun {a b} h => by
  simp only [leV, Bool.not_eq_true']
  cases q : vlt b a with
  | false => rfl
  | true =>
    have := vlt_trans h q
    rw [vlt_irrefl] at this; cases this)
section
variable {T : Str → Option Fn} {n : Nat}
end
end G6
-- ## P50
/-! # P50: fitting: all that fits at a version -/
namespace G6
open PySem
local macro_rules | `(tactic| simp_arith [$ts,*]) => `(tactic| simp only [e_var, e_pk, e_cst, e_glb, e_fnv, e_tup, e_lst, e_op1, e_op2, e_chn, e_and, e_or, e_not, e_ite, e_slc, e_call, e_met, dens, deno, dsrc, x_set, x_setm, x_dnew, x_unp, x_par, x_app, x_ext, x_dput, x_ret, x_retn, x_rse, x_ite, x_loop, x_wh, x_brk, x_cnt, x_pas, x_exp, x_par3, x_parc, x_unpl, x_tryw, e_callt, x_nil, x_cons, R.bind, R.fl, Fl.seq, dataOf, resOf, res, rd, tst, lift, lift2, sem1, sem2, alls, outOf, ioOut, putV, putsV, freeAt_eq, fs_un, fs_v, fs_m, fs_f, plainAt, ps_un, ps_v, ps_f, ps_m, lcF', condF', List.getElem?_cons_zero, List.getElem?_cons_succ, List.set_cons_zero, List.set_cons_succ, if_true, if_false, Bool.false_eq_true, reduceCtorEq, Option.map_some, Option.map_none, Bool.and_true, Bool.true_and, Bool.not_true, Bool.not_false, len_eT, len_eL, len_eRows, len_ePs, len_eO, len_eR, len_eRow, len_eV, len_eP, nd_eT, nd_eL, nd_eRows, nd_ePs, nd_eO, nd_eR, nd_eRow, nd_eV, nd_eP, ty_eT, ty_eRows, ty_ePs, ty_eO, ty_eR, ty_eRow, ty_eV, ty_eP, walk_eT, walk_eL, walk_eRows, walk_ePs, walk_eP, walk_eV, list_eT, list_eL, tup_eL, tup_eT, ix_eO0, ix_eO1, ix_eO2, ix_eO3, ix_eR0, ix_eR1, ix_eR2, ix_eRow0, ix_eRow1, ix_eP0, ix_eP1, non_eV, non_eT, non_eL, walk_eOs, ty_eL, in_eT, in_eL, eq_eL, eq_eT, eq_eV, lt_eV, gt_eV, eq_int, eq_str, lt_int, gt_int, nd_none, non_none, ty_str_none, ty_int_none, ty_bool_none, ty_tuple_none, ty_list_none, nd_bool, non_bool, ty_str_bool, ty_int_bool, ty_bool_bool, ty_tuple_bool, ty_list_bool, nd_int, non_int, ty_str_int, ty_int_int, ty_bool_int, ty_tuple_int, ty_list_int, nd_str, non_str, ty_str_str, ty_int_str, ty_bool_str, ty_tuple_str, ty_list_str, nd_list, non_list, ty_str_list, ty_int_list, ty_bool_list, ty_tuple_list, ty_list_list, nd_tuple, non_tuple, ty_str_tuple, ty_int_tuple, ty_bool_tuple, ty_tuple_tuple, ty_list_tuple, len_list, len_tuple, list_list, list_tuple, tup_list, tup_tuple, ix_list, ix_tuple, tr_bool, tr_none, tr_int, tr_list, tr_tuple, lst_list, lst_eL, atI_0, atI_1, atI_2, atI_3, $ts,*])
section
variable {o0 : Offer} {rest : List Offer} {r : Rules} {v : Ver}
end
section
variable {T : Str → Option Fn} {n : Nat} {o0 : Offer} {rest : List Offer} {r : Rules} {U : List Str} {v : Ver}
end
end G6
-- ## P53
/-! # P53: ranked, always_there, never_there -/
namespace G6
open PySem
local macro_rules | `(tactic| simp_arith [$ts,*]) => `(tactic| simp only [e_var, e_pk, e_cst, e_glb, e_fnv, e_tup, e_lst, e_op1, e_op2, e_chn, e_and, e_or, e_not, e_ite, e_slc, e_call, e_met, dens, deno, dsrc, x_set, x_setm, x_dnew, x_unp, x_par, x_app, x_ext, x_dput, x_ret, x_retn, x_rse, x_ite, x_loop, x_wh, x_brk, x_cnt, x_pas, x_exp, x_par3, x_parc, x_unpl, x_tryw, e_callt, x_nil, x_cons, R.bind, R.fl, Fl.seq, dataOf, resOf, res, rd, tst, lift, lift2, sem1, sem2, alls, outOf, ioOut, putV, putsV, freeAt_eq, fs_un, fs_v, fs_m, fs_f, plainAt, ps_un, ps_v, ps_f, ps_m, lcF', condF', List.getElem?_cons_zero, List.getElem?_cons_succ, List.set_cons_zero, List.set_cons_succ, if_true, if_false, Bool.false_eq_true, reduceCtorEq, Option.map_some, Option.map_none, Bool.and_true, Bool.true_and, Bool.not_true, Bool.not_false, len_eT, len_eL, len_eRows, len_ePs, len_eO, len_eR, len_eRow, len_eV, len_eP, nd_eT, nd_eL, nd_eRows, nd_ePs, nd_eO, nd_eR, nd_eRow, nd_eV, nd_eP, ty_eT, ty_eRows, ty_ePs, ty_eO, ty_eR, ty_eRow, ty_eV, ty_eP, walk_eT, walk_eL, walk_eRows, walk_ePs, walk_eP, walk_eV, list_eT, list_eL, tup_eL, tup_eT, ix_eO0, ix_eO1, ix_eO2, ix_eO3, ix_eR0, ix_eR1, ix_eR2, ix_eRow0, ix_eRow1, ix_eP0, ix_eP1, non_eV, non_eT, non_eL, walk_eOs, ty_eL, in_eT, in_eL, eq_eL, eq_eT, eq_eV, lt_eV, gt_eV, eq_int, eq_str, lt_int, gt_int, nd_none, non_none, ty_str_none, ty_int_none, ty_bool_none, ty_tuple_none, ty_list_none, nd_bool, non_bool, ty_str_bool, ty_int_bool, ty_bool_bool, ty_tuple_bool, ty_list_bool, nd_int, non_int, ty_str_int, ty_int_int, ty_bool_int, ty_tuple_int, ty_list_int, nd_str, non_str, ty_str_str, ty_int_str, ty_bool_str, ty_tuple_str, ty_list_str, nd_list, non_list, ty_str_list, ty_int_list, ty_bool_list, ty_tuple_list, ty_list_list, nd_tuple, non_tuple, ty_str_tuple, ty_int_tuple, ty_bool_tuple, ty_tuple_tuple, ty_list_tuple, len_list, len_tuple, list_list, list_tuple, tup_list, tup_tuple, ix_list, ix_tuple, tr_bool, tr_none, tr_int, tr_list, tr_tuple, lst_list, lst_eL, atI_0, atI_1, atI_2, atI_3, $ts,*])
/-! ### sorted by keys -/
section
variable {o0 : Offer} {rest : List Offer} {r : Rules} {v : Ver}
end
/-! ### the defs -/
section
variable {T : Str → Option Fn} {n : Nat} {o0 : Offer} {rest : List Offer} {r : Rules} {U : List Str} {v : Ver}
end
end G6
-- ## P60
/-! # P60: what is an offer, what are rules: of any thing -/
namespace G6
open PySem
local macro_rules | `(tactic| simp_arith! [$ts,*]) => `(tactic| simp only [e_var, e_pk, e_cst, e_glb, e_fnv, e_tup, e_lst, e_op1, e_op2, e_chn, e_and, e_or, e_not, e_ite, e_slc, e_call, e_met, dens, deno, dsrc, x_set, x_setm, x_dnew, x_unp, x_par, x_app, x_ext, x_dput, x_ret, x_retn, x_rse, x_ite, x_loop, x_wh, x_brk, x_cnt, x_pas, x_exp, x_par3, x_parc, x_unpl, x_tryw, e_callt, x_nil, x_cons, R.bind, R.fl, Fl.seq, dataOf, resOf, res, rd, tst, truth, lift, lift2, sem1, sem2, alls, outOf, ioOut, putV, putsV, freeAt_eq, fs_un, fs_v, fs_m, fs_f, plainAt, ps_un, ps_v, ps_f, ps_m, mutL, mutD, chg, lcF', condF', List.getElem?_cons_zero, List.getElem?_cons_succ, List.set_cons_zero, List.set_cons_succ, if_true, if_false, Bool.false_eq_true, reduceCtorEq, Option.map_some, Option.map_none, noDict, isTy, isNoneD, Bool.and_true, Bool.true_and, Bool.not_true, Bool.not_false, lenD, listD, tupleD, idxD, isLst, $ts,*])
local macro_rules | `(tactic| simp_arith [$ts,*]) => `(tactic| simp only [e_var, e_pk, e_cst, e_glb, e_fnv, e_tup, e_lst, e_op1, e_op2, e_chn, e_and, e_or, e_not, e_ite, e_slc, e_call, e_met, dens, deno, dsrc, x_set, x_setm, x_dnew, x_unp, x_par, x_app, x_ext, x_dput, x_ret, x_retn, x_rse, x_ite, x_loop, x_wh, x_brk, x_cnt, x_pas, x_exp, x_par3, x_parc, x_unpl, x_tryw, e_callt, x_nil, x_cons, R.bind, R.fl, Fl.seq, dataOf, resOf, res, rd, tst, lift, lift2, sem1, sem2, alls, outOf, ioOut, putV, putsV, freeAt_eq, fs_un, fs_v, fs_m, fs_f, plainAt, ps_un, ps_v, ps_f, ps_m, lcF', condF', List.getElem?_cons_zero, List.getElem?_cons_succ, List.set_cons_zero, List.set_cons_succ, if_true, if_false, Bool.false_eq_true, reduceCtorEq, Option.map_some, Option.map_none, Bool.and_true, Bool.true_and, Bool.not_true, Bool.not_false, len_eT, len_eL, len_eRows, len_ePs, len_eO, len_eR, len_eRow, len_eV, len_eP, nd_eT, nd_eL, nd_eRows, nd_ePs, nd_eO, nd_eR, nd_eRow, nd_eV, nd_eP, ty_eT, ty_eRows, ty_ePs, ty_eO, ty_eR, ty_eRow, ty_eV, ty_eP, walk_eT, walk_eL, walk_eRows, walk_ePs, walk_eP, walk_eV, list_eT, list_eL, tup_eL, tup_eT, ix_eO0, ix_eO1, ix_eO2, ix_eO3, ix_eR0, ix_eR1, ix_eR2, ix_eRow0, ix_eRow1, ix_eP0, ix_eP1, non_eV, non_eT, non_eL, walk_eOs, ty_eL, in_eT, in_eL, eq_eL, eq_eT, eq_eV, lt_eV, gt_eV, eq_int, eq_str, lt_int, gt_int, nd_none, non_none, ty_str_none, ty_int_none, ty_bool_none, ty_tuple_none, ty_list_none, nd_bool, non_bool, ty_str_bool, ty_int_bool, ty_bool_bool, ty_tuple_bool, ty_list_bool, nd_int, non_int, ty_str_int, ty_int_int, ty_bool_int, ty_tuple_int, ty_list_int, nd_str, non_str, ty_str_str, ty_int_str, ty_bool_str, ty_tuple_str, ty_list_str, nd_list, non_list, ty_str_list, ty_int_list, ty_bool_list, ty_tuple_list, ty_list_list, nd_tuple, non_tuple, ty_str_tuple, ty_int_tuple, ty_bool_tuple, ty_tuple_tuple, ty_list_tuple, len_list, len_tuple, list_list, list_tuple, tup_list, tup_tuple, ix_list, ix_tuple, tr_bool, tr_none, tr_int, tr_list, tr_tuple, lst_list, lst_eL, atI_0, atI_1, atI_2, atI_3, $ts,*])
/-! ### plain facts -/
/-! ### the defs -/
section
variable {T : Str → Option Fn} {n : Nat}
end
end G6
-- ## P61
/-! # P61: offers, rules of any thing; refusals -/
namespace G6
open PySem
local macro_rules | `(tactic| simp_arith [$ts,*]) => `(tactic| simp only [e_var, e_pk, e_cst, e_glb, e_fnv, e_tup, e_lst, e_op1, e_op2, e_chn, e_and, e_or, e_not, e_ite, e_slc, e_call, e_met, dens, deno, dsrc, x_set, x_setm, x_dnew, x_unp, x_par, x_app, x_ext, x_dput, x_ret, x_retn, x_rse, x_ite, x_loop, x_wh, x_brk, x_cnt, x_pas, x_exp, x_par3, x_parc, x_unpl, x_tryw, e_callt, x_nil, x_cons, R.bind, R.fl, Fl.seq, dataOf, resOf, res, rd, tst, lift, lift2, sem1, sem2, alls, outOf, ioOut, putV, putsV, freeAt_eq, fs_un, fs_v, fs_m, fs_f, plainAt, ps_un, ps_v, ps_f, ps_m, lcF', condF', List.getElem?_cons_zero, List.getElem?_cons_succ, List.set_cons_zero, List.set_cons_succ, if_true, if_false, Bool.false_eq_true, reduceCtorEq, Option.map_some, Option.map_none, Bool.and_true, Bool.true_and, Bool.not_true, Bool.not_false, len_eT, len_eL, len_eRows, len_ePs, len_eO, len_eR, len_eRow, len_eV, len_eP, nd_eT, nd_eL, nd_eRows, nd_ePs, nd_eO, nd_eR, nd_eRow, nd_eV, nd_eP, ty_eT, ty_eRows, ty_ePs, ty_eO, ty_eR, ty_eRow, ty_eV, ty_eP, walk_eT, walk_eL, walk_eRows, walk_ePs, walk_eP, walk_eV, list_eT, list_eL, tup_eL, tup_eT, ix_eO0, ix_eO1, ix_eO2, ix_eO3, ix_eR0, ix_eR1, ix_eR2, ix_eRow0, ix_eRow1, ix_eP0, ix_eP1, non_eV, non_eT, non_eL, walk_eOs, ty_eL, in_eT, in_eL, eq_eL, eq_eT, eq_eV, lt_eV, gt_eV, eq_int, eq_str, lt_int, gt_int, nd_none, non_none, ty_str_none, ty_int_none, ty_bool_none, ty_tuple_none, ty_list_none, nd_bool, non_bool, ty_str_bool, ty_int_bool, ty_bool_bool, ty_tuple_bool, ty_list_bool, nd_int, non_int, ty_str_int, ty_int_int, ty_bool_int, ty_tuple_int, ty_list_int, nd_str, non_str, ty_str_str, ty_int_str, ty_bool_str, ty_tuple_str, ty_list_str, nd_list, non_list, ty_str_list, ty_int_list, ty_bool_list, ty_tuple_list, ty_list_list, nd_tuple, non_tuple, ty_str_tuple, ty_int_tuple, ty_bool_tuple, ty_tuple_tuple, ty_list_tuple, len_list, len_tuple, list_list, list_tuple, tup_list, tup_tuple, ix_list, ix_tuple, tr_bool, tr_none, tr_int, tr_list, tr_tuple, lst_list, lst_eL, atI_0, atI_1, atI_2, atI_3, $ts,*])
section
variable {T : Str → Option Fn} {n : Nat}
end
end G6
-- ## P51
/-! # P51: several offers drawn with a town -/
namespace G6
open PySem
local macro_rules | `(tactic| simp_arith [$ts,*]) => `(tactic| simp only [e_var, e_pk, e_cst, e_glb, e_fnv, e_tup, e_lst, e_op1, e_op2, e_chn, e_and, e_or, e_not, e_ite, e_slc, e_call, e_met, dens, deno, dsrc, x_set, x_setm, x_dnew, x_unp, x_par, x_app, x_ext, x_dput, x_ret, x_retn, x_rse, x_ite, x_loop, x_wh, x_brk, x_cnt, x_pas, x_exp, x_par3, x_parc, x_unpl, x_tryw, e_callt, x_nil, x_cons, R.bind, R.fl, Fl.seq, dataOf, resOf, res, rd, tst, lift, lift2, sem1, sem2, alls, outOf, ioOut, putV, putsV, freeAt_eq, fs_un, fs_v, fs_m, fs_f, plainAt, ps_un, ps_v, ps_f, ps_m, lcF', condF', List.getElem?_cons_zero, List.getElem?_cons_succ, List.set_cons_zero, List.set_cons_succ, if_true, if_false, Bool.false_eq_true, reduceCtorEq, Option.map_some, Option.map_none, Bool.and_true, Bool.true_and, Bool.not_true, Bool.not_false, len_eT, len_eL, len_eRows, len_ePs, len_eO, len_eR, len_eRow, len_eV, len_eP, nd_eT, nd_eL, nd_eRows, nd_ePs, nd_eO, nd_eR, nd_eRow, nd_eV, nd_eP, ty_eT, ty_eRows, ty_ePs, ty_eO, ty_eR, ty_eRow, ty_eV, ty_eP, walk_eT, walk_eL, walk_eRows, walk_ePs, walk_eP, walk_eV, list_eT, list_eL, tup_eL, tup_eT, ix_eO0, ix_eO1, ix_eO2, ix_eO3, ix_eR0, ix_eR1, ix_eR2, ix_eRow0, ix_eRow1, ix_eP0, ix_eP1, non_eV, non_eT, non_eL, walk_eOs, ty_eL, in_eT, in_eL, eq_eL, eq_eT, eq_eV, lt_eV, gt_eV, eq_int, eq_str, lt_int, gt_int, nd_none, non_none, ty_str_none, ty_int_none, ty_bool_none, ty_tuple_none, ty_list_none, nd_bool, non_bool, ty_str_bool, ty_int_bool, ty_bool_bool, ty_tuple_bool, ty_list_bool, nd_int, non_int, ty_str_int, ty_int_int, ty_bool_int, ty_tuple_int, ty_list_int, nd_str, non_str, ty_str_str, ty_int_str, ty_bool_str, ty_tuple_str, ty_list_str, nd_list, non_list, ty_str_list, ty_int_list, ty_bool_list, ty_tuple_list, ty_list_list, nd_tuple, non_tuple, ty_str_tuple, ty_int_tuple, ty_bool_tuple, ty_tuple_tuple, ty_list_tuple, len_list, len_tuple, list_list, list_tuple, tup_list, tup_tuple, ix_list, ix_tuple, tr_bool, tr_none, tr_int, tr_list, tr_tuple, lst_list, lst_eL, atI_0, atI_1, atI_2, atI_3, $ts,*])
section
variable {T : Str → Option Fn} {n : Nat}
end
end G6
-- ## P43
/-! # P43: ruling -/
namespace G6
open PySem
local macro_rules | `(tactic| simp_arith [$ts,*]) => `(tactic| simp only [e_var, e_pk, e_cst, e_glb, e_fnv, e_tup, e_lst, e_op1, e_op2, e_chn, e_and, e_or, e_not, e_ite, e_slc, e_call, e_met, dens, deno, dsrc, x_set, x_setm, x_dnew, x_unp, x_par, x_app, x_ext, x_dput, x_ret, x_retn, x_rse, x_ite, x_loop, x_wh, x_brk, x_cnt, x_pas, x_exp, x_par3, x_parc, x_unpl, x_tryw, e_callt, x_nil, x_cons, R.bind, R.fl, Fl.seq, dataOf, resOf, res, rd, tst, lift, lift2, sem1, sem2, alls, outOf, ioOut, putV, putsV, freeAt_eq, fs_un, fs_v, fs_m, fs_f, plainAt, ps_un, ps_v, ps_f, ps_m, lcF', condF', List.getElem?_cons_zero, List.getElem?_cons_succ, List.set_cons_zero, List.set_cons_succ, if_true, if_false, Bool.false_eq_true, reduceCtorEq, Option.map_some, Option.map_none, Bool.and_true, Bool.true_and, Bool.not_true, Bool.not_false, len_eT, len_eL, len_eRows, len_ePs, len_eO, len_eR, len_eRow, len_eV, len_eP, nd_eT, nd_eL, nd_eRows, nd_ePs, nd_eO, nd_eR, nd_eRow, nd_eV, nd_eP, ty_eT, ty_eRows, ty_ePs, ty_eO, ty_eR, ty_eRow, ty_eV, ty_eP, walk_eT, walk_eL, walk_eRows, walk_ePs, walk_eP, walk_eV, list_eT, list_eL, tup_eL, tup_eT, ix_eO0, ix_eO1, ix_eO2, ix_eO3, ix_eR0, ix_eR1, ix_eR2, ix_eRow0, ix_eRow1, ix_eP0, ix_eP1, non_eV, non_eT, non_eL, walk_eOs, ty_eL, in_eT, in_eL, eq_eL, eq_eT, eq_eV, lt_eV, gt_eV, eq_int, eq_str, lt_int, gt_int, nd_none, non_none, ty_str_none, ty_int_none, ty_bool_none, ty_tuple_none, ty_list_none, nd_bool, non_bool, ty_str_bool, ty_int_bool, ty_bool_bool, ty_tuple_bool, ty_list_bool, nd_int, non_int, ty_str_int, ty_int_int, ty_bool_int, ty_tuple_int, ty_list_int, nd_str, non_str, ty_str_str, ty_int_str, ty_bool_str, ty_tuple_str, ty_list_str, nd_list, non_list, ty_str_list, ty_int_list, ty_bool_list, ty_tuple_list, ty_list_list, nd_tuple, non_tuple, ty_str_tuple, ty_int_tuple, ty_bool_tuple, ty_tuple_tuple, ty_list_tuple, len_list, len_tuple, list_list, list_tuple, tup_list, tup_tuple, ix_list, ix_tuple, tr_bool, tr_none, tr_int, tr_list, tr_tuple, lst_list, lst_eL, atI_0, atI_1, atI_2, atI_3, $ts,*])
section
variable {T : Str → Option Fn} {n : Nat}
end
end G6
-- ## P44
/-! # P44: _law_all_needs; a book of what is needed -/
namespace G6
open PySem
local macro_rules | `(tactic| simp_arith [$ts,*]) => `(tactic| simp only [e_var, e_pk, e_cst, e_glb, e_fnv, e_tup, e_lst, e_op1, e_op2, e_chn, e_and, e_or, e_not, e_ite, e_slc, e_call, e_met, dens, deno, dsrc, x_set, x_setm, x_dnew, x_unp, x_par, x_app, x_ext, x_dput, x_ret, x_retn, x_rse, x_ite, x_loop, x_wh, x_brk, x_cnt, x_pas, x_exp, x_par3, x_parc, x_unpl, x_tryw, e_callt, x_nil, x_cons, R.bind, R.fl, Fl.seq, dataOf, resOf, res, rd, tst, lift, lift2, sem1, sem2, alls, outOf, ioOut, putV, putsV, freeAt_eq, fs_un, fs_v, fs_m, fs_f, plainAt, ps_un, ps_v, ps_f, ps_m, lcF', condF', List.getElem?_cons_zero, List.getElem?_cons_succ, List.set_cons_zero, List.set_cons_succ, if_true, if_false, Bool.false_eq_true, reduceCtorEq, Option.map_some, Option.map_none, Bool.and_true, Bool.true_and, Bool.not_true, Bool.not_false, len_eT, len_eL, len_eRows, len_ePs, len_eO, len_eR, len_eRow, len_eV, len_eP, nd_eT, nd_eL, nd_eRows, nd_ePs, nd_eO, nd_eR, nd_eRow, nd_eV, nd_eP, ty_eT, ty_eRows, ty_ePs, ty_eO, ty_eR, ty_eRow, ty_eV, ty_eP, walk_eT, walk_eL, walk_eRows, walk_ePs, walk_eP, walk_eV, list_eT, list_eL, tup_eL, tup_eT, ix_eO0, ix_eO1, ix_eO2, ix_eO3, ix_eR0, ix_eR1, ix_eR2, ix_eRow0, ix_eRow1, ix_eP0, ix_eP1, non_eV, non_eT, non_eL, walk_eOs, ty_eL, in_eT, in_eL, eq_eL, eq_eT, eq_eV, lt_eV, gt_eV, eq_int, eq_str, lt_int, gt_int, nd_none, non_none, ty_str_none, ty_int_none, ty_bool_none, ty_tuple_none, ty_list_none, nd_bool, non_bool, ty_str_bool, ty_int_bool, ty_bool_bool, ty_tuple_bool, ty_list_bool, nd_int, non_int, ty_str_int, ty_int_int, ty_bool_int, ty_tuple_int, ty_list_int, nd_str, non_str, ty_str_str, ty_int_str, ty_bool_str, ty_tuple_str, ty_list_str, nd_list, non_list, ty_str_list, ty_int_list, ty_bool_list, ty_tuple_list, ty_list_list, nd_tuple, non_tuple, ty_str_tuple, ty_int_tuple, ty_bool_tuple, ty_tuple_tuple, ty_list_tuple, len_list, len_tuple, list_list, list_tuple, tup_list, tup_tuple, ix_list, ix_tuple, tr_bool, tr_none, tr_int, tr_list, tr_tuple, lst_list, lst_eL, atI_0, atI_1, atI_2, atI_3, $ts,*])
section
variable {T : Str → Option Fn} {n : Nat}
end
/-! ### a book -/
end G6
-- ## P52
/-! # P52: rules and what fits -/
namespace G6
open PySem
end G6
-- ## P62
/-! # P62: refusals that are called, odd things that are drawn -/
namespace G6
open PySem
local macro_rules | `(tactic| simp_arith [$ts,*]) => `(tactic| simp only [e_var, e_pk, e_cst, e_glb, e_fnv, e_tup, e_lst, e_op1, e_op2, e_chn, e_and, e_or, e_not, e_ite, e_slc, e_call, e_met, dens, deno, dsrc, x_set, x_setm, x_dnew, x_unp, x_par, x_app, x_ext, x_dput, x_ret, x_retn, x_rse, x_ite, x_loop, x_wh, x_brk, x_cnt, x_pas, x_exp, x_par3, x_parc, x_unpl, x_tryw, e_callt, x_nil, x_cons, R.bind, R.fl, Fl.seq, dataOf, resOf, res, rd, tst, lift, lift2, sem1, sem2, alls, outOf, ioOut, putV, putsV, freeAt_eq, fs_un, fs_v, fs_m, fs_f, plainAt, ps_un, ps_v, ps_f, ps_m, lcF', condF', List.getElem?_cons_zero, List.getElem?_cons_succ, List.set_cons_zero, List.set_cons_succ, if_true, if_false, Bool.false_eq_true, reduceCtorEq, Option.map_some, Option.map_none, Bool.and_true, Bool.true_and, Bool.not_true, Bool.not_false, len_eT, len_eL, len_eRows, len_ePs, len_eO, len_eR, len_eRow, len_eV, len_eP, nd_eT, nd_eL, nd_eRows, nd_ePs, nd_eO, nd_eR, nd_eRow, nd_eV, nd_eP, ty_eT, ty_eRows, ty_ePs, ty_eO, ty_eR, ty_eRow, ty_eV, ty_eP, walk_eT, walk_eL, walk_eRows, walk_ePs, walk_eP, walk_eV, list_eT, list_eL, tup_eL, tup_eT, ix_eO0, ix_eO1, ix_eO2, ix_eO3, ix_eR0, ix_eR1, ix_eR2, ix_eRow0, ix_eRow1, ix_eP0, ix_eP1, non_eV, non_eT, non_eL, walk_eOs, ty_eL, in_eT, in_eL, eq_eL, eq_eT, eq_eV, lt_eV, gt_eV, eq_int, eq_str, lt_int, gt_int, nd_none, non_none, ty_str_none, ty_int_none, ty_bool_none, ty_tuple_none, ty_list_none, nd_bool, non_bool, ty_str_bool, ty_int_bool, ty_bool_bool, ty_tuple_bool, ty_list_bool, nd_int, non_int, ty_str_int, ty_int_int, ty_bool_int, ty_tuple_int, ty_list_int, nd_str, non_str, ty_str_str, ty_int_str, ty_bool_str, ty_tuple_str, ty_list_str, nd_list, non_list, ty_str_list, ty_int_list, ty_bool_list, ty_tuple_list, ty_list_list, nd_tuple, non_tuple, ty_str_tuple, ty_int_tuple, ty_bool_tuple, ty_tuple_tuple, ty_list_tuple, len_list, len_tuple, list_list, list_tuple, tup_list, tup_tuple, ix_list, ix_tuple, tr_bool, tr_none, tr_int, tr_list, tr_tuple, lst_list, lst_eL, atI_0, atI_1, atI_2, atI_3, $ts,*])
section
variable {Φ : Fenv} {f c : Str} {a b d g : PyData} {ρ : Rho}
end
/-! ### odd offers, odd rules -/
theorem stepK {Φ : Fenv} {io : Option Nat} {st : S} {r : Ss} {ρ ρ' : Rho} {z : Out} (h : exS Φ st ρ = .nx ρ') (k : outOf io (exSs Φ r ρ') = z) : outOf io (exSs Φ (.cons st r) ρ) = z := by
  rw [x_cons, h]
  exact k
section
variable {T : Str → Option Fn} {n : Nat}
end
end G6
-- ## P63
/-! # P63: offers changed -/
namespace G6
open PySem
local macro_rules | `(tactic| simp_arith [$ts,*]) => `(tactic| simp only [e_var, e_pk, e_cst, e_glb, e_fnv, e_tup, e_lst, e_op1, e_op2, e_chn, e_and, e_or, e_not, e_ite, e_slc, e_call, e_met, dens, deno, dsrc, x_set, x_setm, x_dnew, x_unp, x_par, x_app, x_ext, x_dput, x_ret, x_retn, x_rse, x_ite, x_loop, x_wh, x_brk, x_cnt, x_pas, x_exp, x_par3, x_parc, x_unpl, x_tryw, e_callt, x_nil, x_cons, R.bind, R.fl, Fl.seq, dataOf, resOf, res, rd, tst, lift, lift2, sem1, sem2, alls, outOf, ioOut, putV, putsV, freeAt_eq, fs_un, fs_v, fs_m, fs_f, plainAt, ps_un, ps_v, ps_f, ps_m, lcF', condF', List.getElem?_cons_zero, List.getElem?_cons_succ, List.set_cons_zero, List.set_cons_succ, if_true, if_false, Bool.false_eq_true, reduceCtorEq, Option.map_some, Option.map_none, Bool.and_true, Bool.true_and, Bool.not_true, Bool.not_false, len_eT, len_eL, len_eRows, len_ePs, len_eO, len_eR, len_eRow, len_eV, len_eP, nd_eT, nd_eL, nd_eRows, nd_ePs, nd_eO, nd_eR, nd_eRow, nd_eV, nd_eP, ty_eT, ty_eRows, ty_ePs, ty_eO, ty_eR, ty_eRow, ty_eV, ty_eP, walk_eT, walk_eL, walk_eRows, walk_ePs, walk_eP, walk_eV, list_eT, list_eL, tup_eL, tup_eT, ix_eO0, ix_eO1, ix_eO2, ix_eO3, ix_eR0, ix_eR1, ix_eR2, ix_eRow0, ix_eRow1, ix_eP0, ix_eP1, non_eV, non_eT, non_eL, walk_eOs, ty_eL, in_eT, in_eL, eq_eL, eq_eT, eq_eV, lt_eV, gt_eV, eq_int, eq_str, lt_int, gt_int, nd_none, non_none, ty_str_none, ty_int_none, ty_bool_none, ty_tuple_none, ty_list_none, nd_bool, non_bool, ty_str_bool, ty_int_bool, ty_bool_bool, ty_tuple_bool, ty_list_bool, nd_int, non_int, ty_str_int, ty_int_int, ty_bool_int, ty_tuple_int, ty_list_int, nd_str, non_str, ty_str_str, ty_int_str, ty_bool_str, ty_tuple_str, ty_list_str, nd_list, non_list, ty_str_list, ty_int_list, ty_bool_list, ty_tuple_list, ty_list_list, nd_tuple, non_tuple, ty_str_tuple, ty_int_tuple, ty_bool_tuple, ty_tuple_tuple, ty_list_tuple, len_list, len_tuple, list_list, list_tuple, tup_list, tup_tuple, ix_list, ix_tuple, tr_bool, tr_none, tr_int, tr_list, tr_tuple, lst_list, lst_eL, atI_0, atI_1, atI_2, atI_3, $ts,*])
theorem ver_nodup {o : Offer} (h : okO o) : (o.rows.map (·.1)).Nodup := by
  unfold List.Nodup
  rw [List.pairwise_map]
  exact h.ris.imp fun {a b} h e => by
    rw [e, vlt_irrefl] at h
    cases h
theorem feats_len {o : Offer} (h : okO o) (v : Ver) : (featsOf o v).length ≤ 6 := by
  rcases featsOf_mem (o := o) (v := v) with e | ⟨row, h1, _, e⟩
  · rw [e]; simp
  · rw [e]; exact (h.row row h1).2.2.1
section
variable {T : Str → Option Fn} {n : Nat} {o : Offer} {v : Ver} {f : Str}
/-! ### without a version, from a version -/
end
end G6
-- ## P64
/-! # P64: wishes, what is shared -/
namespace G6
open PySem
local macro_rules | `(tactic| simp_arith [$ts,*]) => `(tactic| simp only [e_var, e_pk, e_cst, e_glb, e_fnv, e_tup, e_lst, e_op1, e_op2, e_chn, e_and, e_or, e_not, e_ite, e_slc, e_call, e_met, dens, deno, dsrc, x_set, x_setm, x_dnew, x_unp, x_par, x_app, x_ext, x_dput, x_ret, x_retn, x_rse, x_ite, x_loop, x_wh, x_brk, x_cnt, x_pas, x_exp, x_par3, x_parc, x_unpl, x_tryw, e_callt, x_nil, x_cons, R.bind, R.fl, Fl.seq, dataOf, resOf, res, rd, tst, lift, lift2, sem1, sem2, alls, outOf, ioOut, putV, putsV, freeAt_eq, fs_un, fs_v, fs_m, fs_f, plainAt, ps_un, ps_v, ps_f, ps_m, lcF', condF', List.getElem?_cons_zero, List.getElem?_cons_succ, List.set_cons_zero, List.set_cons_succ, if_true, if_false, Bool.false_eq_true, reduceCtorEq, Option.map_some, Option.map_none, Bool.and_true, Bool.true_and, Bool.not_true, Bool.not_false, len_eT, len_eL, len_eRows, len_ePs, len_eO, len_eR, len_eRow, len_eV, len_eP, nd_eT, nd_eL, nd_eRows, nd_ePs, nd_eO, nd_eR, nd_eRow, nd_eV, nd_eP, ty_eT, ty_eRows, ty_ePs, ty_eO, ty_eR, ty_eRow, ty_eV, ty_eP, walk_eT, walk_eL, walk_eRows, walk_ePs, walk_eP, walk_eV, list_eT, list_eL, tup_eL, tup_eT, ix_eO0, ix_eO1, ix_eO2, ix_eO3, ix_eR0, ix_eR1, ix_eR2, ix_eRow0, ix_eRow1, ix_eP0, ix_eP1, non_eV, non_eT, non_eL, walk_eOs, ty_eL, in_eT, in_eL, eq_eL, eq_eT, eq_eV, lt_eV, gt_eV, eq_int, eq_str, lt_int, gt_int, nd_none, non_none, ty_str_none, ty_int_none, ty_bool_none, ty_tuple_none, ty_list_none, nd_bool, non_bool, ty_str_bool, ty_int_bool, ty_bool_bool, ty_tuple_bool, ty_list_bool, nd_int, non_int, ty_str_int, ty_int_int, ty_bool_int, ty_tuple_int, ty_list_int, nd_str, non_str, ty_str_str, ty_int_str, ty_bool_str, ty_tuple_str, ty_list_str, nd_list, non_list, ty_str_list, ty_int_list, ty_bool_list, ty_tuple_list, ty_list_list, nd_tuple, non_tuple, ty_str_tuple, ty_int_tuple, ty_bool_tuple, ty_tuple_tuple, ty_list_tuple, len_list, len_tuple, list_list, list_tuple, tup_list, tup_tuple, ix_list, ix_tuple, tr_bool, tr_none, tr_int, tr_list, tr_tuple, lst_list, lst_eL, atI_0, atI_1, atI_2, atI_3, $ts,*])
section
variable {T : Str → Option Fn} {n : Nat} {o : Offer} {f : Str}
/-! ### what is shared -/
end
end G6
-- ## P65
/-! # P65: what a refusing ask answers -/
namespace G6
open PySem
local macro_rules | `(tactic| simp_arith [$ts,*]) => `(tactic| simp only [e_var, e_pk, e_cst, e_glb, e_fnv, e_tup, e_lst, e_op1, e_op2, e_chn, e_and, e_or, e_not, e_ite, e_slc, e_call, e_met, dens, deno, dsrc, x_set, x_setm, x_dnew, x_unp, x_par, x_app, x_ext, x_dput, x_ret, x_retn, x_rse, x_ite, x_loop, x_wh, x_brk, x_cnt, x_pas, x_exp, x_par3, x_parc, x_unpl, x_tryw, e_callt, x_nil, x_cons, R.bind, R.fl, Fl.seq, dataOf, resOf, res, rd, tst, lift, lift2, sem1, sem2, alls, outOf, ioOut, putV, putsV, freeAt_eq, fs_un, fs_v, fs_m, fs_f, plainAt, ps_un, ps_v, ps_f, ps_m, lcF', condF', List.getElem?_cons_zero, List.getElem?_cons_succ, List.set_cons_zero, List.set_cons_succ, if_true, if_false, Bool.false_eq_true, reduceCtorEq, Option.map_some, Option.map_none, Bool.and_true, Bool.true_and, Bool.not_true, Bool.not_false, len_eT, len_eL, len_eRows, len_ePs, len_eO, len_eR, len_eRow, len_eV, len_eP, nd_eT, nd_eL, nd_eRows, nd_ePs, nd_eO, nd_eR, nd_eRow, nd_eV, nd_eP, ty_eT, ty_eRows, ty_ePs, ty_eO, ty_eR, ty_eRow, ty_eV, ty_eP, walk_eT, walk_eL, walk_eRows, walk_ePs, walk_eP, walk_eV, list_eT, list_eL, tup_eL, tup_eT, ix_eO0, ix_eO1, ix_eO2, ix_eO3, ix_eR0, ix_eR1, ix_eR2, ix_eRow0, ix_eRow1, ix_eP0, ix_eP1, non_eV, non_eT, non_eL, walk_eOs, ty_eL, in_eT, in_eL, eq_eL, eq_eT, eq_eV, lt_eV, gt_eV, eq_int, eq_str, lt_int, gt_int, nd_none, non_none, ty_str_none, ty_int_none, ty_bool_none, ty_tuple_none, ty_list_none, nd_bool, non_bool, ty_str_bool, ty_int_bool, ty_bool_bool, ty_tuple_bool, ty_list_bool, nd_int, non_int, ty_str_int, ty_int_int, ty_bool_int, ty_tuple_int, ty_list_int, nd_str, non_str, ty_str_str, ty_int_str, ty_bool_str, ty_tuple_str, ty_list_str, nd_list, non_list, ty_str_list, ty_int_list, ty_bool_list, ty_tuple_list, ty_list_list, nd_tuple, non_tuple, ty_str_tuple, ty_int_tuple, ty_bool_tuple, ty_tuple_tuple, ty_list_tuple, len_list, len_tuple, list_list, list_tuple, tup_list, tup_tuple, ix_list, ix_tuple, tr_bool, tr_none, tr_int, tr_list, tr_tuple, lst_list, lst_eL, atI_0, atI_1, atI_2, atI_3, $ts,*])
section
variable {T : Str → Option Fn} {n : Nat} {g c : Str} {a b d e : PyData} {j : Int}
end
end G6
-- ## P90
/-! # P90: dict(rows) by versions -/
namespace G6
open PySem
section
variable {Φ : Fenv} {ρ : Rho}
theorem x_dset {i : Nat} {a : E} : exS Φ (.dset i a) ρ = ((den Φ a ρ).fl fun p ρ1 => match (res ρ1 p).bind dctD with
    | some d => if freeAt ρ1 i then .nx (ρ1.set i (.m d)) else .bad
    | none => .bad) := by first | (simp only [exS]; done) | (simp only [exS]; rfl) | rfl
end
abbrev RowsG := List (Ver × PyData)
def dG (rows : RowsG) : PyData := .dict ((.none, .none) :: rows.map fun r => (eV r.1, r.2))
def eG (r : Ver × PyData) : PyData := .tuple [eV r.1, r.2]
theorem rowsKV_G : ∀ rows : RowsG, rowsKV (rows.map eG) = some (rows.map fun r => (eV r.1, r.2))
  | [] => rfl
  | r :: rows => by
    have h : rowKV (eG r) = some (eV r.1, r.2) := rfl
    simp only [List.map_cons, rowsKV, h, rowsKV_G rows, Option.map_some]
theorem any_G (v : Ver) (rows : RowsG) : (((PyData.none, PyData.none) :: rows.map fun r => (eV r.1, r.2)).any fun r => PyData.eqv r.1 (eV v)) = decide (v ∈ rows.map (·.1)) := by
  have h0 : PyData.eqv .none (eV v) = false := rfl
  rw [List.any_cons, h0, Bool.false_or, List.any_map]
  rw [Bool.eq_iff_iff]
  simp only [List.any_eq_true, decide_eq_true_eq, List.mem_map, Function.comp, eqv_eV]
theorem put_G {v : Ver} {d : PyData} {rows : RowsG} (h : v ∉ rows.map (·.1)) : putRow (eV v) d ((.none, .none) :: rows.map fun r => (eV r.1, r.2)) = (.none, .none) :: (rows ++ [(v, d)]).map fun r => (eV r.1, r.2) := by
  unfold putRow
  rw [any_G, if_neg (by simpa using h)]
  simp
theorem putAll_G : ∀ (rows acc : RowsG), ((acc ++ rows).map (·.1)).Nodup → (rows.map fun r => (eV r.1, r.2)).foldl (fun acc r => putRow r.1 r.2 acc) ((.none, .none) :: acc.map fun r => (eV r.1, r.2)) = (.none, .none) :: (acc ++ rows).map fun r => (eV r.1, r.2)
  | [], acc, _ => by simp
  | r :: rows, acc, h => by
    have hn : r.1 ∉ acc.map (·.1) := fun hm => by
      rw [List.map_append, List.map_cons] at h
      have := (List.nodup_append.mp h).2.2 r.1 hm r.1 List.mem_cons_self
      exact this rfl
    rw [List.map_cons, List.foldl_cons, put_G hn, putAll_G rows (acc ++ [(r.1, r.2)]) (by simpa using h)]
    simp
theorem dct_list {rows : RowsG} (h : (rows.map (·.1)).Nodup) : dctD (.list (rows.map eG)) = some (dG rows) := by
  simp only [dctD, rowsKV_G, Option.map_some, putAllD]
  have := putAll_G rows [] (by simpa using h)
  simp only [List.map_nil, List.nil_append] at this
  rw [this]
  rfl
/-- an offer's rows -/
def rG (rows : RowsV) : RowsG := rows.map fun r => (r.1, eT r.2)
theorem rG_keys (rows : RowsV) : (rG rows).map (·.1) = rows.map (·.1) := by simp [rG, Function.comp_def]
theorem rG_eG (rows : RowsV) : (rG rows).map eG = rows.map eRow := by simp [rG, eG, eRow, Function.comp_def]
theorem dct_listR {rows : RowsV} (h : (rows.map (·.1)).Nodup) : dctD (.list (rows.map eRow)) = some (dG (rG rows)) := by
  rw [← rG_eG]
  exact dct_list (by rw [rG_keys]; exact h)
theorem keyFits_G (rows : RowsG) (v : Ver) : keyFits ((.none, .none) :: rows.map fun r => (eV r.1, r.2)) (eV v) = true := rfl
def lkG (rows : RowsG) (v : Ver) : Option PyData := (rows.find? fun r => decide (r.1 = v)).map (·.2)
theorem dfind_G (v : Ver) : ∀ rows : RowsG, dfind ((.none, .none) :: rows.map fun r => (eV r.1, r.2)) (eV v) = lkG rows v
  | [] => rfl
  | r :: rows => by
    have ih := dfind_G v rows
    unfold dfind rowsD lkG at ih ⊢
    simp only [List.map_cons, List.find?_cons, eqv_eV] at ih ⊢
    by_cases e : r.1 = v
    · simp [e]
    · simp only [e, decide_false]
      exact ih
theorem lkG_isSome (rows : RowsG) (v : Ver) : (lkG rows v).isSome = decide (v ∈ rows.map (·.1)) := by
  unfold lkG
  rw [Option.isSome_map, Bool.eq_iff_iff, List.find?_isSome]
  simp
theorem ix_dG (rows : RowsG) (v : Ver) : idxD (dG rows) (eV v) = lkG rows v := by
  simp only [dG, idxD, keyFits_G, if_true, dfind_G]
theorem lkG_rG (o : Offer) (v : Ver) : lkG (rG o.rows) v = (featuresAt o v).map eT := by
  unfold lkG rG featuresAt
  rw [List.find?_map, Option.map_map, Option.map_map]
  rfl
theorem lkG_rows (rows : RowsV) (v : Ver) : lkG (rG rows) v = (rows.find? fun r => decide (r.1 = v)).map fun r => eT r.2 := by
  unfold lkG rG
  rw [List.find?_map, Option.map_map]
  rfl
end G6
-- ## P66
/-! # P66: refusals of what fits at a version -/
namespace G6
open PySem
local macro_rules | `(tactic| simp_arith [$ts,*]) => `(tactic| simp only [e_var, e_pk, e_cst, e_glb, e_fnv, e_tup, e_lst, e_op1, e_op2, e_chn, e_and, e_or, e_not, e_ite, e_slc, e_call, e_met, dens, deno, dsrc, x_set, x_setm, x_dnew, x_unp, x_par, x_app, x_ext, x_dput, x_ret, x_retn, x_rse, x_ite, x_loop, x_wh, x_brk, x_cnt, x_pas, x_exp, x_par3, x_parc, x_unpl, x_tryw, e_callt, x_nil, x_cons, R.bind, R.fl, Fl.seq, dataOf, resOf, res, rd, tst, lift, lift2, sem1, sem2, alls, outOf, ioOut, putV, putsV, freeAt_eq, fs_un, fs_v, fs_m, fs_f, plainAt, ps_un, ps_v, ps_f, ps_m, lcF', condF', List.getElem?_cons_zero, List.getElem?_cons_succ, List.set_cons_zero, List.set_cons_succ, if_true, if_false, Bool.false_eq_true, reduceCtorEq, Option.map_some, Option.map_none, Bool.and_true, Bool.true_and, Bool.not_true, Bool.not_false, len_eT, len_eL, len_eRows, len_ePs, len_eO, len_eR, len_eRow, len_eV, len_eP, nd_eT, nd_eL, nd_eRows, nd_ePs, nd_eO, nd_eR, nd_eRow, nd_eV, nd_eP, ty_eT, ty_eRows, ty_ePs, ty_eO, ty_eR, ty_eRow, ty_eV, ty_eP, walk_eT, walk_eL, walk_eRows, walk_ePs, walk_eP, walk_eV, list_eT, list_eL, tup_eL, tup_eT, ix_eO0, ix_eO1, ix_eO2, ix_eO3, ix_eR0, ix_eR1, ix_eR2, ix_eRow0, ix_eRow1, ix_eP0, ix_eP1, non_eV, non_eT, non_eL, walk_eOs, ty_eL, in_eT, in_eL, eq_eL, eq_eT, eq_eV, lt_eV, gt_eV, eq_int, eq_str, lt_int, gt_int, nd_none, non_none, ty_str_none, ty_int_none, ty_bool_none, ty_tuple_none, ty_list_none, nd_bool, non_bool, ty_str_bool, ty_int_bool, ty_bool_bool, ty_tuple_bool, ty_list_bool, nd_int, non_int, ty_str_int, ty_int_int, ty_bool_int, ty_tuple_int, ty_list_int, nd_str, non_str, ty_str_str, ty_int_str, ty_bool_str, ty_tuple_str, ty_list_str, nd_list, non_list, ty_str_list, ty_int_list, ty_bool_list, ty_tuple_list, ty_list_list, nd_tuple, non_tuple, ty_str_tuple, ty_int_tuple, ty_bool_tuple, ty_tuple_tuple, ty_list_tuple, len_list, len_tuple, list_list, list_tuple, tup_list, tup_tuple, ix_list, ix_tuple, tr_bool, tr_none, tr_int, tr_list, tr_tuple, lst_list, lst_eL, atI_0, atI_1, atI_2, atI_3, $ts,*])
section
variable {T : Str → Option Fn} {n : Nat} {o0 : Offer} {rest : List Offer} {r : Rules}
end
/-! ### the versions of a town's offers are small -/
end G6
-- ## P91
/-! # P91: changed offers -/
namespace G6
open PySem
theorem find_iff : ∀ {rows : RowsV}, (rows.map (·.1)).Nodup → ∀ {v : Ver} {r : Ver × List Str}, rows.find? (fun r => decide (r.1 = v)) = some r ↔ r ∈ rows ∧ r.1 = v
  | [], _, v, r => by simp
  | a :: rows, h, v, r => by
    rw [List.map_cons, List.nodup_cons] at h
    rw [List.find?_cons]
    by_cases e : a.1 = v
    · simp only [e, decide_true, Option.some.injEq, List.mem_cons]
      constructor
      · rintro rfl
        exact ⟨.inl rfl, e⟩
      · rintro ⟨h1 | h1, h2⟩
        · exact h1.symm
        · exact absurd (List.mem_map.mpr ⟨r, h1, h2.trans e.symm⟩) h.1
    · simp only [e, decide_false, find_iff h.2, List.mem_cons]
      constructor
      · rintro ⟨h1, h2⟩
        exact ⟨.inr h1, h2⟩
      · rintro ⟨h1 | h1, h2⟩
        · subst h1
          exact absurd h2 e
        · exact ⟨h1, h2⟩
theorem fa_iff {o : Offer} (h : (o.rows.map (·.1)).Nodup) {v : Ver} {ws : List Str} : featuresAt o v = some ws ↔ (v, ws) ∈ o.rows := by
  unfold featuresAt
  rw [Option.map_eq_some_iff]
  constructor
  · rintro ⟨r, h1, rfl⟩
    obtain ⟨h2, rfl⟩ := (find_iff h).mp h1
    exact h2
  · intro hm
    exact ⟨(v, ws), (find_iff h).mpr ⟨hm, rfl⟩, rfl⟩
end G6
namespace G6
open PySem
end G6
-- ## P92
/-! # P92: what two offers share -/
namespace G6
open PySem
theorem fa_feats {o : Offer} {v : Ver} {a : List Str} (h : featuresAt o v = some a) : featsOf o v = a := by simp [featsOf, h]
end G6
-- ## P93
/-! # P93: what would help -/
namespace G6
open PySem
local macro_rules | `(tactic| simp_arith [$ts,*]) => `(tactic| simp only [e_var, e_pk, e_cst, e_glb, e_fnv, e_tup, e_lst, e_op1, e_op2, e_chn, e_and, e_or, e_not, e_ite, e_slc, e_call, e_met, dens, deno, dsrc, x_set, x_setm, x_dnew, x_unp, x_par, x_app, x_ext, x_dput, x_ret, x_retn, x_rse, x_ite, x_loop, x_wh, x_brk, x_cnt, x_pas, x_exp, x_par3, x_parc, x_unpl, x_tryw, e_callt, x_nil, x_cons, R.bind, R.fl, Fl.seq, dataOf, resOf, res, rd, tst, lift, lift2, sem1, sem2, alls, outOf, ioOut, putV, putsV, freeAt_eq, fs_un, fs_v, fs_m, fs_f, plainAt, ps_un, ps_v, ps_f, ps_m, lcF', condF', List.getElem?_cons_zero, List.getElem?_cons_succ, List.set_cons_zero, List.set_cons_succ, if_true, if_false, Bool.false_eq_true, reduceCtorEq, Option.map_some, Option.map_none, Bool.and_true, Bool.true_and, Bool.not_true, Bool.not_false, len_eT, len_eL, len_eRows, len_ePs, len_eO, len_eR, len_eRow, len_eV, len_eP, nd_eT, nd_eL, nd_eRows, nd_ePs, nd_eO, nd_eR, nd_eRow, nd_eV, nd_eP, ty_eT, ty_eRows, ty_ePs, ty_eO, ty_eR, ty_eRow, ty_eV, ty_eP, walk_eT, walk_eL, walk_eRows, walk_ePs, walk_eP, walk_eV, list_eT, list_eL, tup_eL, tup_eT, ix_eO0, ix_eO1, ix_eO2, ix_eO3, ix_eR0, ix_eR1, ix_eR2, ix_eRow0, ix_eRow1, ix_eP0, ix_eP1, non_eV, non_eT, non_eL, walk_eOs, ty_eL, in_eT, in_eL, eq_eL, eq_eT, eq_eV, lt_eV, gt_eV, eq_int, eq_str, lt_int, gt_int, nd_none, non_none, ty_str_none, ty_int_none, ty_bool_none, ty_tuple_none, ty_list_none, nd_bool, non_bool, ty_str_bool, ty_int_bool, ty_bool_bool, ty_tuple_bool, ty_list_bool, nd_int, non_int, ty_str_int, ty_int_int, ty_bool_int, ty_tuple_int, ty_list_int, nd_str, non_str, ty_str_str, ty_int_str, ty_bool_str, ty_tuple_str, ty_list_str, nd_list, non_list, ty_str_list, ty_int_list, ty_bool_list, ty_tuple_list, ty_list_list, nd_tuple, non_tuple, ty_str_tuple, ty_int_tuple, ty_bool_tuple, ty_tuple_tuple, ty_list_tuple, len_list, len_tuple, list_list, list_tuple, tup_list, tup_tuple, ix_list, ix_tuple, tr_bool, tr_none, tr_int, tr_list, tr_tuple, lst_list, lst_eL, atI_0, atI_1, atI_2, atI_3, $ts,*])
/-! ### worlds of changed offers -/
theorem world_like {o1 o1' o2 : Offer} {r : Rules} {U : List Str} (W : World1 [o1, o2] r U) (h2 : o2.must.length ≤ 6) (hm : ∀ w ∈ o1'.must, w ∈ U) (hl : o1'.must.length ≤ 6) (hf : ∀ row ∈ o1'.rows, (∀ w ∈ row.2, w ∈ U) ∧ row.2.length ≤ 6) : World1 [o1', o2] r U := by
  refine ⟨W.small, by simp, fun o ho => ?_, ?_, fun o ho => ?_, W.olen, W.ord⟩
  · simp only [List.mem_cons, List.not_mem_nil, or_false] at ho
    rcases ho with rfl | rfl
    · exact hm
    · exact W.must _ (by simp)
  · simp only [List.flatMap_cons, List.flatMap_nil, List.length_append, List.length_nil]
    omega
  · simp only [List.mem_cons, List.not_mem_nil, or_false] at ho
    rcases ho with rfl | rfl
    · exact hf
    · exact W.feat _ (by simp)
section
variable {o1 o2 : Offer} {r : Rules} {U : List Str} {v : Ver} {f : Str}
end
/-! ### what helps -/
section
variable {T : Str → Option Fn} {n : Nat} {o1 o2 : Offer} {r : Rules} {U : List Str}
end
end G6
-- ## P94
/-! # P94: what would help, by the law -/
namespace G6
open PySem
local macro_rules | `(tactic| simp_arith [$ts,*]) => `(tactic| simp only [e_var, e_pk, e_cst, e_glb, e_fnv, e_tup, e_lst, e_op1, e_op2, e_chn, e_and, e_or, e_not, e_ite, e_slc, e_call, e_met, dens, deno, dsrc, x_set, x_setm, x_dnew, x_unp, x_par, x_app, x_ext, x_dput, x_ret, x_retn, x_rse, x_ite, x_loop, x_wh, x_brk, x_cnt, x_pas, x_exp, x_par3, x_parc, x_unpl, x_tryw, e_callt, x_nil, x_cons, R.bind, R.fl, Fl.seq, dataOf, resOf, res, rd, tst, lift, lift2, sem1, sem2, alls, outOf, ioOut, putV, putsV, freeAt_eq, fs_un, fs_v, fs_m, fs_f, plainAt, ps_un, ps_v, ps_f, ps_m, lcF', condF', List.getElem?_cons_zero, List.getElem?_cons_succ, List.set_cons_zero, List.set_cons_succ, if_true, if_false, Bool.false_eq_true, reduceCtorEq, Option.map_some, Option.map_none, Bool.and_true, Bool.true_and, Bool.not_true, Bool.not_false, len_eT, len_eL, len_eRows, len_ePs, len_eO, len_eR, len_eRow, len_eV, len_eP, nd_eT, nd_eL, nd_eRows, nd_ePs, nd_eO, nd_eR, nd_eRow, nd_eV, nd_eP, ty_eT, ty_eRows, ty_ePs, ty_eO, ty_eR, ty_eRow, ty_eV, ty_eP, walk_eT, walk_eL, walk_eRows, walk_ePs, walk_eP, walk_eV, list_eT, list_eL, tup_eL, tup_eT, ix_eO0, ix_eO1, ix_eO2, ix_eO3, ix_eR0, ix_eR1, ix_eR2, ix_eRow0, ix_eRow1, ix_eP0, ix_eP1, non_eV, non_eT, non_eL, walk_eOs, ty_eL, in_eT, in_eL, eq_eL, eq_eT, eq_eV, lt_eV, gt_eV, eq_int, eq_str, lt_int, gt_int, nd_none, non_none, ty_str_none, ty_int_none, ty_bool_none, ty_tuple_none, ty_list_none, nd_bool, non_bool, ty_str_bool, ty_int_bool, ty_bool_bool, ty_tuple_bool, ty_list_bool, nd_int, non_int, ty_str_int, ty_int_int, ty_bool_int, ty_tuple_int, ty_list_int, nd_str, non_str, ty_str_str, ty_int_str, ty_bool_str, ty_tuple_str, ty_list_str, nd_list, non_list, ty_str_list, ty_int_list, ty_bool_list, ty_tuple_list, ty_list_list, nd_tuple, non_tuple, ty_str_tuple, ty_int_tuple, ty_bool_tuple, ty_tuple_tuple, ty_list_tuple, len_list, len_tuple, list_list, list_tuple, tup_list, tup_tuple, ix_list, ix_tuple, tr_bool, tr_none, tr_int, tr_list, tr_tuple, lst_list, lst_eL, atI_0, atI_1, atI_2, atI_3, $ts,*])
section
variable {T : Str → Option Fn} {n : Nat} {o o1 o2 : Offer} {r : Rules} {v : Ver} {f : Str} {a : List Str}
theorem ix_off (h : featuresAt o v = some a) : idxD (dG (rG o.rows)) (eV v) = some (eT a) := by
  rw [ix_dG, lkG_rG, h]
  rfl
end
end G6
-- ## P95
/-! # P95: refusals of what helps; comprehensions that draw -/
namespace G6
open PySem
local macro_rules | `(tactic| simp_arith [$ts,*]) => `(tactic| simp only [e_var, e_pk, e_cst, e_glb, e_fnv, e_tup, e_lst, e_op1, e_op2, e_chn, e_and, e_or, e_not, e_ite, e_slc, e_call, e_met, dens, deno, dsrc, x_set, x_setm, x_dnew, x_unp, x_par, x_app, x_ext, x_dput, x_ret, x_retn, x_rse, x_ite, x_loop, x_wh, x_brk, x_cnt, x_pas, x_exp, x_par3, x_parc, x_unpl, x_tryw, e_callt, x_nil, x_cons, R.bind, R.fl, Fl.seq, dataOf, resOf, res, rd, tst, lift, lift2, sem1, sem2, alls, outOf, ioOut, putV, putsV, freeAt_eq, fs_un, fs_v, fs_m, fs_f, plainAt, ps_un, ps_v, ps_f, ps_m, lcF', condF', List.getElem?_cons_zero, List.getElem?_cons_succ, List.set_cons_zero, List.set_cons_succ, if_true, if_false, Bool.false_eq_true, reduceCtorEq, Option.map_some, Option.map_none, Bool.and_true, Bool.true_and, Bool.not_true, Bool.not_false, len_eT, len_eL, len_eRows, len_ePs, len_eO, len_eR, len_eRow, len_eV, len_eP, nd_eT, nd_eL, nd_eRows, nd_ePs, nd_eO, nd_eR, nd_eRow, nd_eV, nd_eP, ty_eT, ty_eRows, ty_ePs, ty_eO, ty_eR, ty_eRow, ty_eV, ty_eP, walk_eT, walk_eL, walk_eRows, walk_ePs, walk_eP, walk_eV, list_eT, list_eL, tup_eL, tup_eT, ix_eO0, ix_eO1, ix_eO2, ix_eO3, ix_eR0, ix_eR1, ix_eR2, ix_eRow0, ix_eRow1, ix_eP0, ix_eP1, non_eV, non_eT, non_eL, walk_eOs, ty_eL, in_eT, in_eL, eq_eL, eq_eT, eq_eV, lt_eV, gt_eV, eq_int, eq_str, lt_int, gt_int, nd_none, non_none, ty_str_none, ty_int_none, ty_bool_none, ty_tuple_none, ty_list_none, nd_bool, non_bool, ty_str_bool, ty_int_bool, ty_bool_bool, ty_tuple_bool, ty_list_bool, nd_int, non_int, ty_str_int, ty_int_int, ty_bool_int, ty_tuple_int, ty_list_int, nd_str, non_str, ty_str_str, ty_int_str, ty_bool_str, ty_tuple_str, ty_list_str, nd_list, non_list, ty_str_list, ty_int_list, ty_bool_list, ty_tuple_list, ty_list_list, nd_tuple, non_tuple, ty_str_tuple, ty_int_tuple, ty_bool_tuple, ty_tuple_tuple, ty_list_tuple, len_list, len_tuple, list_list, list_tuple, tup_list, tup_tuple, ix_list, ix_tuple, tr_bool, tr_none, tr_int, tr_list, tr_tuple, lst_list, lst_eL, atI_0, atI_1, atI_2, atI_3, $ts,*])
section
variable {T : Str → Option Fn} {n : Nat} {o1 o2 : Offer} {r : Rules}
end
end G6
-- ## P96
/-! # P96: help helps -/
namespace G6
open PySem
section
variable {o1 o1' o2 : Offer} {r : Rules} {v : Ver} {f : Str} {ws : List Str}
theorem two_mem {P : Offer → Prop} (h1 : P o1) (h2 : P o2) : ∀ o ∈ [o1, o2], P o := fun o ho => by
  simp only [List.mem_cons, List.not_mem_nil, or_false] at ho
  rcases ho with rfl | rfl
  · exact h1
  · exact h2
theorem fits_other (h : Fits [o1', o2] r v ws) (hv : (featuresAt o1 v).isSome = true) (hl : vlt v o1.least = false) (hm : ∀ w ∈ o1.must, w ∈ ws) (hf : ∀ w ∈ ws, w ∈ featsOf o1 v ∧ w ∉ o1.bar) : Fits [o1, o2] r v ws :=
  ⟨two_mem hv (h.ver o2 (by simp)), two_mem hl (h.least o2 (by simp)), two_mem hm (h.must o2 (by simp)), two_mem hf (h.feat o2 (by simp)), h.closed, h.bars⟩
/-! ### a dict by versions, of a function -/
end
end G6
-- ## P80
/-! # P80: texts split at a sign that stands in no part -/
namespace G6
open PySem PySem.Builtin PySem.Builtin.Str
def cl (s : Str) : List Nat := s.cps.toList
/-! ### where it stands -/
section
variable {x sep : Str} {c : Nat} {rest : List Nat}
end
end G6
-- ## P81
/-! # P81: offers and choices written -/
namespace G6
open PySem
local macro_rules | `(tactic| simp_arith [$ts,*]) => `(tactic| simp only [e_var, e_pk, e_cst, e_glb, e_fnv, e_tup, e_lst, e_op1, e_op2, e_chn, e_and, e_or, e_not, e_ite, e_slc, e_call, e_met, dens, deno, dsrc, x_set, x_setm, x_dnew, x_unp, x_par, x_app, x_ext, x_dput, x_ret, x_retn, x_rse, x_ite, x_loop, x_wh, x_brk, x_cnt, x_pas, x_exp, x_par3, x_parc, x_unpl, x_tryw, e_callt, x_nil, x_cons, R.bind, R.fl, Fl.seq, dataOf, resOf, res, rd, tst, lift, lift2, sem1, sem2, alls, outOf, ioOut, putV, putsV, freeAt_eq, fs_un, fs_v, fs_m, fs_f, plainAt, ps_un, ps_v, ps_f, ps_m, lcF', condF', List.getElem?_cons_zero, List.getElem?_cons_succ, List.set_cons_zero, List.set_cons_succ, if_true, if_false, Bool.false_eq_true, reduceCtorEq, Option.map_some, Option.map_none, Bool.and_true, Bool.true_and, Bool.not_true, Bool.not_false, len_eT, len_eL, len_eRows, len_ePs, len_eO, len_eR, len_eRow, len_eV, len_eP, nd_eT, nd_eL, nd_eRows, nd_ePs, nd_eO, nd_eR, nd_eRow, nd_eV, nd_eP, ty_eT, ty_eRows, ty_ePs, ty_eO, ty_eR, ty_eRow, ty_eV, ty_eP, walk_eT, walk_eL, walk_eRows, walk_ePs, walk_eP, walk_eV, list_eT, list_eL, tup_eL, tup_eT, ix_eO0, ix_eO1, ix_eO2, ix_eO3, ix_eR0, ix_eR1, ix_eR2, ix_eRow0, ix_eRow1, ix_eP0, ix_eP1, non_eV, non_eT, non_eL, walk_eOs, ty_eL, in_eT, in_eL, eq_eL, eq_eT, eq_eV, lt_eV, gt_eV, eq_int, eq_str, lt_int, gt_int, nd_none, non_none, ty_str_none, ty_int_none, ty_bool_none, ty_tuple_none, ty_list_none, nd_bool, non_bool, ty_str_bool, ty_int_bool, ty_bool_bool, ty_tuple_bool, ty_list_bool, nd_int, non_int, ty_str_int, ty_int_int, ty_bool_int, ty_tuple_int, ty_list_int, nd_str, non_str, ty_str_str, ty_int_str, ty_bool_str, ty_tuple_str, ty_list_str, nd_list, non_list, ty_str_list, ty_int_list, ty_bool_list, ty_tuple_list, ty_list_list, nd_tuple, non_tuple, ty_str_tuple, ty_int_tuple, ty_bool_tuple, ty_tuple_tuple, ty_list_tuple, len_list, len_tuple, list_list, list_tuple, tup_list, tup_tuple, ix_list, ix_tuple, tr_bool, tr_none, tr_int, tr_list, tr_tuple, lst_list, lst_eL, atI_0, atI_1, atI_2, atI_3, $ts,*])
/-! ### numbers -/
section
variable {T : Str → Option Fn} {n : Nat}
end
end G6
-- ## P82
/-! # P82: any text read -/
namespace G6
open PySem
local macro_rules | `(tactic| simp_arith! [$ts,*]) => `(tactic| simp only [e_var, e_pk, e_cst, e_glb, e_fnv, e_tup, e_lst, e_op1, e_op2, e_chn, e_and, e_or, e_not, e_ite, e_slc, e_call, e_met, dens, deno, dsrc, x_set, x_setm, x_dnew, x_unp, x_par, x_app, x_ext, x_dput, x_ret, x_retn, x_rse, x_ite, x_loop, x_wh, x_brk, x_cnt, x_pas, x_exp, x_par3, x_parc, x_unpl, x_tryw, e_callt, x_nil, x_cons, R.bind, R.fl, Fl.seq, dataOf, resOf, res, rd, tst, truth, lift, lift2, sem1, sem2, alls, outOf, ioOut, putV, putsV, freeAt_eq, fs_un, fs_v, fs_m, fs_f, plainAt, ps_un, ps_v, ps_f, ps_m, mutL, mutD, chg, lcF', condF', List.getElem?_cons_zero, List.getElem?_cons_succ, List.set_cons_zero, List.set_cons_succ, if_true, if_false, Bool.false_eq_true, reduceCtorEq, Option.map_some, Option.map_none, noDict, isTy, isNoneD, Bool.and_true, Bool.true_and, Bool.not_true, Bool.not_false, lenD, listD, tupleD, idxD, isLst, $ts,*])
local macro_rules | `(tactic| simp_arith [$ts,*]) => `(tactic| simp only [e_var, e_pk, e_cst, e_glb, e_fnv, e_tup, e_lst, e_op1, e_op2, e_chn, e_and, e_or, e_not, e_ite, e_slc, e_call, e_met, dens, deno, dsrc, x_set, x_setm, x_dnew, x_unp, x_par, x_app, x_ext, x_dput, x_ret, x_retn, x_rse, x_ite, x_loop, x_wh, x_brk, x_cnt, x_pas, x_exp, x_par3, x_parc, x_unpl, x_tryw, e_callt, x_nil, x_cons, R.bind, R.fl, Fl.seq, dataOf, resOf, res, rd, tst, lift, lift2, sem1, sem2, alls, outOf, ioOut, putV, putsV, freeAt_eq, fs_un, fs_v, fs_m, fs_f, plainAt, ps_un, ps_v, ps_f, ps_m, lcF', condF', List.getElem?_cons_zero, List.getElem?_cons_succ, List.set_cons_zero, List.set_cons_succ, if_true, if_false, Bool.false_eq_true, reduceCtorEq, Option.map_some, Option.map_none, Bool.and_true, Bool.true_and, Bool.not_true, Bool.not_false, len_eT, len_eL, len_eRows, len_ePs, len_eO, len_eR, len_eRow, len_eV, len_eP, nd_eT, nd_eL, nd_eRows, nd_ePs, nd_eO, nd_eR, nd_eRow, nd_eV, nd_eP, ty_eT, ty_eRows, ty_ePs, ty_eO, ty_eR, ty_eRow, ty_eV, ty_eP, walk_eT, walk_eL, walk_eRows, walk_ePs, walk_eP, walk_eV, list_eT, list_eL, tup_eL, tup_eT, ix_eO0, ix_eO1, ix_eO2, ix_eO3, ix_eR0, ix_eR1, ix_eR2, ix_eRow0, ix_eRow1, ix_eP0, ix_eP1, non_eV, non_eT, non_eL, walk_eOs, ty_eL, in_eT, in_eL, eq_eL, eq_eT, eq_eV, lt_eV, gt_eV, eq_int, eq_str, lt_int, gt_int, nd_none, non_none, ty_str_none, ty_int_none, ty_bool_none, ty_tuple_none, ty_list_none, nd_bool, non_bool, ty_str_bool, ty_int_bool, ty_bool_bool, ty_tuple_bool, ty_list_bool, nd_int, non_int, ty_str_int, ty_int_int, ty_bool_int, ty_tuple_int, ty_list_int, nd_str, non_str, ty_str_str, ty_int_str, ty_bool_str, ty_tuple_str, ty_list_str, nd_list, non_list, ty_str_list, ty_int_list, ty_bool_list, ty_tuple_list, ty_list_list, nd_tuple, non_tuple, ty_str_tuple, ty_int_tuple, ty_bool_tuple, ty_tuple_tuple, ty_list_tuple, len_list, len_tuple, list_list, list_tuple, tup_list, tup_tuple, ix_list, ix_tuple, tr_bool, tr_none, tr_int, tr_list, tr_tuple, lst_list, lst_eL, atI_0, atI_1, atI_2, atI_3, $ts,*])
/-! ### numbers -/
/-! ### back from data -/
/-! ### what is read -/
section
variable {T : Str → Option Fn} {n : Nat}
end
end G6
-- ## P83
/-! # P83: read, read_choice; what is written is read back -/
namespace G6
open PySem
local macro_rules | `(tactic| simp_arith [$ts,*]) => `(tactic| simp only [e_var, e_pk, e_cst, e_glb, e_fnv, e_tup, e_lst, e_op1, e_op2, e_chn, e_and, e_or, e_not, e_ite, e_slc, e_call, e_met, dens, deno, dsrc, x_set, x_setm, x_dnew, x_unp, x_par, x_app, x_ext, x_dput, x_ret, x_retn, x_rse, x_ite, x_loop, x_wh, x_brk, x_cnt, x_pas, x_exp, x_par3, x_parc, x_unpl, x_tryw, e_callt, x_nil, x_cons, R.bind, R.fl, Fl.seq, dataOf, resOf, res, rd, tst, lift, lift2, sem1, sem2, alls, outOf, ioOut, putV, putsV, freeAt_eq, fs_un, fs_v, fs_m, fs_f, plainAt, ps_un, ps_v, ps_f, ps_m, lcF', condF', List.getElem?_cons_zero, List.getElem?_cons_succ, List.set_cons_zero, List.set_cons_succ, if_true, if_false, Bool.false_eq_true, reduceCtorEq, Option.map_some, Option.map_none, Bool.and_true, Bool.true_and, Bool.not_true, Bool.not_false, len_eT, len_eL, len_eRows, len_ePs, len_eO, len_eR, len_eRow, len_eV, len_eP, nd_eT, nd_eL, nd_eRows, nd_ePs, nd_eO, nd_eR, nd_eRow, nd_eV, nd_eP, ty_eT, ty_eRows, ty_ePs, ty_eO, ty_eR, ty_eRow, ty_eV, ty_eP, walk_eT, walk_eL, walk_eRows, walk_ePs, walk_eP, walk_eV, list_eT, list_eL, tup_eL, tup_eT, ix_eO0, ix_eO1, ix_eO2, ix_eO3, ix_eR0, ix_eR1, ix_eR2, ix_eRow0, ix_eRow1, ix_eP0, ix_eP1, non_eV, non_eT, non_eL, walk_eOs, ty_eL, in_eT, in_eL, eq_eL, eq_eT, eq_eV, lt_eV, gt_eV, eq_int, eq_str, lt_int, gt_int, nd_none, non_none, ty_str_none, ty_int_none, ty_bool_none, ty_tuple_none, ty_list_none, nd_bool, non_bool, ty_str_bool, ty_int_bool, ty_bool_bool, ty_tuple_bool, ty_list_bool, nd_int, non_int, ty_str_int, ty_int_int, ty_bool_int, ty_tuple_int, ty_list_int, nd_str, non_str, ty_str_str, ty_int_str, ty_bool_str, ty_tuple_str, ty_list_str, nd_list, non_list, ty_str_list, ty_int_list, ty_bool_list, ty_tuple_list, ty_list_list, nd_tuple, non_tuple, ty_str_tuple, ty_int_tuple, ty_bool_tuple, ty_tuple_tuple, ty_list_tuple, len_list, len_tuple, list_list, list_tuple, tup_list, tup_tuple, ix_list, ix_tuple, tr_bool, tr_none, tr_int, tr_list, tr_tuple, lst_list, lst_eL, atI_0, atI_1, atI_2, atI_3, $ts,*])
section
variable {T : Str → Option Fn} {n : Nat}
end
end G6
-- ## P84
/-! # P84: what is written is read back -/
namespace G6
open PySem
end G6
-- ## P85
/-! # P85: asked to read; a text that grows in a loop -/
namespace G6
open PySem
local macro_rules | `(tactic| simp_arith [$ts,*]) => `(tactic| simp only [e_var, e_pk, e_cst, e_glb, e_fnv, e_tup, e_lst, e_op1, e_op2, e_chn, e_and, e_or, e_not, e_ite, e_slc, e_call, e_met, dens, deno, dsrc, x_set, x_setm, x_dnew, x_unp, x_par, x_app, x_ext, x_dput, x_ret, x_retn, x_rse, x_ite, x_loop, x_wh, x_brk, x_cnt, x_pas, x_exp, x_par3, x_parc, x_unpl, x_tryw, e_callt, x_nil, x_cons, R.bind, R.fl, Fl.seq, dataOf, resOf, res, rd, tst, lift, lift2, sem1, sem2, alls, outOf, ioOut, putV, putsV, freeAt_eq, fs_un, fs_v, fs_m, fs_f, plainAt, ps_un, ps_v, ps_f, ps_m, lcF', condF', List.getElem?_cons_zero, List.getElem?_cons_succ, List.set_cons_zero, List.set_cons_succ, if_true, if_false, Bool.false_eq_true, reduceCtorEq, Option.map_some, Option.map_none, Bool.and_true, Bool.true_and, Bool.not_true, Bool.not_false, len_eT, len_eL, len_eRows, len_ePs, len_eO, len_eR, len_eRow, len_eV, len_eP, nd_eT, nd_eL, nd_eRows, nd_ePs, nd_eO, nd_eR, nd_eRow, nd_eV, nd_eP, ty_eT, ty_eRows, ty_ePs, ty_eO, ty_eR, ty_eRow, ty_eV, ty_eP, walk_eT, walk_eL, walk_eRows, walk_ePs, walk_eP, walk_eV, list_eT, list_eL, tup_eL, tup_eT, ix_eO0, ix_eO1, ix_eO2, ix_eO3, ix_eR0, ix_eR1, ix_eR2, ix_eRow0, ix_eRow1, ix_eP0, ix_eP1, non_eV, non_eT, non_eL, walk_eOs, ty_eL, in_eT, in_eL, eq_eL, eq_eT, eq_eV, lt_eV, gt_eV, eq_int, eq_str, lt_int, gt_int, nd_none, non_none, ty_str_none, ty_int_none, ty_bool_none, ty_tuple_none, ty_list_none, nd_bool, non_bool, ty_str_bool, ty_int_bool, ty_bool_bool, ty_tuple_bool, ty_list_bool, nd_int, non_int, ty_str_int, ty_int_int, ty_bool_int, ty_tuple_int, ty_list_int, nd_str, non_str, ty_str_str, ty_int_str, ty_bool_str, ty_tuple_str, ty_list_str, nd_list, non_list, ty_str_list, ty_int_list, ty_bool_list, ty_tuple_list, ty_list_list, nd_tuple, non_tuple, ty_str_tuple, ty_int_tuple, ty_bool_tuple, ty_tuple_tuple, ty_list_tuple, len_list, len_tuple, list_list, list_tuple, tup_list, tup_tuple, ix_list, ix_tuple, tr_bool, tr_none, tr_int, tr_list, tr_tuple, lst_list, lst_eL, atI_0, atI_1, atI_2, atI_3, $ts,*])
section
variable {Φ : Fenv} {ρ : Rho}
end
section
variable {T : Str → Option Fn} {n : Nat} {g c : Str} {a d : PyData} {j : Int}
end
/-! ### a text that grows -/
end G6
-- ## P97
/-! # P97: changed offers written -/
namespace G6
open PySem
end G6
-- ## P70
/-! # P70: rows of numbers, ordered; the least of some -/
namespace G6
open PySem
section
variable {α : Type} [DecidableEq α] {enc : α → PyData} {lt : α → α → Bool}
end
/-! ### rows -/
/-! ### rows of numbers -/
/-! ### by size first -/
end G6
-- ## P98
/-! # P98: what fits, and choices -/
namespace G6
open PySem
/-! ### sets of features, sorted -/
section
variable {o1 o2 : Offer} {r : Rules} {v : Ver} {ws : List Str} {f : Str}
/-! ### ranked by one feature -/
end
end G6
-- ## P100
/-! # P100: a wider offer -/
namespace G6
open PySem
local macro_rules | `(tactic| simp_arith [$ts,*]) => `(tactic| simp only [e_var, e_pk, e_cst, e_glb, e_fnv, e_tup, e_lst, e_op1, e_op2, e_chn, e_and, e_or, e_not, e_ite, e_slc, e_call, e_met, dens, deno, dsrc, x_set, x_setm, x_dnew, x_unp, x_par, x_app, x_ext, x_dput, x_ret, x_retn, x_rse, x_ite, x_loop, x_wh, x_brk, x_cnt, x_pas, x_exp, x_par3, x_parc, x_unpl, x_tryw, e_callt, x_nil, x_cons, R.bind, R.fl, Fl.seq, dataOf, resOf, res, rd, tst, lift, lift2, sem1, sem2, alls, outOf, ioOut, putV, putsV, freeAt_eq, fs_un, fs_v, fs_m, fs_f, plainAt, ps_un, ps_v, ps_f, ps_m, lcF', condF', List.getElem?_cons_zero, List.getElem?_cons_succ, List.set_cons_zero, List.set_cons_succ, if_true, if_false, Bool.false_eq_true, reduceCtorEq, Option.map_some, Option.map_none, Bool.and_true, Bool.true_and, Bool.not_true, Bool.not_false, len_eT, len_eL, len_eRows, len_ePs, len_eO, len_eR, len_eRow, len_eV, len_eP, nd_eT, nd_eL, nd_eRows, nd_ePs, nd_eO, nd_eR, nd_eRow, nd_eV, nd_eP, ty_eT, ty_eRows, ty_ePs, ty_eO, ty_eR, ty_eRow, ty_eV, ty_eP, walk_eT, walk_eL, walk_eRows, walk_ePs, walk_eP, walk_eV, list_eT, list_eL, tup_eL, tup_eT, ix_eO0, ix_eO1, ix_eO2, ix_eO3, ix_eR0, ix_eR1, ix_eR2, ix_eRow0, ix_eRow1, ix_eP0, ix_eP1, non_eV, non_eT, non_eL, walk_eOs, ty_eL, in_eT, in_eL, eq_eL, eq_eT, eq_eV, lt_eV, gt_eV, eq_int, eq_str, lt_int, gt_int, nd_none, non_none, ty_str_none, ty_int_none, ty_bool_none, ty_tuple_none, ty_list_none, nd_bool, non_bool, ty_str_bool, ty_int_bool, ty_bool_bool, ty_tuple_bool, ty_list_bool, nd_int, non_int, ty_str_int, ty_int_int, ty_bool_int, ty_tuple_int, ty_list_int, nd_str, non_str, ty_str_str, ty_int_str, ty_bool_str, ty_tuple_str, ty_list_str, nd_list, non_list, ty_str_list, ty_int_list, ty_bool_list, ty_tuple_list, ty_list_list, nd_tuple, non_tuple, ty_str_tuple, ty_int_tuple, ty_bool_tuple, ty_tuple_tuple, ty_list_tuple, len_list, len_tuple, list_list, list_tuple, tup_list, tup_tuple, ix_list, ix_tuple, tr_bool, tr_none, tr_int, tr_list, tr_tuple, lst_list, lst_eL, atI_0, atI_1, atI_2, atI_3, $ts,*])
section
variable {Φ : Fenv} {ρ : Rho}
theorem x_dsd {i : Nat} {k e : E} : exS Φ (.dsd i k e) ρ = (if mutD ρ i then (dataOf (den Φ k ρ)).fl fun kd ρ1 => (dataOf (den Φ e ρ1)).fl fun d ρ2 => match chg ρ2 i (dsdD kd d) with
    | some ρ3 => .nx ρ3
    | none => .bad else .bad) := by first | (simp only [exS]; done) | (simp only [exS]; rfl) | rfl
end
theorem len_dG (rows : RowsG) : lenD (dG rows) = some (.int rows.length) := by
  simp [dG, lenD]
theorem list_dG (rows : RowsG) : listD (dG rows) = some (.list (rows.map fun r => eV r.1)) := by
  simp [dG, listD, dictKeys, rowsD, Function.comp_def]
theorem dsd_there {rows : RowsG} {v : Ver} {d : PyData} (h : v ∈ rows.map (·.1)) (hl : rows.length < 900) : dsdD (eV v) d (dG rows) = some (dG rows) := by
  unfold dG
  simp only [dsdD]
  have h1 : (tupDict ((PyData.none, PyData.none) :: rows.map fun r => (eV r.1, r.2)) && keyFits ((.none, .none) :: rows.map fun r => (eV r.1, r.2)) (eV v) && decide ((((PyData.none, PyData.none) :: rows.map fun r => (eV r.1, r.2)) : List (PyData × PyData)).length < 1000)) = true := by
    rw [keyFits_G]
    simp [tupDict]
    omega
  rw [if_pos h1, dfind_G, lkG_isSome, decide_eq_true h, if_pos rfl]
theorem dsd_new {rows : RowsG} {v : Ver} {d : PyData} (h : v ∉ rows.map (·.1)) (hl : rows.length < 900) : dsdD (eV v) d (dG rows) = some (dG (rows ++ [(v, d)])) := by
  unfold dG
  simp only [dsdD]
  have h1 : (tupDict ((PyData.none, PyData.none) :: rows.map fun r => (eV r.1, r.2)) && keyFits ((.none, .none) :: rows.map fun r => (eV r.1, r.2)) (eV v) && decide ((((PyData.none, PyData.none) :: rows.map fun r => (eV r.1, r.2)) : List (PyData × PyData)).length < 1000)) = true := by
    rw [keyFits_G]
    simp [tupDict]
    omega
  rw [if_pos h1, dfind_G, lkG_isSome, decide_eq_false h, if_neg (by simp), put_G h]
theorem dput_there {rows : RowsG} {v : Ver} {d : PyData} (h : v ∈ rows.map (·.1)) (hl : rows.length < 900) : dputD (eV v) d (dG rows) = some (dG (rows.map fun r => if r.1 = v then (r.1, d) else r)) := by
  unfold dG
  simp only [dputD]
  have h1 : (keyFits ((PyData.none, PyData.none) :: rows.map fun r => (eV r.1, r.2)) (eV v) && decide ((((PyData.none, PyData.none) :: rows.map fun r => (eV r.1, r.2)) : List (PyData × PyData)).length < 1000)) = true := by
    rw [keyFits_G]
    simp
    omega
  rw [if_pos h1]
  unfold putRow
  rw [any_G, if_pos (by simpa using h)]
  have h0 : PyData.eqv .none (eV v) = false := rfl
  rw [List.map_cons, h0]
  simp only [Bool.false_eq_true, if_false, List.map_map]
  congr 3
  apply List.map_congr_left
  intro r _
  simp only [Function.comp, eqv_eV]
  by_cases e : r.1 = v <;> simp [e]
/-! ### the rows of a dict, by rising versions -/
theorem find_own {rows : RowsV} (h : (rows.map (·.1)).Nodup) {r : Ver × List Str} (hr : r ∈ rows) : atV rows r.1 = r.2 := by
  unfold atV
  rw [(find_iff h (r := r)).mpr ⟨hr, rfl⟩]
  rfl
theorem sorted_back {rows : RowsV} (h : (rows.map (·.1)).Nodup) : (((rows.map (·.1)).mergeSort leV).map fun v => (v, atV rows v)) = rows.mergeSort leRow := by
  rw [← PySem.W.sort_maps (r := leRow) (s := leV) (fun q : Ver × List Str => q.1) (l := rows) (fun a _ b _ => rfl), List.map_map]
  have : ∀ q ∈ rows.mergeSort leRow, ((fun v => (v, atV rows v)) ∘ fun q : Ver × List Str => q.1) q = q := fun q hq => by
    show (q.1, atV rows q.1) = q
    rw [find_own h (List.mem_mergeSort.mp hq)]
  rw [List.map_congr_left this]
  simp
structure WideR (pool : List Str) (o : Offer) (rows : RowsV) : Prop where
  nd : (rows.map (·.1)).Nodup
  len : rows.length ≤ 6
  row : ∀ q ∈ rows, okV q.1 ∧ okT q.2 ∧ ∀ w ∈ q.2, w ∈ pool
  more : ∀ q ∈ o.rows, ∃ ws, (q.1, ws) ∈ rows ∧ ∀ w ∈ q.2, w ∈ ws
structure Wide (pool : List Str) (o W : Offer) : Prop where
  ok : okO W
  row : ∀ q ∈ W.rows, ∀ w ∈ q.2, w ∈ pool
  must : ∀ w ∈ W.must, w ∈ o.must
  bar : ∀ w ∈ W.bar, w ∈ o.bar
  least : ∀ v, okV v → vlt v o.least = false → vlt v W.least = false
  more : ∀ q ∈ o.rows, ∃ ws, (q.1, ws) ∈ W.rows ∧ ∀ w ∈ q.2, w ∈ ws
theorem wide_fits {pool : List Str} {o W o2 : Offer} {r : Rules} (h : okO o) (w : Wide pool o W) {v : Ver} {ws : List Str} (hf : Fits [o, o2] r v ws) : Fits [W, o2] r v ws := by
  have hv := hf.ver o (by simp)
  have hm := (fa_iff (ver_nodup h)).mp (feats_some hv)
  obtain ⟨ws', h1, h2⟩ := w.more _ hm
  have f1 := (fa_iff (ver_nodup w.ok)).mpr h1
  refine fits_other hf (by rw [f1]; rfl) (w.least v (h.row _ hm).1 (hf.least o (by simp))) (fun x hx => hf.must o (by simp) x (w.must x hx)) fun x hx => ?_
  obtain ⟨g1, g2⟩ := hf.feat o (by simp) x hx
  rw [fa_feats f1]
  exact ⟨h2 x g1, fun z => g2 (w.bar x z)⟩
theorem wide_world {pool : List Str} {o W o2 : Offer} {r : Rules} (w : Wide pool o W) (h2 : okO o2) (Wo : World1 [o, o2] r pool) : World1 [W, o2] r pool := world_like Wo h2.must.2.1 (fun x hx => Wo.must o (by simp) x (w.must x hx)) w.ok.must.2.1 fun q hq => ⟨w.row q hq, (w.ok.row q hq).2.2.1⟩
theorem tail_ok {ws : List Str} (h : okT ws) : okT ws.tail := okT_sub h (List.tail_sublist ws)
theorem wide_of {pool : List Str} {o : Offer} (h : okO o) {rows : RowsV} (w : WideR pool o rows) {least : Ver} {must bar : List Str} (hl : least = o.least ∨ least = (0, 0)) (hm : must = o.must ∨ must = o.must.tail) (hb : bar = o.bar ∨ bar = o.bar.tail) : Wide pool o ⟨rows.mergeSort leRow, least, must, bar⟩ := by
  have hlen : (rows.mergeSort leRow).length = rows.length := List.length_mergeSort _
  have hne : 1 ≤ rows.length := by
    have := h.len.1
    cases hr : o.rows with
    | nil => rw [hr] at this; simp at this
    | cons q l =>
      obtain ⟨ws, h1, _⟩ := w.more q (by rw [hr]; simp)
      exact List.length_pos_of_mem h1
  refine ⟨⟨⟨by show 1 ≤ (rows.mergeSort leRow).length; omega, by show (rows.mergeSort leRow).length ≤ 6; have := w.len; omega⟩, fun q hq => ?_, leRow_rising w.nd, ?_, ?_, ?_⟩, fun q hq => (w.row q (List.mem_mergeSort.mp hq)).2.2, fun x hx => ?_, fun x hx => ?_, fun v hv hz => ?_, fun q hq => ?_⟩
  · have := w.row q (List.mem_mergeSort.mp hq)
    exact ⟨this.1, this.2.1⟩
  · rcases hl with rfl | rfl
    · exact h.least
    · show okV (0, 0)
      unfold okV
      decide
  · rcases hm with rfl | rfl
    · exact h.must
    · exact tail_ok h.must
  · rcases hb with rfl | rfl
    · exact h.bar
    · exact tail_ok h.bar
  · rcases hm with rfl | rfl
    · exact hx
    · exact List.mem_of_mem_tail hx
  · rcases hb with rfl | rfl
    · exact hx
    · exact List.mem_of_mem_tail hx
  · rcases hl with rfl | rfl
    · exact hz
    · show vlt v (0, 0) = false
      unfold vlt
      unfold okV at hv
      simp only [decide_eq_false_iff_not]
      omega
  · obtain ⟨ws, h1, h2⟩ := w.more q hq
    exact ⟨ws, List.mem_mergeSort.mpr h1, h2⟩
section
variable {pool : List Str} {o : Offer}
theorem wideR_same (h : okO o) (hp : ∀ q ∈ o.rows, ∀ w ∈ q.2, w ∈ pool) : WideR pool o o.rows := ⟨ver_nodup h, h.len.2, fun q hq => ⟨(h.row q hq).1, (h.row q hq).2, hp q hq⟩, fun q hq => ⟨q.2, hq, fun w hw => hw⟩⟩
theorem wideR_new (h : okO o) (hl : o.rows.length ≤ 5) (hp : ∀ q ∈ o.rows, ∀ w ∈ q.2, w ∈ pool) {v : Ver} {ws : List Str} (hv : okV v) (hw : okT ws) (hwp : ∀ w ∈ ws, w ∈ pool) (hn : v ∉ o.rows.map (·.1)) : WideR pool o (o.rows ++ [(v, ws)]) := by
  refine ⟨?_, by simp; omega, fun q hq => ?_, fun q hq => ⟨q.2, by simp [hq], fun w hw => hw⟩⟩
  · rw [List.map_append, List.nodup_append]
    refine ⟨ver_nodup h, by simp, fun a ha b hb e => ?_⟩
    simp only [List.map_cons, List.map_nil, List.mem_singleton] at hb
    rw [e, hb] at ha
    exact hn ha
  · rcases List.mem_append.mp hq with z | z
    · exact ⟨(h.row q z).1, (h.row q z).2, hp q z⟩
    · rw [List.mem_singleton.mp z]
      exact ⟨hv, hw, hwp⟩
theorem wideR_know (P : PoolOk pool) (h : okO o) (hp : ∀ q ∈ o.rows, ∀ w ∈ q.2, w ∈ pool) {u : Ver} {w : Str} (hw : w ∈ pool) : WideR pool o (o.rows.map fun q => if q.1 = u then (q.1, setW (featsOf o u ++ [w])) else q) := by
  have hk : (o.rows.map fun q => if q.1 = u then (q.1, setW (featsOf o u ++ [w])) else q).map (·.1) = o.rows.map (·.1) := by
    rw [List.map_map]
    apply List.map_congr_left
    intro q _
    show (if q.1 = u then (q.1, setW (featsOf o u ++ [w])) else q).1 = q.1
    split <;> rfl
  have hin : ∀ x ∈ setW (featsOf o u ++ [w]), x ∈ pool := fun x hx => by
    rw [mem_setW, List.mem_append, List.mem_singleton] at hx
    rcases hx with hx | rfl
    · rcases featsOf_mem (o := o) (v := u) with e | ⟨row, h1, _, e⟩
      · rw [e] at hx; cases hx
      · rw [e] at hx; exact hp row h1 x hx
    · exact hw
  have hok : okT (setW (featsOf o u ++ [w])) := ⟨fun x hx => P.word x (hin x hx), Nat.le_trans (nodup_len _ pool (setW_nodup _) hin) P.len, setW_rising _⟩
  refine ⟨by rw [hk]; exact ver_nodup h, by rw [List.length_map]; exact h.len.2, fun q hq => ?_, fun q hq => ?_⟩
  · obtain ⟨p, hp', rfl⟩ := List.mem_map.mp hq
    split
    · exact ⟨(h.row p hp').1, hok, hin⟩
    · exact ⟨(h.row p hp').1, (h.row p hp').2, hp p hp'⟩
  · by_cases e : q.1 = u
    · refine ⟨setW (featsOf o u ++ [w]), List.mem_map.mpr ⟨q, hq, by rw [if_pos e]⟩, fun x hx => ?_⟩
      rw [mem_setW, List.mem_append]
      refine .inl ?_
      have := (fa_iff (ver_nodup h)).mpr hq
      rw [← e, fa_feats this]
      exact hx
    · exact ⟨q.2, List.mem_map.mpr ⟨q, hq, by rw [if_neg e]⟩, fun x hx => hx⟩
end
section
variable {T : Str → Option Fn} {n : Nat} {ns : List Int} {pool : List Str} {o : Offer}
theorem at_any {α : Type} (f : α → PyData) {l : List α} {x : Int} (h0 : 0 ≤ x) (h1 : x < l.length) : ∃ a ∈ l, L2.atI (l.map f) x = some (f a) := by
  obtain ⟨m, rfl⟩ : ∃ m : Nat, x = m := ⟨x.toNat, by omega⟩
  have hlt : m < l.length := by omega
  exact ⟨l[m], List.getElem_mem hlt, L2.atI_nat (by rw [List.getElem?_map, List.getElem?_eq_getElem hlt]; rfl)⟩
theorem pick2 (a b : PyData) (c : Bool) : L2.atI [a, b] (if c then 1 else 0) = some (if c then b else a) := by cases c <;> rfl
abbrev Rw (ns : List Int) (pool : List Str) (o : Offer) (k : Int) (s5 s6 s7 s8 s9 : Sl) : Rho := [.v (eI ns), .v (.int 700), .v (eL pool), .v (eO o), .v (.int k), s5, s6, s7, s8, s9, .un]
def wLeast (o : Offer) (k : Int) : Ver := if decide (k = 2) then (0, 0) else o.least
def wMust (o : Offer) (k : Int) : List Str := if decide (k = 3) then o.must.tail else o.must
def wBar (o : Offer) (k : Int) : List Str := if decide (k = 4) then o.bar.tail else o.bar
theorem tail_eT (ws : List Str) : sliceD (eT ws) (some 1) none = some (eT ws.tail) := by
  unfold eT
  show some (PyData.tuple (cutD (ws.map .str) (some 1) none)) = _
  rw [cut_from PyData.str ws (t := 1) (by decide)]
  simp
/-- the end of _law_wider -/
theorem wider_fin {k : Int} {rows : RowsV} (hw : WideR pool o rows) (ho : okO o) {s9 : Sl} (p9 : plainSl s9 = true) : outOf none (exSs (Phi T n) (.cons (.set 6 (.op2 .idx (.lst (.cons (.op2 .idx (.pk 3) (.cst (.int 1))) (.cons (.tup (.cons (.cst (.int 0)) (.cons (.cst (.int 0)) .nil))) .nil))) (.op1 .int (.op2 .eq (.pk 4) (.cst (.int 2)))))) (.cons (.set 7 (.op2 .idx (.lst (.cons (.op2 .idx (.pk 3) (.cst (.int 2))) (.cons (.slc (.op2 .idx (.pk 3) (.cst (.int 2))) (.so (.cst (.int 1))) .no) .nil))) (.op1 .int (.op2 .eq (.pk 4) (.cst (.int 3)))))) (.cons (.set 8 (.op2 .idx (.lst (.cons (.op2 .idx (.pk 3) (.cst (.int 3))) (.cons (.slc (.op2 .idx (.pk 3) (.cst (.int 3))) (.so (.cst (.int 1))) .no) .nil))) (.op1 .int (.op2 .eq (.pk 4) (.cst (.int 4)))))) (.cons (.ret (.tup (.cons (.op1 .tuple l_law_wider_2) (.cons (.var 6) (.cons (.var 7) (.cons (.var 8) .nil)))))) .nil)))) (Rw ns pool o k (.m (dG (rG rows))) .un .un .un s9)) = .ret (eO ⟨rows.mergeSort leRow, wLeast o k, wMust o k, wBar o k⟩) .none := by
  have hl := hw.len
  have e6 : (if decide (k = 2) then PyData.tuple [.int 0, .int 0] else eV o.least) = eV (wLeast o k) := by unfold wLeast; split <;> rfl
  have e7 : (if decide (k = 3) then eT o.must.tail else eT o.must) = eT (wMust o k) := by unfold wMust; split <;> rfl
  have e8 : (if decide (k = 4) then eT o.bar.tail else eT o.bar) = eT (wBar o k) := by unfold wBar; split <;> rfl
  have elist : PyData.list ((rG rows).map fun r => eV r.1) = eVs (rows.map (·.1)) := by simp [rG, eVs, Function.comp_def]
  have hs := sorted_eVs (rows.map (·.1)) (by simp; omega)
  have lk : ∀ v ∈ (rows.map (·.1)).mergeSort leV, idxD (dG (rG rows)) (eV v) = some (eT (atV rows v)) := fun v hv => by
    obtain ⟨q, hq, rfl⟩ := List.mem_map.mp (List.mem_mergeSort.mp hv)
    rw [ix_dG, lkG_rows, (find_iff hw.nd (r := q)).mpr ⟨hq, rfl⟩, find_own hw.nd hq]
    rfl
  have l2 : ∀ s6 s7 s8, den (Phi T n) l_law_wider_2 (Rw ns pool o k (.m (dG (rG rows))) s6 s7 s8 s9) = .ok (.dat (.list ((rows.mergeSort leRow).map eRow))) (Rw ns pool o k (.m (dG (rG rows))) s6 s7 s8 s9) := fun s6 s7 s8 => by
    have := lcT1n (Φ := Phi T n) (elt := .tup (.cons (.var 9) (.cons (.op2 .idx (.pk 5) (.pk 9)) .nil))) (src := .of (.op1 .sorted (.op1 .list (.pk 5)))) (i := 9) (ρ := Rw ns pool o k (.m (dG (rG rows))) s6 s7 s8 s9) (enc := eV) (ys := (rows.map (·.1)).mergeSort leV) (e := fun v => eRow (v, atV rows v)) (by simp_arith [list_dG, elist, hs, walk_eVs]) (by simp_arith [p9]) (fun v hv => by simp_arith [lk v hv]; rfl)
    unfold l_law_wider_2
    rw [this, ← sorted_back hw.nd]
    simp [Function.comp_def]
  have ee : PyData.tuple [.tuple ((rows.mergeSort leRow).map eRow), eV (wLeast o k), eT (wMust o k), eT (wBar o k)] = eO ⟨rows.mergeSort leRow, wLeast o k, wMust o k, wBar o k⟩ := rfl
  refine stepK (ρ' := Rw ns pool o k (.m (dG (rG rows))) (.v (eV (wLeast o k))) .un .un s9) (by simp_arith [int_bool, pick2, e6]) ?_
  refine stepK (ρ' := Rw ns pool o k (.m (dG (rG rows))) (.v (eV (wLeast o k))) (.v (eT (wMust o k))) .un s9) (by simp_arith [int_bool, tail_eT, pick2, e7]) ?_
  refine stepK (ρ' := Rw ns pool o k (.m (dG (rG rows))) (.v (eV (wLeast o k))) (.v (eT (wMust o k))) (.v (eT (wBar o k))) s9) (by simp_arith [int_bool, tail_eT, pick2, e8]) ?_
  simp_arith [l2, ee]
theorem phi_wider (G : LibG T) (F : T "_law_wider" = some c_law_wider) (P : PoolOk pool) (ho : okO o) (hl : o.rows.length ≤ 5) (hp : ∀ q ∈ o.rows, ∀ w ∈ q.2, w ∈ pool) : ∃ W, Wide pool o W ∧ Phi T (n + 4) "_law_wider" [.d (eI ns), .d (.int 700), .d (eL pool), .d (eO o)] = .ret (eO W) .none := by
  have q0 := phi_mixed (n := n + 1) G (ns := ns) (k := 700) (many := 5) (by decide) (by decide)
  have b0 := mixed_lt (ns := ns) (k := 700) (many := 5) (by decide)
  generalize mixed ns 700 5 = k at q0 b0
  have fin : ∀ rows, WideR pool o rows → Wide pool o ⟨rows.mergeSort leRow, wLeast o k, wMust o k, wBar o k⟩ := fun rows hw => wide_of ho hw (by unfold wLeast; split <;> simp) (by unfold wMust; split <;> simp) (by unfold wBar; split <;> simp)
  have same := wideR_same ho hp
  have l1 : den (Phi T (n + 3)) l_law_wider_1 (Rw ns pool o k .un .un .un .un .un) = .ok (.dat (.list (o.rows.map eRow))) (Rw ns pool o k .un .un .un .un .un) := lcT1n (enc := eRow) (ys := o.rows) (e := eRow) (by simp_arith []) rfl (fun q _ => by simp_arith [])
  have dl : dctD (.list (o.rows.map eRow)) = some (dG (rG o.rows)) := dct_listR (ver_nodup ho)
  have rgl : (rG o.rows).length = o.rows.length := by simp [rG]
  have a1 : addD (.int 700) (.int 1) = some (.int (700 + 1)) := rfl
  have a2 : addD (.int 700) (.int 2) = some (.int (700 + 2)) := rfl
  have a3 : addD (.int 700) (.int 3) = some (.int (700 + 3)) := rfl
  by_cases hk0 : k = 0
  · -- a version more
    subst hk0
    have m1 := phi_mixed (n := n + 1) G (ns := ns) (k := 700 + 1) (many := 3) (by decide) (by decide)
    have m2 := phi_mixed (n := n + 1) G (ns := ns) (k := 700 + 2) (many := 4) (by decide) (by decide)
    have b1 := mixed_lt (ns := ns) (k := 700 + 1) (many := 3) (by decide)
    have b2 := mixed_lt (ns := ns) (k := 700 + 2) (many := 4) (by decide)
    have ms := phi_some (n := n) G (ns := ns) (at_ := 700 + 3) (part := 5) (pool := pool) (by decide)
    have hsub := someOf_sub ns (700 + 3) pool 5
    generalize mixed ns (700 + 1) 3 = x1 at m1 b1
    generalize mixed ns (700 + 2) 4 = x2 at m2 b2
    generalize someOf ns (700 + 3) pool 5 = ws at ms hsub
    have okw := sub_okT P hsub
    have okv : okV (1 + x1, x2) := ⟨by show 0 ≤ 1 + x1; omega, by show 1 + x1 ≤ 99; omega, by show 0 ≤ x2; omega, by show x2 ≤ 99; omega⟩
    have ev : PyData.tuple [.int (1 + x1), .int x2] = eV (1 + x1, x2) := rfl
    generalize ((1 + x1, x2) : Ver) = v at okv ev
    have hmu : ∀ s9, mutD (Rw ns pool o 0 (.m (dG (rG o.rows))) .un .un .un s9) 5 = true := fun _ => rfl
    by_cases hin : v ∈ o.rows.map (·.1)
    · refine ⟨_, fin _ same, ?_⟩
      rw [Phi_succ F, run1 [.v (eI ns), .v (.int 700), .v (eL pool), .v (eO o), .un, .un, .un, .un, .un, .un, .un] rfl rfl]
      have hd : dsdD (eV v) (eT ws) (dG (rG o.rows)) = some (dG (rG o.rows)) := dsd_there (by rw [rG_keys]; exact hin) (by rw [rgl]; omega)
      have hc : chg (Rw ns pool o 0 (.m (dG (rG o.rows))) .un .un .un (.v (eV v))) 5 (dsdD (eV v) (eT ws)) = some (Rw ns pool o 0 (.m (dG (rG o.rows))) .un .un .un (.v (eV v))) := by
        simp only [chg, List.getElem?_cons_zero, List.getElem?_cons_succ, hd, Option.map_some, List.set_cons_succ, List.set_cons_zero]
      unfold c_law_wider
      dsimp only
      refine stepK (ρ' := Rw ns pool o 0 .un .un .un .un .un) (by simp_arith [callK_3 q0]) ?_
      refine stepK (ρ' := Rw ns pool o 0 (.m (dG (rG o.rows))) .un .un .un .un) (by simp_arith [x_dset, l1, Option.bind_some, dl]) ?_
      refine stepK (ρ' := Rw ns pool o 0 (.m (dG (rG o.rows))) .un .un .un (.v (eV v))) (by simp_arith [decide_true, a1, a2, a3, callK_3 m1, callK_3 m2, add_int, ev, x_dsd, hmu, callK_4 ms, hc]) ?_
      refine stepK (ρ' := Rw ns pool o 0 (.m (dG (rG o.rows))) .un .un .un (.v (eV v))) (by simp_arith [show decide ((0 : Int) = 1) = false from rfl]) ?_
      exact wider_fin same ho rfl
    · have hw := wideR_new ho hl hp okv okw (fun x hx => hsub.subset hx) hin
      refine ⟨_, fin _ hw, ?_⟩
      rw [Phi_succ F, run1 [.v (eI ns), .v (.int 700), .v (eL pool), .v (eO o), .un, .un, .un, .un, .un, .un, .un] rfl rfl]
      have hd : dsdD (eV v) (eT ws) (dG (rG o.rows)) = some (dG (rG (o.rows ++ [(v, ws)]))) := by
        rw [dsd_new (by rw [rG_keys]; exact hin) (by rw [rgl]; omega)]
        simp [rG]
      have hc : chg (Rw ns pool o 0 (.m (dG (rG o.rows))) .un .un .un (.v (eV v))) 5 (dsdD (eV v) (eT ws)) = some (Rw ns pool o 0 (.m (dG (rG (o.rows ++ [(v, ws)])))) .un .un .un (.v (eV v))) := by
        simp only [chg, List.getElem?_cons_zero, List.getElem?_cons_succ, hd, Option.map_some, List.set_cons_succ, List.set_cons_zero]
      unfold c_law_wider
      dsimp only
      refine stepK (ρ' := Rw ns pool o 0 .un .un .un .un .un) (by simp_arith [callK_3 q0]) ?_
      refine stepK (ρ' := Rw ns pool o 0 (.m (dG (rG o.rows))) .un .un .un .un) (by simp_arith [x_dset, l1, Option.bind_some, dl]) ?_
      refine stepK (ρ' := Rw ns pool o 0 (.m (dG (rG (o.rows ++ [(v, ws)])))) .un .un .un (.v (eV v))) (by simp_arith [decide_true, a1, a2, a3, callK_3 m1, callK_3 m2, add_int, ev, x_dsd, hmu, callK_4 ms, hc]) ?_
      refine stepK (ρ' := Rw ns pool o 0 (.m (dG (rG (o.rows ++ [(v, ws)])))) .un .un .un (.v (eV v))) (by simp_arith [show decide ((0 : Int) = 1) = false from rfl]) ?_
      exact wider_fin hw ho rfl
  · have d0 : decide (k = 0) = false := decide_eq_false hk0
    by_cases hk1 : k = 1
    · -- a feature more
      subst hk1
      have hpos := ho.len.1
      have m1 := phi_mixed (n := n + 1) G (ns := ns) (k := 700 + 1) (many := (o.rows.length : Int)) (by decide) (by omega)
      have b1 := mixed_lt (ns := ns) (k := 700 + 1) (many := (o.rows.length : Int)) (by omega)
      have hpp := P.pos
      have m2 := phi_mixed (n := n + 1) G (ns := ns) (k := 700 + 2) (many := (pool.length : Int)) (by decide) (by omega)
      have b2 := mixed_lt (ns := ns) (k := 700 + 2) (many := (pool.length : Int)) (by omega)
      generalize mixed ns (700 + 1) (o.rows.length : Int) = x1 at m1 b1
      generalize mixed ns (700 + 2) (pool.length : Int) = x2 at m2 b2
      obtain ⟨u, hu, hiu⟩ : ∃ u ∈ o.rows.map (·.1), idxD (eVs (o.rows.map (·.1))) (.int x1) = some (eV u) := at_any eV b1.1 (by rw [List.length_map]; exact b1.2)
      obtain ⟨w, hw, hiw⟩ : ∃ w ∈ pool, idxD (eL pool) (.int x2) = some (.str w) := at_any PyData.str b2.1 b2.2
      have elist : PyData.list ((rG o.rows).map fun r => eV r.1) = eVs (o.rows.map (·.1)) := by simp [rG, eVs, Function.comp_def]
      have hs := sorted_eVs (o.rows.map (·.1)) (by simp; omega)
      rw [sortV_self (by rw [List.pairwise_map]; exact ho.ris)] at hs
      have fu : (featuresAt o u).isSome = true := by
        obtain ⟨q, hq, rfl⟩ := List.mem_map.mp hu
        exact at_own hq
      have hix := ix_off (feats_some fu)
      have fl := feats_len ho u
      have har := add_row (s := featsOf o u) w (by omega)
      have hss := ssort_eT (featsOf o u ++ [w]) (by simp; omega)
      have hwd := wideR_know P ho hp (u := u) hw
      have hlen : lenD (dG (rG o.rows)) = some (.int (o.rows.length : Int)) := by rw [len_dG, rgl]
      have hd : dputD (eV u) (eT (setW (featsOf o u ++ [w]))) (dG (rG o.rows)) = some (dG (rG (o.rows.map fun q => if q.1 = u then (q.1, setW (featsOf o u ++ [w])) else q))) := by
        rw [dput_there (by rw [rG_keys]; exact hu) (by rw [rgl]; omega)]
        congr 2
        unfold rG
        rw [List.map_map, List.map_map]
        apply List.map_congr_left
        intro q _
        show (if q.1 = u then (q.1, eT (setW (featsOf o u ++ [w]))) else (q.1, eT q.2)) = ((if q.1 = u then (q.1, setW (featsOf o u ++ [w])) else q).1, eT (if q.1 = u then (q.1, setW (featsOf o u ++ [w])) else q).2)
        split <;> rfl
      refine ⟨_, fin _ hwd, ?_⟩
      rw [Phi_succ F, run1 [.v (eI ns), .v (.int 700), .v (eL pool), .v (eO o), .un, .un, .un, .un, .un, .un, .un] rfl rfl]
      have hmu : mutD (Rw ns pool o 1 (.m (dG (rG o.rows))) .un .un .un (.v (eV u))) 5 = true := rfl
      have hc : chg (Rw ns pool o 1 (.m (dG (rG o.rows))) .un .un .un (.v (eV u))) 5 (dputD (eV u) (eT (setW (featsOf o u ++ [w])))) = some (Rw ns pool o 1 (.m (dG (rG (o.rows.map fun q => if q.1 = u then (q.1, setW (featsOf o u ++ [w])) else q)))) .un .un .un (.v (eV u))) := by
        simp only [chg, List.getElem?_cons_zero, List.getElem?_cons_succ, hd, Option.map_some, List.set_cons_succ, List.set_cons_zero]
      unfold c_law_wider
      dsimp only
      refine stepK (ρ' := Rw ns pool o 1 .un .un .un .un .un) (by simp_arith [callK_3 q0]) ?_
      refine stepK (ρ' := Rw ns pool o 1 (.m (dG (rG o.rows))) .un .un .un .un) (by simp_arith [x_dset, l1, Option.bind_some, dl]) ?_
      refine stepK (ρ' := Rw ns pool o 1 (.m (dG (rG o.rows))) .un .un .un .un) (by simp_arith [d0]) ?_
      refine stepK (ρ' := Rw ns pool o 1 (.m (dG (rG (o.rows.map fun q => if q.1 = u then (q.1, setW (featsOf o u ++ [w])) else q)))) .un .un .un (.v (eV u))) (by simp_arith [decide_true, list_dG, elist, hs, a1, a2, hlen, callK_3 m1, hiu, hix, len_eL, callK_3 m2, hiw, har, hss, hmu, hc]) ?_
      exact wider_fin hwd ho rfl
    · have d1 : decide (k = 1) = false := decide_eq_false hk1
      refine ⟨_, fin _ same, ?_⟩
      rw [Phi_succ F, run1 [.v (eI ns), .v (.int 700), .v (eL pool), .v (eO o), .un, .un, .un, .un, .un, .un, .un] rfl rfl]
      unfold c_law_wider
      dsimp only
      refine stepK (ρ' := Rw ns pool o k .un .un .un .un .un) (by simp_arith [callK_3 q0]) ?_
      refine stepK (ρ' := Rw ns pool o k (.m (dG (rG o.rows))) .un .un .un .un) (by simp_arith [x_dset, l1, Option.bind_some, dl]) ?_
      refine stepK (ρ' := Rw ns pool o k (.m (dG (rG o.rows))) .un .un .un .un) (by simp_arith [d0]) ?_
      refine stepK (ρ' := Rw ns pool o k (.m (dG (rG o.rows))) .un .un .un .un) (by simp_arith [d1]) ?_
      exact wider_fin same ho rfl
end
end G6
-- ## Sound2
/-! # Sound2: two operands, methods, calls -/
namespace G6
open PySem PySem.Spec PyProof.Rows L2
section
variable {T : Tab} {Φ : Fenv} {n : Nat} {X : Cx} {W : WX} {B : ASet} {pos : Pos}
theorem bin_rule {o : Op2} {op : Operator} (h : bin2 o = some op) : OpR X (binaryOp op) (rD2 X.K (sem2 o)) := by
  cases o <;> cases h
  · exact d_add
  · exact d_sub
  · exact d_mul
  · exact d_mod
  · exact d_pow
theorem cmp_rule (hu : X.A.units + 200 < cLine) {o : Op2} {op : CmpOp} (h : cmp2 o = some op) : OpR X (compareOp op) (rD2 X.K (sem2 o)) ∧ boolOp o = true := by
  cases o <;> cases h
  · exact ⟨d_eq hu, rfl⟩
  · exact ⟨d_ne hu, rfl⟩
  · exact ⟨d_lt hu, rfl⟩
  · exact ⟨d_le hu, rfl⟩
  · exact ⟨d_gt hu, rfl⟩
  · exact ⟨d_ge hu, rfl⟩
  · exact ⟨d_in hu, rfl⟩
  · exact ⟨d_notin hu, rfl⟩
theorem op2_rule (c : CxOk T Φ n X W) {o : Op2} {e x y : Expr} (h : mt2 o e = some (x, y)) :
    (∀ ta tb, PE X x ta → PE X y tb → PE X e (tOp (rD2 X.K (sem2 o)) ta tb)) ∧ (plainTest e = true ∨ (boolOp o = true ∧ ∀ ta tb, PE X x ta → PE X y tb → PT X e (tTest (tOp (rD2 X.K (sem2 o)) ta tb)))) := by
  unfold mt2 at h
  split at h
  · split at h
    · rename_i hb
      cases h
      exact ⟨fun ta tb ha hb' => pe_op (bin_rule hb) ha hb', .inl rfl⟩
    · cases h
  · split at h
    · rename_i hb
      cases h
      simp only [Bool.and_eq_true, decide_eq_true_eq] at hb
      obtain ⟨h1, h2⟩ := cmp_rule (X := X) c.units hb.1
      exact ⟨fun ta tb ha hb' => pe_cmpR h1 ha hb' (marks_no hb.2), .inr ⟨h2, fun ta tb ha hb' => pt_cmpR h1 ha hb' (marks_no hb.2)⟩⟩
    · cases h
  · split at h
    · rename_i hb
      cases h
      simp only [Bool.and_eq_true, decide_eq_true_eq] at hb
      obtain ⟨rfl, hb⟩ := hb
      exact ⟨fun ta tb ha hb' => pe_ix (d_idx c.units) ha hb' (slice_no hb), .inl rfl⟩
    · cases h
  · cases h
/-! ### text methods of one argument -/
def rMet (K : PySem.W.Frag) (m : M1) : V → V → Hp → VK → Prop := fun x y H Q => ∃ (S : ASet) (z : Str) (d r : PyData), DomS S H ∧ x = .str z ∧ ARep K S H y d ∧ semM m z d = some r ∧ ∀ w H', Sub H H' → Dp K (Hid H' S) w r → Q w H'
def rMet1 (K : PySem.W.Frag) (m : M1) : V → List V → Hp → VK → Prop := fun x xs H Q => ∃ y, xs = [y] ∧ rMet K m x y H Q
theorem rMet1_one {m : M1} {x y : V} {H : Hp} {Q : VK} : rMet1 X.K m x [y] H Q = rMet X.K m x y H Q := by
  apply propext
  constructor
  · rintro ⟨y', e, h⟩
    cases e
    exact h
  · intro h
    exact ⟨y, rfl, h⟩
theorem strs_back {K : PySem.W.Frag} {H : Hp} {ds : List PyData} {ys : List Str} {vs : List V} (h : DpAll K H vs ds) (e : strsOf ds = some ys) : vs = ys.map V.str := by
  rw [strsOf_eq e] at h
  exact DpAll_strs h
theorem mm_join : MtR X "str.join" (rMet1 X.K .join) := by
  intro pins s σ H x xs v us Q I rx rs h
  obtain ⟨y, rfl, S, z, d, r, hd, rfl, ha, hz, q⟩ := h
  replace hz : joinD z d = some r := hz
  unfold joinD itemsOf at hz
  split at hz
  · rename_i ds hds
    split at hz
    · rename_i ys hys
      split at hz
      · rename_i hl
        cases hz
        split at hds
        · cases hds
          obtain ⟨a, vs, rfl, h1, h2⟩ := ha.lst
          rw [strs_back h2 hys] at h1
          exact mt_join pins s σ H _ _ v us Q I rx rs ⟨z, a, ys, rfl, rfl, .inl h1, by omega, q _ _ (Sub.refl _) (.str _)⟩
        · cases hds
          obtain ⟨a, vs, rfl, h1, h2⟩ := ha.tup
          rw [strs_back h2 hys] at h1
          exact mt_join pins s σ H _ _ v us Q I rx rs ⟨z, a, ys, rfl, rfl, .inr (h1.sqT), by omega, q _ _ (Sub.refl _) (.str _)⟩
        · cases hds
      · cases hz
    · cases hz
  · cases hz
theorem mm_split : MtR X "str.split" (rMet1 X.K .split) := by
  intro pins s σ H x xs v us Q I rx rs h
  obtain ⟨y, rfl, S, z, d, r, hd, rfl, ha, hz, q⟩ := h
  replace hz : splitD z d = some r := hz
  unfold splitD at hz
  split at hz
  · rename_i sep
    obtain rfl := ha.str
    split at hz
    · rename_i hl
      cases hz
      refine mt_split pins s σ H _ _ v us Q I rx rs ⟨z, sep, rfl, rfl, hl.1, hl.2, fun p hp => q _ _ (Sub.new hp) (new_lst hd hp (DpAll_map (fun x => .str x) _))⟩
    · cases hz
  · cases hz
theorem mm_part : MtR X "str.partition" (rMet1 X.K .part) := by
  intro pins s σ H x xs v us Q I rx rs h
  obtain ⟨y, rfl, S, z, d, r, hd, rfl, ha, hz, q⟩ := h
  replace hz : partD z d = some r := hz
  unfold partD at hz
  split at hz
  · rename_i sep
    obtain rfl := ha.str
    split at hz
    · rename_i hl
      cases hz
      refine mt_partition pins s σ H _ _ v us Q I rx rs ⟨z, sep, rfl, rfl, hl.1, hl.2, fun p hp => q _ _ (Sub.new hp) (new_tup hd hp (.cons (.str _) (.cons (.str _) (.cons (.str _) .nil))) rfl)⟩
    · cases hz
  · cases hz
theorem met_rule {m : M1} {e x y : Expr} {ta tb : TE} (h : mtMeth (mName m) e = some (x, y)) (ha : PE X x ta) (hb : PE X y tb) :
    PE X e (fun σ H Q => ta σ H fun v H1 => (∃ a, v = .str a) ∧ tb σ H1 fun w H2 => rMet X.K m v w H2 Q) ∧ plainTest e = true := by
  unfold mtMeth at h
  split at h
  · split at h
    · rename_i o m' apos x' cpos hc
      cases h
      simp only [Bool.and_eq_true, decide_eq_true_eq] at hc
      obtain ⟨⟨⟨rfl, h2⟩, h3⟩, h4⟩ := hc
      refine ⟨?_, rfl⟩
      have key : ∀ {t : TE}, t = tM1 (rMet1 X.K m) ta tb → PE X (.Call (.Attribute x (mName m) apos) [y] [] cpos) t → PE X (.Call (.Attribute x (mName m) apos) [y] [] cpos) (fun σ H Q => ta σ H fun v H1 => (∃ a, v = .str a) ∧ tb σ H1 fun w H2 => rMet X.K m v w H2 Q) := fun e p => by
        subst e
        refine PE.weak p fun σ H Q q => ?_
        show ta σ H fun x H1 => (∃ a, x = .str a) ∧ tb σ H1 fun y H2 => rMet1 X.K m x [y] H2 Q
        simp only [rMet1_one]
        exact q
      cases m with
      | join => exact key rfl (pe_m1 F.slot_str_join F.type_str_join mm_join ha hb (star_cons h3) (base_no h2) h4)
      | split => exact key rfl (pe_m1 F.slot_str_split F.type_str_split mm_split ha hb (star_cons h3) (base_no h2) h4)
      | part => exact key rfl (pe_m1 F.slot_str_partition F.type_str_partition mm_part ha hb (star_cons h3) (base_no h2) h4)
    · cases h
  · cases h
theorem s_met {m : M1} {e x y : Expr} {c1 c2 : E} (h : mtMeth (mName m) e = some (x, y)) (hx : PE X x (tEX X B W (den Φ c1))) (hy : PE X y (tEX X B W (den Φ c2))) : PE X e (tEX X B W (den Φ (.met m c1 c2))) := by
  refine PE.weak (met_rule h hx hy).1 fun σ H Q ⟨ρ, r, q⟩ => ?_
  simp only [den] at q
  refine ⟨ρ, r, (post_dat q).mono fun v H1 ⟨d, ρ1, st1, dp, q1⟩ => ?_⟩
  cases d with
  | str z =>
    cases dp
    refine ⟨⟨z, rfl⟩, ρ1, st1.rep, (Post.bind q1).mono fun w H2 ⟨p, ρ2, _, st2, rp2, q2⟩ => ?_⟩
    cases e1 : res ρ2 p with
    | none => rw [e1] at q2; exact q2.elim
    | some y' =>
      rw [e1] at q2
      obtain ⟨r', h1, h2⟩ := post_lift q2 st2.rep
      exact ⟨Hs B σ ρ2, z, y', r', st2.rep.domS, rfl, st2.rep.res rp2 e1, h1, h2⟩
  | _ => exact q1.elim
/-! ### calls -/
theorem run_fnW {pins : List (Addr × Obj)} {σ : St} {H : Hp} {s : Shared} {Q : VK} {us : List Value} {vs : List V} {a : Addr} {fd : FuncData} {ps : List Str} {sp : Sp} (FO : FnOk X.prog X.w X.K X.mg X.base (L2.CX X.prog X.w) n a fd ps sp) (hr : Room n X.A) (hb : Binds X.K fd ps []) (tk : Takes X W)
    (I : L2.Inv X pins σ H s) (r : Vals vs us) (h : sp vs H Q fun cls d H' => W cls d σ H') : wpAny (model X.prog X.w) X.A (call (.ref a) us) (EP X pins σ Q) X.xe s := by
  have hl : us.length = ps.length := by rw [← r.length]; exact FO.len _ _ _ _ h
  have hb' := hb s us I.kIn (by rw [List.append_nil]; exact hl)
  rw [List.append_nil] at hb'
  refine wpAny_call (codeAny_mono (FO.run X.A X.stack s H ⟨us, []⟩ us vs Q _ hr I.env0 hb' r h) fun r s' hq => ?_)
  cases r with
  | error e => exact tk e s' (XE.of_call I (fun cls d H' h => h) hq)
  | ok fl =>
    cases fl with
    | ret u => exact I.after hq
    | next => exact False.elim hq
    | brk => exact False.elim hq
    | cont => exact False.elim hq
theorem star_any {T : Tab} {N : List Str} {sc : Scope} : ∀ {cs : Es} {es : List Expr}, mtEs T N cs sc es = true → (backTo pos (starEach es X.env)).any (·.1) = false
  | .nil, [], _ => rfl
  | .nil, _ :: _, h => by simp [mtEs] at h
  | .cons c cs, [], h => by simp [mtEs] at h
  | .cons c cs, e :: r, h => by
    simp only [mtEs, Bool.and_eq_true] at h
    rw [star_cons h.1.1]
    have ih := star_any (cs := cs) (es := r) h.2
    simp only [backTo, List.map_cons, List.any_cons, Bool.false_or] at ih ⊢
    exact ih
theorem pe_callW {x : Str} {p : Pos} {e : Expr} {es : List Expr} {t : TA} {a : Addr} {fd : FuncData} {ps : List Str} {sp : Sp} (FO : FnOk X.prog X.w X.K X.mg X.base (L2.CX X.prog X.w) n a fd ps sp) (hr : Room n X.A) (hg : Gl X x) (hm : X.mg x = some (.ref a)) (hk : PySem.W.keepIn X.K (.ref a) = true) (hb : Binds X.K fd ps []) (tk : Takes X W)
    (ha : PA X (e :: es) t) (hdb : (x == ("__debug__" : Str)) = false) (he : starEach (e :: es) X.env = (false, eval e X.env) :: starEach es X.env) (hpl : (backTo pos (starEach es X.env)).any (·.1) = false) :
    PE X (.Call (.Name x p) (e :: es) [] pos) fun σ H Q => t σ H fun vs H1 => sp vs H1 Q fun cls d H' => W cls d σ H' := by
  refine ⟨fun pins s σ H Q I h => ?_⟩
  refine wpAny_Call_Name_kw (ld_glob I hg hm ?_ hdb)
  refine PySem.W.callWith_K (h₀ := X.base) I.ok.mod.kin hk (thn (ha.run pos pins s σ H _ I h) fun us s1 ⟨vs, H1, I1, r, q⟩ => ⟨I1.kIn, ?_⟩) he hpl
  exact run_fnW FO hr hb tk I1 r q
/-- f(e, ..), f a local name that holds a def -/
theorem pe_callvW {i : Nat} {x : Str} {p : Pos} {e : Expr} {es : List Expr} {t : TA} (hl : isLoc X.env.scope X.N i x = true) (hr : Room n X.A) (tk : Takes X W)
    (ha : PA X (e :: es) t) (he : starEach (e :: es) X.env = (false, eval e X.env) :: starEach es X.env) (hpl : (backTo pos (starEach es X.env)).any (·.1) = false) :
    PE X (.Call (.Name x p) (e :: es) [] pos) fun σ H Q => ∃ a fd ps sp, FnOk X.prog X.w X.K X.mg X.base (L2.CX X.prog X.w) n a fd ps sp ∧ PySem.W.keepIn X.K (.ref a) = true ∧ Binds X.K fd ps [] ∧ σ[i]? = some (some (.ref a)) ∧ t σ H fun vs H1 => sp vs H1 Q fun cls d H' => W cls d σ H' := by
  refine ⟨fun pins s σ H Q I h => ?_⟩
  obtain ⟨a, fd, ps, sp, FO, hk, hb, hs, h⟩ := h
  refine wpAny_Call_Name_kw (thn ((pe_loc (pos := p) hl).run pins s σ H (fun v H1 => v = .ref a ∧ H1 = H) I ⟨.ref a, hs, rfl, rfl⟩) fun u s1 ⟨v, H1, I1, r1, ev, eH⟩ => ?_)
  subst ev
  rw [eH] at I1
  cases r1
  refine PySem.W.callWith_K (h₀ := X.base) I.ok.mod.kin hk (thn (ha.run pos pins s1 σ H _ I1 h) fun us s2 ⟨vs, H2, I2, r, q⟩ => ⟨I2.kIn, ?_⟩) he hpl
  exact run_fnW FO hr hb tk I2 r q
theorem dens_len : ∀ {cs : Es} {ρ ρ1 : Rho} {ps : List Pv}, dens Φ cs ρ = .ok ps ρ1 → ps.length = cs.len
  | .nil, ρ, ρ1, ps, h => by
    simp only [dens] at h
    cases h
    rfl
  | .cons c cs, ρ, ρ1, ps, h => by
    simp only [dens] at h
    obtain ⟨p, ρ2, _, h⟩ := R.bind_ok h
    obtain ⟨qs, ρ3, h1, h⟩ := R.bind_ok h
    cases h
    simp only [List.length_cons, Es.len, dens_len h1]
theorem mtEs_len {T : Tab} {N : List Str} {sc : Scope} : ∀ {cs : Es} {es : List Expr}, mtEs T N cs sc es = true → es.length = cs.len
  | .nil, [], _ => rfl
  | .nil, _ :: _, h => by simp [mtEs] at h
  | .cons c cs, [], h => by simp [mtEs] at h
  | .cons c cs, e :: r, h => by
    simp only [mtEs, Bool.and_eq_true] at h
    simp only [List.length_cons, Es.len, mtEs_len h.2]
theorem fnFits_ok {f : Str} {io : Option Nat} {k : Nat} (h : fnFits T f io k = true) : ∃ fn, T.fn f = some fn ∧ fn.io = io ∧ fn.np = k ∧ ∀ j, io = some j → j < k := by
  unfold fnFits at h
  split at h
  · rename_i fn e
    simp only [Bool.and_eq_true, decide_eq_true_eq] at h
    refine ⟨fn, e, h.1.1, h.1.2, fun j ej => ?_⟩
    subst ej
    exact of_decide_eq_true h.2
  · cases h
end
end G6
-- ## Sound3
/-! # Sound3: what matches is meant so: expressions -/
namespace G6
open PySem PySem.Spec PyProof.Rows L2
section
variable {T : Tab} {Φ : Fenv} {n : Nat} {X : Cx} {W : WX} {B : ASet} {pos : Pos}
/-- an if-expression as a test -/
theorem t_ite {c x y : Expr} {cc a b : E} (hc : PT X c (tBX X B W fun ρ => tst (den Φ cc ρ))) (hx : PT X x (tBX X B W fun ρ => tst (den Φ a ρ))) (hy : PT X y (tBX X B W fun ρ => tst (den Φ b ρ))) : PT X (.IfExp c x y pos) (tBX X B W fun ρ => tst (den Φ (.ite cc a b) ρ)) := by
  refine ⟨fun pins s σ H Q I h => ?_⟩
  obtain ⟨ρ, r, q⟩ := h
  have q' : Post X.K X.mg B W (fun _ _ b a => b = a) σ H ρ ((tst (den Φ cc ρ)).bind fun k ρ1 => if k = true then tst (den Φ a ρ1) else tst (den Φ b ρ1)) Q := by
    dsimp only at q
    unfold tst at q ⊢
    simp only [den] at q
    cases e0 : resOf (den Φ cc ρ) with
    | bad => rw [e0] at q; exact q
    | ex x ρ' => rw [e0] at q; exact q
    | ok d ρ1 =>
      rw [e0] at q
      simp only [R.bind] at q ⊢
      cases e1 : truth d with
      | none => rw [e1] at q; exact q
      | some k =>
        rw [e1] at q
        cases k with
        | true => exact q
        | false => exact q
  refine isTrue_IfExp (thn (hc.run pins s σ H _ I ⟨ρ, r, Post.bind q'⟩) fun k s1 ⟨H1, I1, k', ρ1, _, st, e, q1⟩ => ?_)
  subst e
  cases k with
  | true => exact ite_tt (hx.run pins s1 σ H1 Q I1 ⟨ρ1, st.rep, q1⟩)
  | false => exact ite_ff (hy.run pins s1 σ H1 Q I1 ⟨ρ1, st.rep, q1⟩)
/-! ### what is to be shown -/
def GE (T : Tab) (Φ : Fenv) (n : Nat) (c : E) : Prop := ∀ (X : Cx) (W : WX) (B : ASet) (e : Expr), CxOk T Φ n X W → mtE T X.N c X.env.scope e = true → PE X e (tEX X B W (den Φ c))
def GT (T : Tab) (Φ : Fenv) (n : Nat) (c : E) : Prop := ∀ (X : Cx) (W : WX) (B : ASet) (e : Expr), CxOk T Φ n X W → mtE T X.N c X.env.scope e = true → PT X e (tBX X B W fun ρ => tst (den Φ c ρ)) ∧ ((∃ op es pos, e = .BoolOp op es pos) → PW X e (tBX X B W fun ρ => tst (den Φ c ρ)))
def GEs (T : Tab) (Φ : Fenv) (n : Nat) (cs : Es) : Prop := ∀ (X : Cx) (W : WX) (B : ASet) (es : List Expr), CxOk T Φ n X W → mtEs T X.N cs X.env.scope es = true → PA X es (tEsX X B W (dens Φ cs))
def GO (T : Tab) (Φ : Fenv) (n : Nat) : Eo → Prop
  | .no => True
  | .so c => GE T Φ n c ∧ GT T Φ n c
def GS (T : Tab) (Φ : Fenv) (n : Nat) (src : Src) : Prop := ∀ (X : Cx) (W : WX) (B : ASet) (tg e : Expr), CxOk T Φ n X W → mtSrc T X.N src X.env.scope tg e = true → PI X tg e (tIX X B W (dsrc Φ src))
theorem bare_test {c : E} {e : Expr} (h : PE X e (tEX X B W (den Φ c))) (hp : plainTest e = true) : PT X e (tBX X B W fun ρ => tst (den Φ c ρ)) ∧ ((∃ op es pos, e = .BoolOp op es pos) → PW X e (tBX X B W fun ρ => tst (den Φ c ρ))) :=
  ⟨s_tst h fun wh => test_no hp wh, fun ⟨_, _, _, e1⟩ => by subst e1; cases hp⟩
theorem pt_no {e : Expr} {t : TT} (h : PT X e t) (hn : ∀ op es pos, e ≠ .BoolOp op es pos) : PT X e t ∧ ((∃ op es pos, e = .BoolOp op es pos) → PW X e t) := ⟨h, fun ⟨_, _, _, e1⟩ => absurd e1 (hn _ _ _)⟩
theorem GO.slice {c : Eo} (h : GO T Φ n c) (cx : CxOk T Φ n X W) {o : Option Expr} (m : mtO T X.N c X.env.scope o = true) : PO X o (tO X.K X.mg B W (deno Φ c)) := by
  cases c with
  | no =>
    cases o with
    | none => exact o_no
    | some e => simp [mtO] at m
  | so k =>
    cases o with
    | none => simp [mtO] at m
    | some e => exact o_so (h.1 X W B e cx (by simpa [mtO] using m))
/-! ### targets -/
theorem mtTg_ok {N : List Str} {tg : List Nat} {tgt : Expr} {own : List (Str × Nat)} (h : mtTg N tg tgt = some own) (K : PySem.W.Frag) : own.map (·.2) = tg ∧ ∃ g : TG, (∀ X : Cx, X.K = K → ∀ B, TgOk X B tg g) ∧
    ∀ X : Cx, X.K = K → X.N = N → X.calm = true → X.N.Nodup → (∀ p ∈ own, X.env.scope.names.lookup p.1 = some .local ∨ (X.env.scope.names.lookup p.1 = some .cell ∧ X.fn p.1 = true)) → PG X tgt g := by
  have pn : ∀ (X : Cx) (i : Nat) (x : Str) (p : Pos), X.N.Nodup → X.N[i]? = some x → (X.env.scope.names.lookup x = some .local ∨ (X.env.scope.names.lookup x = some .cell ∧ X.fn x = true)) → PG X (.Name x p) (gName i) := fun X i x p hN hi hx => by
    rcases hx with hx | ⟨hx, hf⟩
    · exact pg_name hN hi (.inl hx) (.inr hx)
    · exact pg_name hN hi (.inr hx) (.inl hf)
  unfold mtTg at h
  split at h
  · split at h
    · rename_i hi
      cases h
      refine ⟨rfl, gName _, fun X _ B => tg_one, fun X _ eN hc hN hx => ?_⟩
      subst eN
      exact pn X _ _ _ hN hi (hx _ (List.Mem.head _))
    · cases h
  · split at h
    · rename_i hi
      cases h
      refine ⟨rfl, gTup K 2 (gCons (gName _) (gCons (gName _) gNil)), fun X eK B => by subst eK; exact tg_two hi.2.2, fun X eK eN hc hN hx => ?_⟩
      subst eN eK
      exact pg_tup hc (pgs_cons (pn X _ _ _ hN hi.1 (hx _ (List.Mem.head _))) (pgs_cons (pn X _ _ _ hN hi.2.1 (hx _ (List.Mem.tail _ (List.Mem.head _)))) pgs_nil))
    · cases h
  · cases h
theorem own_keep {scope sc : Scope} {x : Str} (h : ownKind scope x = true) : (relS scope sc).names.lookup x = some .local ∨ ((relS scope sc).names.lookup x = some .cell ∧ (scope.names.lookup x == some .cell) = true) := by
  unfold ownKind at h
  split at h
  · rename_i e
    exact .inl (lookup_relS_keep (by decide) e)
  · rename_i e
    refine .inr ⟨lookup_relS_keep (by decide) e, ?_⟩
    rw [e]
    rfl
  · cases h
/-- the parts of a comprehension -/
theorem lc_parts {celt : E} {tg : List Nat} {src : Src} {cond : Eo} {e : Expr} (he : GE T Φ n celt) (hs : GS T Φ n src) (hco : GO T Φ n cond) (c : CxOk T Φ n X W) (h : mtE T X.N (.lc celt tg src cond) X.env.scope e = true) :
    ∃ (x tgt iter : Expr) (ifs : List Expr) (scope : Scope) (pos : Pos) (own : List (Str × Nat)) (g : TG) (tt : TT) (te : TE), e = .ListComp x [⟨tgt, iter, ifs, 0⟩] scope pos ∧ own.map (·.2) = tg ∧ (∀ B, TgOk X B tg g) ∧
      PI X tgt iter (tIX X B W (dsrc Φ src)) ∧ BlkOk X.N X.env.scope scope own ∧ (∀ (s : Shared) (H : Hp) (C : Addr) (cl : List (Str × Addr)) (fp : List Addr), PG (X.blk s H scope (compEnvC scope cl C X.env) fp) tgt g) ∧
      (∀ (s : Shared) (H : Hp) (C : Addr) (cl : List (Str × Addr)) (fp : List Addr), PTs (X.blk s H scope (compEnvC scope cl C X.env) fp) ifs tt) ∧ (∀ (s : Shared) (H : Hp) (C : Addr) (cl : List (Str × Addr)) (fp : List Addr), PE (X.blk s H scope (compEnvC scope cl C X.env) fp) x te) ∧
      (∀ v, foldedSetIterable iter X.env v = pure v) ∧ tt = (fun σ H Q => ∃ B, tB' X.K X.mg B W0 (condF Φ cond) σ H Q) ∧ te = (fun σ H Q => ∃ B, tE X.K X.mg B W0 (den Φ celt) σ H Q) := by
  unfold mtE at h
  split at h
  · rename_i x tgt iter ifs a scope pos
    simp only [Bool.and_eq_true, decide_eq_true_eq] at h
    obtain ⟨⟨⟨rfl, h2⟩, h3⟩, h4⟩ := h
    split at h4
    · rename_i own ho
      simp only [Bool.and_eq_true] at h4
      obtain ⟨⟨⟨h5, h6⟩, h7⟩, h8⟩ := h4
      obtain ⟨e1, g, g1, g2⟩ := mtTg_ok ho X.K
      refine ⟨x, tgt, iter, ifs, scope, pos, own, g, _, _, rfl, e1, g1 X rfl, hs X W B tgt iter c h2, blkOk_by h5, fun s H C cl fp => ?_, fun s H C cl fp => ?_, fun s H C cl fp => ?_, folded_no h3, rfl, rfl⟩
      · refine g2 (X.blk s H scope (compEnvC scope cl C X.env) fp) rfl rfl c.calm c.nd fun p hp => ?_
        exact own_keep (List.all_eq_true.mp h6 p hp)
      · split at h8
        · split at h8
          · refine ⟨fun pins s σ H Q I ⟨B, ρ, r, q⟩ => pts_nil.run pins s σ H Q I ?_⟩
            exact q true H (Step.refl r) rfl
          · cases h8
        · split at h8
          · cases h8
          · rename_i k
            refine pts_one ⟨fun pins s2 σ H2 Q I ⟨B, q⟩ => (((hco.2 (X.blk s H scope (compEnvC scope cl C X.env) fp) W0 B _ (c.blk s H scope _ fp) h8).1).run pins s2 σ H2 Q I q)⟩
        · cases h8
      · exact ⟨fun pins s2 σ H2 Q I ⟨B, q⟩ => (he (X.blk s H scope (compEnvC scope cl C X.env) fp) W0 B x (c.blk s H scope _ fp) h7).run pins s2 σ H2 Q I q⟩
    · cases h4
  · cases h
theorem snd_lc {celt : E} {tg : List Nat} {src : Src} {cond : Eo} {e : Expr} (he : GE T Φ n celt) (hs : GS T Φ n src) (hco : GO T Φ n cond) (c : CxOk T Φ n X W) (h : mtE T X.N (.lc celt tg src cond) X.env.scope e = true) :
    PE X e (tEFX X B W (den Φ (.lc celt tg src cond))) ∧ plainTest e = true := by
  obtain ⟨x, tgt, iter, ifs, scope, pos, own, g, tt, te, rfl, e1, h1, h2, h3, h4, h5, h6, h7, h8, h9⟩ := lc_parts (B := B) he hs hco c h
  subst e1 h8 h9
  refine ⟨f_lc (Y := fun t => PE X (.ListComp x [⟨tgt, iter, ifs, 0⟩] scope pos) t) h1 (fun te e => ?_) (fun t t' p w => PE.weak p w), rfl⟩
  subst e
  exact pe_lc c.calm c.nd h2 h3 h4 h5 h6 h7
theorem lc_list {celt : E} {tg : List Nat} {src : Src} {cond : Eo} (ρ : Rho) (p : Pv) (ρ' : Rho) (h : den Φ (.lc celt tg src cond) ρ = .ok p ρ') : ∃ ds, p = .dat (.list ds) := by
  rw [den_lc] at h
  obtain ⟨xs, ρ1, _, h⟩ := R.bind_ok h
  split at h
  · split at h
    · cases h
      exact ⟨_, rfl⟩
    · cases h
  · cases h
end
end G6
-- ## Dct
/-! # Dct: dict(rows) -/
namespace G6
open PySem PySem.Spec PyProof.Rows L2
/-- a row's place: a pair of a key and what stands at it -/
def RowAt (K : PySem.W.Frag) (H : Hp) (y : V) (kv : List Key × V) : Prop := ∃ T b, y = .ref T ∧ SqT K H T [.ref b, kv.2] ∧ H b = some (.tup (kv.1.map kV))
def putAll (kvs : List (List Key × V)) : List (List Key × V) := kvs.foldl (fun acc kv => putK acc kv.1 kv.2) []
theorem kt_all {H : Hp} {kvs : List (List Key × V)} {ps : List (List Key × Addr × Value)} (h : KT H kvs ps) : ∀ {acc : List (List Key × Addr × Value)} {l : List (List Key × V)}, KT H l acc → KT H (kvs.foldl (fun acc kv => putK acc kv.1 kv.2) l) (storedAllH acc ps) := by
  induction h with
  | nil => intro acc l g; exact g
  | @cons kv p kvs ps h t ih =>
    intro acc l g
    obtain ⟨h1, h2, h3⟩ := h
    have := g.put kv.1 (b := p.2.1) (u := p.2.2) h2 h3
    show KT H (kvs.foldl (fun acc kv => putK acc kv.1 kv.2) (putK l kv.1 kv.2)) (storedAllH (storedH acc p.1 p.2.1 p.2.2) ps)
    rw [← h1]
    exact ih this
section
variable {X : Cx}
/-- the rows' places, as the machine has them -/
theorem rows_places {pins : List (Addr × Obj)} {σ : St} {H : Hp} {s : Shared} (I : Inv X pins σ H s) : ∀ {ys : List V} {kvs : List (List Key × V)} {its : List Value}, Paired (RowAt X.K H) ys kvs → Vals ys its →
    ∃ (Ts : List Addr) (ps : List (List Key × Addr × Value)), its = Ts.map Value.ref ∧ KT H kvs ps ∧ Paired (fun T p => PairAt s.heap T (.ref p.2.1) p.2.2) Ts ps
  | _, _, _, .nil, r => by
    cases r
    exact ⟨[], [], rfl, .nil, .nil⟩
  | _, _, _, .cons h t, r => by
    cases r with
    | cons r1 r2 =>
      obtain ⟨Ts, ps, e, k, q⟩ := rows_places I t r2
      obtain ⟨T, b, rfl, hT, hb⟩ := h
      cases r1
      obtain ⟨its2, v2, tp, _⟩ := I.tuple hT
      cases v2 with
      | cons c1 c2 =>
        cases c2 with
        | cons c3 c4 =>
          cases c4
          cases c1
          exact ⟨T :: Ts, (_, b, _) :: ps, by rw [e]; rfl, .cons ⟨rfl, hb, c3⟩ k, .cons (.inl tp) q⟩
theorem paired_get {α β : Type} {R : α → β → Prop} : ∀ {l : List α} {m : List β}, Paired R l m → ∀ {j : Nat} {b : β}, m[j]? = some b → ∃ a, l[j]? = some a ∧ R a b
  | _, _, .nil, _, _, e => by simp at e
  | _, _, .cons h t, 0, b, e => by
    simp only [List.getElem?_cons_zero, Option.some.injEq] at e
    subst e
    exact ⟨_, rfl, h⟩
  | _, _, .cons h t, j + 1, b, e => by
    obtain ⟨a, h1, h2⟩ := paired_get t (j := j) (b := b) (by simpa using e)
    exact ⟨a, by simpa using h1, h2⟩
theorem call_dict_rows (hc : X.calm = true) (hu : (tupleKind (mixKind X.prog X.w)).room X.A.in1.in1) : CallR X (.type "dict") (fun xs H Q => ∃ a ys kvs, xs = [.ref a] ∧ (SqL X.K H a ys ∨ ∃ o : Obj, o.dict = none ∧ H a = some (.frz o (.tup ys))) ∧ Paired (RowAt X.K H) ys kvs ∧ ∀ p, H p = none → Q (.ref p) (upd H p (.dT (putAll kvs)))) := by
  intro pins s σ H xs us Q I r h
  obtain ⟨a, ys, kvs, rfl, hs, hr, q⟩ := h
  obtain ⟨u, rfl, rx⟩ := vals1 r
  cases rx
  have main : ∀ (T : String) (its : List Value), Vals ys its → ys.length ≤ sizeLine → (T = "list" ∨ T = "tuple") → PlainSeq T s.heap a its.toArray → wpAny (model X.prog X.w) X.A (call (.type "dict") [.ref a]) (EP X pins σ Q) X.xe s := fun T its rv hz hT hp => by
    obtain ⟨Ts, ps, e, k, pp⟩ := rows_places I hr rv
    have lk : kvs.length = ps.length := Paired.length k
    have ly : ys.length = kvs.length := Paired.length hr
    have li : its.length = ys.length := rv.length.symm
    have hst : KeysStay (tupleKind (mixKind X.prog X.w)) s.heap s.heap.objs.size [] ps := fun h' hk x hx => by
      obtain ⟨j, hj⟩ := List.getElem?_of_mem hx
      obtain ⟨kv, _, h1, h2, _⟩ := paired_get k hj
      obtain ⟨o, items, n, g1, g2, g3, g4⟩ := key_of I.hok h2
      rw [← h1]
      exact ⟨o, items, n, hk _ o (Nat.ne_of_lt (Heap.lt_size g1)) (by simp) g1, g2, g3, g4⟩
    have hitems : PairItems s.heap its.toArray (fun j => Ts.getD j 0) (ps.map fun p => (Value.ref p.2.1, p.2.2)) := by
      refine ⟨by rw [List.size_toArray, List.length_map]; omega, fun j key v hj => ?_⟩
      rw [List.getElem?_map] at hj
      obtain ⟨p, hp, hpe⟩ := Option.map_eq_some_iff.mp hj
      obtain ⟨T', hT', hpa⟩ := paired_get pp hp
      cases hpe
      refine ⟨?_, ?_⟩
      · rw [e]
        simp [List.getD_eq_getElem?_getD, hT']
      · have : Ts.getD j 0 = T' := by rw [List.getD_eq_getElem?_getD, hT']; rfl
        show PairAt s.heap (Ts.getD j 0) _ _
        rw [this]
        exact hpa
    have hfin : ∀ (h' : Heap) (tk : Nat), h'.DictOfH (tupleKind (mixKind X.prog X.w)) s.heap.objs.size (storedAllH [] ps) → (∀ b o, b ∉ ([] : List Addr) → s.heap.get? b = some o → h'.get? b = some o) → EP X pins σ Q (.ref s.heap.objs.size) { s with heap := h', toks := tk } := fun h' tk hd hk => by
      have hf : H s.heap.objs.size = none := I.hok.fresh (Nat.le_refl _)
      obtain ⟨o, es, ep, d1, d2, d3, d4, d5, d6⟩ := hd
      have kt := kt_all k (acc := []) (l := []) .nil
      have hl : (putAll kvs).length ≤ sizeLine := by
        have h1 := Paired.length kt
        have h2 := storedAllH_length ps []
        show (kvs.foldl (fun acc kv => putK acc kv.1 kv.2) []).length ≤ sizeLine
        simp only [List.length_nil, Nat.zero_add] at h2
        omega
      have hm : (s.heap.objs.size == sysModules) = false := beq_eq_false_iff_ne.mpr (Nat.ne_of_gt I.big)
      have kt' : KT (upd H s.heap.objs.size (.dT (putAll kvs))) (putAll kvs) (storedAllH [] ps) := kt.keeps fun b ys hb => by
        rw [upd_ne (ne_of_none hb hf)]
        exact hb
      exact ⟨.ref s.heap.objs.size, _, I.laid (t' := tk) (o := .dT (putAll kvs)) (fun b u e => hk b u (by simp) e) (Nat.le_refl _) ⟨hl, hm, _, kt', o, es, ep, d1, d2, d3, d4, d6⟩, rfl, q _ hf⟩
    have hpairs : PairsHaveH (tupleKind (mixKind X.prog X.w)) (ps.map fun p => (Value.ref p.2.1, p.2.2)).length (PairRel (ps.map fun p => (Value.ref p.2.1, p.2.2))) ps := by
      refine ⟨by rw [List.length_map], fun i key v hrel => ?_⟩
      have hrel' : (ps.map fun p => (Value.ref p.2.1, p.2.2))[i]? = some (key, v) := hrel
      rw [List.getElem?_map] at hrel'
      obtain ⟨p, hp, hpe⟩ := Option.map_eq_some_iff.mp hrel'
      cases hpe
      exact ⟨p.1, p.2.1, hp, rfl⟩
    have hsz : (ps.map fun p => (Value.ref p.2.1, p.2.2)).length ≤ sizeLine := by rw [List.length_map]; omega
    rcases hT with rfl | rfl
    · exact call_dict_pairsH (knd := tupleKind (mixKind X.prog X.w)) (PairArg.list a its.toArray (fun j => Ts.getD j 0) _) (I.ok.hd hc) hu ⟨hp, hitems⟩ hpairs hst hsz hfin
    · exact call_dict_pairsH (knd := tupleKind (mixKind X.prog X.w)) (PairArg.tuple a its.toArray (fun j => Ts.getD j 0) _) (I.ok.hd hc) hu ⟨hp, hitems⟩ hpairs hst hsz hfin
  rcases hs with hs | ⟨o, ho, hs⟩
  · obtain ⟨its, rv, pl, hz⟩ := I.list hs
    exact main "list" its rv hz (.inl rfl) pl
  · obtain ⟨e1, e2, its, rv, o', e3, e4, n, e5⟩ := (show ObjOk X.prog X.w H s.heap a (.frz o (.tup ys)) from I.hok a _ hs)
    rw [e1] at e3
    cases e3
    exact main "tuple" its rv e2 (.inr rfl) ⟨o, n, e1, e4, ho, e5⟩
end
end G6
-- ## DctW
/-! # DctW: dict(rows) by data; d.get -/
namespace G6
open PySem PySem.Spec PyProof.Rows L2
/-- a row's place stands for a row of data -/
def RowIs (K : PySem.W.Frag) (G : Hp) (kv : List Key × V) (r : PyData × PyData) : Prop := r.1 = .tuple (kv.1.map keyD) ∧ Dp K G kv.2 r.2
theorem rows_at {K : PySem.W.Frag} {S : ASet} {H : Hp} : ∀ {vs : List V} {ds : List PyData} {rows : List (PyData × PyData)}, DpAll K (Hid H S) vs ds → rowsKV ds = some rows → ∃ kvs : List (List Key × V), Paired (RowAt K H) vs kvs ∧ Paired (RowIs K (Hid H S)) kvs rows
  | _, [], rows, h, e => by
    cases h
    simp only [rowsKV, Option.some.injEq] at e
    subst e
    exact ⟨[], .nil, .nil⟩
  | _, d :: ds, rows, h, e => by
    cases h with
    | cons h1 h2 =>
      simp only [rowsKV] at e
      split at e
      · rename_i p hp
        obtain ⟨rs, e1, e2⟩ := Option.map_eq_some_iff.mp e
        subst e2
        obtain ⟨kvs, i1, i2⟩ := rows_at h2 e1
        unfold rowKV at hp
        split at hp
        · split at hp
          · rename_i k v hk
            cases hp
            obtain ⟨ns, rfl⟩ := keyTup_eq hk
            cases h1 with
            | tup t1 t2 =>
              cases t2 with
              | cons c1 c2 =>
                cases c2 with
                | cons c3 c4 =>
                  cases c4
                  obtain ⟨b, rfl, hb⟩ := tupKeys c1
                  refine ⟨(ns.map Sum.inl, _) :: kvs, .cons ⟨_, b, rfl, (t1.sub (Sub.hid _)).sqT, (Hid_iff.mp hb).1⟩ i1, .cons ⟨?_, c3⟩ i2⟩
                  simp [keyD, Function.comp_def]
          · cases hp
        · cases hp
      · cases e
theorem rows_put {K : PySem.W.Frag} {G : Hp} {kvs : List (List Key × V)} {rows : List (PyData × PyData)} (h : Paired (RowIs K G) kvs rows) : ∀ {l : List (List Key × V)} {q : List (PyData × PyData)}, RowsT K G l q →
    ∃ q', rows.foldl (fun acc r => putRow r.1 r.2 acc) ((.none, .none) :: q) = (.none, .none) :: q' ∧ RowsT K G (kvs.foldl (fun acc kv => putK acc kv.1 kv.2) l) q' := by
  induction h with
  | nil => intro l q g; exact ⟨q, rfl, g⟩
  | @cons kv r kvs rows h t ih =>
    intro l q g
    obtain ⟨h1, h2⟩ := h
    obtain ⟨q1, e1, g1⟩ := rowsT_put (k := kv.1) g h2
    obtain ⟨q2, e2, g2⟩ := ih g1
    refine ⟨q2, ?_, g2⟩
    rw [List.foldl_cons, h1, e1, e2]
def rDct (K : PySem.W.Frag) (x : V) (H : Hp) (Q : VK) : Prop := ∃ (S : ASet) (d q : PyData), DomS S H ∧ ARep K S H x d ∧ dctD d = some q ∧ ∀ p H', H p = none → Sub H H' → (∃ kvs, H' p = some (.dT kvs)) → NewCell K (Hid H S) H' p q → Q (.ref p) H'
section
variable {X : Cx}
theorem d_dict (hc : X.calm = true) (hu : X.A.units + 200 < cLine) : CallR X (.type "dict") (fun xs H Q => ∃ x, xs = [x] ∧ rDct X.K x H Q) := by
  have hu1 : X.A.in1.units ≤ X.A.units + 1 := by first | exact Nat.le_refl _ | simp [Around.in1]
  have hu2 : X.A.in1.units + 1 < cLine := by omega
  refine CallR.weak (call_dict_rows hc (tupleKind_room_in1 hu2)) fun xs H Q h => ?_
  obtain ⟨x, rfl, S, d, q, hd, ha, hz, k⟩ := h
  unfold dctD at hz
  split at hz
  · obtain ⟨a, vs, rfl, h1, h2⟩ := ha.lst
    obtain ⟨rows, e1, e2⟩ := Option.map_eq_some_iff.mp hz
    subst e2
    obtain ⟨kvs, r1, r2⟩ := rows_at h2 e1
    obtain ⟨q', e3, r3⟩ := rows_put r2 (l := []) .nil
    refine ⟨a, vs, kvs, rfl, .inl h1, r1, fun p hp => k p _ hp (Sub.new hp) ⟨_, upd_same⟩ ?_⟩
    unfold putAllD
    rw [e3]
    exact .dT upd_same r3
  · split at hz
    · rename_i hr
      obtain ⟨a, vs, rfl, h1, h2⟩ := ha.tup
      obtain ⟨rows, e1, e2⟩ := Option.map_eq_some_iff.mp hz
      subst e2
      obtain ⟨kvs, r1, r2⟩ := rows_at h2 e1
      obtain ⟨q', e3, r3⟩ := rows_put r2 (l := []) .nil
      have ho : ∃ o : Obj, o.dict = none ∧ H a = some (.frz o (.tup vs)) := by
        rcases h1 with ⟨e, _⟩ | ⟨_, o, d, h⟩
        · rw [hr] at e; cases e
        · exact ⟨o, d, h⟩
      refine ⟨a, vs, kvs, rfl, .inr ho, r1, fun p hp => k p _ hp (Sub.new hp) ⟨_, upd_same⟩ ?_⟩
      unfold putAllD
      rw [e3]
      exact .dT upd_same r3
    · cases hz
  · cases hz
end
section
variable {T : Tab} {Φ : Fenv} {n : Nat} {X : Cx} {W : WX} {B : ASet} {pos : Pos}
theorem pe_dict {x : Expr} {p : Pos} {t : TE} (hc : X.calm = true) (hu : X.A.units + 200 < cLine) (hg : Gl X "dict" ∧ X.mg "dict" = none ∧ (("dict" : Str) == ("__debug__" : Str)) = false) (hs : noStar x = true) (hx : PE X x t) :
    PE X (.Call (.Name "dict" p) [x] [] pos) fun σ H Q => t σ H fun v H1 => rDct X.K v H1 Q := by
  refine PE.weak (pe_callTy (d_dict hc hu) hg.1 hg.2.1 rfl (pa_cons hx pa_nil (star_cons hs)) (by decide) hg.2.2 (star_cons hs) rfl) fun σ H Q q => ?_
  show t σ H fun x H1 => ∃ x_1, [x] = [x_1] ∧ rDct X.K x_1 H1 Q
  have e : (fun (x : V) (H1 : Hp) => ∃ x_1, [x] = [x_1] ∧ rDct X.K x_1 H1 Q) = fun v H1 => rDct X.K v H1 Q := by
    funext v H1
    apply propext
    constructor
    · rintro ⟨x', e, h⟩
      cases e
      exact h
    · intro h
      exact ⟨v, rfl, h⟩
  rw [e]
  exact q
theorem s_dct {x : Expr} {p : Pos} {c : E} (hc : X.calm = true) (hu : X.A.units + 200 < cLine) (hg : Gl X "dict" ∧ X.mg "dict" = none ∧ (("dict" : Str) == ("__debug__" : Str)) = false) (hs : noStar x = true) (hx : PE X x (tEX X B W (den Φ c))) :
    PE X (.Call (.Name "dict" p) [x] [] pos) (tEX X B W (den Φ (.dct c))) := by
  refine PE.weak (pe_dict hc hu hg hs hx) fun σ H Q ⟨ρ, r, q⟩ => ?_
  simp only [den] at q
  refine ⟨ρ, r, (Post.bind q).mono fun v H1 ⟨p, ρ1, _, st, rp, q1⟩ => ?_⟩
  cases e1 : (res ρ1 p).bind dctD with
  | none => rw [e1] at q1; exact q1.elim
  | some z =>
    rw [e1] at q1
    obtain ⟨d, e2, e3⟩ := Option.bind_eq_some_iff.mp e1
    exact ⟨Hs B σ ρ1, d, z, st.rep.domS, st.rep.res rp e2, e3, fun p H' hp hs _ nc => q1 (.ref p) H' (Step.ext st.rep hs) ⟨p, rfl, nc.cell hs.hids, st.rep.fresh hp⟩⟩
theorem any_dct {o : Option PyData} (h : o.any isDct = true) : ∃ q, o = some (.dict q) := by
  cases o with
  | none => cases h
  | some d => cases d <;> first | (cases h; done) | exact ⟨_, rfl⟩
theorem isD_of {K : PySem.W.Frag} {S : ASet} {H : Hp} {v : V} {q : List (PyData × PyData)} (h : ARep K S H v (.dict q)) : ∃ a, v = .ref a ∧ IsD H a := by
  obtain ⟨a, e, g⟩ := h.dict
  refine ⟨a, e, ?_⟩
  rcases g with ⟨kvs, h1, _⟩ | ⟨kvs, _, _, h1, _⟩
  · exact .inl ⟨kvs, .inl h1⟩
  · exact .inr ⟨kvs, .inl h1⟩
theorem get_ok {K : PySem.W.Frag} {S : ASet} {H : Hp} {x y w : V} {d k z r : PyData} (hx : ARep K S H x d) (hy : ARep K S H y k) (hw : Dp K (Hid H S) w z) (h : getD z d k = some r) : ∃ a o, x = .ref a ∧ DGet H a y o ∧ Dp K (Hid H S) (o.getD w) r := by
  unfold getD at h
  split at h
  · split at h
    · rename_i hf
      cases h
      obtain ⟨a, o, e, g, hh⟩ := dget_ok hx hy hf
      refine ⟨a, o, e, g, ?_⟩
      rcases hh with ⟨h1, h2⟩ | ⟨v, dd, h1, h2, h3⟩
      · rw [h1, h2]
        exact hw
      · rw [h1, h2]
        exact h3
    · cases h
  · cases h
theorem s_dget1 {x y : Expr} {c k : E} {apos : Pos} (hu : X.A.units + 200 < cLine) (hx : PE X x (tEX X B W (den Φ c))) (hy : PE X y (tEX X B W (den Φ k))) (m : L2.M1 X x "get" apos y pos) :
    PE X (.Call (.Attribute x "get" apos) [y] [] pos) (tEX X B W (den Φ (.dget1 c k))) := by
  refine PE.weak (pe_dget1 (by omega) hx hy m) fun σ H Q ⟨ρ, r, q⟩ => ?_
  simp only [den] at q
  refine ⟨ρ, r, (Post.bind q).mono fun v H1 ⟨p, ρ1, _, st, rp, q1⟩ => ?_⟩
  split at q1
  · rename_i hd
    obtain ⟨qd, e1⟩ := any_dct hd
    obtain ⟨a, rfl, ia⟩ := isD_of (st.rep.res rp e1)
    refine ⟨a, rfl, ia, ρ1, st.rep, (Post.bind q1).mono fun w H2 ⟨p2, ρ2, _, st2, rp2, q2⟩ => ?_⟩
    unfold lift2 at q2
    split at q2
    · rename_i d1 d2 h1 h2
      cases e2 : getD .none d1 d2 with
      | none => rw [e2] at q2; exact q2.elim
      | some z =>
        rw [e2] at q2
        obtain ⟨a', o, ea, g, dp⟩ := get_ok (st2.rep.res (rp.step st2) h1) (st2.rep.res rp2 h2) .non e2
        cases ea
        exact ⟨o, g, q2 _ H2 (Step.refl st2.rep) dp⟩
    · exact q2.elim
  · exact q1.elim
theorem s_dget2 {x y z : Expr} {c k e : E} {apos : Pos} (hu : X.A.units + 200 < cLine) (hx : PE X x (tEX X B W (den Φ c))) (hy : PE X y (tEX X B W (den Φ k))) (hz : PE X z (tEX X B W (den Φ e))) (m : L2.M2 X x "get" apos y z pos) :
    PE X (.Call (.Attribute x "get" apos) [y, z] [] pos) (tEX X B W (den Φ (.dget2 c k e))) := by
  refine PE.weak (pe_dget2 (by omega) hx hy hz m) fun σ H Q ⟨ρ, r, q⟩ => ?_
  simp only [den] at q
  refine ⟨ρ, r, (Post.bind q).mono fun v H1 ⟨p, ρ1, _, st, rp, q1⟩ => ?_⟩
  split at q1
  · rename_i hd
    obtain ⟨qd, e1⟩ := any_dct hd
    obtain ⟨a, rfl, ia⟩ := isD_of (st.rep.res rp e1)
    refine ⟨a, rfl, ia, ρ1, st.rep, (post_dat q1).mono fun w H2 ⟨d2, ρ2, st2, dp2, q2⟩ => ⟨ρ2, st2.rep, (post_dat q2).mono fun u H3 ⟨d3, ρ3, st3, dp3, q3⟩ => ?_⟩⟩
    cases h1 : res ρ3 p with
    | none => rw [h1] at q3; exact q3.elim
    | some d1 =>
      rw [h1] at q3
      cases e2 : getD d3 d1 d2 with
      | none => dsimp only at q3; rw [e2] at q3; exact q3.elim
      | some z =>
        dsimp only at q3
        rw [e2] at q3
        obtain ⟨a', o, ea, g, dp⟩ := get_ok (st3.rep.res ((rp.step st2).step st3) h1) (.inl (Dp_sub st3.sub _ dp2)) dp3 e2
        cases ea
        exact ⟨o, g, q3 _ H3 (Step.refl st3.rep) dp⟩
  · exact q1.elim
/-- d.setdefault(y, z), by tuples of whole numbers -/
theorem d_setdT {pins : List (Addr × Obj)} {σ : L2.St} {H : Hp} {s : Shared} {a b : Addr} {kvs : List (List Key × V)} {k : List Key} {d : V} {u r : Value} {A : Around} {E : Value → Shared → Prop} {Q : Value → Shared → Prop} (hu : A.units + 1 < cLine) (I : Inv X pins σ H s) (e : H a = some (.dT kvs)) (eb : H b = some (.tup (k.map kV))) (ry : RelV (.ref b) u) (rd : RelV d r) (hl : kvs.length < sizeLine)
    (h1 : ∀ v, valV kvs k = some v → ∀ (w' : Value) (s' : Shared), Inv X pins σ H s' → RelV v w' → Q w' s') (h2 : valV kvs k = none → ∀ (w' : Value) (s' : Shared), Inv X pins σ (upd H a (.dT (putK kvs k d))) s' → RelV d w' → Q w' s') :
    wpAny (model X.prog X.w) A (call (.builtin "dict.setdefault") [.ref a, u, r]) Q E s := by
  cases (show u = Value.ref b from ry)
  obtain ⟨z, hd, xs, rel, dd⟩ := dt_of I.hok e
  have hz : xs.length ≤ sizeLine := by rw [← Paired.length rel]; exact z
  have hl2 : (putK kvs k d).length ≤ sizeLine := by have := length_putK kvs k d; omega
  have q := rel.val k
  refine call_setdefault_heap (hsz := hz) (tupleKind_room_in1 hu) (key_of I.hok eb) hd dd (fun p hp => ?_) fun hn h' dd' hs => ?_
  · rw [hp] at q
    cases q0 : valV kvs k with
    | none =>
      rw [q0] at q
      exact (show False from q).elim
    | some v0 =>
      rw [q0] at q
      exact h1 v0 q0 _ _ (I.tok _) q
  · rw [hn] at q
    cases q0 : valV kvs k with
    | some v0 =>
      rw [q0] at q
      exact (show False from q).elim
    | none =>
      obtain ⟨q, es, ep, hq, g2, g3, g4, _, g5⟩ := dd'
      refine h2 q0 _ _ (d_write (t' := _) I (by rw [e]; exact True.intro) hs ⟨q, hq⟩ ⟨hl2, hd, _, (rel.put k eb rd).keeps fun c ys ec => ?_, q, es, ep, hq, g2, g3, g4, g5⟩) rd
      rw [upd_ne (ne_of ec e (fun z => nomatch z))]
      exact ec
def tDSetT (td ty tx : TE) : TE := fun σ H Q => td σ H fun x H1 => ∃ a, x = .ref a ∧ IsD H1 a ∧ ty σ H1 fun y H2 => tx σ H2 fun z H3 => ∃ (kvs : List (List Key × V)) (k : List Key) (b : Addr), H3 a = some (.dT kvs) ∧ y = .ref b ∧ H3 b = some (.tup (k.map kV)) ∧ kvs.length < sizeLine ∧
  (∀ v, valV kvs k = some v → Q v H3) ∧ (valV kvs k = none → Q z (upd H3 a (.dT (putK kvs k z))))
theorem pe_dsetdT {o e f : Expr} {td ty tx : TE} {apos cpos : Pos} (hu : X.A.units + 1 < cLine) (ho : PE X o td) (he : PE X e ty) (hf : PE X f tx) (m : L2.M2 X o "setdefault" apos e f cpos) : PE X (.Call (.Attribute o "setdefault" apos) [e, f] [] cpos) (tDSetT td ty tx) := by
  refine ⟨fun pins s σ H Q I h => ?_⟩
  refine wpAny_Call_method m.base m.few m.line PySem.F.plainAttrs_dict PySem.F.slot_dict_setdefault PySem.F.type_dict_setdefault (thn (ho.run pins s σ H _ I h) fun u s1 ⟨x, H1, I1, rx, a, ex, d, q1⟩ => ?_)
  subst ex
  obtain rfl : u = Value.ref a := rx
  obtain ⟨t1, t2, _⟩ := isD_at I1 d
  refine ⟨t1, t2, ?_⟩
  rw [m.trees]
  refine Calls.callWith_builtin rfl (Calls.evalArgs_plain (Calls.spliced_cons (thn (he.run pins s1 σ H1 _ I1 q1) fun iv s2 ⟨y, H2, I2, ry, q2⟩ =>
    Calls.spliced_cons (thn (hf.run pins s2 σ H2 _ I2 q2) fun fv s3 ⟨z, H3, I3, rz, kvs, k, b, ea, ey, eb, hl, q3, q4⟩ => Calls.spliced_nil ?_))))
  subst ey
  exact d_setdT (by simpa using hu) I3 ea eb ry rz hl (fun v hv w' s4 I4 rw' => ⟨v, _, I4, rw', q3 v hv⟩) fun hn w' s4 I4 rw' => ⟨z, _, I4, rw', q4 hn⟩
theorem mutD_is {σ : St} {H : Hp} {ρ : Rho} {i : Nat} (r : Rep X.K X.mg B σ H ρ) (h : mutD ρ i = true) : ∃ a, σ[i]? = some (some (.ref a)) ∧ IsD H a := by
  have fin : ∀ ds, MutAt ρ i (.dict ds) → ∃ a, σ[i]? = some (some (.ref a)) ∧ IsD H a := fun ds hm => by
    obtain ⟨a, h1, h2, _⟩ := r.cel i _ hm
    cases h2 with
    | dK h3 _ => exact ⟨a, h1, .inl ⟨_, .inl h3⟩⟩
    | dT h3 _ => exact ⟨a, h1, .inr ⟨_, .inl h3⟩⟩
  unfold mutD at h
  split at h
  · exact fin _ (.inl (by assumption))
  · exact fin _ (.inr (by assumption))
  · cases h
theorem dsd_ok {σ : St} {H : Hp} {ρ ρ2 : Rho} {i : Nat} {a : Addr} {y v : V} {kd d : PyData} (r : Rep X.K X.mg B σ H ρ) (ha : σ[i]? = some (some (.ref a))) (hy : Dp X.K (Hid H (Hs B σ ρ)) y kd) (hv : Dp X.K (Hid H (Hs B σ ρ)) v d) (h : chg ρ i (dsdD kd d) = some ρ2) :
    ∃ (kvs : List (List Key × V)) (k : List Key) (b : Addr), H a = some (.dT kvs) ∧ y = .ref b ∧ H b = some (.tup (k.map kV)) ∧ kvs.length < sizeLine ∧ (∀ w, valV kvs k = some w → Step X.K X.mg B σ H ρ σ H ρ2) ∧ (valV kvs k = none → Step X.K X.mg B σ H ρ σ (upd H a (.dT (putK kvs k v))) ρ2) := by
  have core : ∀ d0 d1, MutAt ρ i d0 → dsdD kd d d0 = some d1 → ∃ (kvs : List (List Key × V)) (k : List Key) (b : Addr), H a = some (.dT kvs) ∧ y = .ref b ∧ H b = some (.tup (k.map kV)) ∧ kvs.length < sizeLine ∧ (∀ w, valV kvs k = some w → Cell X.K (Hs B σ ρ) H a d1) ∧ (valV kvs k = none → Cell X.K (Hs B σ ρ) (upd H a (.dT (putK kvs k v))) a d1) := fun d0 d1 hm e => by
    obtain ⟨a', h1, h2, h3⟩ := r.cel i d0 hm
    rw [ha] at h1
    cases h1
    have own : Hs B σ ρ a := .inr ⟨i, d0, hm, ha⟩
    have sub : ∀ o, Sub (Hid H (Hs B σ ρ)) (Hid (upd H a o) (Hs B σ ρ)) := fun o x u z => by
      rw [Hid_iff] at *
      refine ⟨?_, z.2⟩
      rw [upd_ne fun e => z.2 (by rw [e]; exact own)]
      exact z.1
    have h2' := h2
    cases h2 with
    | lst _ _ => cases e
    | @dK kvs q h4 h5 =>
      simp only [dsdD] at e
      split at e
      · rename_i hc
        simp only [Bool.and_eq_true, decide_eq_true_eq] at hc
        have tf : tupDict q = false := by cases h5 <;> (first | rfl | (rename_i k _ _ _ _ _ _; cases k <;> rfl))
        rw [tf] at hc
        exact absurd hc.1.1 (by simp)
      · cases e
    | @dT kvs q h4 h5 =>
      simp only [dsdD] at e
      split at e
      · rename_i hc
        simp only [Bool.and_eq_true, decide_eq_true_eq] at hc
        cases e
        have hk := hc.1.2
        unfold keyFits at hk
        obtain ⟨ns, rfl⟩ := keyTup_eq (by simpa [tupDict] using hk)
        obtain ⟨b, rfl, hb⟩ := tupKeys hy
        have hl : kvs.length < sizeLine := by have := rowsT_len h5; have := line1000; have := hc.2; simp only [List.length_cons] at this; omega
        have ek : (ns.map PyData.int) = (ns.map Sum.inl : List Key).map keyD := by simp [keyD]
        have hf := find_T (k := (ns.map Sum.inl : List Key)) h5
        have hfe : dfind ((.none, .none) :: q) (.tuple (ns.map PyData.int)) = (q.find? fun r => PyData.eqv r.1 (.tuple ((ns.map Sum.inl : List Key).map keyD))).map (·.2) := by
          rw [ek]
          rfl
        refine ⟨kvs, ns.map Sum.inl, b, h4, rfl, (Hid_iff.mp hb).1, hl, fun w hw => ?_, fun hn => ?_⟩
        · have : (dfind ((.none, .none) :: q) (.tuple (ns.map PyData.int))).isSome = true := by
            rw [hfe]
            rcases hf with ⟨z, _⟩ | ⟨_, _, _, z, _⟩
            · rw [hw] at z; cases z
            · rw [z]; rfl
          rw [if_pos this]
          exact h2'
        · have : ¬ (dfind ((.none, .none) :: q) (.tuple (ns.map PyData.int))).isSome = true := by
            rw [hfe]
            rcases hf with ⟨_, z⟩ | ⟨_, _, z, _, _⟩
            · rw [z]; simp
            · rw [hn] at z; cases z
          rw [if_neg this]
          obtain ⟨q', h6, h7⟩ := rowsT_put (k := ns.map Sum.inl) h5 hv
          rw [ek, h6]
          exact .dT upd_same (RowsT_sub (sub _) h7)
      · cases e
  have keep : ∀ o x u, x ≠ a → H x = some u → (upd H a o) x = some u := fun o x u n z => by rw [upd_ne n]; exact z
  unfold chg at h
  split at h
  · rename_i d0 e0
    obtain ⟨d1, h1, h2⟩ := Option.map_eq_some_iff.mp h
    subst h2
    obtain ⟨kvs, k, b, g1, g2, g3, g4, g5, g6⟩ := core d0 d1 (.inl e0) h1
    exact ⟨kvs, k, b, g1, g2, g3, g4, fun w hw => (Step.chg r (.inl e0) ha (.inl ⟨e0, rfl⟩) (fun _ _ _ z => z) (g5 w hw)).1, fun hn => (Step.chg r (.inl e0) ha (.inl ⟨e0, rfl⟩) (keep _) (g6 hn)).1⟩
  · rename_i d0 e0
    obtain ⟨d1, h1, h2⟩ := Option.map_eq_some_iff.mp h
    subst h2
    obtain ⟨kvs, k, b, g1, g2, g3, g4, g5, g6⟩ := core d0 d1 (.inr e0) h1
    exact ⟨kvs, k, b, g1, g2, g3, g4, fun w hw => (Step.chg r (.inr e0) ha (.inr ⟨e0, rfl⟩) (fun _ _ _ z => z) (g5 w hw)).1, fun hn => (Step.chg r (.inr e0) ha (.inr ⟨e0, rfl⟩) (keep _) (g6 hn)).1⟩
  · cases h
theorem ss_dsd {o k e : Expr} {i : Nat} {ck ce : E} {apos cpos : Pos} (hu : X.A.units + 1 < cLine) (ho : PE X o (tVar i)) (hk : PE X k (tEX X B W (den Φ ck))) (he : PE X e (tEX X B W (den Φ ce))) (m : L2.M2 X o "setdefault" apos k e cpos) :
    PS X (.Expr (.Call (.Attribute o "setdefault" apos) [k, e] [] cpos) pos) (tSX X B W (exS Φ (.dsd i ck ce))) := by
  refine PS.weak (ps_expr (pe_dsetdT hu ho hk he m) rfl) fun D σ H ⟨ρ, r, q⟩ => ?_
  simp only [exS] at q
  split at q
  · rename_i hm
    obtain ⟨a, ha, hd⟩ := mutD_is r hm
    refine ⟨.ref a, ha, a, rfl, hd, ρ, r, (FlOk.dat q).mono fun y H1 ⟨kd, ρ1, st, dpk, q1⟩ => ⟨ρ1, st.rep, (FlOk.dat q1).mono fun z H2 ⟨d, ρ2, st2, dp, q2⟩ => ?_⟩⟩
    cases e1 : chg ρ2 i (dsdD kd d) with
    | none => rw [e1] at q2; exact q2.elim
    | some ρ3 =>
      rw [e1] at q2
      obtain ⟨kvs, k, b, h1, h2, h3, h4, h5, h6⟩ := dsd_ok st2.rep ha (Dp_sub st2.sub _ dpk) dp e1
      exact ⟨kvs, k, b, h1, h2, h3, h4, fun v hv => q2 _ _ (h5 v hv), fun hn => q2 _ _ (h6 hn)⟩
  · exact q.elim
/-- x = dict(e) -/
theorem ss_dset {st : Stmt} {x : Expr} {c : E} {i : Nat} {p : Pos} (hc : X.calm = true) (hu : X.A.units + 200 < cLine) (hg : Gl X "dict" ∧ X.mg "dict" = none ∧ (("dict" : Str) == ("__debug__" : Str)) = false) (hs : noStar x = true) (hx : PE X x (tEX X B W (den Φ c)))
    (hp : ∀ t, PE X (.Call (.Name "dict" p) [x] [] pos) t → PS X st (tAsg t (gName i))) : PS X st (tSX X B W (exS Φ (.dset i c))) := by
  refine PS.weak (hp _ (pe_dict hc hu hg hs hx)) fun D σ H ⟨ρ, r, q⟩ => ?_
  simp only [exS] at q
  refine ⟨ρ, r, (FlOk.expr q).mono fun v H1 ⟨p, ρ1, _, st, rp, q1⟩ => ?_⟩
  cases e1 : (res ρ1 p).bind dctD with
  | none => rw [e1] at q1; exact q1.elim
  | some z =>
    rw [e1] at q1
    dsimp only at q1
    obtain ⟨d, e2, e3⟩ := Option.bind_eq_some_iff.mp e1
    split at q1
    · rename_i hf
      exact ⟨Hs B σ ρ1, d, z, st.rep.domS, st.rep.res rp e2, e3, fun p H' hp hs _ nc => q1 _ _ (Step.putM (Step.refl st.rep) hf hp hs nc)⟩
    · exact q1.elim
end
end G6
namespace G6
open PySem PySem.Spec PyProof.Rows L2
/-! ### two dicts at once: a dict that no name holds yet may be put out of sight -/
def ndT : HO → Prop
  | .dT _ => False
  | _ => True
def SubN (H H' : Hp) : Prop := ∀ a o, ndT o → H a = some o → H' a = some o
theorem Sub.n {H H' : Hp} (s : Sub H H') : SubN H H' := fun a o _ e => s a o e
section
variable {K : PySem.W.Frag} {H H' : Hp}
theorem SqL_subN {a : Addr} {xs : List V} (s : SubN H H') (h : SqL K H a xs) : SqL K H' a xs := by
  rcases h with (h | ⟨o, h⟩) | h
  · exact .inl (.inl (s _ _ trivial h))
  · exact .inl (.inr ⟨o, s _ _ trivial h⟩)
  · exact .inr h
theorem TupAt.subN {a : Addr} {xs : List V} {ds : List PyData} (s : SubN H H') (h : TupAt H a xs ds) : TupAt H' a xs ds := by
  rcases h with ⟨e, h⟩ | ⟨e, o, d, h⟩
  · exact .inl ⟨e, s _ _ trivial h⟩
  · exact .inr ⟨e, o, d, s _ _ trivial h⟩
mutual
theorem Dp_subN (s : SubN H H') : ∀ {v : V} (d : PyData), Dp K H v d → Dp K H' v d
  | _, .none, h => by cases h; exact .non
  | _, .bool b, h => by cases h; exact .bl b
  | _, .int i, h => by cases h; exact .int i
  | _, .str x, h => by cases h; exact .str x
  | _, .list ds, h => by cases h with | lst h1 h2 => exact .lst (SqL_subN s h1) (DpAll_subN s ds h2)
  | _, .tuple ds, h => by cases h with | tup h1 h2 => exact .tup (h1.subN s) (DpAll_subN s ds h2)
  | _, .dict _, h => by cases h
theorem DpAll_subN (s : SubN H H') : ∀ {vs : List V} (ds : List PyData), DpAll K H vs ds → DpAll K H' vs ds
  | _, [], h => by cases h; exact .nil
  | _, d :: ds, h => by cases h with | cons h1 h2 => exact .cons (Dp_subN s d h1) (DpAll_subN s ds h2)
end
theorem RowsK_subN (s : SubN H H') : ∀ {r : List (Key × V)} {q : List (PyData × PyData)}, RowsK K H r q → RowsK K H' r q
  | _, _, .nil => .nil
  | _, _, .cons a b => .cons (Dp_subN s _ a) (RowsK_subN s b)
theorem RowsT_subN (s : SubN H H') : ∀ {r : List (List Key × V)} {q : List (PyData × PyData)}, RowsT K H r q → RowsT K H' r q
  | _, _, .nil => .nil
  | _, _, .cons a b => .cons (Dp_subN s _ a) (RowsT_subN s b)
theorem Cell.stayN {S S' : ASet} {a : Addr} {d : PyData} (c : Cell K S H a d) (h : ∀ o, H a = some o → H' a = some o) (s : SubN (Hid H S) (Hid H' S')) : Cell K S' H' a d := by
  cases c with
  | lst h1 h2 => exact .lst (h _ h1) (DpAll_subN s _ h2)
  | dK h1 h2 => exact .dK (h _ h1) (RowsK_subN s h2)
  | dT h1 h2 => exact .dT (h _ h1) (RowsT_subN s h2)
end
theorem NewCell.map {K : PySem.W.Frag} {G G' H H' : Hp} {a : Addr} {d : PyData} (c : NewCell K G H a d) (h : ∀ o, H a = some o → H' a = some o) (s : SubN G G') : NewCell K G' H' a d := by
  cases c with
  | lst h1 h2 => exact .lst (h _ h1) (DpAll_subN s _ h2)
  | dK h1 h2 => exact .dK (h _ h1) (RowsK_subN s h2)
  | dT h1 h2 => exact .dT (h _ h1) (RowsT_subN s h2)
section
variable {K : PySem.W.Frag} {mg : Str → Option Value} {B : ASet} {σ : St} {H H₀ : Hp} {ρ ρ₀ : Rho} {p : Addr} {kvs : List (List Key × V)}
noncomputable abbrev less1 (H : Hp) (p : Addr) : Hp := Hid H (fun a => a = p)
theorem less1_sub : Sub (less1 H p) H := Sub.hid _
theorem less1_none : less1 H p p = none := by
  unfold less1 Hid
  simp
theorem less1_subN {S : ASet} (hp : H p = some (.dT kvs)) : SubN (Hid H S) (Hid (less1 H p) S) := fun a o n e => by
  rw [Hid_iff] at *
  refine ⟨Hid_iff.mpr ⟨e.1, fun z => ?_⟩, e.2⟩
  subst z
  rw [hp] at e
  cases e.1
  exact n
theorem Rep.less1 (r : Rep K mg B σ H ρ) (hp : H p = some (.dT kvs)) (hn : ¬ Hs B σ ρ p) : Rep K mg B σ (less1 H p) ρ where
  len := r.len
  val := fun i d h => by
    obtain ⟨v, h1, h2⟩ := r.val i d h
    exact ⟨v, h1, Dp_subN (less1_subN hp) d h2⟩
  cel := fun i d h => by
    obtain ⟨a, h1, h2, h3⟩ := r.cel i d h
    refine ⟨a, h1, h2.stayN (fun o ho => Hid_iff.mpr ⟨ho, fun z => ?_⟩) (less1_subN hp), h3⟩
    subst z
    exact hn (.inr ⟨i, d, h, h1⟩)
  fnc := r.fnc
  inj := r.inj
  dom := fun a h => by
    obtain ⟨o, e, nt⟩ := r.dom a h
    refine ⟨o, Hid_iff.mpr ⟨e, fun z => ?_⟩, nt⟩
    subst z
    exact hn (.inl h)
theorem Step.less1 (s : Step K mg B σ H₀ ρ₀ σ H ρ) (hp : H p = some (.dT kvs)) (hn : ¬ Hs B σ ρ p) (h0 : H₀ p = none) : Step K mg B σ H₀ ρ₀ σ (less1 H p) ρ where
  keep := fun a o e n => Hid_iff.mpr ⟨s.keep a o e n, fun z => by subst z; rw [h0] at e; cases e⟩
  own := s.own
  bor := s.bor
  rep := s.rep.less1 hp hn
end
section
variable {T : Tab} {Φ : Fenv} {n : Nat} {X : Cx} {W : WX} {B : ASet} {pos : Pos}
/-- x, y = dict(e), dict(f), by a tuple -/
theorem ss_dset2 {st : Stmt} {x y : Expr} {c c' : E} {i j : Nat} {p p' pos' tpos : Pos} {k : Nat} (hc : X.calm = true) (hu : X.A.units + 200 < cLine) (hg : Gl X "dict" ∧ X.mg "dict" = none ∧ (("dict" : Str) == ("__debug__" : Str)) = false) (hs : noStar x = true) (hx : PE X x (tEX X B W (den Φ c))) (hs' : noStar y = true) (hy : PE X y (tEX X B W (den Φ c')))
    (hp : ∀ t, PE X (.Tuple [.Call (.Name "dict" p) [x] [] pos, .Call (.Name "dict" p') [y] [] pos'] k tpos) t → PS X st (tAsg t (gTup X.K 2 (gNs [i, j])))) : PS X st (tSX X B W (exS Φ (.dset2 i j c c'))) := by
  refine PS.weak (hp _ (pe_tupF (pa_cons (pe_dict hc hu hg hs hx) (pa_cons (pe_dict hc hu hg hs' hy) pa_nil rfl) rfl))) fun D σ H ⟨ρ, r, q⟩ => ?_
  simp only [exS] at q
  refine ⟨ρ, r, (FlOk.expr q).mono fun v H1 ⟨pv, ρ1, _, st1, rp, q1⟩ => ?_⟩
  cases e1 : (res ρ1 pv).bind dctD with
  | none => rw [e1] at q1; exact q1.elim
  | some z =>
    rw [e1] at q1
    dsimp only at q1
    obtain ⟨d, e2, e3⟩ := Option.bind_eq_some_iff.mp e1
    refine ⟨Hs B σ ρ1, d, z, st1.rep.domS, st1.rep.res rp e2, e3, fun a H1' ha hsub hT nc => ?_⟩
    have stE := Step.ext st1.rep hsub
    refine ⟨ρ1, stE.rep, (FlOk.expr (q1.from stE)).mono fun w H2 ⟨pw, ρ2, eb, st2, rp2, q2⟩ => ?_⟩
    cases e4 : (res ρ2 pw).bind dctD with
    | none => rw [e4] at q2; exact q2.elim
    | some z' =>
      rw [e4] at q2
      dsimp only at q2
      obtain ⟨d', e5, e6⟩ := Option.bind_eq_some_iff.mp e4
      refine ⟨Hs B σ ρ2, d', z', st2.rep.domS, st2.rep.res rp2 e5, e6, fun b H2' hb hsub2 _ nc2 => ?_⟩
      rw [eb] at q1
      simp only [R.fl] at q1
      rw [e4] at q1
      dsimp only at q1
      split at q1
      · rename_i hf
        simp only [Bool.and_eq_true, decide_eq_true_eq] at hf
        obtain ⟨⟨f1, f2⟩, hij⟩ := hf
        refine ⟨by rw [sizeLine_eq]; simp, .inl fun t ht => ?_⟩
        obtain ⟨kvs, hka⟩ := hT
        have na1 : ¬ Hs B σ ρ1 a := st1.rep.fresh ha
        have hka2 : H2 a = some (.dT kvs) := st2.keep a _ hka fun z => na1 (.inr z)
        have na2 : ¬ Hs B σ ρ2 a := fun z => by
          rcases z with z | z
          · exact na1 (.inl z)
          · rcases st2.own a z with z | z
            · exact na1 (.inr z)
            · rw [hka] at z; cases z
        have sL := (stE.trans st2).less1 hka2 na2 ha
        have nc1 : NewCell X.K (Hid (less1 H2 a) (Hs B σ ρ2)) H2 a z := nc.map (fun o ho => st2.keep a o ho fun z => na1 (.inr z)) sL.sub.n
        have stp := Step.putM sL f1 less1_none less1_sub nc1
        have hi : i < σ.length := by
          rw [← st2.rep.len]
          unfold freeAt at f1
          cases e : ρ2[i]? with
          | none => rw [e] at f1; cases f1
          | some x => exact (List.getElem?_eq_some_iff.mp e).1
        have f2' : freeAt (ρ2.set i (.m z)) j = true := by
          unfold freeAt at f2 ⊢
          rw [List.getElem?_set_ne hij]
          exact f2
        have sb : SubN (Hid H2 (Hs B σ ρ2)) (Hid H2 (Hs B (σ.set i (some (.ref a))) (ρ2.set i (.m z)))) := fun x o hn e => by
          rw [Hid_iff] at *
          refine ⟨e.1, fun w => ?_⟩
          rcases w with w | ⟨l, dl, hm, hr⟩
          · exact e.2 (.inl w)
          · by_cases nl : l = i
            · subst nl
              rw [List.getElem?_set_self hi] at hr
              cases hr
              rw [hka2] at e
              cases e.1
              exact hn
            · rw [List.getElem?_set_ne (Ne.symm nl)] at hr
              refine e.2 (.inr ⟨l, dl, ?_, hr⟩)
              unfold MutAt at hm ⊢
              rwa [List.getElem?_set_ne (Ne.symm nl)] at hm
        have hst : Sub H2 (upd H2' t (.tup [.ref a, .ref b])) := hsub2.trans (Sub.new ht)
        have nc3 : NewCell X.K (Hid H2 (Hs B (σ.set i (some (.ref a))) (ρ2.set i (.m z)))) (upd H2' t (.tup [.ref a, .ref b])) b z' := nc2.map (fun o ho => Sub.new ht b o ho) sb
        have stf := stp.trans (Step.putM (Step.refl stp.rep) f2' hb hst nc3)
        exact ⟨t, [.ref a, .ref b], rfl, SqT.of upd_same, rfl, _, _, rfl, _, _, rfl, rfl, q1 _ _ stf⟩
      · exact q1.elim
end
end G6
-- ## Sound4
/-! # Sound4: expressions, all of them -/
namespace G6
open PySem PySem.Spec PyProof.Rows L2
section
variable {T : Tab} {Φ : Fenv} {n : Nat} {X : Cx} {W : WX} {B : ASet} {pos : Pos}
/-- a piece whose test is its truth -/
theorem both_plain {c : E} (h : ∀ (X : Cx) (W : WX) (B : ASet) (e : Expr), CxOk T Φ n X W → mtE T X.N c X.env.scope e = true → PE X e (tEX X B W (den Φ c)) ∧ plainTest e = true) : GE T Φ n c ∧ GT T Φ n c :=
  ⟨fun X W B e cx m => (h X W B e cx m).1, fun X W B e cx m => bare_test (h X W B e cx m).1 (h X W B e cx m).2⟩
theorem snd_cst {d : PyData} : GE T Φ n (.cst d) ∧ GT T Φ n (.cst d) := both_plain fun X W B e cx m => by
  unfold mtE at m
  split at m
  · refine ⟨?_, rfl⟩
    unfold constIs at m
    split at m
    · exact s_con pe_non (fun H => .non) fun ρ => by simp only [den]
    · obtain rfl := eq_of_beq m
      exact s_con pe_bl (fun H => .bl _) fun ρ => by simp only [den]
    · obtain rfl := of_decide_eq_true m
      exact s_con pe_int (fun H => .int _) fun ρ => by simp only [den]
    · obtain rfl := of_decide_eq_true m
      exact s_con pe_str (fun H => .str _) fun ρ => by simp only [den]
    · cases m
  · cases m
theorem snd_var {i : Nat} : GE T Φ n (.var i) ∧ GT T Φ n (.var i) := both_plain fun X W B e cx m => by
  unfold mtE at m
  split at m
  · exact ⟨s_var (pe_loc m), rfl⟩
  · cases m
theorem snd_pk {i : Nat} : GE T Φ n (.pk i) ∧ GT T Φ n (.pk i) := both_plain fun X W B e cx m => by
  unfold mtE at m
  split at m
  · exact ⟨s_pk (pe_loc m), rfl⟩
  · cases m
theorem snd_glb {x : Str} {d : PyData} : GE T Φ n (.glb x d) ∧ GT T Φ n (.glb x d) := both_plain fun X W B e cx m => by
  unfold mtE at m
  split at m
  · simp only [Bool.and_eq_true, decide_eq_true_eq] at m
    obtain ⟨⟨rfl, m2⟩, m3⟩ := m
    obtain ⟨v, u, h1, h2, h3⟩ := cx.csts _ _ m3
    exact ⟨s_con (pe_glob (gl_of m2).1 h1 h2 (gl_of m2).2) h3 fun ρ => by simp only [den], rfl⟩
  · cases m
theorem snd_fnv {x : Str} : GE T Φ n (.fnv x) ∧ GT T Φ n (.fnv x) := both_plain fun X W B e cx m => by
  unfold mtE at m
  split at m
  · simp only [Bool.and_eq_true, decide_eq_true_eq] at m
    obtain ⟨⟨rfl, m2⟩, m3⟩ := m
    obtain ⟨fn, hf⟩ := Option.isSome_iff_exists.mp m3
    obtain ⟨a, fd, ps, h1, _⟩ := cx.fns _ _ hf
    exact ⟨s_fnv (pe_glob (v := .ref a) (gl_of m2).1 h1 rfl (gl_of m2).2) h1, rfl⟩
  · cases m
theorem snd_tup {es : Es} (h : GEs T Φ n es) : GE T Φ n (.tup es) ∧ GT T Φ n (.tup es) := both_plain fun X W B e cx m => by
  unfold mtE at m
  split at m
  · simp only [Bool.and_eq_true, decide_eq_true_eq] at m
    exact ⟨s_tup (h X W B _ cx m.1) (by have := m.2; rw [sizeLine_eq]; omega) fun ρ ps ρ1 e => by rw [dens_len e, mtEs_len m.1], rfl⟩
  · cases m
theorem snd_lst {es : Es} (h : GEs T Φ n es) : GE T Φ n (.lst es) ∧ GT T Φ n (.lst es) := both_plain fun X W B e cx m => by
  unfold mtE at m
  split at m
  · simp only [Bool.and_eq_true, decide_eq_true_eq] at m
    exact ⟨s_lst (h X W B _ cx m.1) (by have := m.2; rw [sizeLine_eq]; omega) fun ρ ps ρ1 e => by rw [dens_len e, mtEs_len m.1], rfl⟩
  · cases m
theorem mt1_plain {sc : Scope} {o : Op1} {e x : Expr} (h : mt1 sc o e = some x) (h1 : o ≠ .isNone) (h2 : o ≠ .notNone) (h3 : ∀ b neg, o ≠ .isB b neg) : plainTest e = true := by
  have call : ∀ {f : Str} {y : Expr}, mtCall sc f e = some y → plainTest e = true := fun hh => by
    obtain ⟨p, pos, rfl, _⟩ := mtCall_eq hh
    rfl
  cases o with
  | isNone => exact absurd rfl h1
  | notNone => exact absurd rfl h2
  | isB b neg => exact absurd rfl (h3 b neg)
  | rngT => obtain ⟨y, hy, _⟩ := Option.bind_eq_some_iff.mp h; exact call hy
  | rngL => obtain ⟨y, hy, _⟩ := Option.bind_eq_some_iff.mp h; exact call hy
  | neg =>
    replace h : mtNeg e = some x := h
    unfold mtNeg at h
    split at h
    · rfl
    · cases h
  | rev =>
    replace h : mtRev e = some x := h
    unfold mtRev at h
    split at h
    · rfl
    · cases h
  | isi t =>
    replace h : mtIsi sc t e = some x := h
    unfold mtIsi at h
    split at h
    · rfl
    · cases h
  | ssort => obtain ⟨y, hy, _⟩ := Option.bind_eq_some_iff.mp h; exact call hy
  | skeys =>
    replace h : mtView sc "keys" e = some x := h
    unfold mtView at h
    split at h
    · rfl
    · cases h
  | sitems =>
    replace h : mtView sc "items" e = some x := h
    unfold mtView at h
    split at h
    · rfl
    · cases h
  | slen => obtain ⟨y, hy, _⟩ := Option.bind_eq_some_iff.mp h; exact call hy
  | _ => exact call h
theorem snd_op1 (sr : SRs) {o : Op1} {a : E} (ha : GE T Φ n a) : GE T Φ n (.op1 o a) ∧ GT T Φ n (.op1 o a) := by
  have hE : ∀ (X : Cx) (W : WX) (B : ASet) (e : Expr), CxOk T Φ n X W → mtE T X.N (.op1 o a) X.env.scope e = true → ∃ x, mt1 X.env.scope o e = some x ∧ PE X x (tEX X B W (den Φ a)) ∧ PE X e (tEX X B W (den Φ (.op1 o a))) := fun X W B e cx m => by
    unfold mtE at m
    split at m
    · rename_i x hx
      simp only [Bool.and_eq_true] at m
      have px := ha X W B x cx m.2
      exact ⟨x, hx, px, s_op1 px fun t p => op1_rule cx sr hx m.1 t p⟩
    · cases m
  refine ⟨fun X W B e cx m => (hE X W B e cx m).choose_spec.2.2, fun X W B e cx m => ?_⟩
  obtain ⟨x, h1, h2, h3⟩ := hE X W B e cx m
  by_cases i1 : o = .isNone
  · subst i1
    obtain ⟨k, p, pos, rfl⟩ := mtIsN_eq h1
    exact pt_no (t_op1 (fun d z hz => by cases hz; exact ⟨_, rfl⟩) h2 fun t p => pt_isN (by decide) (by decide) d_isN p) fun op es pos e => by cases e
  · by_cases i2 : o = .notNone
    · subst i2
      obtain ⟨k, p, pos, rfl⟩ := mtNotN_eq h1
      exact pt_no (t_op1 (fun d z hz => by cases hz; exact ⟨_, rfl⟩) h2 fun t p => pt_isN (by decide) (by decide) d_notN p) fun op es pos e => by cases e
    · by_cases i3 : ∃ b neg, o = .isB b neg
      · obtain ⟨b, neg, rfl⟩ := i3
        obtain ⟨k, p, pos, rfl⟩ := mtIsB_eq h1
        exact pt_no (t_op1 (fun d z hz => by
          replace hz : isBD b neg d = some z := hz
          cases d with
          | bool c => cases hz; exact ⟨_, rfl⟩
          | _ => cases hz) h2 fun t p => pt_isBo isB_ne.1 isB_ne.2 d_isB p) fun op es pos e => by cases e
      · exact bare_test h3 (mt1_plain h1 i1 i2 fun b neg e => i3 ⟨b, neg, e⟩)
theorem mt2_no {o : Op2} {e x y : Expr} (h : mt2 o e = some (x, y)) (op : BoolOp) (es : List Expr) (pos : Pos) : e ≠ .BoolOp op es pos := fun e1 => by
  subst e1
  cases h
theorem snd_op2 {o : Op2} {a b : E} (ha : GE T Φ n a) (hb : GE T Φ n b) : GE T Φ n (.op2 o a b) ∧ GT T Φ n (.op2 o a b) := by
  have hE : ∀ (X : Cx) (W : WX) (B : ASet) (e : Expr), CxOk T Φ n X W → mtE T X.N (.op2 o a b) X.env.scope e = true → ∃ x y, mt2 o e = some (x, y) ∧ PE X x (tEX X B W (den Φ a)) ∧ PE X y (tEX X B W (den Φ b)) := fun X W B e cx m => by
    unfold mtE at m
    split at m
    · rename_i x y hx
      simp only [Bool.and_eq_true] at m
      exact ⟨x, y, hx, ha X W B x cx m.1, hb X W B y cx m.2⟩
    · cases m
  have hP : ∀ (X : Cx) (W : WX) (B : ASet) (e x y : Expr), CxOk T Φ n X W → mt2 o e = some (x, y) → PE X x (tEX X B W (den Φ a)) → PE X y (tEX X B W (den Φ b)) → PE X e (tEX X B W (den Φ (.op2 o a b))) := fun X W B e x y cx h1 h2 h3 =>
    s_two (fun ρ => by simp only [den]) h2 h3 (op2_rule cx h1).1
  refine ⟨fun X W B e cx m => ?_, fun X W B e cx m => ?_⟩
  · obtain ⟨x, y, h1, h2, h3⟩ := hE X W B e cx m
    exact hP X W B e x y cx h1 h2 h3
  · obtain ⟨x, y, h1, h2, h3⟩ := hE X W B e cx m
    rcases (op2_rule cx h1).2 with hp | ⟨hb, hp⟩
    · exact bare_test (hP X W B e x y cx h1 h2 h3) hp
    · exact pt_no (t_cmp hb h2 h3 hp) (mt2_no h1)
theorem snd_chn {o p : Op2} {a b c : E} (ha : GE T Φ n a) (hb : GE T Φ n b) (hc : GE T Φ n c) : GE T Φ n (.chn o p a b c) ∧ GT T Φ n (.chn o p a b c) := by
  have hE : ∀ (X : Cx) (W : WX) (B : ASet) (e : Expr), CxOk T Φ n X W → mtE T X.N (.chn o p a b c) X.env.scope e = true → PE X e (tEX X B W (den Φ (.chn o p a b c))) ∧ PT X e (tBX X B W fun ρ => tst (den Φ (.chn o p a b c) ρ)) ∧ ∀ op es pos, e ≠ .BoolOp op es pos := fun X W B e cx m => by
    unfold mtE at m
    split at m
    · simp only [Bool.and_eq_true, decide_eq_true_eq] at m
      obtain ⟨⟨⟨⟨⟨m1, m2⟩, m3⟩, m4⟩, m5⟩, m6⟩ := m
      obtain ⟨r1, b1⟩ := cmp_rule (X := X) cx.units m1
      obtain ⟨r2, b2⟩ := cmp_rule (X := X) cx.units m2
      have lm := fun (oo : CmpOp) => marks_no (op := oo) m3
      exact ⟨s_chn b1 (ha X W B _ cx m4) (hb X W B _ cx m5) (hc X W B _ cx m6) r1 r2 (lm _), t_chn b1 b2 (ha X W B _ cx m4) (hb X W B _ cx m5) (hc X W B _ cx m6) r1 r2 (lm _), fun _ _ _ e => by cases e⟩
    · cases m
  exact ⟨fun X W B e cx m => (hE X W B e cx m).1, fun X W B e cx m => pt_no (hE X W B e cx m).2.1 (hE X W B e cx m).2.2⟩
theorem pw_one {op : BoolOp} {a : Expr} {t : TT} (h : PT X a t) : PW X (.BoolOp op [a] pos) t := by
  cases op
  · exact pw_and1 h
  · exact pw_or1 h
theorem snd_and {a b : E} (ha : GE T Φ n a ∧ GT T Φ n a) (hb : GE T Φ n b ∧ GT T Φ n b) : GE T Φ n (.and a b) ∧ GT T Φ n (.and a b) := by
  refine ⟨fun X W B e cx m => ?_, fun X W B e cx m => ?_⟩
  · unfold mtE at m
    split at m
    · simp only [Bool.and_eq_true] at m
      exact s_and (ha.1 X W B _ cx m.1) (pe_one (hb.1 X W B _ cx m.2))
    · simp only [Bool.and_eq_true] at m
      exact s_and (ha.1 X W B _ cx m.1) (hb.1 X W B _ cx m.2)
    · cases m
  · have : PW X e (tBX X B W fun ρ => tst (den Φ (.and a b) ρ)) := by
      unfold mtE at m
      split at m
      · simp only [Bool.and_eq_true] at m
        exact t_and (ha.2 X W B _ cx m.1).1 (pw_one (hb.2 X W B _ cx m.2).1)
      · simp only [Bool.and_eq_true] at m
        exact t_and (ha.2 X W B _ cx m.1).1 ((hb.2 X W B _ cx m.2).2 ⟨_, _, _, rfl⟩)
      · cases m
    exact ⟨this.pt, fun _ => this⟩
theorem snd_or {a b : E} (ha : GE T Φ n a ∧ GT T Φ n a) (hb : GE T Φ n b ∧ GT T Φ n b) : GE T Φ n (.or a b) ∧ GT T Φ n (.or a b) := by
  refine ⟨fun X W B e cx m => ?_, fun X W B e cx m => ?_⟩
  · unfold mtE at m
    split at m
    · simp only [Bool.and_eq_true] at m
      exact s_or (ha.1 X W B _ cx m.1) (pe_one (hb.1 X W B _ cx m.2))
    · simp only [Bool.and_eq_true] at m
      exact s_or (ha.1 X W B _ cx m.1) (hb.1 X W B _ cx m.2)
    · cases m
  · have : PW X e (tBX X B W fun ρ => tst (den Φ (.or a b) ρ)) := by
      unfold mtE at m
      split at m
      · simp only [Bool.and_eq_true] at m
        exact t_or (ha.2 X W B _ cx m.1).1 (pw_one (hb.2 X W B _ cx m.2).1)
      · simp only [Bool.and_eq_true] at m
        exact t_or (ha.2 X W B _ cx m.1).1 ((hb.2 X W B _ cx m.2).2 ⟨_, _, _, rfl⟩)
      · cases m
    exact ⟨this.pt, fun _ => this⟩
theorem snd_not {a : E} (ha : GE T Φ n a ∧ GT T Φ n a) : GE T Φ n (.not a) ∧ GT T Φ n (.not a) := by
  refine ⟨fun X W B e cx m => ?_, fun X W B e cx m => ?_⟩
  · unfold mtE at m
    split at m
    · exact s_not (ha.1 X W B _ cx m)
    · cases m
  · unfold mtE at m
    split at m
    · exact pt_no (t_not (ha.2 X W B _ cx m).1) fun _ _ _ e => by cases e
    · cases m
theorem snd_ite {c a b : E} (hc : GE T Φ n c ∧ GT T Φ n c) (ha : GE T Φ n a ∧ GT T Φ n a) (hb : GE T Φ n b ∧ GT T Φ n b) : GE T Φ n (.ite c a b) ∧ GT T Φ n (.ite c a b) := by
  refine ⟨fun X W B e cx m => ?_, fun X W B e cx m => ?_⟩
  · unfold mtE at m
    split at m
    · simp only [Bool.and_eq_true] at m
      exact s_ite (hc.2 X W B _ cx m.1.1).1 (ha.1 X W B _ cx m.1.2) (hb.1 X W B _ cx m.2)
    · cases m
  · unfold mtE at m
    split at m
    · simp only [Bool.and_eq_true] at m
      exact pt_no (t_ite (hc.2 X W B _ cx m.1.1).1 (ha.2 X W B _ cx m.1.2).1 (hb.2 X W B _ cx m.2).1) fun _ _ _ e => by cases e
    · cases m
theorem snd_slc {a : E} {lo hi : Eo} (ha : GE T Φ n a) (hl : GO T Φ n lo) (hh : GO T Φ n hi) : GE T Φ n (.slc a lo hi) ∧ GT T Φ n (.slc a lo hi) := both_plain fun X W B e cx m => by
  unfold mtE at m
  split at m
  · simp only [Bool.and_eq_true] at m
    exact ⟨s_slc (ha X W B _ cx m.1.1) (hl.slice cx m.1.2) (hh.slice cx m.2), rfl⟩
  · cases m
theorem snd_call {f : Str} {io : Option Nat} {es : Es} (h : GEs T Φ n es) : GE T Φ n (.call f io es) ∧ GT T Φ n (.call f io es) := both_plain fun X W B e cx m => by
  unfold mtE at m
  split at m
  · simp only [Bool.and_eq_true, decide_eq_true_eq] at m
    obtain ⟨⟨⟨rfl, m2⟩, m3⟩, m4⟩ := m
    obtain ⟨fn, e1, e2, e3, e4⟩ := fnFits_ok m3
    obtain ⟨a, fd, ps, k1, k2, k3, k4⟩ := cx.fns _ _ e1
    rw [e2] at k4
    have m4' := m4
    cases es with
    | nil => simp [mtEs] at m4
    | cons c cs =>
      simp only [mtEs, Bool.and_eq_true] at m4
      exact ⟨s_call (h X W B _ cx m4') (fun k ek ρ ps ρ1 ed => by rw [dens_len ed]; exact e4 k ek) fun t pa => pe_callW k4 cx.room (gl_of m2).1 k1 k2 k3 cx.tk pa (gl_of m2).2 (star_cons m4.1.1) (star_any m4.2), rfl⟩
  · cases m
theorem snd_callv {i : Nat} {fs : List Str} {es : Es} (h : GEs T Φ n es) : GE T Φ n (.callv i fs es) ∧ GT T Φ n (.callv i fs es) := both_plain fun X W B e cx m => by
  unfold mtE at m
  split at m
  · simp only [Bool.and_eq_true] at m
    obtain ⟨⟨m1, m2⟩, m4⟩ := m
    have m4' := m4
    cases es with
    | nil => simp [mtEs] at m4
    | cons c cs =>
      simp only [mtEs, Bool.and_eq_true] at m4
      refine ⟨PE.weak (pe_callvW m1 cx.room cx.tk (h X W B _ cx m4') (star_cons m4.1.1) (star_any m4.2)) fun σ H Q ⟨ρ, r, q⟩ => ?_, rfl⟩
      simp only [den] at q
      split at q
      · rename_i x hx
        split at q
        · rename_i hc
          obtain ⟨fn, e1, e2, e3, e4⟩ := fnFits_ok (List.all_eq_true.mp m2 x (by simpa using hc))
          obtain ⟨a, fd, ps, k1, k2, k3, k4⟩ := cx.fns _ _ e1
          rw [e2] at k4
          obtain ⟨a', g1, g2⟩ := r.fnc i x hx
          rw [k1] at g2
          cases g2
          refine ⟨a, fd, ps, _, k4, k2, k3, g1, ρ, r, (Post.bind q).mono fun vs H1 ⟨ps, ρ1, e1, st1, rp1, q1⟩ => post_call st1.rep rp1 (fun k e => by cases e) q1⟩
        · exact q.elim
      · exact q.elim
  · cases m
/-- a row of defs, told by their addresses -/
theorem fs_row {fs : List Str} : ∀ {ns : List Expr} {k : Nat}, CxOk T Φ n X W → mtFs T X.env.scope k fs ns = true → ∃ as : List Addr, PA X ns (fun σ H Q => Q (as.map V.ref) H) ∧ as.length = fs.length ∧ ns.length = fs.length ∧ ∀ (j : Nat) (f : Str), fs[j]? = some f → ∃ (a : Addr) (fd : FuncData) (ps : List Str), as[j]? = some a ∧ PySem.W.keepIn X.K (.ref a) = true ∧ Binds X.K fd ps [] ∧
    FnOk X.prog X.w X.K X.mg X.base (L2.CX X.prog X.w) n a fd ps (spOf X.K X.mg none (Φ f)) := by
  induction fs with
  | nil =>
    intro ns k cx m
    cases ns with
    | nil => exact ⟨[], pa_nil, rfl, rfl, fun j f e => by simp at e⟩
    | cons e r => simp [mtFs] at m
  | cons f fs ih =>
    intro ns k cx m
    cases ns with
    | nil => simp [mtFs] at m
    | cons e r =>
      cases e <;> first | (simp [mtFs] at m; done) | skip
      rename_i g p
      simp only [mtFs, Bool.and_eq_true, decide_eq_true_eq] at m
      obtain ⟨⟨⟨rfl, m2⟩, m3⟩, m4⟩ := m
      obtain ⟨as, i1, i2, i3, i4⟩ := ih cx m4
      obtain ⟨fn, e1, e2, e3, e4⟩ := fnFits_ok m3
      obtain ⟨a, fd, ps, k1, k2, k3, k4⟩ := cx.fns _ _ e1
      rw [e2] at k4
      refine ⟨a :: as, pa_cons (pe_glob (v := .ref a) (gl_of m2).1 k1 rfl (gl_of m2).2) i1 rfl, by simp [i2], by simp [i3], fun j f' e => ?_⟩
      cases j with
      | zero =>
        simp only [List.getElem?_cons_zero, Option.some.injEq] at e
        subst e
        exact ⟨a, fd, ps, rfl, k2, k3, k4⟩
      | succ j => exact i4 j f' (by simpa using e)
theorem pe_callE {f e : Expr} {es : List Expr} {tf : TE} {t : TA} (hr : Room n X.A) (tk : Takes X W) (hf : PE X f tf) (ha : PA X (e :: es) t) (he : starEach (e :: es) X.env = (false, eval e X.env) :: starEach es X.env) (hpl : (backTo pos (starEach es X.env)).any (·.1) = false)
    (ht : eval (.Call f (e :: es) [] pos) X.env = (do callWith pos (← eval f X.env) [] (backTo pos (starEach (e :: es) X.env)) (backToKw pos (keywordEach [] X.env)))) :
    PE X (.Call f (e :: es) [] pos) fun σ H Q => tf σ H fun x H1 => ∃ a fd ps sp, x = .ref a ∧ FnOk X.prog X.w X.K X.mg X.base (L2.CX X.prog X.w) n a fd ps sp ∧ PySem.W.keepIn X.K (.ref a) = true ∧ Binds X.K fd ps [] ∧ t σ H1 fun vs H2 => sp vs H2 Q fun cls d H' => W cls d σ H' := by
  refine ⟨fun pins s σ H Q I h => ?_⟩
  rw [ht]
  refine wpAny_bind (thn (hf.run pins s σ H _ I h) fun u s1 ⟨x, H1, I1, r1, a, fd, ps, sp, ex, FO, hk, hb, h1⟩ => ?_)
  subst ex
  cases r1
  refine PySem.W.callWith_K (h₀ := X.base) I.ok.mod.kin hk (thn (ha.run pos pins s1 σ H1 _ I1 h1) fun us s2 ⟨vs, H2, I2, r, q⟩ => ⟨I2.kIn, ?_⟩) he hpl
  exact run_fnW FO hr hb tk I2 r q
theorem snd_callt {fs : List Str} {i : E} {es : Es} (hi : GE T Φ n i) (h : GEs T Φ n es) : GE T Φ n (.callt fs i es) ∧ GT T Φ n (.callt fs i es) := both_plain fun X W B e cx m => by
  unfold mtE at m
  split at m
  · rename_i ns lp ix sp x xs pos
    simp only [Bool.and_eq_true, decide_eq_true_eq] at m
    obtain ⟨⟨⟨⟨m1, m2⟩, m3⟩, m4⟩, m5⟩ := m
    have m5' := m5
    cases es with
    | nil => simp [mtEs] at m5
    | cons c cs =>
      simp only [mtEs, Bool.and_eq_true] at m5
      obtain ⟨as, p1, p2, p3, p4⟩ := fs_row cx m1
      have hl := pe_ix (pos := sp) (L2.ix_list (X := X)) (pe_lst (pos := lp) p1) (hi X W B _ cx m4) (slice_no m3)
      refine ⟨PE.weak (pe_callE (pos := pos) cx.room cx.tk hl (h X W B _ cx m5') (star_cons m5.1.1) (star_any m5.2) rfl) fun σ H Q ⟨ρ, r, q⟩ => ?_, rfl⟩
      simp only [den] at q
      refine ⟨by rw [List.length_map, p2, ← p3, sizeLine_eq]; omega, fun p hp => ?_⟩
      have st0 : Step X.K X.mg B σ H ρ σ (upd H p (.lst (as.map V.ref))) ρ := Step.ext r (Sub.new hp)
      refine ⟨ρ, st0.rep, (post_res (Post.from q st0)).mono fun v H1 ⟨d, ρ1, st, ar, q1⟩ => ?_⟩
      have no : ¬ Own σ ρ p := fun z => by
        obtain ⟨o, e, _⟩ := r.owned z
        rw [hp] at e; cases e
      have hp1 : H1 p = some (.lst (as.map V.ref)) := st.keep p _ upd_same no
      cases d with
      | int k =>
        obtain rfl := ar.int
        dsimp only at q1
        cases e1 : L2.atI fs k with
        | none => rw [e1] at q1; exact q1.elim
        | some f =>
          rw [e1] at q1
          have e1' := e1
          unfold L2.atI at e1'
          obtain ⟨j, j1, j2⟩ := Option.bind_eq_some_iff.mp e1'
          obtain ⟨a, fd, ps, g1, g2, g3, g4⟩ := p4 j f j2
          have hat : L2.atI (as.map V.ref) k = some (.ref a) := by
            unfold L2.atI
            rw [List.length_map, p2, j1, Option.bind_some, List.getElem?_map, g1]
            rfl
          refine ⟨p, as.map V.ref, k, .ref a, rfl, rfl, SqL.of hp1, hat, a, fd, ps, _, rfl, g4, g2, g3, ρ1, st.rep, (Post.bind q1).mono fun vs H2 ⟨ps', ρ2, e2, st2, rp2, q2⟩ => ?_⟩
          exact post_call st2.rep rp2 (fun k e => by cases e) q2
      | _ => exact q1.elim
  · cases m
theorem snd_lc2 {elt : E} {tg : List Nat} {src : Src} {cond : Eo} (he : GE T Φ n elt) (hs : GS T Φ n src) (hco : GO T Φ n cond) : GE T Φ n (.lc elt tg src cond) ∧ GT T Φ n (.lc elt tg src cond) := both_plain fun X W B e cx m => by
  obtain ⟨h1, h2⟩ := snd_lc (B := B) he hs hco cx m
  exact ⟨f_plain h1 lc_list, h2⟩
theorem snd_met {m : M1} {a b : E} (ha : GE T Φ n a) (hb : GE T Φ n b) : GE T Φ n (.met m a b) ∧ GT T Φ n (.met m a b) := both_plain fun X W B e cx mm => by
  unfold mtE at mm
  split at mm
  · rename_i x y hx
    simp only [Bool.and_eq_true] at mm
    exact ⟨s_met hx (ha X W B _ cx mm.1) (hb X W B _ cx mm.2), (met_rule hx (ha X W B _ cx mm.1) (hb X W B _ cx mm.2)).2⟩
  · cases mm
theorem snd_pop {i : Nat} {a : E} (ha : GE T Φ n a) : GE T Φ n (.pop i a) ∧ GT T Φ n (.pop i a) := both_plain fun X W B e cx m => by
  unfold mtE at m
  split at m
  · simp only [Bool.and_eq_true, decide_eq_true_eq] at m
    obtain ⟨⟨⟨⟨rfl, m1⟩, m2⟩, m3⟩, m4⟩ := m
    exact ⟨s_pop (pe_loc m1) (ha X W B _ cx m3) (star_cons m2) rfl m4, rfl⟩
  · cases m
theorem mtMeth_eq {m : Str} {e x y : Expr} (h : mtMeth m e = some (x, y)) : ∃ apos cpos, e = .Call (.Attribute x m apos) [y] [] cpos ∧ notBare x = true ∧ noStar y = true ∧ (apos.endLine == cpos.line) = true := by
  unfold mtMeth at h
  split at h
  · split at h
    · rename_i hc
      cases h
      simp only [Bool.and_eq_true, decide_eq_true_eq] at hc
      obtain ⟨⟨⟨rfl, h2⟩, h3⟩, h4⟩ := hc
      exact ⟨_, _, rfl, h2, h3, h4⟩
    · cases h
  · cases h
theorem mtMeth2_eq {m : Str} {e x y z : Expr} (h : mtMeth2 m e = some (x, y, z)) : ∃ apos cpos, e = .Call (.Attribute x m apos) [y, z] [] cpos ∧ notBare x = true ∧ noStar y = true ∧ noStar z = true ∧ (apos.endLine == cpos.line) = true := by
  unfold mtMeth2 at h
  split at h
  · split at h
    · rename_i hc
      cases h
      simp only [Bool.and_eq_true, decide_eq_true_eq] at hc
      obtain ⟨⟨⟨⟨rfl, h2⟩, h3⟩, h5⟩, h4⟩ := hc
      exact ⟨_, _, rfl, h2, h3, h5, h4⟩
    · cases h
  · cases h
theorem snd_dct {a : E} (ha : GE T Φ n a) : GE T Φ n (.dct a) ∧ GT T Φ n (.dct a) := both_plain fun X W B e cx m => by
  unfold mtE at m
  split at m
  · rename_i x hx
    simp only [Bool.and_eq_true] at m
    obtain ⟨p, pos, rfl, g⟩ := mtCall_eq hx
    exact ⟨s_dct cx.calm cx.units (cx.glb (by decide) g) m.1 (ha X W B _ cx m.2), rfl⟩
  · cases m
theorem snd_dget1 {o k : E} (ho : GE T Φ n o) (hk : GE T Φ n k) : GE T Φ n (.dget1 o k) ∧ GT T Φ n (.dget1 o k) := both_plain fun X W B e cx m => by
  unfold mtE at m
  split at m
  · rename_i x y hx
    simp only [Bool.and_eq_true] at m
    obtain ⟨apos, cpos, rfl, h1, h2, h3⟩ := mtMeth_eq hx
    exact ⟨s_dget1 cx.units (ho X W B _ cx m.1) (hk X W B _ cx m.2) ⟨base_no h1, by rw [star_cons h2]; rfl, h3, by rw [star_cons h2]; rfl⟩, rfl⟩
  · cases m
theorem snd_dget2 {o k d : E} (ho : GE T Φ n o) (hk : GE T Φ n k) (hd : GE T Φ n d) : GE T Φ n (.dget2 o k d) ∧ GT T Φ n (.dget2 o k d) := both_plain fun X W B e cx m => by
  unfold mtE at m
  split at m
  · rename_i x y z hx
    simp only [Bool.and_eq_true] at m
    obtain ⟨apos, cpos, rfl, h1, h2, h2', h3⟩ := mtMeth2_eq hx
    exact ⟨s_dget2 cx.units (ho X W B _ cx m.1.1) (hk X W B _ cx m.1.2) (hd X W B _ cx m.2) ⟨base_no h1, by rw [star_cons h2, star_cons h2']; rfl, h3, by rw [star_cons h2, star_cons h2']; rfl⟩, rfl⟩
  · cases m
mutual
theorem sndE (sr : SRs) (T : Tab) (Φ : Fenv) (n : Nat) : ∀ c : E, GE T Φ n c ∧ GT T Φ n c
  | .var i => snd_var
  | .pk i => snd_pk
  | .cst d => snd_cst
  | .glb x d => snd_glb
  | .fnv x => snd_fnv
  | .tup es => snd_tup (sndEs sr T Φ n es)
  | .lst es => snd_lst (sndEs sr T Φ n es)
  | .op1 o a => snd_op1 sr (sndE sr T Φ n a).1
  | .op2 o a b => snd_op2 (sndE sr T Φ n a).1 (sndE sr T Φ n b).1
  | .chn o p a b c => snd_chn (sndE sr T Φ n a).1 (sndE sr T Φ n b).1 (sndE sr T Φ n c).1
  | .and a b => snd_and (sndE sr T Φ n a) (sndE sr T Φ n b)
  | .or a b => snd_or (sndE sr T Φ n a) (sndE sr T Φ n b)
  | .not a => snd_not (sndE sr T Φ n a)
  | .ite c a b => snd_ite (sndE sr T Φ n c) (sndE sr T Φ n a) (sndE sr T Φ n b)
  | .slc a lo hi => snd_slc (sndE sr T Φ n a).1 (sndO sr T Φ n lo) (sndO sr T Φ n hi)
  | .call f io es => snd_call (sndEs sr T Φ n es)
  | .callv i fs es => snd_callv (sndEs sr T Φ n es)
  | .callt fs i es => snd_callt (sndE sr T Φ n i).1 (sndEs sr T Φ n es)
  | .lc elt tg src cond => snd_lc2 (sndE sr T Φ n elt).1 (sndS sr T Φ n src) (sndO sr T Φ n cond)
  | .met m a b => snd_met (sndE sr T Φ n a).1 (sndE sr T Φ n b).1
  | .pop i a => snd_pop (sndE sr T Φ n a).1
  | .dct a => snd_dct (sndE sr T Φ n a).1
  | .dget1 o k => snd_dget1 (sndE sr T Φ n o).1 (sndE sr T Φ n k).1
  | .dget2 o k d => snd_dget2 (sndE sr T Φ n o).1 (sndE sr T Φ n k).1 (sndE sr T Φ n d).1
theorem sndEs (sr : SRs) (T : Tab) (Φ : Fenv) (n : Nat) : ∀ cs : Es, GEs T Φ n cs
  | .nil => fun X W B es cx m => by
    cases es with
    | nil => exact s_nil
    | cons e r => simp [mtEs] at m
  | .cons c cs => fun X W B es cx m => by
    cases es with
    | nil => simp [mtEs] at m
    | cons e r =>
      simp only [mtEs, Bool.and_eq_true] at m
      exact s_cons ((sndE sr T Φ n c).1 X W B e cx m.1.2) (sndEs sr T Φ n cs X W B r cx m.2) (star_cons m.1.1)
theorem sndO (sr : SRs) (T : Tab) (Φ : Fenv) (n : Nat) : ∀ c : Eo, GO T Φ n c
  | .no => trivial
  | .so c => sndE sr T Φ n c
theorem sndS (sr : SRs) (T : Tab) (Φ : Fenv) (n : Nat) : ∀ c : Src, GS T Φ n c
  | .of c => fun X W B tg e cx m => pi_of ((sndE sr T Φ n c).1 X W B e cx (by unfold mtSrc at m; exact m))
  | .rng1 c => fun X W B tg e cx m => by
    unfold mtSrc at m
    split at m
    · simp only [Bool.and_eq_true, decide_eq_true_eq] at m
      obtain ⟨⟨⟨rfl, m1⟩, m2⟩, m3⟩ := m
      exact pi_rng1 ((sndE sr T Φ n c).1 X W B _ cx m3) (gl_of m1).1 (cx.blt _ (by decide)) (star_cons m2)
    · cases m
  | .rng2 c c' => fun X W B tg e cx m => by
    unfold mtSrc at m
    split at m
    · simp only [Bool.and_eq_true, decide_eq_true_eq] at m
      obtain ⟨⟨⟨⟨⟨rfl, m1⟩, m2⟩, m3⟩, m4⟩, m5⟩ := m
      exact pi_rng2 ((sndE sr T Φ n c).1 X W B _ cx m4) ((sndE sr T Φ n c').1 X W B _ cx m5) (gl_of m1).1 (cx.blt _ (by decide)) (by rw [star_cons m2, star_cons m3]; rfl) (star_cons m3)
    · cases m
  | .enm c => fun X W B tg e cx m => by
    unfold mtSrc at m
    split at m
    · simp only [Bool.and_eq_true, decide_eq_true_eq] at m
      obtain ⟨⟨⟨⟨mt, rfl⟩, m1⟩, m2⟩, m3⟩ := m
      cases tg <;> first | (cases mt; done) | skip
      exact pi_enm ((sndE sr T Φ n c).1 X W B _ cx m3) (gl_of m1).1 (cx.blt _ (by decide)) (star_cons m2)
    · cases m
end
end
end G6
-- ## MatchS
/-! # MatchS: statements -/
namespace G6
open PySem PySem.Spec PyProof.Rows L2
/-- a name that may be stored to -/
def stOk (sc : Scope) (N : List Str) (i : Nat) (x : Str) : Bool := decide (N[i]? = some x) && ownKind sc x
/-- does the comprehension's result go straight into the name -/
def swB (sc : Scope) (x : Str) (px : Pos) : Expr → Bool
  | .ListComp _ _ scope pos => decide (sc.names.lookup x = some .local) && (px.line == pos.line) && !(scope.names.any fun (n, k) => n == x && (k == .local || k == .cell))
  | _ => false
def notSetDict : Expr → Bool
  | .SetComp .. => false
  | .DictComp .. => false
  | _ => true
/-- an expression that makes a new list -/
def freshE : E → Bool
  | .lst _ => true
  | .lc .. => true
  | .op1 .list _ => true
  | _ => false
def isLc : E → Bool
  | .lc .. => true
  | _ => false
def notTup : Expr → Bool
  | .Tuple .. => false
  | _ => true
def mtNames (sc : Scope) (N : List Str) : List Nat → List Expr → Bool
  | [], [] => true
  | i :: is, .Name x _ :: es => stOk sc N i x && mtNames sc N is es
  | _, _ => false
/-- two names get two values at once -/
def mtPar (sc : Scope) (N : List Str) (i j : Nat) : Stmt → Option (Expr × Expr)
  | .Assign [.Tuple [.Name x px, .Name y py] _ _] (.Tuple [a, b] _ _) _ => if decide (i ≠ j) && decide (N[i]? = some x) && decide (N[j]? = some y) && decide (sc.names.lookup x = some .local) && decide (sc.names.lookup y = some .local) && decide (x ≠ y) && (py.line == px.line) && noStar a && noStar b && !([a, b].all (foldedForSure 8)) && !([a, b].all (constantsAlone 8)) then some (a, b) else none
  | _ => none
/-- three names get three values at once -/
def mtPar3 (sc : Scope) (N : List Str) (i j l : Nat) : Stmt → Option (List Expr)
  | .Assign [.Tuple [.Name x px, .Name y py, .Name z pz] _ _] (.Tuple [a, b, c] _ _) _ => if decide (i ≠ j) && decide (i ≠ l) && decide (j ≠ l) && decide (N[i]? = some x) && decide (N[j]? = some y) && decide (N[l]? = some z) && decide (sc.names.lookup x = some .local) && decide (sc.names.lookup y = some .local) && decide (sc.names.lookup z = some .local) && decide (x ≠ y) && decide (x ≠ z) && decide (y ≠ z) && (py.line == px.line) && (pz.line == px.line) && noStar a && noStar b && noStar c && !([a, b, c].all (foldedForSure 8)) && !([a, b, c].all (constantsAlone 8)) then some [a, b, c] else none
  | _ => none
/-- a name that is no plain local one -/
def notLoc (sc : Scope) : Expr → Bool
  | .Name x _ => decide (sc.names.lookup x ≠ some .local)
  | _ => false
/-- try: .. except C as e: return f(e) -/
def mtTry (T : Tab) (sc : Scope) (N : List Str) (c : Str) (i : Nat) (f : Str) (tab : List (Str × Int)) : Stmt → Option (List Stmt)
  | .Try b [.ExceptHandler (some (.Name x _)) (some n) [.Return (some (.Call (.Name g _) [.Name m _] [] _)) _] _] [] [] _ => if decide (x = c) && isGl sc c && decide (N[i]? = some n) && decide (sc.names.lookup n = some .local) && decide (m = n) && decide (n ≠ "__debug__") && decide (n ≠ "__classdict__") && decide (g = f) && isGl sc f && decide (T.wh f = some (c, tab)) then some b else none
  | _ => none
mutual
def mtS (T : Tab) (N : List Str) : S → Scope → Stmt → Bool
  | .set i c, sc, st => match st with
    | .Assign [.Name x px] e _ => stOk sc N i x && mtE T N c sc e && notSetDict e && (!swB sc x px e || isLc c)
    | _ => false
  | .setm i c, sc, st => match st with
    | .Assign [.Name x px] e _ => stOk sc N i x && mtE T N c sc e && notSetDict e && (!swB sc x px e || isLc c) && freshE c
    | _ => false
  | .dnew i _, sc, st => match st with
    | .Assign [.Name x px] (.Dict [] [] _) _ => stOk sc N i x
    | _ => false
  | .unp is c, sc, st => match st with
    | .Assign [.Tuple es _ _] e _ => mtNames sc N is es && mtE T N c sc e && notComp e && notTup e
    | _ => false
  | .par is cs, sc, st => match is with
    | [i, j] => match st with
      | .Assign [.Tuple [.Name x px, .Name y py] _ _] (.Tuple [a, b] _ _) _ => decide (i ≠ j) && decide (N[i]? = some x) && decide (N[j]? = some y) && decide (sc.names.lookup x = some .local) && decide (sc.names.lookup y = some .local) && decide (x ≠ y) && (py.line == px.line) && mtEs T N cs sc [a, b] && !([a, b].all (foldedForSure 8)) && !([a, b].all (constantsAlone 8))
      | _ => false
    | _ => false
  | .parmm i j xs ys, sc, st => match mtPar sc N i j st with
    | some (a, b) => mtCl xs a && mtCl ys b
    | none => false
  | .parvm i j c ys, sc, st => match mtPar sc N i j st with
    | some (a, b) => mtE T N c sc a && mtCl ys b
    | none => false
  | .par3 i j l cs, sc, st => match mtPar3 sc N i j l st with
    | some es => mtEs T N cs sc es
    | none => false
  | .parc is cs, sc, st => match st with
    | .Assign [.Tuple es _ _] (.Tuple vs _ _) _ => mtNames sc N is es && mtEs T N cs sc vs && es.any (notLoc sc) && decide (vs.length ≤ 1000)
    | _ => false
  | .unpl is c, sc, st => match st with
    | .Assign [.Tuple es _ _] e _ => mtNames sc N is es && mtE T N c sc e && notTup e && isLc c
    | _ => false
  | .tryw body c i f tab, sc, st => match mtTry T sc N c i f tab st with
    | some b => mtSs T N body sc b
    | none => false
  | .app i c, sc, st => match st with
    | .Expr (.Call (.Attribute (.Name x _) m apos) [e] [] cpos) _ => decide (m = "append") && isLoc sc N i x && noStar e && mtE T N c sc e && (apos.endLine == cpos.line)
    | _ => false
  | .ext i c, sc, st => match st with
    | .Expr (.Call (.Attribute (.Name x _) m apos) [e] [] cpos) _ => decide (m = "extend") && isLoc sc N i x && noStar e && mtE T N c sc e && (apos.endLine == cpos.line)
    | _ => false
  | .dput i ck c, sc, st => match st with
    | .Assign [.Subscript (.Name x _) k _] e _ => isLoc sc N i x && notSlice k && mtE T N ck sc k && mtE T N c sc e && notComp e
    | _ => false
  | .dsd i ck c, sc, st => match st with
    | .Expr e _ => match mtMeth2 "setdefault" e with
      | some (.Name x _, k, v) => isLoc sc N i x && mtE T N ck sc k && mtE T N c sc v
      | _ => false
    | _ => false
  | .dset i c, sc, st => match st with
    | .Assign [.Name x px] e _ => stOk sc N i x && (match mtCall sc "dict" e with
      | some y => noStar y && mtE T N c sc y
      | none => false)
    | _ => false
  | .dset2 i j c c', sc, st => match st with
    | .Assign [.Tuple [.Name x px, .Name y py] _ _] (.Tuple [a, b] _ _) _ => decide (i ≠ j) && mtNames sc N [i, j] [.Name x px, .Name y py] && [Expr.Name x px, .Name y py].any (notLoc sc) && (match mtCall sc "dict" a with
      | some v => match mtCall sc "dict" b with
        | some w => noStar v && mtE T N c sc v && noStar w && mtE T N c' sc w
        | none => false
      | none => false)
    | _ => false
  | .ret c, sc, st => match st with
    | .Return (some e) _ => mtE T N c sc e
    | _ => false
  | .retn, _, st => match st with
    | .Return none _ => true
    | _ => false
  | .rse c, sc, st => match st with
    | .Raise (some (.Call (.Name x _) [.Constant (.str _) _ _] [] _)) none _ => decide (c = x) && isGl sc c && T.exc c
    | _ => false
  | .ite c a b, sc, st => match st with
    | .If t x y _ => mtE T N c sc t && mtSs T N a sc x && mtSs T N b sc y
    | _ => false
  | .loop tg src body, sc, st => match st with
    | .For tgt iter b [] _ => (match mtTg N tg tgt with
      | some own => own.all (fun p => ownKind sc p.1) && mtSrc T N src sc tgt iter && notSet iter && mtSs T N body sc b
      | none => false)
    | _ => false
  | .wh c body, sc, st => match st with
    | .While t b [] _ => mtE T N c sc t && mtSs T N body sc b
    | _ => false
  | .brk, _, st => match st with
    | .Break _ => true
    | _ => false
  | .cnt, _, st => match st with
    | .Continue _ => true
    | _ => false
  | .pas, _, st => match st with
    | .Pass _ => true
    | _ => false
  | .exp c, sc, st => match st with
    | .Expr e _ => mtE T N c sc e && notComp e
    | _ => false
def mtSs (T : Tab) (N : List Str) : Ss → Scope → List Stmt → Bool
  | .nil, _, sts => sts.isEmpty
  | .cons s r, sc, sts => match sts with
    | [] => false
    | st :: rest => mtS T N s sc st && mtSs T N r sc rest
end
end G6
-- ## Which
/-! # Which: a def that tells which refusal an exception is, called in an except suite -/
namespace G6
open PySem PySem.Spec PyProof.Rows L2
/-! ### a def that calls none, called with the exception that is handled -/
section
variable {P : Program} {w : World} {K : PySem.W.Frag} {mg : Str → Option Value} {base : Heap}
theorem fnP_of {f C : Addr} {fd : FuncData} {j : Int} {x qual : Str} {params : Arguments} {body : List Stmt} {scope : Scope} {N ps : List Str} (F : FunD K x qual params body scope [] [] f fd) (S : FnScope N ps scope) (h1 : ps.length = 1)
    (hb : ∀ (cdv : Value) (A : Around) (outer : List Env) (s : Shared) (H : Hp) (Q : VK) (a : Addr) (oe : Obj), A.units + 200 < cLine → Zc (.ref C) none oe → (∃ vs, oe.data = .fields vs) → (∀ p H', H p = none → Sub H H' → H' p = some (.tup [.str "refused", .int j]) → Q (.ref p) H') →
      ∃ t, PSs (L2H.cxH (L2.CX P w) P w K mg base N qual scope f cdv A outer s H (fun _ _ _ => False) (a, oe)) body t ∧ t { nx := fun _ H' => Q .non H', rt := Q } (L2.start N [.ref a]) H) : FnP P w K mg base f fd ps C j := by
  intro A outer s H a oe Q room pin zc fl e0 bd q
  obtain ⟨oc, od, dV, kV, doc, pm, an, cdv, ct, osl, rfl, lk, hcd, _, _⟩ := F.ex
  have inK : K.In s.heap := e0.mod.kin.keeps fun b o z => (e0.bs b o z).1
  have nol : s.heap.NoLimit := e0.mod.nolimit.keeps fun b o z => (e0.bs b o z).1
  have kinds : ∀ y ∈ ps.zip [Value.ref a], scope.names.lookup y.1 = some .local ∨ (scope.names.lookup y.1 = some .cell ∧ ((cellsFrom (s.heap.objs.size + 1) scope.names []).lookup y.1).isSome = true) := by
    rintro ⟨nm, vl⟩ hy
    rcases S.par nm (List.of_mem_zip hy).1 with z | z
    · exact Or.inl z
    · exact Or.inr ⟨z, PySem.W.cellsFrom_some _ _ _ (Or.inl z)⟩
  have hu : A.units + 200 < cLine := by have := room.un; omega
  refine codeAny_call_function (by have := room.dp; omega) (inK _ _ lk) rfl S.co S.gen rfl (PySem.W.codeRec_of inK hcd) (bd _ _ _ _ ?_)
  refine wpAny_newFunctionEnv_cells S.kind kinds fun env he s1 ic => ?_
  subst he
  refine ⟨nol.keeps ic.toInCall.keep, codeAny_func ?_⟩
  obtain ⟨t, pt, ht⟩ := hb cdv A outer s H Q a oe hu zc fl q
  have I0 := L2H.inv_startH (CX := L2.CX P w) (E := fun _ _ _ => False) (vs := [V.ref a]) S pin e0 (by rw [h1]; rfl) (.cons rfl .nil) ic
  refine wpAny_mono (pt.run [] s1 _ H _ I0 ht) (fun r s2 hr => ?_) fun ex s2 hr => hr
  have out : ∀ {σ2 : St} {H2 : Hp} {v : V} {u : Value}, L2.Inv (L2H.cxH (L2.CX P w) P w K mg base N qual scope f cdv A outer s H (fun _ _ _ => False) (a, oe)) [] σ2 H2 s2 → RelV v u → Q v H2 → CE outer P w H s Q u s2 := fun {σ2 H2 v u} J rv z => ⟨v, H2, J.os, J.bare, J.base, J.hok, rv, z⟩
  cases r with
  | ret u => obtain ⟨v, σ2, H2, J, rv, z⟩ := hr; exact out J rv z
  | next => obtain ⟨σ2, H2, J, z⟩ := hr; exact out (v := .non) (u := .none) J rfl z
  | brk => obtain ⟨_, _, _, z⟩ := hr; exact z.elim
  | cont => obtain ⟨_, _, _, z⟩ := hr; exact z.elim
end
section
variable {X : Cx} {pos : Pos}
/-- the call itself, in the suite -/
theorem pe_callP {x n : Str} {i : Nat} {p p2 : Pos} {a : Addr} {oe : Obj} {f C : Addr} {fd : FuncData} {ps : List Str} {j : Int} (hp : (a, oe) ∈ X.pn) (zc : Zc (.ref C) none oe) (fl : ∃ vs, oe.data = .fields vs) (F : FnP X.prog X.w X.K X.mg X.base f fd ps C j) (hr : L2H.RoomH 0 X.A)
    (hg : Gl X x ∧ (x == ("__debug__" : Str)) = false) (hm : X.mg x = some (.ref f)) (hk : PySem.W.keepIn X.K (.ref f) = true) (hb : Binds X.K fd ps []) (h1 : ps.length = 1) (hn : PE X (.Name n p2) (tVar i)) :
    PE X (.Call (.Name x p) [.Name n p2] [] pos) fun σ H Q => σ[i]? = some (some (.ref a)) ∧ ∀ q H', H q = none → Sub H H' → H' q = some (.tup [.str "refused", .int j]) → Q (.ref q) H' := by
  refine ⟨fun pins s σ H Q I h => ?_⟩
  obtain ⟨hi, h⟩ := h
  have hpa : PA X [.Name n p2] (fun σ H Q => σ[i]? = some (some (.ref a)) ∧ Q [.ref a] H) := PA.weak (pa_cons hn pa_nil rfl) fun σ H Q ⟨e, q⟩ => ⟨.ref a, e, q⟩
  refine wpAny_Call_Name_kw (ld_glob I hg.1 hm ?_ hg.2)
  refine PySem.W.callWith_K (h₀ := X.base) I.ok.mod.kin hk (thn (hpa.run pos pins s σ H (fun vs H1 => vs = [.ref a] ∧ H1 = H) I ⟨hi, rfl, rfl⟩) fun us s1 ⟨vs, H1, I1, rv, ev, eH⟩ => ⟨I1.kIn, ?_⟩) rfl rfl
  rw [eH] at I1
  subst ev
  obtain ⟨u, rfl, ru⟩ := rv.one
  cases ru
  have pin := I1.pin (a, oe) (List.mem_append_left _ hp)
  have pinOk : L2H.PinOk X.stack H s1 (a, oe) := ⟨pin.1, pin.2.1, fun hm => (List.mem_cons.mp (I1.stkSub a hm)).elim pin.2.2.1 pin.2.2.2.1, pin.2.2.2.2⟩
  have bd := hb s1 [Value.ref a] I1.kIn (by rw [List.append_nil, h1]; rfl)
  rw [List.append_nil] at bd
  refine wpAny_call (codeAny_mono (F X.A X.stack s1 H a oe Q hr pinOk zc fl I1.env0 bd h) fun r s2 hq => ?_)
  cases r with
  | error ex =>
    obtain ⟨_, _, _, _, _, _, _, _, _, _, _, _, z⟩ := hq
    exact z.elim
  | ok r =>
    cases r with
    | ret u => exact I1.after hq
    | next => exact False.elim hq
    | brk => exact False.elim hq
    | cont => exact False.elim hq
end
/-! ### isinstance of the exception, count, index -/
section
variable {X : Cx} {pos : Pos}
theorem call_isP {a D : Addr} {oe : Obj} (hp : (a, oe) ∈ X.pn) (C : ExcC X.K D) (zc : Zc (.ref D) none oe) (fl : ∃ vs, oe.data = .fields vs) : CallR X (.builtin "isinstance") (rIsE X.K D a) := by
  intro pins s σ H xs us Q I r h
  obtain ⟨c, cv, b, rfl, hcv, hk, q⟩ := h
  obtain ⟨u1, u2, rfl, r1, r2⟩ := r.two
  cases r1
  obtain rfl := hcv _ r2
  have pin := (I.pin (a, oe) (List.mem_append_left _ hp)).1
  obtain ⟨vs, hv⟩ := fl
  have inst : PySem.W.InstAt s.heap a oe D none := by
    obtain ⟨o1, o2, o3, o4⟩ := oe
    obtain ⟨z1, z2⟩ := zc
    dsimp only at z1 z2 hv
    subst z1 z2 hv
    exact ⟨pin, rfl, rfl, trivial⟩
  refine PySem.W.kia_one (PySem.W.handS_kitx_exc C.hg C.hk C.hs C.hd C.ha C.hn C.ht C.hm) I.kIn inst hk (fun z => nomatch z) fun tk => ?_
  exact ⟨.bl b, H, I.kept (t' := tk) fun _ _ z => z, rfl, q⟩
/-- list.count of flat values -/
def rCntF (K : PySem.W.Frag) : V → List V → Hp → VK → Prop := fun x xs H Q => ∃ (p : Addr) (ys : List V) (y : V), x = .ref p ∧ xs = [y] ∧ SqL K H p ys ∧ flatV y = true ∧ ys.all flatV = true ∧ Q (.int (ys.countP (eqV · y) : Nat)) H
theorem mt_countF : MtR X "list.count" (rCntF X.K) := by
  intro pins s σ H x xs v us Q I rx rxs h
  obtain ⟨p, ys, y, rfl, rfl, hs, fy, fys, q⟩ := h
  cases rx
  obtain ⟨u, rfl, ru⟩ := rxs.one
  obtain ⟨its, rv, ⟨⟨c0, d0, dat, sl⟩, n, ho, hc, hdn, hd⟩, hlen⟩ := I.list hs
  simp only at hc hd
  subst hc hd
  have cnt : ∀ {zs : List V} {us : List Value}, Vals zs us → zs.all flatV = true → us.countP (eqU y) = zs.countP (eqV · y) := by
    intro zs us r
    induction r with
    | nil => intro _; rfl
    | cons r1 _ ih =>
      intro f
      rw [List.all_cons, Bool.and_eq_true] at f
      rw [List.countP_cons, List.countP_cons, ih f.2, eqU_of r1 f.1]
  refine call_meets PySem.F.slot_list_count ⟨_, ho, rfl⟩ PySem.F.entry_list_count (PySem.F.args_list_count_2 _ _) (SeqAt.list_countAt p its.toArray n d0 sl u (eqU y)) ⟨ho, fun z hz => mem_eqAt ru fy rv fys z (by simpa using hz), ?_⟩
  refine ⟨.int (ys.countP (eqV · y) : Nat), H, I.tok _, ⟨s.toks, ?_⟩, q⟩
  have e := cnt rv fys
  show Value.int ((its.toArray.toList.countP (eqU y) : Nat) : Int) s.toks = _
  rw [show its.toArray.toList = its from rfl, e]
end
/-! ### the text of such a def -/
def mtIs1 (sc : Scope) (x : Str) : Expr → Option Str
  | .Call (.Name g _) [.Name y _, .Name c _] [] _ => if decide (g = "isinstance") && isGl sc "isinstance" && decide (y = x) && isGl sc c then some c else none
  | _ => none
def mtIsL (sc : Scope) (x : Str) : List Str → List Expr → Bool
  | [], [] => true
  | c :: cs, e :: es => decide (mtIs1 sc x e = some c) && mtIsL sc x cs es
  | _, _ => false
def mtOwn (m own : Str) : Expr → Bool
  | .Call (.Attribute (.Name o _) m' apos) [.Constant (.bool b) _ _] [] cpos => decide (o = own) && decide (m' = m) && b && (apos.endLine == cpos.line)
  | _ => false
def mtWhT (sc : Scope) (x own : Str) : List (List Str) → List Stmt → Bool
  | g :: gs, .Expr (.Call (.Attribute (.Name o _) m apos) [.List es _] [] cpos) _ :: r => decide (o = own) && decide (m = "extend") && (apos.endLine == cpos.line) && mtIsL sc x g es && decide (es.length ≤ 1000) && mtWhT sc x own gs r
  | [], [.If (.BoolOp .Or [.Compare c [.NotEq] [.Constant (.int k) _ _] _, .UnaryOp .Not t _] _) _ [] _, .Return (some (.Tuple [.Constant (.str z) _ _, d] _ _)) _] =>
    mtOwn "count" own c && decide (k = 1) && decide (mtIs1 sc x t = some "ValueError") && decide (z = "refused") && mtOwn "index" own d
  | _, _ => false
def mtWh (sc : Scope) (x own : Str) (g : List Str) (gs : List (List Str)) : List Stmt → Bool
  | .Assign [.Name o _] (.List es _) _ :: r => decide (o = own) && decide (sc.names.lookup own = some .local) && decide (sc.names.lookup x = some .local) && mtIsL sc x g es && decide (es.length ≤ 1000) && mtWhT sc x own gs r
  | _ => false
/-- what is known of the classes: k the exception's own -/
structure WhOk (X : Cx) (a D : Addr) (oe : Obj) (k : Str) : Prop where
  pin : (a, oe) ∈ X.pn
  cls : ExcC X.K D
  zc : Zc (.ref D) none oe
  fl : ∃ vs, oe.data = .fields vs
  isb : X.mg "isinstance" = none
  veb : X.mg "ValueError" = none
  ve : PySem.W.kitOne X.K (.ref D) (.type "ValueError") = some true
section
variable {X : Cx} {pos : Pos} {a D : Addr} {oe : Obj} {k x own : Str}
abbrev isV (k : Str) (cs : List Str) : List V := cs.map fun c => .bl (decide (c = k))
theorem wh_is1 (W : WhOk X a D oe k) {c : Str} {e : Expr} {v : V} {u : Value} {b : Bool} (h : mtIs1 X.env.scope x e = some c) (hx : ∀ p, PE X (.Name x p) (tVar 0)) (hv : ∀ p, PE X (.Name c p) (tC v)) (hu : ∀ z, RelV v z → z = u) (hk : PySem.W.kitOne X.K (.ref D) u = some b) :
    PE X e (fun σ H Q => σ[0]? = some (some (.ref a)) ∧ Q (.bl b) H) ∧ plainTest e = true ∧ noStar e = true := by
  unfold mtIs1 at h
  split at h
  · split at h
    · rename_i hc
      cases h
      simp only [Bool.and_eq_true, decide_eq_true_eq] at hc
      obtain ⟨⟨⟨rfl, hg⟩, rfl⟩, hgc⟩ := hc
      refine ⟨PE.weak (pe_callB (call_isP W.pin W.cls W.zc W.fl) (gl_of hg).1 W.isb rfl (pa_cons (hx _) (pa_cons (hv _) pa_nil rfl) rfl) (by decide) (gl_of hg).2 rfl rfl) fun σ H Q ⟨h0, q⟩ => ?_, rfl, rfl⟩
      exact ⟨.ref a, h0, v, u, b, rfl, hu, hk, q⟩
    · cases h
  · cases h
/-- a row of them -/
theorem wh_row (W : WhOk X a D oe k) (hx : ∀ p, PE X (.Name x p) (tVar 0)) : ∀ {cs : List Str} {es : List Expr}, mtIsL X.env.scope x cs es = true → (∀ c ∈ cs, ∃ C : Addr, X.mg c = some (.ref C) ∧ PySem.W.kitOne X.K (.ref D) (.ref C) = some (decide (c = k))) →
    PA X es (fun σ H Q => σ[0]? = some (some (.ref a)) ∧ Q (isV k cs) H) ∧ es.length = cs.length
  | [], [], _, _ => ⟨PA.weak pa_nil fun σ H Q q => q.2, rfl⟩
  | [], _ :: _, h, _ => by simp [mtIsL] at h
  | _ :: _, [], h, _ => by simp [mtIsL] at h
  | c :: cs, e :: es, h, hc => by
    simp only [mtIsL, Bool.and_eq_true, decide_eq_true_eq] at h
    obtain ⟨C, h1, h2⟩ := hc c List.mem_cons_self
    obtain ⟨i1, i2⟩ := wh_row W hx h.2 fun c' hc' => hc c' (List.mem_cons_of_mem _ hc')
    have hgl : isGl X.env.scope c = true := by
      have h0 := h.1
      unfold mtIs1 at h0
      split at h0
      · split at h0
        · rename_i hc
          cases h0
          simp only [Bool.and_eq_true] at hc
          exact hc.2
        · cases h0
      · cases h0
    obtain ⟨p1, _, p3⟩ := wh_is1 W h.1 hx (fun p => pe_glob (v := .ref C) (gl_of hgl).1 h1 rfl (gl_of hgl).2) (fun z hz => by cases hz; rfl) h2
    refine ⟨PA.weak (pa_cons p1 i1 (star_cons p3)) fun σ H Q ⟨h0, q⟩ => ⟨h0, h0, q⟩, by simp [i2]⟩
theorem isV_flat (k : Str) (cs : List Str) : (isV k cs).all flatV = true := by
  rw [List.all_eq_true]
  intro v hv
  obtain ⟨c, _, rfl⟩ := List.mem_map.mp hv
  rfl
theorem isV_count {k : Str} {cs : List Str} (hn : cs.Nodup) (hk : k ∈ cs) : (isV k cs).countP (eqV · (.bl true)) = 1 := by
  rw [List.countP_map]
  have e : ((fun v => eqV v (.bl true)) ∘ fun c => V.bl (decide (c = k))) = fun c => c == k := by
    funext c
    simp only [Function.comp, eqV]
    by_cases q : c = k <;> simp [q]
  rw [e]
  clear e
  induction cs with
  | nil => cases hk
  | cons c r ih =>
    obtain ⟨n1, n2⟩ := List.nodup_cons.mp hn
    rw [List.countP_cons]
    by_cases q : c = k
    · subst q
      have z : r.countP (fun d => d == c) = 0 := by
        rw [List.countP_eq_zero]
        intro d hd hdc
        exact n1 ((beq_iff_eq.mp hdc) ▸ hd)
      simp [z]
    · have hr : k ∈ r := by
        rcases List.mem_cons.mp hk with z | z
        · exact absurd z.symm q
        · exact z
      rw [ih n2 hr]
      simp [q]
theorem own_meth {m : Str} {e : Expr} (h : mtOwn m own e = true) : ∃ p apos cpos k1 p1, e = .Call (.Attribute (.Name own p) m apos) [.Constant (.bool true) k1 p1] [] cpos ∧ (apos.endLine == cpos.line) = true := by
  unfold mtOwn at h
  split at h
  · simp only [Bool.and_eq_true, decide_eq_true_eq] at h
    obtain ⟨⟨⟨rfl, rfl⟩, rfl⟩, h4⟩ := h
    exact ⟨_, _, _, _, _, rfl, h4⟩
  · cases h
theorem pss_false {sts : List Stmt} : PSs X sts (fun _ _ _ => False) := ⟨fun _ _ _ _ _ _ h => h.elim⟩
/-- the tail: the extends, the test, the answer -/
abbrev tTail (X : Cx) (a : Addr) (k : Str) (j : Nat) (gs : List (List Str)) : TS := fun D' σ H => ∃ (l : Addr) (done : List Str), σ[0]? = some (some (.ref a)) ∧ σ[1]? = some (some (.ref l)) ∧ H l = some (.lst (isV k done)) ∧ (done ++ gs.flatten).Nodup ∧ (done ++ gs.flatten)[j]? = some k ∧ (done ++ gs.flatten).length ≤ 1000 ∧
  ∀ p H', H p = none → (∀ b o, b ≠ l → H b = some o → H' b = some o) → H' p = some (.tup [.str "refused", .int (j : Nat)]) → D'.rt (.ref p) H'
theorem gl_is1 {sc : Scope} {c : Str} {e : Expr} (h : mtIs1 sc x e = some c) : isGl sc c = true := by
  unfold mtIs1 at h
  split at h
  · split at h
    · rename_i hc
      cases h
      simp only [Bool.and_eq_true] at hc
      exact hc.2
    · cases h
  · cases h
theorem wh_tail (W : WhOk X a D oe k) (hx : ∀ p, PE X (.Name x p) (tVar 0)) (ho : ∀ p, PE X (.Name own p) (tVar 1)) {j : Nat} {gs : List (List Str)} : ∀ {sts : List Stmt}, mtWhT X.env.scope x own gs sts = true → (∀ g ∈ gs, ∀ c ∈ g, ∃ C : Addr, X.mg c = some (.ref C) ∧ PySem.W.kitOne X.K (.ref D) (.ref C) = some (decide (c = k))) →
    PSs X sts (tTail X a k j gs) := by
  induction gs with
  | cons g gs ihg =>
    intro sts h hc
    unfold mtWhT at h
    split at h
    · rename_i g' gs' o p m apos es lp cpos ep r eg
      cases eg
      simp only [Bool.and_eq_true, decide_eq_true_eq] at h
      obtain ⟨⟨⟨⟨⟨rfl, rfl⟩, hl⟩, hes⟩, hlen⟩, hr⟩ := h
      obtain ⟨pa, el⟩ := wh_row W hx hes fun c hc' => hc g List.mem_cons_self c hc'
      have ih := ihg hr fun g' hg' => hc g' (List.mem_cons_of_mem _ hg')
      have pe := pe_bm (cpos := cpos) (apos := apos) PySem.F.plainAttrs_list PySem.F.slot_list_extend PySem.F.type_list_extend mt_extend (ho p) (pa_cons (pe_lst (pos := lp) pa) pa_nil rfl) rfl rfl hl rfl rfl
      refine PSs.weak (pss_cons (ps_expr pe rfl) ih) fun D' σ H ⟨l, done, h0, h1, hH, nd, gj, len, q⟩ => ?_
      have e : done ++ (g :: gs).flatten = (done ++ g) ++ gs.flatten := by rw [List.flatten_cons, List.append_assoc]
      rw [e] at nd gj len
      refine ⟨.ref l, h1, .inl ⟨rfl, _, SqL.of hH⟩, h0, ?_, fun p hp => ?_⟩
      · rw [List.length_map, ← el, sizeLine_eq]
        omega
      · have hpl : l ≠ p := ne_of_none hH hp
        have hlen2 : (isV k done).length + (isV k g).length ≤ sizeLine := by
          rw [List.length_map, List.length_map, sizeLine_eq]
          simp only [List.length_append] at len
          omega
        refine ⟨l, p, isV k done, isV k g, rfl, rfl, by rw [upd_ne hpl]; exact hH, upd_same, hlen2, l, done ++ g, h0, h1, by rw [upd_same]; simp [isV], nd, gj, len, fun p2 H' hp2 hk hp' => ?_⟩
        have n2 : p2 ≠ l := fun z => by rw [z, upd_same] at hp2; cases hp2
        rw [upd_ne n2] at hp2
        have n3 : p2 ≠ p := fun z => by rw [z, upd_same] at hp2; cases hp2
        rw [upd_ne n3] at hp2
        refine q p2 H' hp2 (fun b o hb hbo => hk b o hb ?_) hp'
        have nb : b ≠ p := ne_of_none hbo hp
        rw [upd_ne hb, upd_ne nb]
        exact hbo
    · rename_i eg
      cases eg
    · cases h
  | nil =>
    intro sts h hc
    unfold mtWhT at h
    split at h
    · rename_i eg
      cases eg
    · rename_i c k1 k2 p2 p3 t p4 p5 th p6 z k7 p7 d tk tp p8 eg
      simp only [Bool.and_eq_true, decide_eq_true_eq] at h
      obtain ⟨⟨⟨⟨h1, rfl⟩, h3⟩, rfl⟩, h5⟩ := h
      obtain ⟨p, apos, cpos, c1, c2, rfl, hl1⟩ := own_meth h1
      obtain ⟨p', apos', cpos', c1', c2', rfl, hl2⟩ := own_meth h5
      have hgl := gl_is1 h3
      obtain ⟨p1, pl, _⟩ := wh_is1 W h3 hx (fun p => pe_bltn (v := .ty "ValueError") (gl_of hgl).1 W.veb rfl rfl (by decide) (gl_of hgl).2) (fun z hz => hz) W.ve
      have pcount := pe_bm (cpos := cpos) (apos := apos) PySem.F.plainAttrs_list PySem.F.slot_list_count PySem.F.type_list_count (mt_countF (X := X)) (ho p) (pa_cons (pe_bl (j := c1) (pos := c2) (b := true)) pa_nil rfl) rfl rfl hl1 rfl rfl
      have pidx := pe_bm (cpos := cpos') (apos := apos') PySem.F.plainAttrs_list PySem.F.slot_list_index PySem.F.type_list_index (mt_index (X := X)) (ho p') (pa_cons (pe_bl (j := c1') (pos := c2') (b := true)) pa_nil rfl) rfl rfl hl2 rfl rfl
      have t1 := pt_cmpR (pos := p3) (op_ne (X := X)) pcount (pe_int (j := k2) (pos := p2) (i := 1)) (by rfl)
      have t2 := pt_not (pos := p4) (pt_truth p1 fun wh => test_no pl wh)
      have tt := (pw_or t1 (pw_or1 (pos := p5) t2)).pt
      refine PSs.weak (pss_cons (ps_if tt (pss_false (sts := th)) pss_nil) (pss_one (ps_ret (pe_tup (pa_cons (pe_str (j := k7) (pos := p7)) (pa_cons pidx pa_nil rfl) rfl))))) fun D' σ H ⟨l, done, s0, s1, hH, nd, gj, len, q⟩ => ?_
      rw [List.flatten_nil, List.append_nil] at nd gj len
      have hcn := isV_count nd (List.mem_of_getElem? gj)
      have hone : (isV k done)[j]? = some (.bl true) := by
        rw [List.getElem?_map, gj]
        simp
      have hno : ∀ (m : Nat) (z' : V), m < j → (isV k done)[m]? = some z' → eqV z' (.bl true) = false := fun m z' hm hz => by
        rw [List.getElem?_map] at hz
        obtain ⟨c, hc1, rfl⟩ := Option.map_eq_some_iff.mp hz
        have hck : c ≠ k := fun e => by
          subst e
          obtain ⟨q1, q2⟩ := List.getElem?_eq_some_iff.mp hc1
          obtain ⟨q3, q4⟩ := List.getElem?_eq_some_iff.mp gj
          have hp := List.pairwise_iff_getElem.mp nd m j q1 q3 hm
          exact hp (q2.trans q4.symm)
        simp [eqV, hck]
      refine ⟨.ref l, s1, .inl ⟨rfl, _, SqL.of hH⟩, l, isV k done, .bl true, rfl, rfl, SqL.of hH, rfl, isV_flat k done, ?_⟩
      rw [hcn]
      refine ⟨rfl, false, by simp, ?_⟩
      dsimp only
      rw [if_neg (by decide)]
      refine ⟨s0, true, rfl, ?_⟩
      dsimp only
      rw [if_neg (by decide)]
      refine ⟨.ref l, s1, .inl ⟨rfl, _, SqL.of hH⟩, l, isV k done, .bl true, j, .bl true, rfl, rfl, SqL.of hH, rfl, isV_flat k done, hone, rfl, hno, ?_⟩
      refine ⟨by rw [sizeLine_eq]; simp, fun p hp => q p _ hp (fun b o hb hbo => ?_) upd_same⟩
      rw [upd_ne (ne_of_none hbo hp)]
      exact hbo
    · cases h
/-- the whole def -/
theorem wh_body {N : List Str} (W : WhOk X a D oe k) (hN : X.N = [x, own]) (hxo : x ≠ own) (hd : x ≠ "__debug__" ∧ x ≠ "__classdict__" ∧ own ≠ "__debug__" ∧ own ≠ "__classdict__") {j : Nat} {g : List Str} {gs : List (List Str)} {sts : List Stmt} (h : mtWh X.env.scope x own g gs sts = true)
    (hc : ∀ c ∈ g ++ gs.flatten, ∃ C : Addr, X.mg c = some (.ref C) ∧ PySem.W.kitOne X.K (.ref D) (.ref C) = some (decide (c = k))) (nd : (g ++ gs.flatten).Nodup) (gj : (g ++ gs.flatten)[j]? = some k) (len : (g ++ gs.flatten).length ≤ 1000) :
    PSs X sts fun D' σ H => σ = [some (.ref a), none] ∧ ∀ p H', H p = none → Sub H H' → H' p = some (.tup [.str "refused", .int (j : Nat)]) → D'.rt (.ref p) H' := by
  unfold mtWh at h
  split at h
  · rename_i o px es lp ap r
    simp only [Bool.and_eq_true, decide_eq_true_eq] at h
    obtain ⟨⟨⟨⟨⟨ho, h1⟩, h2⟩, h3⟩, h4⟩, h5⟩ := h
    subst ho
    have hx : ∀ p, PE X (.Name x p) (tVar 0) := fun p => pe_var (by rw [hN]; rfl) (.inl h2) (beq_eq_false_iff_ne.mpr hd.1) (beq_eq_false_iff_ne.mpr hd.2.1)
    have hw : ∀ p, PE X (.Name o p) (tVar 1) := fun p => pe_var (by rw [hN]; rfl) (.inl h1) (beq_eq_false_iff_ne.mpr hd.2.2.1) (beq_eq_false_iff_ne.mpr hd.2.2.2)
    obtain ⟨pa, el⟩ := wh_row W hx h3 fun c hc' => hc c (List.mem_append_left _ hc')
    have tail := wh_tail W hx hw (j := j) h5 fun g' hg' c hc' => hc c (List.mem_append_right _ (List.mem_flatten.mpr ⟨g', hg', hc'⟩))
    have hnd : X.N.Nodup := by rw [hN]; simp [hxo]
    refine PSs.weak (pss_cons (ps_set (i := 1) (x := o) hnd (by rw [hN]; rfl) (.inl h1) (pe_lst pa) (by rfl) (.inr h1)) tail) fun D' σ H ⟨hs, q⟩ => ?_
    subst hs
    refine ⟨rfl, ?_, fun p hp => ⟨p, g, rfl, rfl, upd_same, nd, gj, len, fun p2 H' hp2 hk hp' => ?_⟩⟩
    · rw [List.length_map, ← el, sizeLine_eq]
      omega
    · have n2 : p2 ≠ p := fun z => by rw [z, upd_same] at hp2; cases hp2
      rw [upd_ne n2] at hp2
      refine q p2 H' hp2 (fun b u hbu => hk b u (ne_of_none hbu hp) ?_) hp'
      rw [upd_ne (ne_of_none hbu hp)]
      exact hbu
  · cases h
end
end G6
-- ## Sound5
/-! # Sound5: statements -/
namespace G6
open PySem PySem.Spec PyProof.Rows L2
section
variable {T : Tab} {Φ : Fenv} {n : Nat} {X : Cx} {W : WX} {B : ASet} {pos : Pos}
/-- the context of a def's body -/
structure FxOk (T : Tab) (Φ : Fenv) (n : Nat) (X : Cx) (W : WX) : Prop extends CxOk T Φ n X W where
  kind : X.env.scope.kind = .function
  fnk : ∀ x, X.env.scope.names.lookup x = some .cell → X.fn x = true
  stk : X.stack = X.env :: X.outer
  frm : X.env.frame = some X.env.locals
theorem FxOk.tr (fx : FxOk T Φ n X W) {W' : WX} {pn : List (Addr × Obj)} {xe : Value → Shared → Prop} (tk : Takes (X.tr pn xe) W') (po : PassesOwn (model X.prog X.w) X.A X.env xe) : FxOk T Φ n (X.tr pn xe) W' :=
  ⟨⟨fx.calm, fx.nd, fx.room, tk, po, fx.fns, fx.fno, fx.csts, fx.blt, fx.excs, fx.whs⟩, fx.kind, fx.fnk, fx.stk, fx.frm⟩
/-- a plain slot gets what is forgotten -/
theorem Step.junk {K : PySem.W.Frag} {mg : Str → Option Value} {σ : St} {H : Hp} {ρ : Rho} (r : Rep K mg B σ H ρ) {i : Nat} (hp : plainAt ρ i = true) (x : Option V) : Step K mg B σ H ρ (σ.set i x) H (ρ.set i .un) := by
  have less : ∀ y, Hs B (σ.set i x) (ρ.set i .un) y → Hs B σ ρ y := fun y z => by
    rcases z with z | ⟨j, d, m, h⟩
    · exact .inl z
    · obtain ⟨n, m⟩ := mut_set rfl m
      rw [List.getElem?_set_ne (Ne.symm n)] at h
      exact .inr ⟨j, d, m, h⟩
  have own : ∀ y, Own (σ.set i x) (ρ.set i .un) y → Own σ ρ y := fun y ⟨j, d, m, h⟩ => by
    obtain ⟨n, m⟩ := mut_set rfl m
    rw [List.getElem?_set_ne (Ne.symm n)] at h
    exact ⟨j, d, m, h⟩
  refine ⟨fun _ _ e _ => e, fun y z => .inl (own y z), fun j d e => ?_, ?_⟩
  · have n : j ≠ i := fun z => by
      subst z
      unfold plainAt at hp
      rw [e] at hp; cases hp
    rw [List.getElem?_set_ne (Ne.symm n), List.getElem?_set_ne (Ne.symm n)]
    exact ⟨rfl, d, e⟩
  · refine ⟨by rw [List.length_set, List.length_set]; exact r.len, fun j d e => ?_, fun j d e => ?_, fun j y e => ?_, fun j k d e y m1 m2 h1 h2 => ?_, r.dom⟩
    · rcases set_get e with ⟨_, e2⟩ | ⟨n, e2⟩
      · cases e2
      · obtain ⟨w, h1, h2⟩ := r.val j d e2
        exact ⟨w, by rw [List.getElem?_set_ne (Ne.symm n)]; exact h1, Dp_sub (Sub.less less) d h2⟩
    · obtain ⟨n, e⟩ := mut_set rfl e
      obtain ⟨b, h1, h2, h3⟩ := r.cel j d e
      exact ⟨b, by rw [List.getElem?_set_ne (Ne.symm n)]; exact h1, h2.stay (fun _ z => z) (Sub.less less), h3⟩
    · rcases set_get e with ⟨_, e2⟩ | ⟨n, e2⟩
      · cases e2
      · obtain ⟨f, h1, h2⟩ := r.fnc j y e2
        exact ⟨f, by rw [List.getElem?_set_ne (Ne.symm n)]; exact h1, h2⟩
    · obtain ⟨n1, m1⟩ := mut_set rfl m1
      obtain ⟨n2, m2⟩ := mut_set rfl m2
      rw [List.getElem?_set_ne (Ne.symm n1)] at h1
      rw [List.getElem?_set_ne (Ne.symm n2)] at h2
      exact r.inj j k d e y m1 m2 h1 h2
theorem stOk_ok (fk : ∀ x, X.env.scope.names.lookup x = some .cell → X.fn x = true) {i : Nat} {x : Str} (h : stOk X.env.scope X.N i x = true) : X.N[i]? = some x ∧ Loc X.env.scope x ∧ (X.fn x = true ∨ X.env.scope.names.lookup x = some .local) := by
  unfold stOk at h
  simp only [Bool.and_eq_true, decide_eq_true_eq] at h
  obtain ⟨h1, h2⟩ := h
  unfold ownKind at h2
  split at h2
  · rename_i e; exact ⟨h1, .inl e, .inr e⟩
  · rename_i e; exact ⟨h1, .inr e, .inl (fk x e)⟩
  · cases h2
theorem swaps_name {env : Env} (hk : env.scope.kind = .function) {e : Expr} {x : Str} {px : Pos} {l : Nat} (hn : notSetDict e = true) (h : swB env.scope x px e = false) : swapsWith e (some (.Name x px)) l env = pure false := by
  have hb : env.blockKind = .function := by unfold Env.blockKind; rw [hk]; rfl
  cases e <;> first | (cases hn; done) | rfl | skip
  rename_i elt gs scope pos
  unfold swB at h
  dsimp only at h
  unfold swapsWith
  simp only [hb, Expr.pos]
  show pure _ = pure false
  congr 1
  have ek : env.kindOf x = env.scope.names.lookup x := rfl
  rw [ek]
  cases hl : (px.line == pos.line) with
  | false => simp
  | true =>
    cases ha : (scope.names.any fun (n, k) => n == x && (k == .local || k == .cell)) with
    | true => simp
    | false =>
      rw [hl, ha] at h
      simp only [Bool.and_true, Bool.not_false, decide_eq_false_iff_not] at h
      have hq : (List.lookup x env.scope.names == some NameKind.local) = false := by
        cases hq : List.lookup x env.scope.names with
        | none => rfl
        | some k =>
          rw [hq] at h
          cases k <;> first | rfl | exact absurd rfl h
      simp [hq]
theorem asg_name (fx : FxOk T Φ n X W) {i : Nat} {x : Str} {px : Pos} {e : Expr} (hs : stOk X.env.scope X.N i x = true) (hn : notSetDict e = true) (hw : swB X.env.scope x px e = false) (t : TE) (h : PE X e t) : PS X (.Assign [.Name x px] e pos) (tAsg t (gName i)) := by
  obtain ⟨h1, h2, h3⟩ := stOk_ok fx.fnk hs
  exact ps_set fx.nd h1 h2 h (swaps_name fx.kind hn hw) h3
/-- name = [..] -/
theorem asg_lc (sr : SRs) (fx : FxOk T Φ n X W) {i : Nat} {x : Str} {px : Pos} {e : Expr} {celt : E} {tg : List Nat} {src : Src} {cond : Eo} (hs : stOk X.env.scope X.N i x = true) (hn : notSetDict e = true) (m : mtE T X.N (.lc celt tg src cond) X.env.scope e = true) :
    PS X (.Assign [.Name x px] e pos) (tAsg (tEFX X B W (den Φ (.lc celt tg src cond))) (gName i)) := by
  cases hw : swB X.env.scope x px e with
  | false => exact asg_name fx hs hn hw _ (snd_lc (sndE sr T Φ n celt).1 (sndS sr T Φ n src) (sndO sr T Φ n cond) fx.toCxOk m).1
  | true =>
    obtain ⟨y, tgt, iter, ifs, scope, lpos, own, g, tt, te, rfl, e1, h1, h2, h3, h4, h5, h6, h7, h8, h9⟩ := lc_parts (B := B) (sndE sr T Φ n celt).1 (sndS sr T Φ n src) (sndO sr T Φ n cond) fx.toCxOk m
    subst e1 h8 h9
    unfold swB at hw
    simp only [Bool.and_eq_true, decide_eq_true_eq, Bool.not_eq_true'] at hw
    obtain ⟨⟨w1, w2⟩, w3⟩ := hw
    refine f_lc (Y := fun t => PS X (.Assign [.Name x px] (.ListComp y [⟨tgt, iter, ifs, 0⟩] scope lpos) pos) (tAsg t (gName i))) h1 (fun te e => ?_) (fun t t' p w => PS.weak p fun D σ H q => w σ H _ q)
    subst e
    exact ps_setLc fx.calm fx.nd (stOk_ok fx.fnk hs).1 w1 (sw_true fx.kind w1 w2 w3) h2 h3 h4 h5 h6 h7
theorem plain_lt {ρ : Rho} {i : Nat} (h : plainAt ρ i = true) : i < ρ.length := by
  unfold plainAt at h
  cases e : ρ[i]? with
  | none => rw [e] at h; cases h
  | some s => exact (List.getElem?_eq_some_iff.mp e).1
def GSt (T : Tab) (Φ : Fenv) (n : Nat) (c : S) : Prop := ∀ (X : Cx) (W : WX) (B : ASet) (st : Stmt), FxOk T Φ n X W → mtS T X.N c X.env.scope st = true → PS X st (tSX X B W (exS Φ c))
def GSs (T : Tab) (Φ : Fenv) (n : Nat) (c : Ss) : Prop := ∀ (X : Cx) (W : WX) (B : ASet) (sts : List Stmt), FxOk T Φ n X W → mtSs T X.N c X.env.scope sts = true → PSs X sts (tSX X B W (exSs Φ c))
theorem or_not {a b : Bool} (h : (!a || b) = true) : a = false ∨ b = true := by
  cases a <;> cases b <;> simp_all
theorem st_set (sr : SRs) {i : Nat} {c : E} : GSt T Φ n (.set i c) := fun X W B st fx m => by
  unfold mtS at m
  split at m
  · simp only [Bool.and_eq_true] at m
    obtain ⟨⟨⟨m1, m2⟩, m3⟩, m4⟩ := m
    rcases or_not m4 with h | h
    · exact ss_set ((sndE sr T Φ n c).1 X W B _ fx.toCxOk m2) fun t p => asg_name fx m1 m3 h t p
    · cases c <;> first | (cases h; done) | skip
      exact ss_set' (PS.weak (asg_lc sr fx m1 m3 m2) fun D σ H q => f_plain_w lc_list σ H _ q)
  · cases m
theorem st_setm (sr : SRs) {i : Nat} {c : E} : GSt T Φ n (.setm i c) := fun X W B st fx m => by
  unfold mtS at m
  split at m
  · simp only [Bool.and_eq_true] at m
    obtain ⟨⟨⟨⟨m1, m2⟩, m3⟩, m4⟩, m5⟩ := m
    cases c <;> first | (cases m5; done) | skip
    · rename_i es _ _ _ _ _
      rcases or_not m4 with h | h
      · refine ss_setm ?_ fun t p => asg_name fx m1 m3 h t p
        unfold mtE at m2
        split at m2
        · simp only [Bool.and_eq_true, decide_eq_true_eq] at m2
          exact f_lst (sndEs sr T Φ n _ X W B _ fx.toCxOk m2.1) (by have := m2.2; rw [sizeLine_eq]; omega) fun ρ ps ρ1 e => by rw [dens_len e, mtEs_len m2.1]
        · cases m2
      · cases h
    · rename_i o a
      cases o <;> first | (cases m5; done) | skip
      rcases or_not m4 with h | h
      · unfold mtE at m2
        split at m2
        · rename_i x hx
          simp only [Bool.and_eq_true] at m2
          obtain ⟨p, pos, rfl, g⟩ := mtCall_eq hx
          obtain ⟨g1, g2, _⟩ := fx.glb (by decide) g
          exact ss_setm (f_listOf ((sndE sr T Φ n a).1 X W B _ fx.toCxOk m2.2) g1 g2 (star_cons m2.1) fx.calm) fun t p => asg_name fx m1 m3 h t p
        · cases m2
      · cases h
    · exact ss_setm' (asg_lc sr fx m1 m3 m2)
  · cases m
theorem st_dnew {i : Nat} {tk : Bool} : GSt T Φ n (.dnew i tk) := fun X W B st fx m => by
  unfold mtS at m
  split at m
  · cases tk with
    | false => exact ss_dnewK fun t p => asg_name fx m rfl rfl t p
    | true => exact ss_dnewT fun t p => asg_name fx m rfl rfl t p
  · cases m
theorem names_pgs (fx : FxOk T Φ n X W) : ∀ {is : List Nat} {es : List Expr}, mtNames X.env.scope X.N is es = true → PGs X es (gNs is) ∧ (assignEach es X.env).length = is.length ∧ (assignEach es X.env).findIdx? (·.1) = none
  | [], [], _ => ⟨pgs_nil, rfl, rfl⟩
  | [], _ :: _, h => by simp [mtNames] at h
  | _ :: _, [], h => by simp [mtNames] at h
  | i :: is, e :: es, h => by
    cases e <;> first | (simp [mtNames] at h; done) | skip
    simp only [mtNames, Bool.and_eq_true] at h
    obtain ⟨h1, h2, h3⟩ := stOk_ok fx.fnk h.1
    obtain ⟨i1, i2, i3⟩ := names_pgs fx h.2
    refine ⟨pgs_cons (pg_name fx.nd h1 h2 h3) i1, ?_, ?_⟩
    · show (assignEach es X.env).length + 1 = _
      rw [i2]; rfl
    · show List.findIdx? _ ((false, _) :: assignEach es X.env) = none
      rw [List.findIdx?_cons, i3]
      rfl
theorem stores_none {env : Env} {es : List Expr} {k : Nat} {p : Pos} {e : Expr} (h : notTup e = true) : swappedStores [.Tuple es k p] e env = pure none := by
  cases e <;> first | (cases h; done) | rfl
theorem swaps_sole {env : Env} {tg e : Expr} {l : Nat} (h : notComp e = true) : swapsWithSole [tg] e l env = pure false := by
  unfold swapsWithSole
  exact swaps_no h
theorem st_unp (sr : SRs) {is : List Nat} {c : E} : GSt T Φ n (.unp is c) := fun X W B st fx m => by
  unfold mtS at m
  split at m
  · simp only [Bool.and_eq_true] at m
    obtain ⟨⟨⟨m1, m2⟩, m3⟩, m4⟩ := m
    obtain ⟨h1, h2, h3⟩ := names_pgs fx m1
    exact ss_unp (tg := .Name "" ⟨0, 0, 0, 0⟩) ((sndE sr T Φ n c).1 X W B _ fx.toCxOk m2) fun t p => ps_asg p (pg_tup fx.calm h1 h2 h3) (swaps_sole m3) (stores_none m4)
  · cases m
theorem st_par (sr : SRs) {is : List Nat} {cs : Es} : GSt T Φ n (.par is cs) := fun X W B st fx m => by
  unfold mtS at m
  split at m
  · split at m
    · rename_i i j st' x px y py kt pt a b k2 pt2 pos
      simp only [Bool.and_eq_true, decide_eq_true_eq, Bool.not_eq_true'] at m
      obtain ⟨⟨⟨⟨⟨⟨⟨⟨⟨m1, m2⟩, m3⟩, m4⟩, m5⟩, m6⟩, m7⟩, m8⟩, m9⟩, m10⟩ := m
      have hE := sndEs sr T Φ n cs X W B _ fx.toCxOk m8
      have hsw : swappedStores [.Tuple [.Name x px, .Name y py] kt pt] (.Tuple [a, b] k2 pt2) X.env = pure (some [x, y]) := by
        have hb : X.env.blockKind = .function := by unfold Env.blockKind; rw [fx.kind]; rfl
        have kx : X.env.kindOf x = some .local := m4
        have ky : X.env.kindOf y = some .local := m5
        cases cs with
        | nil => simp [mtEs] at m8
        | cons c1 cs =>
          cases cs with
          | nil => simp [mtEs] at m8
          | cons c2 cs =>
            simp only [mtEs, Bool.and_eq_true] at m8
            obtain ⟨⟨n1, _⟩, ⟨n2, _⟩, _⟩ := m8
            have kd : [x, y].eraseDups.length = 2 := by
              have hxy : (y == x) = false := beq_eq_false_iff_ne.mpr (Ne.symm m6)
              simp [List.eraseDups, List.eraseDupsBy, List.eraseDupsBy.loop, hxy]
            unfold swappedStores
            simp only [List.length_cons, List.length_nil, hb]
            rw [if_neg (by decide), if_neg (by
              intro h
              simp only [List.any_cons, List.any_nil, Bool.or_eq_true] at h
              rcases h with h | h | h
              · cases a <;> first | (cases n1; done) | cases h
              · cases b <;> first | (cases n2; done) | cases h
              · cases h)]
            simp only [List.filterMap_cons, List.filterMap_nil, kx, ky, List.head?_cons, Option.map_some, Option.getD_some, Expr.pos, beq_self_eq_true, m7, Bool.and_true, if_true, List.length_cons, List.length_nil, kd, m9, m10]
            rfl
      cases cs with
      | nil => simp [mtEs] at m8
      | cons c1 cs =>
        cases cs with
        | nil => simp [mtEs] at m8
        | cons c2 cs =>
          cases cs with
          | cons c3 cs => simp [mtEs] at m8
          | nil => exact ss_par2 m1 hE fun t p => ps_par fx.calm fx.nd m2 m3 m1 m4 m5 p hsw rfl
    · cases m
  · cases m
theorem par_ok (fx : FxOk T Φ n X W) {i j : Nat} {st : Stmt} {a b : Expr} (h : mtPar X.env.scope X.N i j st = some (a, b)) : (∀ t, PA X [a, b] t → PS X st (tPar i j t)) ∧ noStar a = true ∧ noStar b = true := by
  unfold mtPar at h
  split at h
  · split at h
    · rename_i x px y py kt pt a' b' k2 pt2 pos hc
      cases h
      simp only [Bool.and_eq_true, decide_eq_true_eq, Bool.not_eq_true'] at hc
      obtain ⟨⟨⟨⟨⟨⟨⟨⟨⟨⟨m1, m2⟩, m3⟩, m4⟩, m5⟩, m6⟩, m7⟩, n1⟩, n2⟩, m9⟩, m10⟩ := hc
      have hsw : swappedStores [.Tuple [.Name x px, .Name y py] kt pt] (.Tuple [a, b] k2 pt2) X.env = pure (some [x, y]) := by
        have hb : X.env.blockKind = .function := by unfold Env.blockKind; rw [fx.kind]; rfl
        have kx : X.env.kindOf x = some .local := m4
        have ky : X.env.kindOf y = some .local := m5
        have kd : [x, y].eraseDups.length = 2 := by
          have hxy : (y == x) = false := beq_eq_false_iff_ne.mpr (Ne.symm m6)
          simp [List.eraseDups, List.eraseDupsBy, List.eraseDupsBy.loop, hxy]
        unfold swappedStores
        simp only [List.length_cons, List.length_nil, hb]
        rw [if_neg (by decide), if_neg (by
          intro h
          simp only [List.any_cons, List.any_nil, Bool.or_eq_true] at h
          rcases h with h | h | h
          · cases a <;> first | (cases n1; done) | cases h
          · cases b <;> first | (cases n2; done) | cases h
          · cases h)]
        simp only [List.filterMap_cons, List.filterMap_nil, kx, ky, List.head?_cons, Option.map_some, Option.getD_some, Expr.pos, beq_self_eq_true, m7, Bool.and_true, if_true, List.length_cons, List.length_nil, kd, m9, m10]
        rfl
      exact ⟨fun t p => ps_par fx.calm fx.nd m2 m3 m1 m4 m5 p hsw rfl, n1, n2⟩
    · cases h
  · cases h
theorem st_parmm {i j : Nat} {xs ys : List PyData} : GSt T Φ n (.parmm i j xs ys) := fun X W B st fx m => by
  unfold mtS at m
  split at m
  · rename_i a b hp
    simp only [Bool.and_eq_true] at m
    obtain ⟨h1, h2, h3⟩ := par_ok fx hp
    exact ss_parmm m.1 m.2 (fun es => star_cons h2) (star_cons h3) h1
  · cases m
theorem st_parvm (sr : SRs) {i j : Nat} {c : E} {ys : List PyData} : GSt T Φ n (.parvm i j c ys) := fun X W B st fx m => by
  unfold mtS at m
  split at m
  · rename_i a b hp
    simp only [Bool.and_eq_true] at m
    obtain ⟨h1, h2, h3⟩ := par_ok fx hp
    exact ss_parvm ((sndE sr T Φ n c).1 X W B _ fx.toCxOk m.1) m.2 (fun es => star_cons h2) (star_cons h3) h1
  · cases m
theorem par3_ok (fx : FxOk T Φ n X W) {i j l : Nat} {st : Stmt} {es : List Expr} (h : mtPar3 X.env.scope X.N i j l st = some es) : es.length = 3 ∧ ∀ t, PA X es t → PS X st (tPar3 i j l t) := by
  unfold mtPar3 at h
  split at h
  · split at h
    · rename_i x px y py z pz kt pt a b c k2 pt2 pos hc
      cases h
      simp only [Bool.and_eq_true, decide_eq_true_eq, Bool.not_eq_true'] at hc
      obtain ⟨⟨⟨⟨⟨⟨⟨⟨⟨⟨⟨⟨⟨⟨⟨⟨⟨⟨m1, m2⟩, m3⟩, m4⟩, m5⟩, m6⟩, m7⟩, m8⟩, m9⟩, m10⟩, m11⟩, m12⟩, m13⟩, m14⟩, n1⟩, n2⟩, n3⟩, m15⟩, m16⟩ := hc
      have hsw : swappedStores [.Tuple [.Name x px, .Name y py, .Name z pz] kt pt] (.Tuple [a, b, c] k2 pt2) X.env = pure (some [x, y, z]) := by
        have hb : X.env.blockKind = .function := by unfold Env.blockKind; rw [fx.kind]; rfl
        have kx : X.env.kindOf x = some .local := m7
        have ky : X.env.kindOf y = some .local := m8
        have kz : X.env.kindOf z = some .local := m9
        have kd : [x, y, z].eraseDups.length = 3 := by
          have hxy : (y == x) = false := beq_eq_false_iff_ne.mpr (Ne.symm m10)
          have hxz : (z == x) = false := beq_eq_false_iff_ne.mpr (Ne.symm m11)
          have hyz : (z == y) = false := beq_eq_false_iff_ne.mpr (Ne.symm m12)
          simp [List.eraseDups, List.eraseDupsBy, List.eraseDupsBy.loop, hxy, hxz, hyz]
        unfold swappedStores
        simp only [List.length_cons, List.length_nil, hb]
        rw [if_neg (by decide), if_neg (by
          intro h
          simp only [List.any_cons, List.any_nil, Bool.or_eq_true] at h
          rcases h with h | h | h | h
          · cases a <;> first | (cases n1; done) | cases h
          · cases b <;> first | (cases n2; done) | cases h
          · cases c <;> first | (cases n3; done) | cases h
          · cases h)]
        simp only [List.filterMap_cons, List.filterMap_nil, kx, ky, kz, List.head?_cons, Option.map_some, Option.getD_some, Expr.pos, beq_self_eq_true, m13, m14, Bool.and_true, if_true, List.length_cons, List.length_nil, kd, m15, m16]
        rfl
      exact ⟨rfl, fun t p => ps_par3 fx.calm fx.nd m4 m5 m6 m1 m2 m3 m7 m8 m9 p hsw rfl⟩
    · cases h
  · cases h
theorem st_par3 (sr : SRs) {i j l : Nat} {cs : Es} : GSt T Φ n (.par3 i j l cs) := fun X W B st fx m => by
  unfold mtS at m
  split at m
  · rename_i es hp
    obtain ⟨_, h2⟩ := par3_ok fx hp
    refine PS.weak (h2 _ (sndEs sr T Φ n cs X W B _ fx.toCxOk m)) fun D σ H ⟨ρ, r, q⟩ => ?_
    simp only [exS] at q
    refine ⟨ρ, r, (FlOk.expr q).mono fun vs H1 ⟨ps, ρ1, _, st1, rp, q1⟩ => ?_⟩
    cases e1 : alls ps with
    | none => rw [e1] at q1; exact q1.elim
    | some ds =>
      rw [e1] at q1
      have hd := repPs_alls rp e1
      dsimp only at q1
      cases e2 : putsV ρ1 [i, j, l] ds with
      | none => rw [e2] at q1; exact q1.elim
      | some ρ2 =>
        rw [e2] at q1
        have := puts_ok (Q := fun σ' H' => D.nx σ' H') st1.rep hd e2 fun σ' s => q1 _ _ s
        obtain ⟨v, r1, ev, w, r2, ew, u, r3, eu, en, qn⟩ := this
        subst ev ew eu
        cases en
        exact ⟨v, w, u, rfl, qn⟩
  · cases m
theorem swaps_tup {env : Env} {e : Expr} {es : List Expr} {k : Nat} {p : Pos} {l : Nat} : swapsWithSole [.Tuple es k p] e l env = pure false := by
  unfold swapsWithSole
  cases e <;> rfl
theorem st_unpl (sr : SRs) {is : List Nat} {c : E} : GSt T Φ n (.unpl is c) := fun X W B st fx m => by
  unfold mtS at m
  split at m
  · simp only [Bool.and_eq_true] at m
    obtain ⟨⟨⟨m1, m2⟩, m3⟩, m4⟩ := m
    obtain ⟨h1, h2, h3⟩ := names_pgs fx m1
    refine PS.weak (ps_asg ((sndE sr T Φ n c).1 X W B _ fx.toCxOk m2) (pg_lst fx.calm h1 h2 h3) swaps_tup (stores_none m3)) fun D σ H ⟨ρ, r, q⟩ => ?_
    simp only [exS] at q
    refine ⟨ρ, r, (FlOk.dat q).mono fun v H1 ⟨d, ρ1, st, dp, q1⟩ => ?_⟩
    cases d with
    | list ds =>
      dsimp only at q1
      cases e1 : putsV ρ1 is ds with
      | none => rw [e1] at q1; exact q1.elim
      | some ρ2 =>
        rw [e1] at q1
        cases dp with
        | lst h1 h2 => exact ⟨_, _, rfl, SqL_sub (Sub.hid _) h1, by rw [DpAll_length h2, putsV_len e1], puts_ok st.rep h2 e1 fun σ' s => q1 _ _ s⟩
    | _ => exact q1.elim
  · cases m
theorem filt_lt {α β : Type} {f : α → Option β} : ∀ {l : List α} {a : α}, a ∈ l → f a = none → (l.filterMap f).length < l.length
  | x :: r, a, h, hn => by
    rcases List.mem_cons.mp h with e | e
    · subst e
      rw [List.filterMap_cons, hn]
      have := List.length_filterMap_le f r
      simp only [List.length_cons]
      omega
    · have ih := filt_lt (l := r) e hn
      rw [List.filterMap_cons]
      split
      · simp only [List.length_cons]; omega
      · simp only [List.length_cons]; omega
theorem stores_cell {env : Env} {es vs : List Expr} {k k2 : Nat} {p p2 : Pos} (h : es.any (notLoc env.scope) = true) : swappedStores [.Tuple es k p] (.Tuple vs k2 p2) env = pure none := by
  obtain ⟨e, he, hn⟩ := List.any_eq_true.mp h
  unfold swappedStores
  dsimp only
  split
  · rfl
  · split
    · rfl
    · split
      · rfl
      · rename_i hc
        exfalso
        apply hc
        rw [Bool.or_eq_true]
        refine .inl ?_
        have hlt := filt_lt (f := fun x => match x with
          | .Name id pos => if env.kindOf id == some .local && pos.line == (es.head?.map (·.pos.line)).getD 0 then some id else none
          | _ => none) he (by
            cases e <;> first | (cases hn; done) | skip
            rename_i x px
            have hx : env.kindOf x ≠ some .local := of_decide_eq_true hn
            have : (env.kindOf x == some .local) = false := by
              cases hk : env.kindOf x with
              | none => rfl
              | some kk =>
                rw [hk] at hx
                cases kk <;> first | rfl | exact absurd rfl hx
            simp [this])
        rw [bne_iff_ne]
        exact Nat.ne_of_lt hlt
theorem st_parc (sr : SRs) {is : List Nat} {cs : Es} : GSt T Φ n (.parc is cs) := fun X W B st fx m => by
  unfold mtS at m
  split at m
  · simp only [Bool.and_eq_true, decide_eq_true_eq] at m
    obtain ⟨⟨⟨m1, m2⟩, m3⟩, m4⟩ := m
    obtain ⟨h1, h2, h3⟩ := names_pgs fx m1
    have e : exS Φ (.parc is cs) = exS Φ (.par is cs) := funext fun ρ => by simp only [exS]
    rw [e]
    exact ss_par (sndEs sr T Φ n cs X W B _ fx.toCxOk m2) (by rw [sizeLine_eq]; omega) (fun ρ ps ρ1 e => by rw [dens_len e, mtEs_len m2]) fun t p => ps_asg p (pg_tup fx.calm h1 h2 h3) swaps_tup (stores_cell m3)
  · cases m
/-! ### try .. except C as e: return f(e) -/
theorem st_tryw {body : Ss} {c f : Str} {i : Nat} {tab : List (Str × Int)} (hbody : GSs T Φ n body) : GSt T Φ n (.tryw body c i f tab) := fun X W B st fx m => by
  unfold mtS at m
  split at m
  · rename_i b hb
    unfold mtTry at hb
    split at hb
    · split at hb
      · rename_i x np n' g gp m' mp cp rp hp tp hc
        cases hb
        simp only [Bool.and_eq_true, decide_eq_true_eq] at hc
        obtain ⟨⟨⟨⟨⟨⟨⟨⟨⟨rfl, c2⟩, c3⟩, c4⟩, rfl⟩, c6⟩, c7⟩, rfl⟩, c9⟩, c10⟩ := hc
        obtain ⟨C, fa, fd, ps, w1, w2, w3, w4, w5, w6⟩ := fx.whs _ _ _ c10
        have key := ps_try_as (X := X) (i := i) (pos := tp) (pos' := hp) (np := np) (Wout := W) (c := .ref C) (tb := fun W' => tSX X B W' (exSs Φ body)) (body := b) (ts := fun ea cls d D σ H => ∃ (k : Str) (j : Int) (Dk : Addr), d = none ∧ cls = .ref Dk ∧ tab.lookup k = some j ∧ X.mg k = some (.ref Dk) ∧ σ[i]? = some (some (.ref ea)) ∧ ∀ q H', H q = none → Sub H H' → H' q = some (.tup [.str "refused", .int j]) → D.rt (.ref q) H')
          fx.stk fx.frm fx.nd c3 c4 ⟨(gl_of c2).1, (gl_of c2).2, .inl w1⟩ fx.tk (fun W' pn xe tk po => hbody (X.tr pn xe) W' B b (fx.tr tk po) m) (b₀ := .Return (some (.Call (.Name g gp) [.Name m' mp] [] cp)) rp) (suite := []) (fun ea oe cls d pn zc fl => ⟨fun pins s σ H D I h => by
            obtain ⟨k, j, Dk, rfl, rfl, hl, hk, hi, q⟩ := h
            obtain ⟨D', g1, _, g3⟩ := w6 k j hl
            rw [hk] at g1
            cases g1
            have room : L2H.RoomH 0 (X.suite ea ((ea, oe) :: pn)).A := ⟨by have := fx.room.dp; show X.A.depth + _ < _; omega, by have := fx.room.un; show X.A.units + _ < _; omega⟩
            have pe := pe_callP (X := X.suite ea ((ea, oe) :: pn)) (pos := cp) (p := gp) (p2 := mp) (i := i) (n := m') List.mem_cons_self zc fl g3 room (gl_of c9) w2 w3 w4 w5 (pe_var c3 (.inl c4) (beq_eq_false_iff_ne.mpr c6) (beq_eq_false_iff_ne.mpr c7))
            exact (pss_one (ps_ret (pos := rp) pe)).run pins s σ H D I ⟨hi, q⟩⟩)
        refine PS.weak key fun D σ H ⟨ρ, r, q⟩ => ⟨ρ, r, ?_⟩
        simp only [exS] at q
        cases e : exSs Φ body ρ with
        | nx ρ' => rw [e] at q; exact q
        | rt d ρ' => rw [e] at q; exact q
        | br ρ' => rw [e] at q; exact q
        | ct ρ' => rw [e] at q; exact q
        | bad => rw [e] at q; exact q
        | ex k ρ' =>
          rw [e] at q
          dsimp only at q
          cases el : tab.lookup k with
          | none => rw [el] at q; exact q.elim
          | some j =>
            rw [el] at q
            dsimp only at q
            split at q
            · rename_i hpl
              intro u σ' H' hu st
              obtain ⟨Dk, g1, g2, g3⟩ := w6 k j el
              rw [g1] at hu
              cases hu
              have hlt : i < σ'.length := by rw [← st.rep.len]; exact plain_lt hpl
              refine ⟨true, g2, fun _ ea hea => ⟨k, j, Dk, rfl, rfl, el, g1, List.getElem?_set_self hlt, fun p H2 hp2 hs ht => ?_⟩, fun z => by cases z⟩
              have st2 := st.trans (Step.junk st.rep hpl (some (.ref ea)))
              have st3 := st2.trans (Step.ext st2.rep hs)
              refine q (.ref p) _ H2 st3 (.tup (.inl ⟨rfl, Hid_iff.mpr ⟨ht, ?_⟩⟩) (.cons (.str _) (.cons (.int _) .nil)))
              exact st2.rep.fresh hp2
            · exact q.elim
      · cases hb
    · cases hb
  · cases m
theorem st_app (sr : SRs) {i : Nat} {c : E} : GSt T Φ n (.app i c) := fun X W B st fx m => by
  unfold mtS at m
  split at m
  · simp only [Bool.and_eq_true, decide_eq_true_eq] at m
    obtain ⟨⟨⟨⟨rfl, m1⟩, m2⟩, m3⟩, m4⟩ := m
    exact ss_app (pe_loc m1) ((sndE sr T Φ n c).1 X W B _ fx.toCxOk m3) (star_cons m2) rfl m4
  · cases m
theorem st_ext (sr : SRs) {i : Nat} {c : E} : GSt T Φ n (.ext i c) := fun X W B st fx m => by
  unfold mtS at m
  split at m
  · simp only [Bool.and_eq_true, decide_eq_true_eq] at m
    obtain ⟨⟨⟨⟨rfl, m1⟩, m2⟩, m3⟩, m4⟩ := m
    exact ss_ext (pe_loc m1) ((sndE sr T Φ n c).1 X W B _ fx.toCxOk m3) (star_cons m2) rfl m4
  · cases m
theorem st_dput (sr : SRs) {i : Nat} {ck c : E} : GSt T Φ n (.dput i ck c) := fun X W B st fx m => by
  unfold mtS at m
  split at m
  · simp only [Bool.and_eq_true] at m
    obtain ⟨⟨⟨⟨m1, m2⟩, m3⟩, m4⟩, m5⟩ := m
    exact ss_dput (pe_loc m1) ((sndE sr T Φ n ck).1 X W B _ fx.toCxOk m3) ((sndE sr T Φ n c).1 X W B _ fx.toCxOk m4) (by have := fx.units; omega) (swaps_no m5)
  · cases m
theorem st_dsd (sr : SRs) {i : Nat} {ck c : E} : GSt T Φ n (.dsd i ck c) := fun X W B st fx m => by
  unfold mtS at m
  split at m
  · split at m
    · rename_i hx
      simp only [Bool.and_eq_true] at m
      obtain ⟨⟨m1, m2⟩, m3⟩ := m
      obtain ⟨apos, cpos, rfl, h1, h2, h2', h3⟩ := mtMeth2_eq hx
      exact ss_dsd (by have := fx.units; omega) (pe_loc m1) ((sndE sr T Φ n ck).1 X W B _ fx.toCxOk m2) ((sndE sr T Φ n c).1 X W B _ fx.toCxOk m3) ⟨base_no h1, by rw [star_cons h2, star_cons h2']; rfl, h3, by rw [star_cons h2, star_cons h2']; rfl⟩
    · cases m
  · cases m
theorem st_dset (sr : SRs) {i : Nat} {c : E} : GSt T Φ n (.dset i c) := fun X W B st fx m => by
  unfold mtS at m
  split at m
  · simp only [Bool.and_eq_true] at m
    obtain ⟨m1, m2⟩ := m
    split at m2
    · rename_i y hy
      simp only [Bool.and_eq_true] at m2
      obtain ⟨p, pos, rfl, g⟩ := mtCall_eq hy
      exact ss_dset fx.calm fx.units (fx.glb (by decide) g) m2.1 ((sndE sr T Φ n c).1 X W B _ fx.toCxOk m2.2) fun t p => asg_name fx m1 rfl rfl t p
    · cases m2
  · cases m
theorem st_dset2 (sr : SRs) {i j : Nat} {c c' : E} : GSt T Φ n (.dset2 i j c c') := fun X W B st fx m => by
  unfold mtS at m
  split at m
  · simp only [Bool.and_eq_true, decide_eq_true_eq] at m
    obtain ⟨⟨⟨m1, m2⟩, m3⟩, m4⟩ := m
    split at m4
    · rename_i v hv
      split at m4
      · rename_i w hw
        simp only [Bool.and_eq_true] at m4
        obtain ⟨⟨⟨k1, k2⟩, k3⟩, k4⟩ := m4
        obtain ⟨p, pos, rfl, g⟩ := mtCall_eq hv
        obtain ⟨p', pos', rfl, _⟩ := mtCall_eq hw
        obtain ⟨h1, h2, h3⟩ := names_pgs fx m2
        exact ss_dset2 fx.calm fx.units (fx.glb (by decide) g) k1 ((sndE sr T Φ n c).1 X W B _ fx.toCxOk k2) k3 ((sndE sr T Φ n c').1 X W B _ fx.toCxOk k4) fun t p => ps_asg p (pg_tup fx.calm h1 h2 h3) swaps_tup (stores_cell m3)
      · cases m4
    · cases m4
  · cases m
theorem st_rse {c : Str} : GSt T Φ n (.rse c) := fun X W B st fx m => by
  unfold mtS at m
  split at m
  · simp only [Bool.and_eq_true, decide_eq_true_eq] at m
    obtain ⟨⟨rfl, m1⟩, m2⟩ := m
    obtain ⟨C, h1, h2, h3, h4, h5⟩ := fx.excs _ m2
    exact ss_rse fx.calm fx.tk h1 (pmk_own PySem.F.excBase_ValueError h2 h1 h3 (raises_own h4 h5) (gl_of m1).1 (gl_of m1).2)
  · cases m
mutual
theorem sndSt (sr : SRs) (T : Tab) (Φ : Fenv) (n : Nat) : ∀ c : S, GSt T Φ n c
  | .set i c => st_set sr
  | .setm i c => st_setm sr
  | .dnew i tk => st_dnew
  | .unp is c => st_unp sr
  | .par is cs => st_par sr
  | .parmm i j xs ys => st_parmm
  | .parvm i j c ys => st_parvm sr
  | .par3 i j l cs => st_par3 sr
  | .parc is cs => st_parc sr
  | .unpl is c => st_unpl sr
  | .tryw body c i f tab => st_tryw (sndSs sr T Φ n body)
  | .app i c => st_app sr
  | .ext i c => st_ext sr
  | .dput i ck c => st_dput sr
  | .dsd i ck c => st_dsd sr
  | .dset i c => st_dset sr
  | .dset2 i j c c' => st_dset2 sr
  | .ret c => fun X W B st fx m => by
    unfold mtS at m
    split at m
    · exact ss_ret ((sndE sr T Φ n c).1 X W B _ fx.toCxOk m)
    · cases m
  | .retn => fun X W B st fx m => by
    unfold mtS at m
    split at m
    · exact ss_retn
    · cases m
  | .rse c => st_rse
  | .ite c a b => fun X W B st fx m => by
    unfold mtS at m
    split at m
    · simp only [Bool.and_eq_true] at m
      exact ss_ite ((sndE sr T Φ n c).2 X W B _ fx.toCxOk m.1.1).1 (sndSs sr T Φ n a X W B _ fx m.1.2) (sndSs sr T Φ n b X W B _ fx m.2)
    · cases m
  | .loop tg src body => fun X W B st fx m => by
    unfold mtS at m
    split at m
    · split at m
      · rename_i own ho
        simp only [Bool.and_eq_true] at m
        obtain ⟨⟨⟨m1, m2⟩, m3⟩, m4⟩ := m
        obtain ⟨e1, g, g1, g2⟩ := mtTg_ok ho X.K
        refine ss_loop fx.po fx.calm (sndS sr T Φ n src X W B _ _ fx.toCxOk m2) (g2 X rfl rfl fx.calm fx.nd fun p hp => ?_) (g1 X rfl B) (sndSs sr T Φ n body X W B _ fx m4) (folded_no m3)
        have := List.all_eq_true.mp m1 p hp
        unfold ownKind at this
        split at this
        · rename_i e; exact .inl e
        · rename_i e; exact .inr ⟨e, fx.fnk _ e⟩
        · cases this
      · cases m
    · cases m
  | .wh c body => fun X W B st fx m => by
    unfold mtS at m
    split at m
    · simp only [Bool.and_eq_true] at m
      exact ss_wh fx.po ((sndE sr T Φ n c).2 X W B _ fx.toCxOk m.1).1 (sndSs sr T Φ n body X W B _ fx m.2)
    · cases m
  | .brk => fun X W B st fx m => by
    unfold mtS at m
    split at m
    · exact ss_brk
    · cases m
  | .cnt => fun X W B st fx m => by
    unfold mtS at m
    split at m
    · exact ss_cnt
    · cases m
  | .pas => fun X W B st fx m => by
    unfold mtS at m
    split at m
    · exact ss_pas
    · cases m
  | .exp c => fun X W B st fx m => by
    unfold mtS at m
    split at m
    · simp only [Bool.and_eq_true] at m
      exact ss_exp ((sndE sr T Φ n c).1 X W B _ fx.toCxOk m.1) (swaps_no m.2)
    · cases m
theorem sndSs (sr : SRs) (T : Tab) (Φ : Fenv) (n : Nat) : ∀ c : Ss, GSs T Φ n c
  | .nil => fun X W B sts fx m => by
    cases sts with
    | nil => exact ss_nil
    | cons s r => simp [mtSs] at m
  | .cons s r => fun X W B sts fx m => by
    cases sts with
    | nil => simp [mtSs] at m
    | cons st rest =>
      simp only [mtSs, Bool.and_eq_true] at m
      exact ss_cons (sndSt sr T Φ n s X W B st fx m.1) (sndSs sr T Φ n r X W B rest fx m.2)
end
end
end G6
-- ## FnT
/-! # FnT: each def means its Core -/
namespace G6
open PySem PySem.Spec PyProof.Rows L2
section
variable {K : PySem.W.Frag} {mg : Str → Option Value}
theorem entry_len {io : Option Nat} : ∀ {k : Nat} {as : List Av}, (entry io k as).length = as.length
  | _, [] => rfl
  | k, .d x :: r => by simp only [entry, List.length_cons, entry_len]
  | k, .f x :: r => by simp only [entry, List.length_cons, entry_len]
theorem entry_get {io : Option Nat} {S : ASet} {H : Hp} : ∀ {k : Nat} {vs : List V} {as : List Av} {i : Nat} {s : Sl}, ArgsRep K mg S H io k vs as → (entry io k as)[i]? = some s →
    ∃ v, vs[i]? = some v ∧ ((∃ d, s = .v d ∧ io ≠ some (k + i) ∧ Dp K (Hid H S) v d) ∨ (∃ d a, s = .b d ∧ io = some (k + i) ∧ v = .ref a ∧ Cell K S H a d) ∨ ∃ x f, s = .f x ∧ v = .ref f ∧ mg x = some (.ref f))
  | k, [], [], i, s, h, e => by simp [entry] at e
  | k, [], _ :: _, i, s, h, e => by simp [ArgsRep] at h
  | k, _ :: _, [], i, s, h, e => by simp [ArgsRep] at h
  | k, v :: vs, .d x :: as, i, s, h, e => by
    simp only [ArgsRep] at h
    simp only [entry] at e
    cases i with
    | zero =>
      simp only [List.getElem?_cons_zero, Option.some.injEq] at e
      refine ⟨v, rfl, ?_⟩
      by_cases hio : io = some k
      · rw [if_pos hio] at h e
        obtain ⟨⟨a, h1, h2⟩, _⟩ := h
        exact .inr (.inl ⟨x, a, e.symm, by simpa using hio, h1, h2⟩)
      · rw [if_neg hio] at h e
        exact .inl ⟨x, e.symm, by simpa using hio, h.1⟩
    | succ i =>
      simp only [List.getElem?_cons_succ] at e ⊢
      obtain ⟨w, h1, h2⟩ := entry_get h.2 e
      have ek : k + 1 + i = k + (i + 1) := by omega
      rw [ek] at h2
      exact ⟨w, h1, h2⟩
  | k, v :: vs, .f x :: as, i, s, h, e => by
    simp only [ArgsRep] at h
    simp only [entry] at e
    cases i with
    | zero =>
      simp only [List.getElem?_cons_zero, Option.some.injEq] at e
      obtain ⟨f, h1, h2⟩ := h.2.1
      exact ⟨v, rfl, .inr (.inr ⟨x, f, e.symm, h1, h2⟩)⟩
    | succ i =>
      simp only [List.getElem?_cons_succ] at e ⊢
      obtain ⟨w, h1, h2⟩ := entry_get h.2.2 e
      have ek : k + 1 + i = k + (i + 1) := by omega
      rw [ek] at h2
      exact ⟨w, h1, h2⟩
theorem entry_io {io : Option Nat} {S : ASet} {H : Hp} : ∀ {k : Nat} {vs : List V} {as : List Av} {i : Nat} {v : V}, ArgsRep K mg S H io k vs as → io = some (k + i) → vs[i]? = some v → ∃ d a, (entry io k as)[i]? = some (.b d) ∧ v = .ref a ∧ Cell K S H a d
  | k, [], [], i, s, h, _, e => by simp at e
  | k, [], _ :: _, i, s, h, _, e => by simp [ArgsRep] at h
  | k, _ :: _, [], i, s, h, _, e => by simp [ArgsRep] at h
  | k, v :: vs, .d x :: as, i, w, h, hio, e => by
    simp only [ArgsRep] at h
    cases i with
    | zero =>
      have hio' : io = some k := by simpa using hio
      simp only [List.getElem?_cons_zero, Option.some.injEq] at e
      subst e
      rw [if_pos hio'] at h
      obtain ⟨⟨a, h1, h2⟩, _⟩ := h
      exact ⟨x, a, by simp [entry, hio'], h1, h2⟩
    | succ i =>
      simp only [List.getElem?_cons_succ] at e
      obtain ⟨d, a, h1, h2⟩ := entry_io (i := i) h.2 (by rw [hio]; congr 1; omega) e
      exact ⟨d, a, by simpa [entry] using h1, h2⟩
  | k, v :: vs, .f x :: as, i, w, h, hio, e => by
    simp only [ArgsRep] at h
    cases i with
    | zero => exact absurd (by simpa using hio) h.1
    | succ i =>
      simp only [List.getElem?_cons_succ] at e
      obtain ⟨d, a, h1, h2⟩ := entry_io (i := i) h.2.2 (by rw [hio]; congr 1; omega) e
      exact ⟨d, a, by simpa [entry] using h1, h2⟩
theorem append_un {ρ0 : Rho} {m i : Nat} {s : Sl} (h : (ρ0 ++ List.replicate m Sl.un)[i]? = some s) : ρ0[i]? = some s ∨ s = .un := by
  by_cases hi : i < ρ0.length
  · rw [List.getElem?_append_left hi] at h
    exact .inl h
  · rw [List.getElem?_append_right (by omega), List.getElem?_replicate] at h
    split at h
    · cases h; exact .inr rfl
    · cases h
theorem start_get {N : List Str} {vs : List V} {i : Nat} {v : V} (h : vs[i]? = some v) : (start N vs)[i]? = some (some v) := by
  unfold L2.start
  rw [List.getElem?_append_left (by simp [(List.getElem?_eq_some_iff.mp h).1]), List.getElem?_map, h]
  rfl
theorem start_back {N : List Str} {vs : List V} {i : Nat} {v : V} (h : (start N vs)[i]? = some (some v)) : vs[i]? = some v := by
  unfold L2.start at h
  by_cases hi : i < vs.length
  · rw [List.getElem?_append_left (by simpa using hi), List.getElem?_map] at h
    cases e : vs[i]? with
    | none => rw [e] at h; cases h
    | some u => rw [e] at h; cases h; rfl
  · rw [List.getElem?_append_right (by simp; omega), List.getElem?_replicate] at h
    split at h <;> cases h
/-- at the entry -/
theorem rep_entry {B : ASet} {H : Hp} {io : Option Nat} {N : List Str} {vs : List V} {as : List Av} {ns : Nat} (hN : N.length = ns) (hl : as.length ≤ ns) (ha : ArgsRep K mg (fun a => B a ∨ ioA io vs a) H io 0 vs as) (hd : DomS B H) (hn : ∀ a, ioA io vs a → ¬ B a) :
    (∀ a, Own (start N vs) (entry io 0 as ++ List.replicate (ns - as.length) .un) a ↔ ioA io vs a) ∧ Rep K mg B (start N vs) H (entry io 0 as ++ List.replicate (ns - as.length) .un) := by
  have hv := ha.len
  have mutt : ∀ {i : Nat} {d : PyData}, MutAt (entry io 0 as ++ List.replicate (ns - as.length) .un) i d → ∃ a, vs[i]? = some (.ref a) ∧ io = some i ∧ Cell K (fun a => B a ∨ ioA io vs a) H a d := fun {i d} m => by
    rcases m with m | m
    · rcases append_un m with m | m
      · obtain ⟨v, h1, h2⟩ := entry_get ha m
        rcases h2 with ⟨_, e, _⟩ | ⟨_, _, e, _⟩ | ⟨_, _, e, _⟩ <;> cases e
      · cases m
    · rcases append_un m with m | m
      · obtain ⟨v, h1, h2⟩ := entry_get ha m
        rcases h2 with ⟨_, e, _⟩ | ⟨d', a, e, h3, h4, h5⟩ | ⟨_, _, e, _⟩
        · cases e
        · cases e
          subst h4
          exact ⟨a, h1, by simpa using h3, h5⟩
        · cases e
      · cases m
  have own : ∀ a, Own (start N vs) (entry io 0 as ++ List.replicate (ns - as.length) .un) a ↔ ioA io vs a := fun a => by
    constructor
    · rintro ⟨i, d, m, h⟩
      obtain ⟨a', h1, h2, h3⟩ := mutt m
      rw [start_back h] at h1
      cases h1
      exact ⟨i, h2, start_back h⟩
    · rintro ⟨k, h1, h2⟩
      obtain ⟨d, a', h3, h4, h5⟩ := entry_io (i := k) ha (by simpa using h1) h2
      refine ⟨k, d, .inr ?_, start_get h2⟩
      rw [List.getElem?_append_left (List.getElem?_eq_some_iff.mp h3).1]
      exact h3
  have hs : (fun a => B a ∨ ioA io vs a) = Hs B (start N vs) (entry io 0 as ++ List.replicate (ns - as.length) .un) := by
    funext a
    exact propext ⟨fun h => h.imp id (own a).mpr, fun h => h.imp id (own a).mp⟩
  refine ⟨own, ?_⟩
  rw [hs] at ha mutt
  refine ⟨?_, fun i d h => ?_, fun i d h => ?_, fun i x h => ?_, fun i j d e a m1 m2 h1 h2 => ?_, hd⟩
  · simp only [List.length_append, List.length_replicate, entry_len, L2.start, List.length_map, hN, hv]
  · rcases append_un h with h | h
    · obtain ⟨v, h1, h2⟩ := entry_get ha h
      rcases h2 with ⟨d', e, _, dp⟩ | ⟨_, _, e, _⟩ | ⟨_, _, e, _⟩
      · cases e
        exact ⟨v, start_get h1, dp⟩
      · cases e
      · cases e
    · cases h
  · obtain ⟨a, h1, h2, h3⟩ := mutt h
    exact ⟨a, start_get h1, h3, hn a ⟨i, h2, h1⟩⟩
  · rcases append_un h with h | h
    · obtain ⟨v, h1, h2⟩ := entry_get ha h
      rcases h2 with ⟨_, e, _⟩ | ⟨_, _, e, _⟩ | ⟨x', f, e, h3, h4⟩
      · cases e
      · cases e
      · cases e
        subst h3
        exact ⟨f, start_get h1, h4⟩
    · cases h
  · obtain ⟨_, _, e1, _⟩ := mutt m1
    obtain ⟨_, _, e2, _⟩ := mutt m2
    rw [e1] at e2
    cases e2
    rfl
/-- what a body's run gives its caller -/
theorem fl_out {B : ASet} {H : Hp} {io : Option Nat} {N : List Str} {vs : List V} {ρ : Rho} {Q : VK} {E : XK} {fl : Fl} (own : ∀ a, Own (start N vs) ρ a ↔ ioA io vs a) (hb : ∀ k v, io = some k → vs[k]? = some v → ∃ d, ρ[k]? = some (.b d))
    (h : match outOf io fl with
      | .ret d x => ∀ v H', FnStep K B io vs H H' x → Dp K (Hid H' (fun a => B a ∨ ioA io vs a)) v d → Q v H'
      | .exc c x => ∀ u H', mg c = some u → FnStep K B io vs H H' x → E u none H'
      | .bad => False) : FlOk K mg B (fun cls d _ H => E cls d H) (start N vs) H ρ { nx := fun _ H' => Q .non H', rt := Q } fl := by
  have key : ∀ {σ' : St} {H' : Hp} {ρ' : Rho} {x : PyData}, Step K mg B (start N vs) H ρ σ' H' ρ' → ioOut io ρ' = some x → FnStep K B io vs H H' x ∧ Sub (Hid H' (Hs B σ' ρ')) (Hid H' (fun a => B a ∨ ioA io vs a)) := fun {σ' H' ρ' x} st e => by
    have kk : ∀ a, ioA io vs a → ∃ k : Nat, σ'[k]? = some (some (V.ref a)) ∧ ρ'[k]? = some (Sl.b x) := fun a ⟨k, h1, h2⟩ => by
      obtain ⟨d, h3⟩ := hb k _ h1 h2
      obtain ⟨h4, d', h5⟩ := st.bor k d h3
      refine ⟨k, h4.trans (start_get h2), ?_⟩
      subst h1
      simp only [ioOut, h5, Option.some.injEq] at e
      subst e
      exact h5
    have sub : Sub (Hid H' (Hs B σ' ρ')) (Hid H' (fun a => B a ∨ ioA io vs a)) := Sub.less fun a z => by
      rcases z with z | z
      · exact .inl z
      · obtain ⟨k, h1, h2⟩ := kk a z
        exact .inr ⟨k, x, .inr h2, h1⟩
    refine ⟨⟨fun a o h n => st.keep a o h fun z => n ((own a).mp z), fun a z => ?_⟩, sub⟩
    obtain ⟨k, h1, h2⟩ := kk a z
    obtain ⟨a', h3, h4, _⟩ := st.rep.cel k x (.inr h2)
    rw [h1] at h3
    cases h3
    exact h4.stay (fun o h => h) sub
  cases fl with
  | bad => exact h
  | br ρ' => exact h.elim
  | ct ρ' => exact h.elim
  | nx ρ' =>
    simp only [outOf] at h
    cases e : ioOut io ρ' with
    | none => rw [e] at h; exact h.elim
    | some x =>
      rw [e] at h
      exact fun σ' H' st => h .non H' (key st e).1 .non
  | rt d ρ' =>
    simp only [outOf] at h
    cases e : ioOut io ρ' with
    | none => rw [e] at h; exact h.elim
    | some x =>
      rw [e] at h
      exact fun v σ' H' st dp => h v H' (key st e).1 (Dp_sub (key st e).2 _ dp)
  | ex c ρ' =>
    simp only [outOf] at h
    cases e : ioOut io ρ' with
    | none => rw [e] at h; exact h.elim
    | some x =>
      rw [e] at h
      exact fun u σ' H' hu st => h u H' hu (key st e).1
end
/-- the classes with their numbers -/
def whTab (ns : List Str) : List (Str × Int) := ns.zipIdx.map fun p => (p.1, (p.2 : Int))
theorem whTab_get {ns : List Str} {k : Str} {j : Int} (h : (whTab ns).lookup k = some j) : ∃ m : Nat, j = (m : Int) ∧ ns[m]? = some k := by
  have hm : ∀ {l : List (Str × Int)} {x : Str} {a : Int}, l.lookup x = some a → (x, a) ∈ l := by
    intro l
    induction l with
    | nil => intro x a h; cases h
    | cons p r ih =>
      intro x a h
      obtain ⟨y, b⟩ := p
      rw [List.lookup_cons] at h
      cases e : x == y with
      | true =>
        rw [e] at h
        cases h
        rw [eq_of_beq e]
        exact List.mem_cons_self
      | false =>
        rw [e] at h
        exact List.mem_cons_of_mem _ (ih h)
  obtain ⟨p, h1, h2⟩ := List.mem_map.mp (hm h)
  cases h2
  exact ⟨p.2, rfl, List.mem_zipIdx_iff_getElem?.mp h1⟩
/-- a def f tells which refusal of ns an exception is, c takes them all -/
def WhHead (K : PySem.W.Frag) (mg : Str → Option Value) (f c : Str) (ns : List Str) : Prop := ∃ (C a : Addr) (fd : FuncData) (qual : Str) (params : Arguments) (body : List Stmt) (scope : Scope) (x own : Str) (g : List Str) (gs : List (List Str)), mg c = some (.ref C) ∧ mg f = some (.ref a) ∧
  FunD K f qual params body scope [] [] a fd ∧ Binds K fd [x] [] ∧ FnScope [x, own] [x] scope ∧ x ≠ own ∧ (x ≠ "__debug__" ∧ x ≠ "__classdict__" ∧ own ≠ "__debug__" ∧ own ≠ "__classdict__") ∧ mtWh scope x own g gs body = true ∧ g ++ gs.flatten = ns ∧ ns.Nodup ∧ ns.length ≤ 1000 ∧ mg "isinstance" = none ∧ mg "ValueError" = none ∧
  ∀ k ∈ ns, ∃ D, mg k = some (.ref D) ∧ ExcC K D ∧ PySem.W.kitOne K (.ref D) (.type "ValueError") = some true ∧ PySem.W.exmOne K (.ref D) (.ref C) = some true ∧ ∀ c' ∈ ns, ∃ C', mg c' = some (.ref C') ∧ PySem.W.kitOne K (.ref D) (.ref C') = some (decide (c' = k))
theorem WhHead.good {K : PySem.W.Frag} {mg : Str → Option Value} {f c : Str} {ns : List Str} (h : WhHead K mg f c ns) (P : Program) (w : World) (base : Heap) : WhGood P w K mg base f c (whTab ns) := by
  obtain ⟨C, a, fd, qual, params, body, scope, x, own, g, gs, h1, h2, h3, h4, h5, h6, h7, h8, rfl, h10, h11, h12, h13, h14⟩ := h
  refine ⟨C, a, fd, [x], h1, h2, h3.kp, h4, rfl, fun k j hl => ?_⟩
  obtain ⟨m, rfl, hm⟩ := whTab_get hl
  obtain ⟨D, d1, d2, d3, d4, d5⟩ := h14 k (List.mem_of_getElem? hm)
  refine ⟨D, d1, d4, fnP_of h3 h5 rfl fun cdv A outer s H Q ea oe hu zc fl q => ⟨_, wh_body (N := [x, own]) (a := ea) (D := D) (oe := oe) (k := k) (j := m) (x := x) (own := own) ⟨List.mem_singleton.mpr rfl, d2, zc, fl, h12, h13, d3⟩ rfl h6 h7 h8 d5 h10 hm h11, rfl, q⟩⟩
/-- what the head tells -/
structure HeadOk (T : Tab) (K : PySem.W.Frag) (mg : Str → Option Value) : Prop where
  fns : ∀ (f : Str) (fn : Fn), T.fn f = some fn → ∃ (a : Addr) (fd : FuncData) (qual : Str) (params : Arguments) (body : List Stmt) (scope : Scope) (N ps : List Str), mg f = some (.ref a) ∧ FunD K f qual params body scope [] [] a fd ∧ Binds K fd ps [] ∧ FnScope N ps scope ∧
    mtSs T N fn.body scope body = true ∧ N.length = fn.ns ∧ ps.length = fn.np ∧ fn.np ≤ fn.ns
  csts : ∀ (x : Str) (d : PyData), cstIs (T.cst x) d = true → ∃ (v : V) (u : Value), mg x = some u ∧ RelV v u ∧ ∀ H, Dp K H v d
  blt : ∀ x, x ∈ blts → mg x = none
  excs : ∀ c, T.exc c = true → ∃ C, mg c = some (.ref C) ∧ PySem.W.excIn K C veB "ValueError.__new__" = true ∧ PySem.W.keepIn K (.ref C) = true ∧ PySem.W.subIn K (.ref C) (.type "BaseException") = some true ∧ PySem.W.typeIn K (.ref C) = some (.type "type")
  whs : ∀ (f c : Str) (tab : List (Str × Int)), T.wh f = some (c, tab) → ∃ ns, tab = whTab ns ∧ WhHead K mg f c ns
theorem entry_b {io : Option Nat} {K : PySem.W.Frag} {mg : Str → Option Value} {S : ASet} {H : Hp} {vs : List V} {as : List Av} {k m : Nat} {v : V} (ha : ArgsRep K mg S H io 0 vs as) (h1 : io = some k) (h2 : vs[k]? = some v) : ∃ d, (entry io 0 as ++ List.replicate m .un)[k]? = some (.b d) := by
  obtain ⟨d, a', h3, h4, h5⟩ := entry_io (i := k) ha (by simpa using h1) h2
  refine ⟨d, ?_⟩
  rw [List.getElem?_append_left (List.getElem?_eq_some_iff.mp h3).1]
  exact h3
/-- one def, one level up -/
theorem fn_step (sr : SRs) {P : Program} {w : World} {K : PySem.W.Frag} {mg : Str → Option Value} {base : Heap} {T : Tab} (hd : HeadOk T K mg) {n : Nat} (ih : ∀ (f : Str) (fn : Fn), T.fn f = some fn → ∃ (a : Addr) (fd : FuncData) (ps : List Str), mg f = some (.ref a) ∧ PySem.W.keepIn K (.ref a) = true ∧ Binds K fd ps [] ∧
    FnOk P w K mg base (L2.CX P w) n a fd ps (spOf K mg fn.io (Phi T.fn n f))) {f : Str} {fn : Fn} (hf : T.fn f = some fn) {a : Addr} {fd : FuncData} {qual : Str} {params : Arguments} {body : List Stmt} {scope : Scope} {N ps : List Str} (h2 : FunD K f qual params body scope [] [] a fd) (h4 : FnScope N ps scope)
    (h5 : mtSs T N fn.body scope body = true) (h6 : N.length = fn.ns) (h7 : ps.length = fn.np) (h8 : fn.np ≤ fn.ns) : FnOk P w K mg base (L2.CX P w) (n + 1) a fd ps (spOf K mg fn.io (Phi T.fn (n + 1) f)) := by
  have ep : ∀ as, Phi T.fn (n + 1) f as = runFn (Phi T.fn n) fn as := fun as => by
    show (match T.fn f with
      | some fn => runFn (Phi T.fn n) fn as
      | none => .bad) = _
    rw [hf]
  refine h2.ok h4 (fun vs H Q E h => ?_) fun cdv A outer s H vs Q E hr h => ?_
  · obtain ⟨B, as, ha, _, _, h⟩ := h
    rw [ep] at h
    unfold runFn at h
    by_cases e : as.length = fn.np
    · rw [ha.len, e, h7]
    · rw [if_neg e] at h
      exact h.elim
  · obtain ⟨B, as, ha, hdm, hnb, h⟩ := h
    rw [ep] at h
    unfold runFn at h
    by_cases e : as.length = fn.np
    · rw [if_pos e] at h
      refine ⟨tSX (cxOf (L2.CX P w) P w K mg base N qual scope a cdv A outer s H E) B (fun cls d _ H => E cls d H) (exSs (Phi T.fn n) fn.body), ?_, ?_⟩
      · refine sndSs sr T (Phi T.fn n) n fn.body _ _ B body ⟨⟨rfl, h4.nd, hr, takes_of rfl rfl rfl rfl, passes_of rfl, fun g gn hg => ih g gn hg, fun g as hg => ?_, hd.csts, hd.blt, hd.excs, fun f c tab e => by obtain ⟨ns, rfl, hw⟩ := hd.whs f c tab e; exact hw.good P w base⟩, h4.kind, fun _ _ => rfl, rfl, rfl⟩ h5
        cases n with
        | zero => rfl
        | succ n =>
          show (match T.fn g with
            | some fn => runFn (Phi T.fn n) fn as
            | none => .bad) = _
          rw [hg]
      · obtain ⟨own, rep⟩ := rep_entry (N := N) h6 (by omega) ha hdm hnb
        rw [e] at own rep
        exact ⟨_, rep, fl_out own (fun k v e1 e2 => entry_b ha e1 e2) h⟩
    · rw [if_neg e] at h
      exact h.elim
/-- THE RULE: each def means its Core, at every depth -/
theorem fn_ok (sr : SRs) {P : Program} {w : World} {K : PySem.W.Frag} {mg : Str → Option Value} {base : Heap} {T : Tab} (hd : HeadOk T K mg) : ∀ (n : Nat) (f : Str) (fn : Fn), T.fn f = some fn → ∃ (a : Addr) (fd : FuncData) (ps : List Str), mg f = some (.ref a) ∧ PySem.W.keepIn K (.ref a) = true ∧ Binds K fd ps [] ∧
    FnOk P w K mg base (L2.CX P w) n a fd ps (spOf K mg fn.io (Phi T.fn n f))
  | 0, f, fn, hf => by
    obtain ⟨a, fd, qual, params, body, scope, N, ps, h1, h2, h3, h4, h5, h6, h7, h8⟩ := hd.fns f fn hf
    refine ⟨a, fd, ps, h1, h2.kp, h3, ⟨fun vs H Q E h => ?_, fun A outer s H args us vs Q E _ _ _ _ h => ?_⟩⟩
    · obtain ⟨B, as, _, _, _, h⟩ := h
      exact h.elim
    · obtain ⟨B, as, _, _, _, h⟩ := h
      exact h.elim
  | n + 1, f, fn, hf => by
    obtain ⟨a, fd, qual, params, body, scope, N, ps, h1, h2, h3, h4, h5, h6, h7, h8⟩ := hd.fns f fn hf
    exact ⟨a, fd, ps, h1, h2.kp, h3, fn_step sr hd (fn_ok sr hd n) hf h2 h4 h5 h6 h7 h8⟩
/-! ### the head, from lists -/
def FnGood (T : Tab) (K : PySem.W.Frag) (mg : Str → Option Value) (p : Str × Fn) : Prop := ∃ (a : Addr) (fd : FuncData) (qual : Str) (params : Arguments) (body : List Stmt) (scope : Scope) (N ps : List Str), mg p.1 = some (.ref a) ∧ FunD K p.1 qual params body scope [] [] a fd ∧ Binds K fd ps [] ∧ FnScope N ps scope ∧
    mtSs T N p.2.body scope body = true ∧ N.length = p.2.ns ∧ ps.length = p.2.np ∧ p.2.np ≤ p.2.ns
def CstGood (mg : Str → Option Value) (p : Str × PyData) : Prop := (∃ i t, p.2 = .int i ∧ mg p.1 = some (.int i t)) ∨ ∃ z t, p.2 = .str z ∧ mg p.1 = some (.str z t)
def ExcGood (K : PySem.W.Frag) (mg : Str → Option Value) (c : Str) : Prop := ∃ C, mg c = some (.ref C) ∧ PySem.W.excIn K C veB "ValueError.__new__" = true ∧ PySem.W.keepIn K (.ref C) = true ∧ PySem.W.subIn K (.ref C) (.type "BaseException") = some true ∧ PySem.W.typeIn K (.ref C) = some (.type "type")
theorem lookup_mem {α : Type} : ∀ {l : List (Str × α)} {x : Str} {a : α}, l.lookup x = some a → (x, a) ∈ l
  | [], _, _, h => by cases h
  | (y, b) :: r, x, a, h => by
    rw [List.lookup_cons] at h
    cases e : x == y with
    | true =>
      rw [e] at h
      cases h
      rw [eq_of_beq e]
      exact List.mem_cons_self
    | false =>
      rw [e] at h
      exact List.mem_cons_of_mem _ (lookup_mem h)
def tabW (tfn : List (Str × Fn)) (tcst : List (Str × PyData)) (texc : List Str) (wh : Str → Option (Str × List (Str × Int))) : Tab := ⟨fun f => tfn.lookup f, fun x => tcst.lookup x, fun c => texc.contains c, wh⟩
abbrev tabOf (tfn : List (Str × Fn)) (tcst : List (Str × PyData)) (texc : List Str) : Tab := tabW tfn tcst texc fun _ => none
theorem headOk_ofW {tfn : List (Str × Fn)} {tcst : List (Str × PyData)} {texc : List Str} {wh : Str → Option (Str × List (Str × Int))} {K : PySem.W.Frag} {mg : Str → Option Value} (hf : ∀ p ∈ tfn, FnGood (tabW tfn tcst texc wh) K mg p) (hc : ∀ p ∈ tcst, CstGood mg p) (hb : ∀ x ∈ blts, mg x = none) (he : ∀ c ∈ texc, ExcGood K mg c)
    (hw : ∀ f c tab, wh f = some (c, tab) → ∃ ns, tab = whTab ns ∧ WhHead K mg f c ns) : HeadOk (tabW tfn tcst texc wh) K mg where
  fns := fun f fn h => hf (f, fn) (lookup_mem h)
  csts := fun x d h => by
    have h' : cstIs (tcst.lookup x) d = true := h
    cases e : tcst.lookup x with
    | none => rw [e] at h'; cases h'
    | some d0 =>
      rw [e] at h'
      rcases hc (x, d0) (lookup_mem e) with ⟨i, t, h1, h2⟩ | ⟨z, t, h1, h2⟩
      · have h1 : d0 = .int i := h1
        subst h1
        cases d <;> first | (cases h'; done) | skip
        obtain rfl := of_decide_eq_true h'
        exact ⟨.int i, _, h2, ⟨t, rfl⟩, fun H => .int i⟩
      · have h1 : d0 = .str z := h1
        subst h1
        cases d <;> first | (cases h'; done) | skip
        obtain rfl := of_decide_eq_true h'
        exact ⟨.str z, _, h2, ⟨t, rfl⟩, fun H => .str z⟩
  blt := hb
  excs := fun c h => he c (by simpa [tabW] using h)
  whs := hw
theorem headOk_of {tfn : List (Str × Fn)} {tcst : List (Str × PyData)} {texc : List Str} {K : PySem.W.Frag} {mg : Str → Option Value} (hf : ∀ p ∈ tfn, FnGood (tabOf tfn tcst texc) K mg p) (hc : ∀ p ∈ tcst, CstGood mg p) (hb : ∀ x ∈ blts, mg x = none) (he : ∀ c ∈ texc, ExcGood K mg c) : HeadOk (tabOf tfn tcst texc) K mg :=
  headOk_ofW hf hc hb he fun f c tab e => by cases e
/-- the law's promise -/
theorem law_sp {K : PySem.W.Frag} {mg : Str → Option Value} {F : List Av → Out} {H : Hp} {a : Addr} {ns : List Int} (hS : SqL K H a (ns.map V.int)) (h : F [.d (.list (ns.map .int))] = .ret (.bool true) .none) :
    spOf K mg none F [.ref a] H (fun v _ => v = .bl true) fun _ _ _ => False := by
  have e : Hid H (fun a' => (fun _ : Addr => False) a' ∨ ioA none [V.ref a] a') = H := by
    funext b
    cases hb : H b with
    | some o => exact Hid_iff.mpr ⟨hb, fun z => by rcases z with z | ⟨k, z, _⟩ <;> cases z⟩
    | none =>
      cases hh : Hid H (fun a' => (fun _ : Addr => False) a' ∨ ioA none [V.ref a] a') b with
      | none => rfl
      | some o => rw [(Hid_iff.mp hh).1] at hb; cases hb
  refine ⟨fun _ => False, [.d (.list (ns.map .int))], ?_, fun _ z => z.elim, fun _ _ z => z, ?_⟩
  · refine ⟨?_, trivial⟩
    rw [if_neg (by simp), e]
    exact .lst hS (DpAll_map (fun i => .int i) ns)
  · rw [h]
    intro v H' _ dp
    cases dp
    rfl
end G6
-- ## HookG
/-! # HookG: the head's facts of the refusals -/
namespace G6
open PySem PySem.Spec PyProof.Rows L2
open He (ga eqO eqO_ok)
end G6
-- ## Ck04
namespace G6.K04
open PySem PySem.Spec PyProof.Rows L2
def c_law_k04 : Fn := ⟨1, 8, none, (.cons (.set 1 (.call "_law_pool" none (.cons (.var 0) (.cons (.cst (.int 20)) .nil)))) (.cons (.set 2 (.call "_law_offer" none (.cons (.var 0) (.cons (.cst (.int 100)) (.cons (.var 1) .nil))))) (.cons (.set 3 (.call "_law_offer" none (.cons (.var 0) (.cons (.cst (.int 300)) (.cons (.var 1) .nil))))) (.cons (.set 4 (.call "_law_rules" none (.cons (.var 0) (.cons (.cst (.int 500)) (.cons (.var 1) .nil))))) (.cons (.set 5 (.call "_law_wider" none (.cons (.var 0) (.cons (.cst (.int 700)) (.cons (.var 1) (.cons (.var 2) .nil)))))) (.cons (.set 6 (.call "choose" none (.cons (.var 2) (.cons (.var 3) (.cons (.var 4) .nil))))) (.cons (.set 7 (.call "choose" none (.cons (.var 5) (.cons (.var 3) (.cons (.var 4) .nil))))) (.cons (.ite (.op1 .isNone (.pk 6)) (.cons (.ret (.or (.op1 .isNone (.pk 7)) (.call "_law_fits" none (.cons (.lst (.cons (.var 5) (.cons (.var 3) .nil))) (.cons (.var 4) (.cons (.op2 .idx (.pk 7) (.cst (.int 0))) (.cons (.op2 .idx (.pk 7) (.cst (.int 1))) .nil))))))) .nil) .nil) (.cons (.ite (.or (.op1 .isNone (.pk 7)) (.op2 .lt (.op2 .idx (.pk 7) (.cst (.int 0))) (.op2 .idx (.pk 6) (.cst (.int 0))))) (.cons (.ret (.cst (.bool false))) .nil) .nil) (.cons (.ret (.and (.call "is_choice" none (.cons (.var 5) (.cons (.var 3) (.cons (.var 4) (.cons (.var 6) .nil))))) (.call "is_choice" none (.cons (.var 2) (.cons (.var 3) (.cons (.var 4) (.cons (.var 6) .nil))))))) .nil))))))))))⟩
def tfn : List (Str × Fn) := [(("is_feature" : Str), c_is_feature), (("is_whole" : Str), c_is_whole), (("is_version" : Str), c_is_version), (("are_features" : Str), c_are_features), (("are_pairs" : Str), c_are_pairs), (("are_rules" : Str), c_are_rules), (("need_rules" : Str), c_need_rules), (("is_row" : Str), c_is_row), (("is_offer" : Str), c_is_offer), (("need_offer" : Str), c_need_offer), (("features_at" : Str), c_features_at), (("closure" : Str), c_closure), (("barred_pair" : Str), c_barred_pair), (("common" : Str), c_common), (("musts" : Str), c_musts), (("is_fit" : Str), c_is_fit), (("versions_of" : Str), c_versions_of), (("order_of" : Str), c_order_of), (("best_at" : Str), c_best_at), (("best_of" : Str), c_best_of), (("choose" : Str), c_choose), (("fits_both" : Str), c_fits_both), (("is_choice" : Str), c_is_choice), (("_law_cell_at" : Str), c_law_cell_at), (("_law_mixed" : Str), c_law_mixed), (("_law_word" : Str), c_law_word), (("_law_pool" : Str), c_law_pool), (("_law_some" : Str), c_law_some), (("_law_offer" : Str), c_law_offer), (("_law_pairs" : Str), c_law_pairs), (("_law_rules" : Str), c_law_rules), (("_law_known" : Str), c_law_known), (("_law_fits" : Str), c_law_fits), (("_law_wider" : Str), c_law_wider), (("law" : Str), c_law_k04)]
def tcst : List (Str × PyData) := [(("FEATURES" : Str), ((.int 6) : PyData)), (("GREAT" : Str), ((.int 99) : PyData)), (("LETTERS" : Str), ((.str "abcdefghijklmnopqrstuvwxyz") : PyData)), (("LONGEST" : Str), ((.int 6) : PyData)), (("PAIRS" : Str), ((.int 8) : PyData)), (("ROWS" : Str), ((.int 6) : PyData))]
def texc : List Str := [("NoOffer" : Str), ("NoRules" : Str)]
abbrev T : Tab := tabOf tfn tcst texc
end G6.K04
-- ## Mk04
/-! # Mk04: law k04 -/
namespace G6.K04
open PySem
local macro_rules | `(tactic| simp_arith [$ts,*]) => `(tactic| simp only [e_var, e_pk, e_cst, e_glb, e_fnv, e_tup, e_lst, e_op1, e_op2, e_chn, e_and, e_or, e_not, e_ite, e_slc, e_call, e_met, dens, deno, dsrc, x_set, x_setm, x_dnew, x_unp, x_par, x_app, x_ext, x_dput, x_ret, x_retn, x_rse, x_ite, x_loop, x_wh, x_brk, x_cnt, x_pas, x_exp, x_par3, x_parc, x_unpl, x_tryw, e_callt, x_nil, x_cons, R.bind, R.fl, Fl.seq, dataOf, resOf, res, rd, tst, lift, lift2, sem1, sem2, alls, outOf, ioOut, putV, putsV, freeAt_eq, fs_un, fs_v, fs_m, fs_f, plainAt, ps_un, ps_v, ps_f, ps_m, lcF', condF', List.getElem?_cons_zero, List.getElem?_cons_succ, List.set_cons_zero, List.set_cons_succ, if_true, if_false, Bool.false_eq_true, reduceCtorEq, Option.map_some, Option.map_none, Bool.and_true, Bool.true_and, Bool.not_true, Bool.not_false, len_eT, len_eL, len_eRows, len_ePs, len_eO, len_eR, len_eRow, len_eV, len_eP, nd_eT, nd_eL, nd_eRows, nd_ePs, nd_eO, nd_eR, nd_eRow, nd_eV, nd_eP, ty_eT, ty_eRows, ty_ePs, ty_eO, ty_eR, ty_eRow, ty_eV, ty_eP, walk_eT, walk_eL, walk_eRows, walk_ePs, walk_eP, walk_eV, list_eT, list_eL, tup_eL, tup_eT, ix_eO0, ix_eO1, ix_eO2, ix_eO3, ix_eR0, ix_eR1, ix_eR2, ix_eRow0, ix_eRow1, ix_eP0, ix_eP1, non_eV, non_eT, non_eL, walk_eOs, ty_eL, in_eT, in_eL, eq_eL, eq_eT, eq_eV, lt_eV, gt_eV, eq_int, eq_str, lt_int, gt_int, nd_none, non_none, ty_str_none, ty_int_none, ty_bool_none, ty_tuple_none, ty_list_none, nd_bool, non_bool, ty_str_bool, ty_int_bool, ty_bool_bool, ty_tuple_bool, ty_list_bool, nd_int, non_int, ty_str_int, ty_int_int, ty_bool_int, ty_tuple_int, ty_list_int, nd_str, non_str, ty_str_str, ty_int_str, ty_bool_str, ty_tuple_str, ty_list_str, nd_list, non_list, ty_str_list, ty_int_list, ty_bool_list, ty_tuple_list, ty_list_list, nd_tuple, non_tuple, ty_str_tuple, ty_int_tuple, ty_bool_tuple, ty_tuple_tuple, ty_list_tuple, len_list, len_tuple, list_list, list_tuple, tup_list, tup_tuple, ix_list, ix_tuple, tr_bool, tr_none, tr_int, tr_list, tr_tuple, lst_list, lst_eL, atI_0, atI_1, atI_2, atI_3, $ts,*])
theorem libG : LibG T.fn := ⟨rfl, rfl, rfl, rfl, rfl, rfl, rfl, rfl⟩
theorem libC : LibC T.fn := ⟨⟨⟨⟨rfl, rfl, rfl, rfl, rfl, rfl⟩, rfl, rfl, rfl, rfl⟩, rfl, rfl, rfl, rfl, rfl, rfl⟩, rfl, rfl, rfl, rfl, rfl⟩
theorem libF : LibF T.fn := ⟨rfl, rfl⟩
theorem pure (ns : List Int) : Phi T.fn 20 "law" [.d (.list (ns.map .int))] = .ret (.bool true) .none := by
  show Phi T.fn (19 + 1) "law" [.d (eI ns)] = _
  have law_fn : T.fn "law" = some c_law_k04 := rfl
  rw [Phi_succ law_fn, run1 [.v (eI ns), .un, .un, .un, .un, .un, .un, .un] rfl rfl]
  have P := poolOk ns 20
  have hpl := phi_pool (n := 15) libG (ns := ns) (at_ := 20) (by decide)
  have q1 := phi_offer (n := 15) libG (ns := ns) (at_ := 100) (pool := poolOf ns 20) (by decide)
  have q2 := phi_offer (n := 15) libG (ns := ns) (at_ := 300) (pool := poolOf ns 20) (by decide)
  have q3 := phi_rules (n := 15) libG (ns := ns) (at_ := 500) (pool := poolOf ns 20) (by decide) (by have := P.pos; omega)
  have k1 := offer_ok P ns 100
  have k2 := offer_ok P ns 300
  have k3 := (rules_ok P ns 500).1
  have W0 := world_ok P ns (os := [offerOf ns 100 (poolOf ns 20), offerOf ns 300 (poolOf ns 20)]) (by simp) (fun o ho => by
    simp only [List.mem_cons, List.not_mem_nil, or_false] at ho
    rcases ho with rfl | rfl
    · exact ⟨100, rfl⟩
    · exact ⟨300, rfl⟩) (by simp) 500
  have hl : (offerOf ns 100 (poolOf ns 20)).rows.length ≤ 5 := by
    have := (rowsRaw_ok (pool := poolOf ns 20) ns 100).2.2
    show (rowsOf ns 100 (poolOf ns 20)).length ≤ 5
    unfold rowsOf
    rw [List.length_map, List.length_mergeSort, List.length_map]
    omega
  generalize rulesOf ns 500 (poolOf ns 20) = r at q3 k3 W0
  generalize offerOf ns 300 (poolOf ns 20) = o2 at q2 k2 W0
  generalize offerOf ns 100 (poolOf ns 20) = o1 at q1 k1 W0 hl
  generalize poolOf ns 20 = pool at P hpl q1 q2 q3 W0
  obtain ⟨W, hW, q4⟩ := phi_wider (n := 15) (ns := ns) libG rfl P k1 hl (fun q hq => (W0.feat o1 (by simp) q hq).1)
  have WW := wide_world hW k2 W0
  have c1 := phi_choose (n := 13) libC k1 k2 k3 W0
  have c2 := phi_choose (n := 13) libC hW.ok k2 k3 WW
  unfold c_law_k04
  dsimp only
  refine stepK (ρ' := [.v (eI ns), .v (eL pool), .un, .un, .un, .un, .un, .un]) (by simp_arith [callK_2 hpl]) ?_
  refine stepK (ρ' := [.v (eI ns), .v (eL pool), .v (eO o1), .un, .un, .un, .un, .un]) (by simp_arith [callK_3 q1]) ?_
  refine stepK (ρ' := [.v (eI ns), .v (eL pool), .v (eO o1), .v (eO o2), .un, .un, .un, .un]) (by simp_arith [callK_3 q2]) ?_
  refine stepK (ρ' := [.v (eI ns), .v (eL pool), .v (eO o1), .v (eO o2), .v (eR r), .un, .un, .un]) (by simp_arith [callK_3 q3]) ?_
  refine stepK (ρ' := [.v (eI ns), .v (eL pool), .v (eO o1), .v (eO o2), .v (eR r), .v (eO W), .un, .un]) (by simp_arith [callK_4 q4]) ?_
  refine stepK (ρ' := [.v (eI ns), .v (eL pool), .v (eO o1), .v (eO o2), .v (eR r), .v (eO W), .v (eC (bestOf [o1, o2] r)), .un]) (by simp_arith [callK_3 c1]) ?_
  refine stepK (ρ' := [.v (eI ns), .v (eL pool), .v (eO o1), .v (eO o2), .v (eR r), .v (eO W), .v (eC (bestOf [o1, o2] r)), .v (eC (bestOf [W, o2] r))]) (by simp_arith [callK_3 c2]) ?_
  cases hb : bestOf [o1, o2] r with
  | none =>
    have z1 : isNoneD (eC none) = true := rfl
    cases hb2 : bestOf [W, o2] r with
    | none => simp_arith [z1]
    | some c =>
      have hf := (bestOf_some hW.ok.ris hb2).2.1
      have q5 := phi_fits (n := 17) libF [W, o2] r c.1 c.2
      rw [lawFits_iff.mpr hf] at q5
      have e0 : PyData.list [eO W, eO o2] = eOs [W, o2] := rfl
      rw [eC_some]
      simp_arith [z1, non_eCh, ix_eCh0, ix_eCh1, e0, callK_4 q5]
  | some c =>
    obtain ⟨v, C⟩ := c
    have B := best_ok P k1 W0 hb
    have hfW := wide_fits k1 hW B.fits
    cases hb2 : bestOf [W, o2] r with
    | none => exact absurd hfW (bestOf_none hb2 v C)
    | some d =>
      obtain ⟨u, D⟩ := d
      have hmax := (bestOf_some hW.ok.ris hb2).2.2
      have hlt : vlt u v = false := by
        cases q : vlt u v with
        | false => rfl
        | true => exact absurd hfW (hmax v C q)
      have f1 : fitsBoth o1 o2 r (v, C) = true := (fitsBoth_iff (c := (v, C)) B.ok.2.2).mpr B.fits
      have f2 : fitsBoth W o2 r (v, C) = true := (fitsBoth_iff (c := (v, C)) B.ok.2.2).mpr hfW
      have i1 := phi_is_choice (n := 13) (c := (v, C)) libC rfl rfl k1 k2 k3 W0 B.ver B.ok
      have i2 := phi_is_choice (n := 13) (c := (v, C)) libC rfl rfl hW.ok k2 k3 WW B.ver B.ok
      rw [f1] at i1
      rw [f2] at i2
      rw [eC_some, eC_some]
      simp_arith [non_eCh, ix_eCh0, hlt, callK_4 i1, callK_4 i2]
end G6.K04
-- ## Hk04
namespace G6.K04
open PySem PySem.Spec PyProof.Rows L2
def top (i : Nat) : Stmt := PySem.Challenge.pw_makegreet_k04_whole_more_offered.main.body.getD i (.Pass ⟨0, 0, 0, 0⟩)
def d_is_feature : He.DefD := ⟨("is_feature", none), "is_feature", "is_feature", defArgs (top 11), defBody (top 11), defScope (top 11), [], []⟩
def N_is_feature : List Str := ["thing", "sign"]
theorem m_is_feature : mtSs T N_is_feature c_is_feature.body (defScope (top 11)) (defBody (top 11)) = true := by kernel_rfl
def d_is_whole : He.DefD := ⟨("is_whole", none), "is_whole", "is_whole", defArgs (top 12), defBody (top 12), defScope (top 12), [], []⟩
def N_is_whole : List Str := ["thing", "most"]
theorem m_is_whole : mtSs T N_is_whole c_is_whole.body (defScope (top 12)) (defBody (top 12)) = true := by kernel_rfl
def d_is_version : He.DefD := ⟨("is_version", none), "is_version", "is_version", defArgs (top 13), defBody (top 13), defScope (top 13), [], []⟩
def N_is_version : List Str := ["thing", "number"]
theorem m_is_version : mtSs T N_is_version c_is_version.body (defScope (top 13)) (defBody (top 13)) = true := by kernel_rfl
def d_are_features : He.DefD := ⟨("are_features", none), "are_features", "are_features", defArgs (top 14), defBody (top 14), defScope (top 14), [], []⟩
def N_are_features : List Str := ["thing", "one"]
theorem m_are_features : mtSs T N_are_features c_are_features.body (defScope (top 14)) (defBody (top 14)) = true := by kernel_rfl
def d_are_pairs : He.DefD := ⟨("are_pairs", none), "are_pairs", "are_pairs", defArgs (top 15), defBody (top 15), defScope (top 15), [], []⟩
def N_are_pairs : List Str := ["thing", "pair", "one"]
theorem m_are_pairs : mtSs T N_are_pairs c_are_pairs.body (defScope (top 15)) (defBody (top 15)) = true := by kernel_rfl
def d_are_rules : He.DefD := ⟨("are_rules", none), "are_rules", "are_rules", defArgs (top 16), defBody (top 16), defScope (top 16), [], []⟩
def N_are_rules : List Str := ["thing", "one"]
theorem m_are_rules : mtSs T N_are_rules c_are_rules.body (defScope (top 16)) (defBody (top 16)) = true := by kernel_rfl
def d_need_rules : He.DefD := ⟨("need_rules", none), "need_rules", "need_rules", defArgs (top 17), defBody (top 17), defScope (top 17), [], []⟩
def N_need_rules : List Str := ["rules"]
theorem m_need_rules : mtSs T N_need_rules c_need_rules.body (defScope (top 17)) (defBody (top 17)) = true := by kernel_rfl
def d_is_row : He.DefD := ⟨("is_row", none), "is_row", "is_row", defArgs (top 18), defBody (top 18), defScope (top 18), [], []⟩
def N_is_row : List Str := ["thing"]
theorem m_is_row : mtSs T N_is_row c_is_row.body (defScope (top 18)) (defBody (top 18)) = true := by kernel_rfl
def d_is_offer : He.DefD := ⟨("is_offer", none), "is_offer", "is_offer", defArgs (top 19), defBody (top 19), defScope (top 19), [], []⟩
def N_is_offer : List Str := ["thing", "k", "row"]
theorem m_is_offer : mtSs T N_is_offer c_is_offer.body (defScope (top 19)) (defBody (top 19)) = true := by kernel_rfl
def d_need_offer : He.DefD := ⟨("need_offer", none), "need_offer", "need_offer", defArgs (top 20), defBody (top 20), defScope (top 20), [], []⟩
def N_need_offer : List Str := ["offer"]
theorem m_need_offer : mtSs T N_need_offer c_need_offer.body (defScope (top 20)) (defBody (top 20)) = true := by kernel_rfl
def d_features_at : He.DefD := ⟨("features_at", none), "features_at", "features_at", defArgs (top 21), defBody (top 21), defScope (top 21), [], []⟩
def N_features_at : List Str := ["offer", "version", "one", "features"]
theorem m_features_at : mtSs T N_features_at c_features_at.body (defScope (top 21)) (defBody (top 21)) = true := by kernel_rfl
def d_closure : He.DefD := ⟨("closure", none), "closure", "closure", defArgs (top 23), defBody (top 23), defScope (top 23), [], []⟩
def N_closure : List Str := ["rules", "some", "found", "before", "more", "one", "other"]
theorem m_closure : mtSs T N_closure c_closure.body (defScope (top 23)) (defBody (top 23)) = true := by kernel_rfl
def d_barred_pair : He.DefD := ⟨("barred_pair", none), "barred_pair", "barred_pair", defArgs (top 24), defBody (top 24), defScope (top 24), [], []⟩
def N_barred_pair : List Str := ["rules", "some", "one", "other"]
theorem m_barred_pair : mtSs T N_barred_pair c_barred_pair.body (defScope (top 24)) (defBody (top 24)) = true := by kernel_rfl
def d_common : He.DefD := ⟨("common", none), "common", "common", defArgs (top 25), defBody (top 25), defScope (top 25), [], []⟩
def N_common : List Str := ["offers", "version", "found", "offer", "known", "feature"]
theorem m_common : mtSs T N_common c_common.body (defScope (top 25)) (defBody (top 25)) = true := by kernel_rfl
def d_musts : He.DefD := ⟨("musts", none), "musts", "musts", defArgs (top 26), defBody (top 26), defScope (top 26), [], []⟩
def N_musts : List Str := ["offers", "found", "offer", "feature"]
theorem m_musts : mtSs T N_musts c_musts.body (defScope (top 26)) (defBody (top 26)) = true := by kernel_rfl
def d_is_fit : He.DefD := ⟨("is_fit", none), "is_fit", "is_fit", defArgs (top 27), defBody (top 27), defScope (top 27), [], []⟩
def N_is_fit : List Str := ["rules", "known", "some", "feature"]
theorem m_is_fit : mtSs T N_is_fit c_is_fit.body (defScope (top 27)) (defBody (top 27)) = true := by kernel_rfl
def d_versions_of : He.DefD := ⟨("versions_of", none), "versions_of", "versions_of", defArgs (top 28), defBody (top 28), defScope (top 28), [], []⟩
def N_versions_of : List Str := ["offers", "rows", "offer", "version", "features"]
theorem m_versions_of : mtSs T N_versions_of c_versions_of.body (defScope (top 28)) (defBody (top 28)) = true := by kernel_rfl
def d_order_of : He.DefD := ⟨("order_of", none), "order_of", "order_of", defArgs (top 29), defBody (top 29), defScope (top 29), [], []⟩
def N_order_of : List Str := ["rules", "known", "one"]
theorem m_order_of : mtSs T N_order_of c_order_of.body (defScope (top 29)) (defBody (top 29)) = true := by kernel_rfl
def d_best_at : He.DefD := ⟨("best_at", none), "best_at", "best_at", defArgs (top 30), defBody (top 30), defScope (top 30), [], []⟩
def N_best_at : List Str := ["offers", "rules", "version", "known", "some", "feature", "more"]
theorem m_best_at : mtSs T N_best_at c_best_at.body (defScope (top 30)) (defBody (top 30)) = true := by kernel_rfl
def d_best_of : He.DefD := ⟨("best_of", none), "best_of", "best_of", defArgs (top 31), defBody (top 31), defScope (top 31), [], []⟩
def N_best_of : List Str := ["offers", "rules", "least", "version", "some", "offer"]
theorem m_best_of : mtSs T N_best_of c_best_of.body (defScope (top 31)) (defBody (top 31)) = true := by kernel_rfl
def d_choose : He.DefD := ⟨("choose", none), "choose", "choose", defArgs (top 32), defBody (top 32), defScope (top 32), [], []⟩
def N_choose : List Str := ["mine", "theirs", "rules"]
theorem m_choose : mtSs T N_choose c_choose.body (defScope (top 32)) (defBody (top 32)) = true := by kernel_rfl
def d_fits_both : He.DefD := ⟨("fits_both", none), "fits_both", "fits_both", defArgs (top 34), defBody (top 34), defScope (top 34), [], []⟩
def N_fits_both : List Str := ["mine", "theirs", "rules", "choice", "offers", "feature", "offer"]
theorem m_fits_both : mtSs T N_fits_both c_fits_both.body (defScope (top 34)) (defBody (top 34)) = true := by kernel_rfl
def d_is_choice : He.DefD := ⟨("is_choice", none), "is_choice", "is_choice", defArgs (top 35), defBody (top 35), defScope (top 35), [], []⟩
def N_is_choice : List Str := ["mine", "theirs", "rules", "thing"]
theorem m_is_choice : mtSs T N_is_choice c_is_choice.body (defScope (top 35)) (defBody (top 35)) = true := by kernel_rfl
def d_law_cell_at : He.DefD := ⟨("_law_cell_at", none), "_law_cell_at", "_law_cell_at", defArgs (top 37), defBody (top 37), defScope (top 37), [], []⟩
def N_law_cell_at : List Str := ["script", "k"]
theorem m_law_cell_at : mtSs T N_law_cell_at c_law_cell_at.body (defScope (top 37)) (defBody (top 37)) = true := by kernel_rfl
def d_law_mixed : He.DefD := ⟨("_law_mixed", none), "_law_mixed", "_law_mixed", defArgs (top 38), defBody (top 38), defScope (top 38), [], []⟩
def N_law_mixed : List Str := ["script", "k", "many", "drawn"]
theorem m_law_mixed : mtSs T N_law_mixed c_law_mixed.body (defScope (top 38)) (defBody (top 38)) = true := by kernel_rfl
def d_law_word : He.DefD := ⟨("_law_word", none), "_law_word", "_law_word", defArgs (top 39), defBody (top 39), defScope (top 39), [], []⟩
def N_law_word : List Str := ["script", "at", "made", "k"]
theorem m_law_word : mtSs T N_law_word c_law_word.body (defScope (top 39)) (defBody (top 39)) = true := by kernel_rfl
def d_law_pool : He.DefD := ⟨("_law_pool", none), "_law_pool", "_law_pool", defArgs (top 40), defBody (top 40), defScope (top 40), [], []⟩
def N_law_pool : List Str := ["script", "at", "found", "k"]
theorem m_law_pool : mtSs T N_law_pool c_law_pool.body (defScope (top 40)) (defBody (top 40)) = true := by kernel_rfl
def d_law_some : He.DefD := ⟨("_law_some", none), "_law_some", "_law_some", defArgs (top 41), defBody (top 41), defScope (top 41), [], []⟩
def N_law_some : List Str := ["script", "at", "pool", "part", "k", "word"]
theorem m_law_some : mtSs T N_law_some c_law_some.body (defScope (top 41)) (defBody (top 41)) = true := by kernel_rfl
def d_law_offer : He.DefD := ⟨("_law_offer", none), "_law_offer", "_law_offer", defArgs (top 42), defBody (top 42), defScope (top 42), [], []⟩
def N_law_offer : List Str := ["script", "at", "pool", "rows", "k", "least", "must", "bar", "here", "version"]
theorem m_law_offer : mtSs T N_law_offer c_law_offer.body (defScope (top 42)) (defBody (top 42)) = true := by kernel_rfl
def d_law_pairs : He.DefD := ⟨("_law_pairs", none), "_law_pairs", "_law_pairs", defArgs (top 43), defBody (top 43), defScope (top 43), [], []⟩
def N_law_pairs : List Str := ["script", "at", "pool", "most", "made", "k", "one", "two"]
theorem m_law_pairs : mtSs T N_law_pairs c_law_pairs.body (defScope (top 43)) (defBody (top 43)) = true := by kernel_rfl
def d_law_rules : He.DefD := ⟨("_law_rules", none), "_law_rules", "_law_rules", defArgs (top 44), defBody (top 44), defScope (top 44), [], []⟩
def N_law_rules : List Str := ["script", "at", "pool", "order", "k", "word"]
theorem m_law_rules : mtSs T N_law_rules c_law_rules.body (defScope (top 44)) (defBody (top 44)) = true := by kernel_rfl
def d_law_known : He.DefD := ⟨("_law_known", none), "_law_known", "_law_known", defArgs (top 45), defBody (top 45), defScope (top 45), [], []⟩
def N_law_known : List Str := ["offer", "version", "row"]
theorem m_law_known : mtSs T N_law_known c_law_known.body (defScope (top 45)) (defBody (top 45)) = true := by kernel_rfl
def d_law_fits : He.DefD := ⟨("_law_fits", none), "_law_fits", "_law_fits", defArgs (top 46), defBody (top 46), defScope (top 46), [], []⟩
def N_law_fits : List Str := ["offers", "rules", "version", "some", "offer", "known", "one", "two"]
theorem m_law_fits : mtSs T N_law_fits c_law_fits.body (defScope (top 46)) (defBody (top 46)) = true := by kernel_rfl
def d_law_wider : He.DefD := ⟨("_law_wider", none), "_law_wider", "_law_wider", defArgs (top 47), defBody (top 47), defScope (top 47), [], []⟩
def N_law_wider : List Str := ["script", "at", "pool", "offer", "kind", "rows", "least", "must", "bar", "version", "row"]
theorem m_law_wider : mtSs T N_law_wider c_law_wider.body (defScope (top 47)) (defBody (top 47)) = true := by kernel_rfl
def d_law : He.DefD := ⟨("law", none), "law", "law", defArgs (top 48), defBody (top 48), defScope (top 48), [], []⟩
def N_law : List Str := ["script", "pool", "mine", "theirs", "rules", "wider", "before", "behind"]
theorem m_law : mtSs T N_law c_law_k04.body (defScope (top 48)) (defBody (top 48)) = true := by kernel_rfl
def fn : List He.DefD := [d_is_feature, d_is_whole, d_is_version, d_are_features, d_are_pairs, d_are_rules, d_need_rules, d_is_row, d_is_offer, d_need_offer, d_features_at, d_closure, d_barred_pair, d_common, d_musts, d_is_fit, d_versions_of, d_order_of, d_best_at, d_best_of, d_choose, d_fits_both, d_is_choice, d_law_cell_at, d_law_mixed, d_law_word, d_law_pool, d_law_some, d_law_offer, d_law_pairs, d_law_rules, d_law_known, d_law_fits, d_law_wider, d_law]
def fa : List He.Fa := [.glo "is_feature", .glo "is_whole", .glo "is_version", .glo "are_features", .glo "are_pairs", .glo "are_rules", .glo "need_rules", .glo "is_row", .glo "is_offer", .glo "need_offer", .glo "features_at", .glo "closure", .glo "barred_pair", .glo "common", .glo "musts", .glo "is_fit", .glo "versions_of", .glo "order_of", .glo "best_at", .glo "best_of", .glo "choose", .glo "fits_both", .glo "is_choice", .glo "_law_cell_at", .glo "_law_mixed", .glo "_law_word", .glo "_law_pool", .glo "_law_some", .glo "_law_offer", .glo "_law_pairs", .glo "_law_rules", .glo "_law_known", .glo "_law_fits", .glo "_law_wider", .glo "law", .free "len", .free "sorted", .free "all", .free "any", .free "max", .free "min", .free "list", .free "tuple", .free "int", .free "str", .free "range", .free "enumerate", .free "isinstance", .free "set", .free "dict", .free "bool", .int "FEATURES" 6, .int "GREAT" 99, .str "LETTERS" "abcdefghijklmnopqrstuvwxyz", .int "LONGEST" 6, .int "PAIRS" 8, .int "ROWS" 6, .glo "NoOffer", .exc "NoOffer", .glo "NoRules", .exc "NoRules"]
abbrev R : PySem.W.OpenRow := PySem.W.OpenLaw.row PySem.Challenge.rw_makegreet_k04_whole_more_offered
abbrev hk : PySem.W.Hook := He.hookD 4 fa fn
def ob (s : PySem.W.SharedT) : He.AlD := He.obsDG 4 fa fn (HandSHeadRun.getT s)
theorem ob_eq (s : PySem.W.SharedT) : ob s = hk.obs s.abs := He.obsDG_eq (HandSHeadRun.getT_eq s)
def loose : List Str := ([("GreetError" : Str), ("NoRules" : Str), ("NoOffer" : Str), ("LETTERS" : Str), ("LONGEST" : Str), ("GREAT" : Str), ("FEATURES" : Str), ("ROWS" : Str), ("PAIRS" : Str), ("is_feature" : Str), ("is_whole" : Str), ("is_version" : Str), ("are_features" : Str), ("are_pairs" : Str), ("are_rules" : Str), ("need_rules" : Str), ("is_row" : Str), ("is_offer" : Str), ("need_offer" : Str), ("features_at" : Str), ("closure" : Str), ("barred_pair" : Str), ("common" : Str), ("musts" : Str), ("is_fit" : Str), ("versions_of" : Str), ("order_of" : Str), ("best_at" : Str), ("best_of" : Str), ("choose" : Str), ("fits_both" : Str), ("is_choice" : Str), ("_law_cell_at" : Str), ("_law_mixed" : Str), ("_law_word" : Str), ("_law_pool" : Str), ("_law_some" : Str), ("_law_offer" : Str), ("_law_pairs" : Str), ("_law_rules" : Str)] : List Str) ++ ([("_law_known" : Str), ("_law_fits" : Str), ("_law_wider" : Str)] : List Str)
theorem run (w : World) : HandSHeadRun.RunEq R (PySem.W.view R.prog [48]) hk ob 4000 loose w := by
  intro os
  kernel_rfl
section
variable {K : PySem.W.Frag} {h : Heap} {mg : Str → Option Value}
theorem g_is_feature (X : K.In h) (G : h.Ns mainGlobals mg) (c : He.SaysD fa fn K) : FnGood T K mg ("is_feature", c_is_feature) := by
  obtain ⟨fd, F⟩ := c.def_ 0 (d := d_is_feature) rfl
  exact ⟨_, fd, _, _, _, _, N_is_feature, ["thing"], He.glo_ok X G (c.fact 0 (f := .glo "is_feature") rfl), F, F.bindsN (fun _ _ _ _ _ _ us hl => match us, hl with | [_], _ => rfl), ⟨rfl, rfl, rfl, by decide +kernel, rfl, by decide +kernel, by decide +kernel⟩, m_is_feature, rfl, rfl, by decide⟩
theorem g_is_whole (X : K.In h) (G : h.Ns mainGlobals mg) (c : He.SaysD fa fn K) : FnGood T K mg ("is_whole", c_is_whole) := by
  obtain ⟨fd, F⟩ := c.def_ 1 (d := d_is_whole) rfl
  exact ⟨_, fd, _, _, _, _, N_is_whole, ["thing", "most"], He.glo_ok X G (c.fact 1 (f := .glo "is_whole") rfl), F, F.bindsN (fun _ _ _ _ _ _ us hl => match us, hl with | [_, _], _ => rfl), ⟨rfl, rfl, rfl, by decide +kernel, rfl, by decide +kernel, by decide +kernel⟩, m_is_whole, rfl, rfl, by decide⟩
theorem g_is_version (X : K.In h) (G : h.Ns mainGlobals mg) (c : He.SaysD fa fn K) : FnGood T K mg ("is_version", c_is_version) := by
  obtain ⟨fd, F⟩ := c.def_ 2 (d := d_is_version) rfl
  exact ⟨_, fd, _, _, _, _, N_is_version, ["thing"], He.glo_ok X G (c.fact 2 (f := .glo "is_version") rfl), F, F.bindsN (fun _ _ _ _ _ _ us hl => match us, hl with | [_], _ => rfl), ⟨rfl, rfl, rfl, by decide +kernel, rfl, by decide +kernel, by decide +kernel⟩, m_is_version, rfl, rfl, by decide⟩
theorem g_are_features (X : K.In h) (G : h.Ns mainGlobals mg) (c : He.SaysD fa fn K) : FnGood T K mg ("are_features", c_are_features) := by
  obtain ⟨fd, F⟩ := c.def_ 3 (d := d_are_features) rfl
  exact ⟨_, fd, _, _, _, _, N_are_features, ["thing"], He.glo_ok X G (c.fact 3 (f := .glo "are_features") rfl), F, F.bindsN (fun _ _ _ _ _ _ us hl => match us, hl with | [_], _ => rfl), ⟨rfl, rfl, rfl, by decide +kernel, rfl, by decide +kernel, by decide +kernel⟩, m_are_features, rfl, rfl, by decide⟩
theorem g_are_pairs (X : K.In h) (G : h.Ns mainGlobals mg) (c : He.SaysD fa fn K) : FnGood T K mg ("are_pairs", c_are_pairs) := by
  obtain ⟨fd, F⟩ := c.def_ 4 (d := d_are_pairs) rfl
  exact ⟨_, fd, _, _, _, _, N_are_pairs, ["thing"], He.glo_ok X G (c.fact 4 (f := .glo "are_pairs") rfl), F, F.bindsN (fun _ _ _ _ _ _ us hl => match us, hl with | [_], _ => rfl), ⟨rfl, rfl, rfl, by decide +kernel, rfl, by decide +kernel, by decide +kernel⟩, m_are_pairs, rfl, rfl, by decide⟩
theorem g_are_rules (X : K.In h) (G : h.Ns mainGlobals mg) (c : He.SaysD fa fn K) : FnGood T K mg ("are_rules", c_are_rules) := by
  obtain ⟨fd, F⟩ := c.def_ 5 (d := d_are_rules) rfl
  exact ⟨_, fd, _, _, _, _, N_are_rules, ["thing"], He.glo_ok X G (c.fact 5 (f := .glo "are_rules") rfl), F, F.bindsN (fun _ _ _ _ _ _ us hl => match us, hl with | [_], _ => rfl), ⟨rfl, rfl, rfl, by decide +kernel, rfl, by decide +kernel, by decide +kernel⟩, m_are_rules, rfl, rfl, by decide⟩
theorem g_need_rules (X : K.In h) (G : h.Ns mainGlobals mg) (c : He.SaysD fa fn K) : FnGood T K mg ("need_rules", c_need_rules) := by
  obtain ⟨fd, F⟩ := c.def_ 6 (d := d_need_rules) rfl
  exact ⟨_, fd, _, _, _, _, N_need_rules, ["rules"], He.glo_ok X G (c.fact 6 (f := .glo "need_rules") rfl), F, F.bindsN (fun _ _ _ _ _ _ us hl => match us, hl with | [_], _ => rfl), ⟨rfl, rfl, rfl, by decide +kernel, rfl, by decide +kernel, by decide +kernel⟩, m_need_rules, rfl, rfl, by decide⟩
theorem g_is_row (X : K.In h) (G : h.Ns mainGlobals mg) (c : He.SaysD fa fn K) : FnGood T K mg ("is_row", c_is_row) := by
  obtain ⟨fd, F⟩ := c.def_ 7 (d := d_is_row) rfl
  exact ⟨_, fd, _, _, _, _, N_is_row, ["thing"], He.glo_ok X G (c.fact 7 (f := .glo "is_row") rfl), F, F.bindsN (fun _ _ _ _ _ _ us hl => match us, hl with | [_], _ => rfl), ⟨rfl, rfl, rfl, by decide +kernel, rfl, by decide +kernel, by decide +kernel⟩, m_is_row, rfl, rfl, by decide⟩
theorem g_is_offer (X : K.In h) (G : h.Ns mainGlobals mg) (c : He.SaysD fa fn K) : FnGood T K mg ("is_offer", c_is_offer) := by
  obtain ⟨fd, F⟩ := c.def_ 8 (d := d_is_offer) rfl
  exact ⟨_, fd, _, _, _, _, N_is_offer, ["thing"], He.glo_ok X G (c.fact 8 (f := .glo "is_offer") rfl), F, F.bindsN (fun _ _ _ _ _ _ us hl => match us, hl with | [_], _ => rfl), ⟨rfl, rfl, rfl, by decide +kernel, rfl, by decide +kernel, by decide +kernel⟩, m_is_offer, rfl, rfl, by decide⟩
theorem g_need_offer (X : K.In h) (G : h.Ns mainGlobals mg) (c : He.SaysD fa fn K) : FnGood T K mg ("need_offer", c_need_offer) := by
  obtain ⟨fd, F⟩ := c.def_ 9 (d := d_need_offer) rfl
  exact ⟨_, fd, _, _, _, _, N_need_offer, ["offer"], He.glo_ok X G (c.fact 9 (f := .glo "need_offer") rfl), F, F.bindsN (fun _ _ _ _ _ _ us hl => match us, hl with | [_], _ => rfl), ⟨rfl, rfl, rfl, by decide +kernel, rfl, by decide +kernel, by decide +kernel⟩, m_need_offer, rfl, rfl, by decide⟩
theorem g_features_at (X : K.In h) (G : h.Ns mainGlobals mg) (c : He.SaysD fa fn K) : FnGood T K mg ("features_at", c_features_at) := by
  obtain ⟨fd, F⟩ := c.def_ 10 (d := d_features_at) rfl
  exact ⟨_, fd, _, _, _, _, N_features_at, ["offer", "version"], He.glo_ok X G (c.fact 10 (f := .glo "features_at") rfl), F, F.bindsN (fun _ _ _ _ _ _ us hl => match us, hl with | [_, _], _ => rfl), ⟨rfl, rfl, rfl, by decide +kernel, rfl, by decide +kernel, by decide +kernel⟩, m_features_at, rfl, rfl, by decide⟩
theorem g_closure (X : K.In h) (G : h.Ns mainGlobals mg) (c : He.SaysD fa fn K) : FnGood T K mg ("closure", c_closure) := by
  obtain ⟨fd, F⟩ := c.def_ 11 (d := d_closure) rfl
  exact ⟨_, fd, _, _, _, _, N_closure, ["rules", "some"], He.glo_ok X G (c.fact 11 (f := .glo "closure") rfl), F, F.bindsN (fun _ _ _ _ _ _ us hl => match us, hl with | [_, _], _ => rfl), ⟨rfl, rfl, rfl, by decide +kernel, rfl, by decide +kernel, by decide +kernel⟩, m_closure, rfl, rfl, by decide⟩
theorem g_barred_pair (X : K.In h) (G : h.Ns mainGlobals mg) (c : He.SaysD fa fn K) : FnGood T K mg ("barred_pair", c_barred_pair) := by
  obtain ⟨fd, F⟩ := c.def_ 12 (d := d_barred_pair) rfl
  exact ⟨_, fd, _, _, _, _, N_barred_pair, ["rules", "some"], He.glo_ok X G (c.fact 12 (f := .glo "barred_pair") rfl), F, F.bindsN (fun _ _ _ _ _ _ us hl => match us, hl with | [_, _], _ => rfl), ⟨rfl, rfl, rfl, by decide +kernel, rfl, by decide +kernel, by decide +kernel⟩, m_barred_pair, rfl, rfl, by decide⟩
theorem g_common (X : K.In h) (G : h.Ns mainGlobals mg) (c : He.SaysD fa fn K) : FnGood T K mg ("common", c_common) := by
  obtain ⟨fd, F⟩ := c.def_ 13 (d := d_common) rfl
  exact ⟨_, fd, _, _, _, _, N_common, ["offers", "version"], He.glo_ok X G (c.fact 13 (f := .glo "common") rfl), F, F.bindsN (fun _ _ _ _ _ _ us hl => match us, hl with | [_, _], _ => rfl), ⟨rfl, rfl, rfl, by decide +kernel, rfl, by decide +kernel, by decide +kernel⟩, m_common, rfl, rfl, by decide⟩
theorem g_musts (X : K.In h) (G : h.Ns mainGlobals mg) (c : He.SaysD fa fn K) : FnGood T K mg ("musts", c_musts) := by
  obtain ⟨fd, F⟩ := c.def_ 14 (d := d_musts) rfl
  exact ⟨_, fd, _, _, _, _, N_musts, ["offers"], He.glo_ok X G (c.fact 14 (f := .glo "musts") rfl), F, F.bindsN (fun _ _ _ _ _ _ us hl => match us, hl with | [_], _ => rfl), ⟨rfl, rfl, rfl, by decide +kernel, rfl, by decide +kernel, by decide +kernel⟩, m_musts, rfl, rfl, by decide⟩
theorem g_is_fit (X : K.In h) (G : h.Ns mainGlobals mg) (c : He.SaysD fa fn K) : FnGood T K mg ("is_fit", c_is_fit) := by
  obtain ⟨fd, F⟩ := c.def_ 15 (d := d_is_fit) rfl
  exact ⟨_, fd, _, _, _, _, N_is_fit, ["rules", "known", "some"], He.glo_ok X G (c.fact 15 (f := .glo "is_fit") rfl), F, F.bindsN (fun _ _ _ _ _ _ us hl => match us, hl with | [_, _, _], _ => rfl), ⟨rfl, rfl, rfl, by decide +kernel, rfl, by decide +kernel, by decide +kernel⟩, m_is_fit, rfl, rfl, by decide⟩
theorem g_versions_of (X : K.In h) (G : h.Ns mainGlobals mg) (c : He.SaysD fa fn K) : FnGood T K mg ("versions_of", c_versions_of) := by
  obtain ⟨fd, F⟩ := c.def_ 16 (d := d_versions_of) rfl
  exact ⟨_, fd, _, _, _, _, N_versions_of, ["offers"], He.glo_ok X G (c.fact 16 (f := .glo "versions_of") rfl), F, F.bindsN (fun _ _ _ _ _ _ us hl => match us, hl with | [_], _ => rfl), ⟨rfl, rfl, rfl, by decide +kernel, rfl, by decide +kernel, by decide +kernel⟩, m_versions_of, rfl, rfl, by decide⟩
theorem g_order_of (X : K.In h) (G : h.Ns mainGlobals mg) (c : He.SaysD fa fn K) : FnGood T K mg ("order_of", c_order_of) := by
  obtain ⟨fd, F⟩ := c.def_ 17 (d := d_order_of) rfl
  exact ⟨_, fd, _, _, _, _, N_order_of, ["rules", "known"], He.glo_ok X G (c.fact 17 (f := .glo "order_of") rfl), F, F.bindsN (fun _ _ _ _ _ _ us hl => match us, hl with | [_, _], _ => rfl), ⟨rfl, rfl, rfl, by decide +kernel, rfl, by decide +kernel, by decide +kernel⟩, m_order_of, rfl, rfl, by decide⟩
theorem g_best_at (X : K.In h) (G : h.Ns mainGlobals mg) (c : He.SaysD fa fn K) : FnGood T K mg ("best_at", c_best_at) := by
  obtain ⟨fd, F⟩ := c.def_ 18 (d := d_best_at) rfl
  exact ⟨_, fd, _, _, _, _, N_best_at, ["offers", "rules", "version"], He.glo_ok X G (c.fact 18 (f := .glo "best_at") rfl), F, F.bindsN (fun _ _ _ _ _ _ us hl => match us, hl with | [_, _, _], _ => rfl), ⟨rfl, rfl, rfl, by decide +kernel, rfl, by decide +kernel, by decide +kernel⟩, m_best_at, rfl, rfl, by decide⟩
theorem g_best_of (X : K.In h) (G : h.Ns mainGlobals mg) (c : He.SaysD fa fn K) : FnGood T K mg ("best_of", c_best_of) := by
  obtain ⟨fd, F⟩ := c.def_ 19 (d := d_best_of) rfl
  exact ⟨_, fd, _, _, _, _, N_best_of, ["offers", "rules"], He.glo_ok X G (c.fact 19 (f := .glo "best_of") rfl), F, F.bindsN (fun _ _ _ _ _ _ us hl => match us, hl with | [_, _], _ => rfl), ⟨rfl, rfl, rfl, by decide +kernel, rfl, by decide +kernel, by decide +kernel⟩, m_best_of, rfl, rfl, by decide⟩
theorem g_choose (X : K.In h) (G : h.Ns mainGlobals mg) (c : He.SaysD fa fn K) : FnGood T K mg ("choose", c_choose) := by
  obtain ⟨fd, F⟩ := c.def_ 20 (d := d_choose) rfl
  exact ⟨_, fd, _, _, _, _, N_choose, ["mine", "theirs", "rules"], He.glo_ok X G (c.fact 20 (f := .glo "choose") rfl), F, F.bindsN (fun _ _ _ _ _ _ us hl => match us, hl with | [_, _, _], _ => rfl), ⟨rfl, rfl, rfl, by decide +kernel, rfl, by decide +kernel, by decide +kernel⟩, m_choose, rfl, rfl, by decide⟩
theorem g_fits_both (X : K.In h) (G : h.Ns mainGlobals mg) (c : He.SaysD fa fn K) : FnGood T K mg ("fits_both", c_fits_both) := by
  obtain ⟨fd, F⟩ := c.def_ 21 (d := d_fits_both) rfl
  exact ⟨_, fd, _, _, _, _, N_fits_both, ["mine", "theirs", "rules", "choice"], He.glo_ok X G (c.fact 21 (f := .glo "fits_both") rfl), F, F.bindsN (fun _ _ _ _ _ _ us hl => match us, hl with | [_, _, _, _], _ => rfl), ⟨rfl, rfl, rfl, by decide +kernel, rfl, by decide +kernel, by decide +kernel⟩, m_fits_both, rfl, rfl, by decide⟩
theorem g_is_choice (X : K.In h) (G : h.Ns mainGlobals mg) (c : He.SaysD fa fn K) : FnGood T K mg ("is_choice", c_is_choice) := by
  obtain ⟨fd, F⟩ := c.def_ 22 (d := d_is_choice) rfl
  exact ⟨_, fd, _, _, _, _, N_is_choice, ["mine", "theirs", "rules", "thing"], He.glo_ok X G (c.fact 22 (f := .glo "is_choice") rfl), F, F.bindsN (fun _ _ _ _ _ _ us hl => match us, hl with | [_, _, _, _], _ => rfl), ⟨rfl, rfl, rfl, by decide +kernel, rfl, by decide +kernel, by decide +kernel⟩, m_is_choice, rfl, rfl, by decide⟩
theorem g_law_cell_at (X : K.In h) (G : h.Ns mainGlobals mg) (c : He.SaysD fa fn K) : FnGood T K mg ("_law_cell_at", c_law_cell_at) := by
  obtain ⟨fd, F⟩ := c.def_ 23 (d := d_law_cell_at) rfl
  exact ⟨_, fd, _, _, _, _, N_law_cell_at, ["script", "k"], He.glo_ok X G (c.fact 23 (f := .glo "_law_cell_at") rfl), F, F.bindsN (fun _ _ _ _ _ _ us hl => match us, hl with | [_, _], _ => rfl), ⟨rfl, rfl, rfl, by decide +kernel, rfl, by decide +kernel, by decide +kernel⟩, m_law_cell_at, rfl, rfl, by decide⟩
theorem g_law_mixed (X : K.In h) (G : h.Ns mainGlobals mg) (c : He.SaysD fa fn K) : FnGood T K mg ("_law_mixed", c_law_mixed) := by
  obtain ⟨fd, F⟩ := c.def_ 24 (d := d_law_mixed) rfl
  exact ⟨_, fd, _, _, _, _, N_law_mixed, ["script", "k", "many"], He.glo_ok X G (c.fact 24 (f := .glo "_law_mixed") rfl), F, F.bindsN (fun _ _ _ _ _ _ us hl => match us, hl with | [_, _, _], _ => rfl), ⟨rfl, rfl, rfl, by decide +kernel, rfl, by decide +kernel, by decide +kernel⟩, m_law_mixed, rfl, rfl, by decide⟩
theorem g_law_word (X : K.In h) (G : h.Ns mainGlobals mg) (c : He.SaysD fa fn K) : FnGood T K mg ("_law_word", c_law_word) := by
  obtain ⟨fd, F⟩ := c.def_ 25 (d := d_law_word) rfl
  exact ⟨_, fd, _, _, _, _, N_law_word, ["script", "at"], He.glo_ok X G (c.fact 25 (f := .glo "_law_word") rfl), F, F.bindsN (fun _ _ _ _ _ _ us hl => match us, hl with | [_, _], _ => rfl), ⟨rfl, rfl, rfl, by decide +kernel, rfl, by decide +kernel, by decide +kernel⟩, m_law_word, rfl, rfl, by decide⟩
theorem g_law_pool (X : K.In h) (G : h.Ns mainGlobals mg) (c : He.SaysD fa fn K) : FnGood T K mg ("_law_pool", c_law_pool) := by
  obtain ⟨fd, F⟩ := c.def_ 26 (d := d_law_pool) rfl
  exact ⟨_, fd, _, _, _, _, N_law_pool, ["script", "at"], He.glo_ok X G (c.fact 26 (f := .glo "_law_pool") rfl), F, F.bindsN (fun _ _ _ _ _ _ us hl => match us, hl with | [_, _], _ => rfl), ⟨rfl, rfl, rfl, by decide +kernel, rfl, by decide +kernel, by decide +kernel⟩, m_law_pool, rfl, rfl, by decide⟩
theorem g_law_some (X : K.In h) (G : h.Ns mainGlobals mg) (c : He.SaysD fa fn K) : FnGood T K mg ("_law_some", c_law_some) := by
  obtain ⟨fd, F⟩ := c.def_ 27 (d := d_law_some) rfl
  exact ⟨_, fd, _, _, _, _, N_law_some, ["script", "at", "pool", "part"], He.glo_ok X G (c.fact 27 (f := .glo "_law_some") rfl), F, F.bindsN (fun _ _ _ _ _ _ us hl => match us, hl with | [_, _, _, _], _ => rfl), ⟨rfl, rfl, rfl, by decide +kernel, rfl, by decide +kernel, by decide +kernel⟩, m_law_some, rfl, rfl, by decide⟩
theorem g_law_offer (X : K.In h) (G : h.Ns mainGlobals mg) (c : He.SaysD fa fn K) : FnGood T K mg ("_law_offer", c_law_offer) := by
  obtain ⟨fd, F⟩ := c.def_ 28 (d := d_law_offer) rfl
  exact ⟨_, fd, _, _, _, _, N_law_offer, ["script", "at", "pool"], He.glo_ok X G (c.fact 28 (f := .glo "_law_offer") rfl), F, F.bindsN (fun _ _ _ _ _ _ us hl => match us, hl with | [_, _, _], _ => rfl), ⟨rfl, rfl, rfl, by decide +kernel, rfl, by decide +kernel, by decide +kernel⟩, m_law_offer, rfl, rfl, by decide⟩
theorem g_law_pairs (X : K.In h) (G : h.Ns mainGlobals mg) (c : He.SaysD fa fn K) : FnGood T K mg ("_law_pairs", c_law_pairs) := by
  obtain ⟨fd, F⟩ := c.def_ 29 (d := d_law_pairs) rfl
  exact ⟨_, fd, _, _, _, _, N_law_pairs, ["script", "at", "pool", "most"], He.glo_ok X G (c.fact 29 (f := .glo "_law_pairs") rfl), F, F.bindsN (fun _ _ _ _ _ _ us hl => match us, hl with | [_, _, _, _], _ => rfl), ⟨rfl, rfl, rfl, by decide +kernel, rfl, by decide +kernel, by decide +kernel⟩, m_law_pairs, rfl, rfl, by decide⟩
theorem g_law_rules (X : K.In h) (G : h.Ns mainGlobals mg) (c : He.SaysD fa fn K) : FnGood T K mg ("_law_rules", c_law_rules) := by
  obtain ⟨fd, F⟩ := c.def_ 30 (d := d_law_rules) rfl
  exact ⟨_, fd, _, _, _, _, N_law_rules, ["script", "at", "pool"], He.glo_ok X G (c.fact 30 (f := .glo "_law_rules") rfl), F, F.bindsN (fun _ _ _ _ _ _ us hl => match us, hl with | [_, _, _], _ => rfl), ⟨rfl, rfl, rfl, by decide +kernel, rfl, by decide +kernel, by decide +kernel⟩, m_law_rules, rfl, rfl, by decide⟩
theorem g_law_known (X : K.In h) (G : h.Ns mainGlobals mg) (c : He.SaysD fa fn K) : FnGood T K mg ("_law_known", c_law_known) := by
  obtain ⟨fd, F⟩ := c.def_ 31 (d := d_law_known) rfl
  exact ⟨_, fd, _, _, _, _, N_law_known, ["offer", "version"], He.glo_ok X G (c.fact 31 (f := .glo "_law_known") rfl), F, F.bindsN (fun _ _ _ _ _ _ us hl => match us, hl with | [_, _], _ => rfl), ⟨rfl, rfl, rfl, by decide +kernel, rfl, by decide +kernel, by decide +kernel⟩, m_law_known, rfl, rfl, by decide⟩
theorem g_law_fits (X : K.In h) (G : h.Ns mainGlobals mg) (c : He.SaysD fa fn K) : FnGood T K mg ("_law_fits", c_law_fits) := by
  obtain ⟨fd, F⟩ := c.def_ 32 (d := d_law_fits) rfl
  exact ⟨_, fd, _, _, _, _, N_law_fits, ["offers", "rules", "version", "some"], He.glo_ok X G (c.fact 32 (f := .glo "_law_fits") rfl), F, F.bindsN (fun _ _ _ _ _ _ us hl => match us, hl with | [_, _, _, _], _ => rfl), ⟨rfl, rfl, rfl, by decide +kernel, rfl, by decide +kernel, by decide +kernel⟩, m_law_fits, rfl, rfl, by decide⟩
theorem g_law_wider (X : K.In h) (G : h.Ns mainGlobals mg) (c : He.SaysD fa fn K) : FnGood T K mg ("_law_wider", c_law_wider) := by
  obtain ⟨fd, F⟩ := c.def_ 33 (d := d_law_wider) rfl
  exact ⟨_, fd, _, _, _, _, N_law_wider, ["script", "at", "pool", "offer"], He.glo_ok X G (c.fact 33 (f := .glo "_law_wider") rfl), F, F.bindsN (fun _ _ _ _ _ _ us hl => match us, hl with | [_, _, _, _], _ => rfl), ⟨rfl, rfl, rfl, by decide +kernel, rfl, by decide +kernel, by decide +kernel⟩, m_law_wider, rfl, rfl, by decide⟩
theorem g_law (X : K.In h) (G : h.Ns mainGlobals mg) (c : He.SaysD fa fn K) : FnGood T K mg ("law", c_law_k04) := by
  obtain ⟨fd, F⟩ := c.def_ 34 (d := d_law) rfl
  exact ⟨_, fd, _, _, _, _, N_law, ["script"], He.glo_ok X G (c.fact 34 (f := .glo "law") rfl), F, F.bindsN (fun _ _ _ _ _ _ us hl => match us, hl with | [_], _ => rfl), ⟨rfl, rfl, rfl, by decide +kernel, rfl, by decide +kernel, by decide +kernel⟩, m_law, rfl, rfl, by decide⟩
theorem head (X : K.In h) (G : h.Ns mainGlobals mg) (c : He.SaysD fa fn K) : HeadOk T K mg := by
  refine headOk_of ?_ ?_ ?_ ?_
  · exact List.forall_mem_cons.mpr ⟨g_is_feature X G c, List.forall_mem_cons.mpr ⟨g_is_whole X G c, List.forall_mem_cons.mpr ⟨g_is_version X G c, List.forall_mem_cons.mpr ⟨g_are_features X G c, List.forall_mem_cons.mpr ⟨g_are_pairs X G c, List.forall_mem_cons.mpr ⟨g_are_rules X G c, List.forall_mem_cons.mpr ⟨g_need_rules X G c, List.forall_mem_cons.mpr ⟨g_is_row X G c, List.forall_mem_cons.mpr ⟨g_is_offer X G c, List.forall_mem_cons.mpr ⟨g_need_offer X G c, List.forall_mem_cons.mpr ⟨g_features_at X G c, List.forall_mem_cons.mpr ⟨g_closure X G c, List.forall_mem_cons.mpr ⟨g_barred_pair X G c, List.forall_mem_cons.mpr ⟨g_common X G c, List.forall_mem_cons.mpr ⟨g_musts X G c, List.forall_mem_cons.mpr ⟨g_is_fit X G c, List.forall_mem_cons.mpr ⟨g_versions_of X G c, List.forall_mem_cons.mpr ⟨g_order_of X G c, List.forall_mem_cons.mpr ⟨g_best_at X G c, List.forall_mem_cons.mpr ⟨g_best_of X G c, List.forall_mem_cons.mpr ⟨g_choose X G c, List.forall_mem_cons.mpr ⟨g_fits_both X G c, List.forall_mem_cons.mpr ⟨g_is_choice X G c, List.forall_mem_cons.mpr ⟨g_law_cell_at X G c, List.forall_mem_cons.mpr ⟨g_law_mixed X G c, List.forall_mem_cons.mpr ⟨g_law_word X G c, List.forall_mem_cons.mpr ⟨g_law_pool X G c, List.forall_mem_cons.mpr ⟨g_law_some X G c, List.forall_mem_cons.mpr ⟨g_law_offer X G c, List.forall_mem_cons.mpr ⟨g_law_pairs X G c, List.forall_mem_cons.mpr ⟨g_law_rules X G c, List.forall_mem_cons.mpr ⟨g_law_known X G c, List.forall_mem_cons.mpr ⟨g_law_fits X G c, List.forall_mem_cons.mpr ⟨g_law_wider X G c, List.forall_mem_cons.mpr ⟨g_law X G c, List.forall_mem_nil _⟩⟩⟩⟩⟩⟩⟩⟩⟩⟩⟩⟩⟩⟩⟩⟩⟩⟩⟩⟩⟩⟩⟩⟩⟩⟩⟩⟩⟩⟩⟩⟩⟩⟩⟩
  · exact List.forall_mem_cons.mpr ⟨(by obtain ⟨t, e⟩ := He.int_ok X G (c.fact 51 (f := .int "FEATURES" 6) rfl); exact .inl ⟨_, t, rfl, e⟩), List.forall_mem_cons.mpr ⟨(by obtain ⟨t, e⟩ := He.int_ok X G (c.fact 52 (f := .int "GREAT" 99) rfl); exact .inl ⟨_, t, rfl, e⟩), List.forall_mem_cons.mpr ⟨(by obtain ⟨t, e⟩ := He.str_ok X G (c.fact 53 (f := .str "LETTERS" "abcdefghijklmnopqrstuvwxyz") rfl); exact .inr ⟨_, t, rfl, e⟩), List.forall_mem_cons.mpr ⟨(by obtain ⟨t, e⟩ := He.int_ok X G (c.fact 54 (f := .int "LONGEST" 6) rfl); exact .inl ⟨_, t, rfl, e⟩), List.forall_mem_cons.mpr ⟨(by obtain ⟨t, e⟩ := He.int_ok X G (c.fact 55 (f := .int "PAIRS" 8) rfl); exact .inl ⟨_, t, rfl, e⟩), List.forall_mem_cons.mpr ⟨(by obtain ⟨t, e⟩ := He.int_ok X G (c.fact 56 (f := .int "ROWS" 6) rfl); exact .inl ⟨_, t, rfl, e⟩), List.forall_mem_nil _⟩⟩⟩⟩⟩⟩
  · exact List.forall_mem_cons.mpr ⟨He.free_ok X G (c.fact 35 (f := .free "len") rfl), List.forall_mem_cons.mpr ⟨He.free_ok X G (c.fact 36 (f := .free "sorted") rfl), List.forall_mem_cons.mpr ⟨He.free_ok X G (c.fact 37 (f := .free "all") rfl), List.forall_mem_cons.mpr ⟨He.free_ok X G (c.fact 38 (f := .free "any") rfl), List.forall_mem_cons.mpr ⟨He.free_ok X G (c.fact 39 (f := .free "max") rfl), List.forall_mem_cons.mpr ⟨He.free_ok X G (c.fact 40 (f := .free "min") rfl), List.forall_mem_cons.mpr ⟨He.free_ok X G (c.fact 41 (f := .free "list") rfl), List.forall_mem_cons.mpr ⟨He.free_ok X G (c.fact 42 (f := .free "tuple") rfl), List.forall_mem_cons.mpr ⟨He.free_ok X G (c.fact 43 (f := .free "int") rfl), List.forall_mem_cons.mpr ⟨He.free_ok X G (c.fact 44 (f := .free "str") rfl), List.forall_mem_cons.mpr ⟨He.free_ok X G (c.fact 45 (f := .free "range") rfl), List.forall_mem_cons.mpr ⟨He.free_ok X G (c.fact 46 (f := .free "enumerate") rfl), List.forall_mem_cons.mpr ⟨He.free_ok X G (c.fact 47 (f := .free "isinstance") rfl), List.forall_mem_cons.mpr ⟨He.free_ok X G (c.fact 48 (f := .free "set") rfl), List.forall_mem_cons.mpr ⟨He.free_ok X G (c.fact 49 (f := .free "dict") rfl), List.forall_mem_cons.mpr ⟨He.free_ok X G (c.fact 50 (f := .free "bool") rfl), List.forall_mem_nil _⟩⟩⟩⟩⟩⟩⟩⟩⟩⟩⟩⟩⟩⟩⟩⟩
  · exact List.forall_mem_cons.mpr ⟨⟨_, He.glo_ok X G (c.fact 57 (f := .glo "NoOffer") rfl), He.exc_ok (c.fact 58 (f := .exc "NoOffer") rfl)⟩, List.forall_mem_cons.mpr ⟨⟨_, He.glo_ok X G (c.fact 59 (f := .glo "NoRules") rfl), He.exc_ok (c.fact 60 (f := .exc "NoRules") rfl)⟩, List.forall_mem_nil _⟩⟩
end
theorem facts {P : Program} {w : World} {K : PySem.W.Frag} {h : Heap} {mg : Str → Option Value} {f : Addr} (X : K.In h) (G : h.Ns mainGlobals mg) (hfa : mg ("law" : Str) = some (.ref f)) (c : He.SaysD fa fn K) :
    ∃ fd : FuncData, (∀ (s : Shared) (v : Value), BindsTo s fd ⟨[v], []⟩ [("script", v)]) ∧ ∀ base : Heap, K.In base → base.Ns mainGlobals mg → FnOk P w K mg base (L2.CX P w) 20 f fd ["script"] (spOf K mg none (Phi T.fn 20 "law")) := by
  obtain ⟨fd, F⟩ := c.def_ 34 (d := d_law) rfl
  have e := hfa.symm.trans (He.glo_ok X G (c.fact 34 (f := .glo "law") rfl))
  cases e
  have b := FunD.bindsA (ps := ["script"]) F fun _ _ _ _ _ _ us hl => match us, hl with | [_], _ => rfl
  refine ⟨fd, fun s v => b s [v] rfl, fun base _ _ => ?_⟩
  exact fn_step srs (head X G c) (fn_ok srs (head X G c) 19) (f := "law") (fn := c_law_k04) rfl F (N := N_law) ⟨rfl, rfl, rfl, by decide +kernel, rfl, by decide +kernel, by decide +kernel⟩ m_law rfl rfl (by decide)

end G6.K04
-- ## WalkW
namespace G6
open PySem PySem.Spec PyProof.Rows L2
/-- a law: as walk_ofE, what may be let out told by the world, too -/
theorem walk_ofW {l : PySem.W.OpenLaw} {n k : Nat} {q : Program} {loose : List Str} {XP : (Str → Option Value) → Heap → Prop} {YP : World → Heap → Prop} {d : DefRec} {x : Str}
    (hn : l.most = some n) (hn2 : n ≤ sizeLine) (hdf : d.params.defaults = []) (hr : Room k callerA)
    (F : ∀ (w : World) (mg : Str → Option Value) (fa : Addr) (h : Heap), YP w h → h.Ns mainGlobals mg → mg d.name = some (.ref fa) →
      ∃ (K : PySem.W.Frag) (fd : FuncData) (sp : Sp), K.In h ∧ (∀ (s : Shared) (u : Value), BindsTo s fd ⟨[u], []⟩ [(x, u)]) ∧
        (∀ (H : Hp) (a : Addr) (ns : List Int), ns.length ≤ n → L2.Only H → SqL K H a (ns.map V.int) → sp [.ref a] H (fun v _ => v = .bl true) fun _ _ _ => False) ∧
        ∀ base : Heap, K.In base → base.Ns mainGlobals mg → FnOk l.prog w K mg base (L2.CX l.prog w) k fa fd [x] sp) :
    PySem.W.WalkO q loose XP YP l.row.toRowW d [] (fun f vs => PySem.call f vs) := by
  refine Att.attach_call hn hdf fun w s₀ s₁ mg mb fa o pm cd doc a vs ns G Y ho hd hcd hmg hobj hints hlen hg => ?_
  obtain ⟨K, fd, sp, KX, hb, hsp, hF⟩ := F w mg fa _ Y G.T.g hmg
  refine law_call KX G.T.g G.T.b G.T.builtins G.T.nolimit hg hobj hints (Nat.le_trans hlen hn2) hr hF hb (fun H hO hS => hsp H a ns hlen hO hS) fun H e s' c => ?_
  obtain ⟨_, _, _, _, _, _, _, _, _, _, _, _, z⟩ := c
  exact z
end G6
-- ## Zk04
open PySem PySem.W PySem.Calls PyProof.Rows in
theorem G6.K04.holds_of (pure : ∀ ns : List Int, ns.length ≤ 63 → G6.Phi G6.K04.T.fn 20 "law" [.d (.list (ns.map .int))] = .ret (.bool true) .none) : PySem.Challenge.rw_makegreet_k04_whole_more_offered.Holds := by
  w_on; o_law
  refine HandSHeadRun.head_any (r := OpenLaw.row PySem.Challenge.rw_makegreet_k04_whole_more_offered) (q := view (OpenLaw.row PySem.Challenge.rw_makegreet_k04_whole_more_offered).prog [48]) (H := G6.K04.hk) (ob := G6.K04.ob) (M := 4000) (loose := G6.K04.loose) (d := HandSHeadRun.topDef (OpenLaw.row PySem.Challenge.rw_makegreet_k04_whole_more_offered).prog 48) (kwd := []) G6.K04.ob_eq
    (by kernel_rfl) (fun s => by kernel_rfl) G6.K04.run (by kernel_rfl) (by kernel_rfl) (by kernel_rfl) (by rfl) (by first | assumption | decide +kernel) (by decide +kernel) ⟨rfl, rfl, rfl, rfl, rfl, by decide +kernel⟩ ?hw ?hc
  case hw => w_witness2
  case hc =>
    refine G6.walk_ofW (l := PySem.Challenge.rw_makegreet_k04_whole_more_offered) (n := 63) (k := 20) (x := "script") rfl (by decide) (by kernel_rfl) ⟨rfl, by decide, by decide⟩ ?F
    intro w mg fa h Y G hmg0
    obtain ⟨K, KX, c⟩ := Y
    have hmg : mg ("law" : PySem.Str) = some (.ref fa) := by
      have e : (HandSHeadRun.topDef (OpenLaw.row PySem.Challenge.rw_makegreet_k04_whole_more_offered).prog 48).name = ("law" : PySem.Str) := by kernel_rfl
      rw [← e]
      exact hmg0
    obtain ⟨fd, hb, hF⟩ := G6.K04.facts (P := (PySem.Challenge.rw_makegreet_k04_whole_more_offered).prog) (w := w) KX G hmg c
    exact ⟨K, fd, _, KX, hb, fun H a ns hl _ hS => G6.law_sp hS (pure ns hl), hF⟩
theorem PySem.Challenge.cw_makegreet_k04_whole_more_offered_holds : PySem.Challenge.rw_makegreet_k04_whole_more_offered.Holds :=
  G6.K04.holds_of fun ns _ => G6.K04.pure ns
