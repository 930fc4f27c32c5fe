import PyProof.Rows.All
import Wide.All
import OpenK.AllK
import Wide.FinOn
import HandS.ForMost
import HandS.Zip
import KE.SortData
import HandS.IsInst
import HandS.Defaults
import PyProof.ReprReads
import PyProof.ReprRoads
import HandS.RaiseMore
import HandS.RevTup
import HandS.Dict
import HandS.More
import HandS.TupAny
import HandS.Style
import HandS.TupLe
import PyProof.Rows.IntBool
import KE.KDictPairs
import HandS.Iter
import HandS.Text
import HandS.Exc
import HandS.SetKeys
import HandS.Head0
import HandS.Head1
import HandS.Head2
import HandS.HeadEnd
import HandS.HeadHook1
import HandS.HeadHook2
import PySem.Challenge.RW_readorder_k10_blocks_of_logs
set_option Elab.async false
/-! PvA: the by-value machine: values, code, what a piece of code gives. -/
set_option linter.all false
set_option maxRecDepth 100000
set_option maxHeartbeats 1000000
namespace Pv
open PySem

/-- an object that a slot owns -/
inductive MO where
  | lst (ds : List PyData)
  | dic (kvs : List (PyData × PyData))
  | dol (kvs : List (PyData × List PyData))
/-- a value: shared data, an owned object, the script -/
inductive Val where
  | sh (d : PyData)
  | ow (m : MO)
  | scr (ns : List Int)
def MO.data : MO → PyData
  | .lst ds => .list ds
  | .dic kvs => .dict kvs
  | .dol kvs => .dict (kvs.map fun p => (p.1, .list p.2))
/-- an object of one address -/
def MO.one : MO → Bool
  | .dol _ => false
  | _ => true
abbrev Env := List (Option Val)

/-- an exception: its class's number, its fields -/
structure Exn where
  cls : Nat
  fields : List (Str × PyData)
/-- the end of a piece of code -/
inductive Res (α : Type) where
  | ok (a : α) (env : Env)
  | ex (x : Exn) (env : Env)
  | no
def Res.bind {α β : Type} (r : Res α) (f : α → Env → Res β) : Res β := match r with
  | .ok a env => f a env
  | .ex x env => .ex x env
  | .no => .no
def Res.opt {α : Type} (o : Option α) (env : Env) : Res α := match o with
  | some a => .ok a env
  | none => .no

inductive Bop where
  | add | sub | mul | mod | fdiv | pow
inductive Cop where
  | eq | ne | lt | le | gt | ge | inn | nin | isN | notN
inductive Ty where
  | str | int | bool | tuple | list | dict
inductive Pr where
  | len | tuple | list | sorted | all | any | sum | abs | min2 | max2 | int | str | repr | dict | isi (t : Ty)
inductive Mt where
  | upper | join
inductive Tgt where
  | name (i : Nat)
  | tup (ts : List Tgt)
mutual
inductive Ex where
  | cst (d : PyData)
  | glo (d : PyData)
  | var (i : Nat)
  | tup (es : List Ex)
  | lst (es : List Ex)
  | bin (op : Bop) (a b : Ex)
  | neg (a : Ex)
  | not (a : Ex)
  | and (es : List Ex)
  | or (es : List Ex)
  | cmp (op : Cop) (a b : Ex)
  | chain (op op' : Cop) (a b c : Ex)
  | ife (t a b : Ex)
  | idx (a b : Ex)
  | slc (a : Ex) (lo hi : Option Ex)
  | prim (p : Pr) (es : List Ex)
  | meth (m : Mt) (o : Ex) (es : List Ex)
  | call (f : Nat) (perm : List Nat) (es : List Ag)
  | pop (i : Nat)
  | popAt (i : Nat) (e : Ex)
  | dget (o a : Ex)
  | dpop (i : Nat) (e : Ex)
  | rev (a : Ex)
  | lenSet (a : Ex)
  | dict0
  | comp (own : List Nat) (s : Sr) (t : Tgt) (cs : List Ex) (e : Ex)
  | comk (own : List Nat) (i : Nat) (t : Tgt) (cs : List Ex) (e : Ex)
/-- an argument: by value, or a slot lent -/
inductive Ag where
  | val (e : Ex)
  | lend (i : Nat)
/-- what a loop walks -/
inductive Sr where
  | it (e : Ex)
  | rng (a : Ex)
  | rng2 (a b : Ex)
  | zip (a b : Ex)
  | enum (a : Ex)
end
inductive Sx where
  | asg (t : Tgt) (e : Ex)
  | par (i j : Nat) (a b : Ex)
  | unp (is : List Nat) (es : List Ex)
  | aug (i : Nat) (op : Bop) (e : Ex)
  | expr (e : Ex)
  | append (i : Nat) (e : Ex)
  | extend (i : Nat) (e : Ex)
  | seti (i : Nat) (k e : Ex)
  | dset (i : Nat) (k e : Ex)
  | dsa (i : Nat) (k e : Ex)
  | never
  | ifs (c : Ex) (a b : List Sx)
  | loop (s : Sr) (t : Tgt) (b : List Sx)
  | whl (c : Ex) (b : List Sx)
  | ret (e : Ex)
  | retV (i : Nat)
  | retN
  | cont
  | brk
  | pass
end Pv

/-! PvB: what a piece of code gives. -/
set_option linter.all false
set_option maxRecDepth 100000
set_option maxHeartbeats 1000000
namespace Pv
open PySem

/-! ### data -/
def isNon : PyData → Bool
  | .none => true
  | _ => false
mutual
/-- no dict is met where the two are compared -/
def aln : PyData → PyData → Bool
  | .dict _, _ => false
  | .list xs, .list ys => alnAll xs ys
  | .tuple xs, .tuple ys => alnAll xs ys
  | _, .dict _ => false
  | _, _ => true
def alnAll : List PyData → List PyData → Bool
  | x :: xs, y :: ys => aln x y && alnAll xs ys
  | _, _ => true
end
def most : Nat := 16777216
def deepest : Nat := 190
def eqOk (a b : PyData) : Bool := aln a b && decide (min a.depth b.depth ≤ deepest)
def eqD (a b : PyData) : Option Bool := if eqOk a b = true then some (PyData.eqv a b) else none
def ltD (a b : PyData) : Option Bool := match a, b with
  | .int i, .int j => some (decide (i < j))
  | .str x, .str y => some (decide (x.cps.toList < y.cps.toList))
  | _, _ => if PySem.W.alike a b = true ∧ isNon a = false ∧ min a.depth b.depth ≤ deepest then some (PySem.W.dataLt a b) else none
def leD (a b : PyData) : Option Bool := match a, b with
  | .int i, .int j => some (decide (i ≤ j))
  | .str x, .str y => some (!decide (y.cps.toList < x.cps.toList))
  | _, _ => none
/-- a dict's key -/
def keyD : PyData → Option L2.Key
  | .int i => some (.inl i)
  | .str x => some (.inr x)
  | _ => none
def keyB : L2.Key → PyData
  | .inl i => .int i
  | .inr x => .str x
def lookD (ps : List (PyData × PyData)) (k : L2.Key) : Option PyData := (ps.find? fun p => decide (keyD p.1 = some k)).map (·.2)
def putD (ps : List (PyData × PyData)) (k : L2.Key) (d : PyData) : List (PyData × PyData) :=
  if (lookD ps k).isSome = true then ps.map fun p => if keyD p.1 = some k then (p.1, d) else p else ps ++ [(keyB k, d)]
def dropD (ps : List (PyData × PyData)) (k : L2.Key) : List (PyData × PyData) := ps.filter fun p => decide (keyD p.1 ≠ some k)
def mergeD (ps : List (PyData × PyData)) : List (PyData × PyData) → List (PyData × PyData)
  | [] => ps
  | p :: r => match keyD p.1 with
    | some k => mergeD (putD ps k p.2) r
    | none => mergeD ps r
/-- to the list at k, or a new one -/
def putL (ps : List (PyData × List PyData)) (k : L2.Key) (d : PyData) : List (PyData × List PyData) :=
  if (ps.any fun p => decide (keyD p.1 = some k)) = true then ps.map fun p => if keyD p.1 = some k then (p.1, p.2 ++ [d]) else p else ps ++ [(keyB k, [d])]
/-- each once -/
def nubI (ns : List Int) : List Int := ns.foldl (fun σ v => if v ∈ σ then σ else σ ++ [v]) []
/-- pairs of a key and a value -/
def pairsD : List PyData → Option (List (PyData × PyData))
  | [] => some []
  | d :: r => match d with
    | .tuple [a, b] => match keyD a, pairsD r with
      | some _, some q => some ((a, b) :: q)
      | _, _ => none
    | _ => none
/-- x is among them -/
def inD (x : PyData) (ys : List PyData) : Option Bool := if (ys.all fun y => eqOk y x) = true then some (ys.any fun y => PyData.eqv y x) else none
def cmpD (op : Cop) (a b : PyData) : Option Bool := match op with
  | .eq => eqD a b
  | .ne => (eqD a b).map (!·)
  | .lt => ltD a b
  | .gt => match a, b with
    | .int i, .int j => some (decide (j < i))
    | _, _ => none
  | .le => leD a b
  | .ge => match a, b with
    | .int i, .int j => some (decide (j ≤ i))
    | _, _ => none
  | .inn => match a, b with
    | _, .tuple ys => inD a ys
    | _, .list ys => inD a ys
    | .str x, .str z => if x.length = 1 then some (decide (x.cps.toList.headD 0 ∈ z.cps.toList)) else none
    | _, .dict ps => (keyD a).map fun k => (lookD ps k).isSome
    | _, _ => none
  | .nin => match a, b with
    | _, .tuple ys => (inD a ys).map (!·)
    | _, .list ys => (inD a ys).map (!·)
    | .str x, .str z => if x.length = 1 then some (!decide (x.cps.toList.headD 0 ∈ z.cps.toList)) else none
    | _, .dict ps => (keyD a).map fun k => !(lookD ps k).isSome
    | _, _ => none
  | .isN => match b with
    | .none => some (isNon a)
    | _ => none
  | .notN => match b with
    | .none => some (!isNon a)
    | _ => none
def truD : PyData → Option Bool
  | .none => some false
  | .bool b => some b
  | .int i => some (i != 0)
  | .str x => if x.length ≤ most then some ((x.length : Int) != 0) else none
  | .list xs => some (!xs.isEmpty)
  | .tuple xs => some (!xs.isEmpty)
  | .dict _ => none
noncomputable def binD (op : Bop) (a b : PyData) : Option Val := match op, a, b with
  | .add, .int i, .int j => some (.sh (.int (i + j)))
  | .add, .bool i, .int j => some (.sh (.int ((if i = true then 1 else 0) + j)))
  | .add, .str x, .str y => if x.length + y.length ≤ most then some (.sh (.str (x ++ y))) else none
  | .add, .tuple xs, .tuple ys => if xs.length + ys.length ≤ most then some (.sh (.tuple (xs ++ ys))) else none
  | .add, .list xs, .list ys => if xs.length + ys.length ≤ most then some (.ow (.lst (xs ++ ys))) else none
  | .sub, .int i, .int j => some (.sh (.int (i - j)))
  | .sub, .bool i, .int j => some (.sh (.int ((if i = true then 1 else 0) - j)))
  | .mul, .int i, .int j => @ite _ ((-(2 ^ 64) < i ∧ i < 2 ^ 64) ∨ (-(2 ^ 64) < j ∧ j < 2 ^ 64)) (Classical.propDecidable _) (some (.sh (.int (i * j)))) none
  | .mul, .list xs, .int k => @ite _ (-(2 ^ 62) ≤ k ∧ k < 2 ^ 62 ∧ xs.length * k.toNat ≤ most) (Classical.propDecidable _) (some (.ow (.lst (List.replicate k.toNat xs).flatten))) none
  | .mod, .int i, .int j => @ite _ (0 < j) (Classical.propDecidable _) (some (.sh (.int (i % j)))) none
  | .fdiv, .int i, .int j => @ite _ (0 < j ∧ j < 1073741824) (Classical.propDecidable _) (some (.sh (.int (i / j)))) none
  | .pow, .int i, .int j => @ite _ (0 ≤ j ∧ j ≤ 64 ∧ i.natAbs < 2 ^ 256) (Classical.propDecidable _) (some (.sh (.int (i ^ j.toNat)))) none
  | _, _, _ => none
/-- a place, from behind where it is negative -/
def atD {α : Type} (xs : List α) (i : Int) : Option α := L2.atI xs i
def idxD (a b : PyData) : Option PyData := match a, b with
  | .list xs, .int i => atD xs i
  | .tuple xs, .int i => atD xs i
  | .str x, .int i => if x.length ≤ most then (atD x.cps.toList i).map (fun c => .str ⟨#[c]⟩) else none
  | .dict ps, k => (keyD k).bind (lookD ps)
  | _, _ => none
def cutL {α : Type} (xs : List α) (lo hi : Option Int) : List α :=
  (xs.drop (HT.sIx xs.length 0 lo)).take (HT.sIx xs.length xs.length hi - HT.sIx xs.length 0 lo)
def slcD (a : PyData) (lo hi : Option Int) : Option Val := match a with
  | .list xs => some (.ow (.lst (cutL xs lo hi)))
  | .tuple xs => some (.sh (.tuple (cutL xs lo hi)))
  | .str x => if x.length ≤ most then some (.sh (.str ⟨(cutL x.cps.toList lo hi).toArray⟩)) else none
  | _ => none
def isTy (t : Ty) (d : PyData) : Bool := match t, d with
  | .str, .str _ => true
  | .int, .int _ => true
  | .int, .bool _ => true
  | .bool, .bool _ => true
  | .tuple, .tuple _ => true
  | .list, .list _ => true
  | .dict, .dict _ => true
  | _, _ => false
def bools : List PyData → Option (List Bool)
  | [] => some []
  | .bool b :: r => (bools r).map (b :: ·)
  | _ => none
def intsD : List PyData → Option (List Int)
  | [] => some []
  | .int b :: r => (intsD r).map (b :: ·)
  | _ => none
def AlikeAll (ds : List PyData) : Prop := ∀ a ∈ ds, ∀ b ∈ ds, PySem.W.alike a b = true
def sortOk (ds : List PyData) : Bool :=
  (ds.all fun a => ds.all fun b => PySem.W.alike a b) && (ds.all fun d => decide (d.depth ≤ deepest)) && decide (ds.length ≤ most) &&
    ((ds.all fun d => match d with | .tuple _ => true | _ => false) || ds.all fun d => match d with | .tuple _ => false | .none => false | _ => true)
def sortD (ds : List PyData) : List PyData := ds.mergeSort fun a b => !PySem.W.dataLt b a
/-- the keys of a dict, all texts -/
def keysS : List (PyData × PyData) → Option (List Str)
  | [] => some []
  | (.str x, _) :: r => (keysS r).map (x :: ·)
  | _ => none
/-- .. all whole numbers -/
def keysI : List (PyData × PyData) → Option (List Int)
  | [] => some []
  | (.int x, _) :: r => (keysI r).map (x :: ·)
  | _ => none
def primD (p : Pr) (ds : List PyData) : Option Val := match p, ds with
  | .len, [.list xs] => some (.sh (.int xs.length))
  | .len, [.tuple xs] => some (.sh (.int xs.length))
  | .len, [.str x] => if x.length ≤ most then some (.sh (.int x.length)) else none
  | .len, [.dict ps] => some (.sh (.int ps.length))
  | .tuple, [.list xs] => some (.sh (.tuple xs))
  | .tuple, [.tuple xs] => some (.sh (.tuple xs))
  | .list, [.list xs] => some (.ow (.lst xs))
  | .list, [.tuple xs] => some (.ow (.lst xs))
  | .list, [.dict ps] => some (.ow (.lst (ps.map (·.1))))
  | .sorted, [.list xs] => if sortOk xs = true then some (.ow (.lst (sortD xs))) else none
  | .sorted, [.tuple xs] => if sortOk xs = true then some (.ow (.lst (sortD xs))) else none
  | .sorted, [.dict ps] => match keysS ps with
    | some ks => if ks.length < 64 then some (.ow (.lst (sortD (ks.map .str)))) else none
    | none => match keysI ps with
      | some ks => if ks.length < 64 then some (.ow (.lst (sortD (ks.map .int)))) else none
      | none => none
  | .all, [.list xs] => (bools xs).map fun bs => .sh (.bool (bs.all id))
  | .any, [.list xs] => (bools xs).map fun bs => .sh (.bool (bs.any id))
  | .sum, [.list xs] => (intsD xs).map fun ns => .sh (.int ns.sum)
  | .abs, [.int i] => some (.sh (.int (if i < 0 then -i else i)))
  | .min2, [.int i, .int j] => some (.sh (.int (if j < i then j else i)))
  | .max2, [.int i, .int j] => some (.sh (.int (if j > i then j else i)))
  | .int, [.int i] => some (.sh (.int i))
  | .int, [.bool k] => some (.sh (.int (if k then 1 else 0)))
  | .str, [.int i] => if i.natAbs.log2 < 1920 then some (.sh (.str (toString i))) else none
  | .str, [.bool b] => some (.sh (.str (if b then "True" else "False")))
  | .str, [.str x] => some (.sh (.str x))
  | .repr, [d] => if d.showable = true ∧ d.shown.length ≤ most ∧ d.depth ≤ deepest then some (.sh (.str d.shown)) else none
  | .dict, [.list xs] => (pairsD xs).map fun ps => .ow (.dic (mergeD [] ps))
  | .dict, [.tuple xs] => (pairsD xs).map fun ps => .ow (.dic (mergeD [] ps))
  | .dict, [.dict ps] => some (.ow (.dic ps))
  | .isi t, [d] => some (.sh (.bool (isTy t d)))
  | _, _ => none

/-- the texts in a list -/
def strsD : List PyData → Option (List Str)
  | [] => some []
  | .str x :: r => (strsD r).map (x :: ·)
  | _ => none
def methD (m : Mt) (x : Str) (ds : List PyData) : Option Val := match m, ds with
  | .upper, [] => if x.length ≤ 5592405 then some (.sh (.str (PySem.Txt.upper x))) else none
  | .join, [.list ds] => match strsD ds with
    | some ys => if (ys.map (·.length)).sum + ys.length * x.length ≤ 16777216 then some (.sh (.str (PySem.Txt.join x ys))) else none
    | none => none
  | _, _ => none

/-! ### environments -/
def Env.at (env : Env) (i : Nat) : Option Val := (env[i]?).bind id
def Val.data : Val → PyData
  | .sh d => d
  | .ow m => m.data
  | .scr ns => .list (ns.map .int)
/-- an operand: its value, or a slot that is read where it is used -/
inductive Od where
  | vl (v : Val)
  | pk (i : Nat)
def Val.rd : Val → Option Val
  | .ow (.dol _) => none
  | v => some v
/-- what may be lent -/
def Val.lend1 : Val → Option MO
  | .ow (.lst ds) => some (.lst ds)
  | .ow (.dic ps) => some (.dic ps)
  | _ => none
/-- a dict of lists, or the empty dict -/
def Val.dolOf : Val → Option (List (PyData × List PyData))
  | .ow (.dic []) => some []
  | .ow (.dol ps) => some ps
  | _ => none
def lendOf (env : Env) (i : Nat) : Option MO := (env.at i).bind Val.lend1
def Od.val : Od → Env → Option Val
  | .vl v, _ => v.rd
  | .pk i, env => (env.at i).bind Val.rd
def Od.data (o : Od) (env : Env) : Option PyData := (o.val env).map Val.data
/-- a value that may be handed on -/
def Val.share : Val → Option PyData
  | .sh d => some d
  | .ow (.lst ds) => some (.list ds)
  | .ow (.dic kvs) => some (.dict kvs)
  | _ => none
def shareAll : List Val → Option (List PyData)
  | [] => some []
  | v :: r => match v.share, shareAll r with
    | some d, some ds => some (d :: ds)
    | _, _ => none
mutual
def bindT (bor : List Nat) : Tgt → PyData → Env → Option Env
  | .name i, d, env => if i < env.length ∧ i ∉ bor then some (env.set i (some (.sh d))) else none
  | .tup ts, .tuple ds, env => bindTs bor ts ds env
  | .tup _, _, _ => none
def bindTs (bor : List Nat) : List Tgt → List PyData → Env → Option Env
  | [], [], env => some env
  | t :: ts, d :: ds, env => match bindT bor t d env with
    | some env' => bindTs bor ts ds env'
    | none => none
  | _, _, _ => none
end
def wipeE (env : Env) : List Nat → Env
  | [] => env
  | v :: vs => (wipeE env vs).set v none
/-- the slots vs as they were -/
def restE (env env' : Env) : List Nat → Env
  | [] => env'
  | v :: vs => (restE env env' vs).set v (env.at v)
def lentAll (env : Env) : List Nat → Option (List MO)
  | [] => some []
  | i :: r => match lendOf env i, lentAll env r with
    | some m, some ms => some (m :: ms)
    | _, _ => none
def backAll (env : Env) : List Nat → List MO → Env
  | i :: r, m :: ms => (backAll env r ms).set i (some (.ow m))
  | _, _ => env
/-- a call's end -/
inductive CR where
  | ok (v : Val) (outs : List MO)
  | ex (x : Exn) (outs : List MO)
  | no
/-- the arguments as the callee takes them -/
def argVals (env : Env) : List Od → Option (List Val)
  | [] => some []
  | .vl v :: r => match v, argVals env r with
    | .scr ns, some vs => some (.scr ns :: vs)
    | .sh d, some vs => some (.sh d :: vs)
    | .ow (.lst ds), some vs => some (.sh (.list ds) :: vs)
    | .ow (.dic kvs), some vs => some (.sh (.dict kvs) :: vs)
    | _, _ => none
  | .pk i :: r => match lendOf env i, argVals env r with
    | some m, some vs => some (.ow m :: vs)
    | _, _ => none
def lents : List Od → List Nat
  | [] => []
  | .vl _ :: r => lents r
  | .pk i :: r => i :: lents r

section
variable (Φ : Nat → List Val → CR)
/-- the operands in the parameters' order -/
def permO {α : Type} (os : List α) : List Nat → Option (List α)
  | [] => some []
  | j :: r => match os[j]?, permO os r with
    | some o, some q => some (o :: q)
    | _, _ => none
def callO (f : Nat) (os : List Od) (env : Env) : Res Val :=
  match argVals env os with
  | none => .no
  | some vs => if (lents os).Nodup then match Φ f vs with
      | .ok v outs => if outs.length = (lents os).length then .ok v (backAll env (lents os) outs) else .no
      | .ex x outs => if outs.length = (lents os).length then .ex x (backAll env (lents os) outs) else .no
      | .no => .no
    else .no
def callR (f : Nat) (perm : List Nat) (os : List Od) (env : Env) : Res Val :=
  match permO os perm with
  | some os' => if perm.Nodup ∧ perm.length = os.length then callO Φ f os' env else .no
  | none => .no
def opdata : List Od → Env → Option (List PyData)
  | [], _ => some []
  | o :: r, env => match o.data env, opdata r env with
    | some d, some ds => some (d :: ds)
    | _, _ => none
noncomputable def range2 (i j : Int) : Option (List PyData) :=
  @ite _ (-(2 ^ 62) ≤ i ∧ i < 2 ^ 62 ∧ -(2 ^ 62) ≤ j ∧ j < 2 ^ 62) (Classical.propDecidable _) (some ((List.range (j - i).toNat).map fun (k : Nat) => .int (i + (k : Int)))) none
def seqD : PyData → Option (List PyData)
  | .list xs => some xs
  | .tuple xs => some xs
  | _ => none
/-- what a loop walks, item by item -/
def itemsD : PyData → Option (List PyData)
  | .list xs => some xs
  | .tuple xs => some xs
  | .str x => some (x.cps.toList.map fun c => .str ⟨#[c]⟩)
  | _ => none
/-- the turns of a comprehension: t, tests, element -/
def turns (one : PyData → Env → Res (Option PyData)) : List PyData → List PyData → Env → Res (List PyData)
  | [], acc, env => .ok acc env
  | d :: ds, acc, env => match one d env with
    | .ok (some y) env' => turns one ds (acc ++ [y]) env'
    | .ok none env' => turns one ds acc env'
    | _ => .no
/-- the keys of the dict in a slot -/
def keysAt (i : Nat) (env : Env) : Res (List PyData) := match env.at i with
  | some (.sh (.dict ps)) => .ok (ps.map Prod.fst) env
  | some (.ow (.dic ps)) => .ok (ps.map Prod.fst) (env.set i (some (.sh (.dict ps))))
  | _ => .no
mutual
noncomputable def ev (bor : List Nat) : Ex → Env → Res Val
  | .cst d, env => .ok (.sh d) env
  | .glo d, env => .ok (.sh d) env
  | .var i, env => match env.at i with
    | some (.sh d) => .ok (.sh d) env
    | some (.ow (.lst ds)) => .ok (.sh (.list ds)) (env.set i (some (.sh (.list ds))))
    | some (.ow (.dic kvs)) => .ok (.sh (.dict kvs)) (env.set i (some (.sh (.dict kvs))))
    | some (.ow (.dol kvs)) => .ok (.sh (MO.dol kvs).data) (env.set i (some (.sh (MO.dol kvs).data)))
    | some (.scr ns) => .ok (.scr ns) env
    | _ => .no
  | .tup es, env => (evs bor es env).bind fun vs env' => match shareAll vs with
    | some ds => if ds.length ≤ most then .ok (.sh (.tuple ds)) env' else .no
    | none => .no
  | .lst es, env => (evs bor es env).bind fun vs env' => match shareAll vs with
    | some ds => if ds.length ≤ most then .ok (.ow (.lst ds)) env' else .no
    | none => .no
  | .bin op a b, env => (evO bor a env).bind fun x env1 => (evO bor b env1).bind fun y env2 =>
      match x.val env2, y.val env2 with
      | some (.scr _), _ => .no
      | _, some (.scr _) => .no
      | some v, some w => Res.opt (binD op v.data w.data) env2
      | _, _ => .no
  | .neg a, env => (evO bor a env).bind fun x env1 => match x.data env1 with
    | some (.int i) => .ok (.sh (.int (-i))) env1
    | _ => .no
  | .not a, env => (evO bor a env).bind fun x env1 => match x.data env1 with
    | some d => Res.opt ((truD d).map fun b => .sh (.bool (!b))) env1
    | none => .no
  | .and es, env => evAnd bor es env
  | .or es, env => evOr bor es env
  | .cmp op a b, env => (evO bor a env).bind fun x env1 => (evO bor b env1).bind fun y env2 =>
      match x.data env2, y.data env2 with
      | some d, some e => Res.opt ((cmpD op d e).map fun k => .sh (.bool k)) env2
      | _, _ => .no
  | .chain op op' a b c, env => (evO bor a env).bind fun x env1 => (evO bor b env1).bind fun y env2 =>
      match x.data env2, y.data env2 with
      | some d, some e => match cmpD op d e with
        | some false => .ok (.sh (.bool false)) env2
        | some true => (evO bor c env2).bind fun z env3 => match y.data env3, z.data env3 with
          | some e', some g => Res.opt ((cmpD op' e' g).map fun k => .sh (.bool k)) env3
          | _, _ => .no
        | none => .no
      | _, _ => .no
  | .ife t a b, env => (evT bor t env).bind fun k env1 => match k with
    | true => ev bor a env1
    | false => ev bor b env1
  | .idx a b, env => (evO bor a env).bind fun x env1 => (evO bor b env1).bind fun y env2 =>
      match x.data env2, y.data env2 with
      | some d, some e => Res.opt ((idxD d e).map .sh) env2
      | _, _ => .no
  | .slc a lo hi, env => (evO bor a env).bind fun x env1 => (evP bor lo env1).bind fun l env2 => (evP bor hi env2).bind fun h env3 =>
      match x.val env3 with
      | some (.scr _) => .no
      | some v => Res.opt (slcD v.data l h) env3
      | none => .no
  | .prim p es, env => (evOs bor es env).bind fun os env1 => match opdata os env1 with
    | some ds => Res.opt (primD p ds) env1
    | none => .no
  | .meth m o es, env => (evO bor o env).bind fun x env1 => match x.data env1 with
    | some (.str z) => (evOs bor es env1).bind fun os env2 => match opdata os env2 with
      | some ds => Res.opt (methD m z ds) env2
      | none => .no
    | _ => .no
  | .call f perm as, env => (evAs bor as env).bind fun os env1 => callR Φ f perm os env1
  | .rev a, env => (evO bor a env).bind fun x env1 => match x.data env1 with
    | some (.tuple ds) => .ok (.sh (.tuple ds.reverse)) env1
    | _ => .no
  | .lenSet a, env => (evO bor a env).bind fun x env1 => match x.data env1 with
    | some (.list ds) => match intsD ds with
      | some ns => if ns.length ≤ 4000 then .ok (.sh (.int (nubI ns).length)) env1 else .no
      | none => .no
    | _ => .no
  | .dict0, env => .ok (.ow (.dic [])) env
  | .popAt i e, env => match env.at i with
    | some (.ow (.lst _)) => (evO bor e env).bind fun y env1 => match env1.at i, y.data env1 with
      | some (.ow (.lst ds)), some (.int n) => if ds.length ≤ most then match L2.ixN ds.length n with
        | some j => match ds[j]? with
          | some d => .ok (.sh d) (env1.set i (some (.ow (.lst (ds.eraseIdx j)))))
          | none => .no
        | none => .no
        else .no
      | _, _ => .no
    | _ => .no
  | .dget o a, env => (evO bor o env).bind fun x env1 => match x.data env1 with
    | some (.dict _) => (evO bor a env1).bind fun y env2 => match x.data env2, y.data env2 with
      | some (.dict ps), some d => Res.opt ((keyD d).map fun k => .sh ((lookD ps k).getD .none)) env2
      | _, _ => .no
    | _ => .no
  | .dpop i e, env => match env.at i with
    | some (.ow (.dic _)) => (evO bor e env).bind fun y env1 => match env1.at i, y.data env1 with
      | some (.ow (.dic ps)), some kd => match keyD kd with
        | some k => match lookD ps k with
          | some d => .ok (.sh d) (env1.set i (some (.ow (.dic (dropD ps k)))))
          | none => .no
        | none => .no
      | _, _ => .no
    | _ => .no
  | .pop i, env => match env.at i with
    | some (.ow (.lst ds)) => match ds.getLast? with
      | some d => .ok (.sh d) (env.set i (some (.ow (.lst ds.dropLast))))
      | none => .no
    | _ => .no
  | .comp own s t cs e, env => (evS bor s env).bind fun ds env1 =>
      if ds.length ≤ most then
        match turns (fun d en => match bindT bor t d (wipeE en own) with
          | none => .no
          | some en1 => match evCs bor cs en1 with
            | .ok false en2 => .ok none en2
            | .ok true en2 => match ev bor e en2 with
              | .ok v en3 => match v.share with
                | some y => .ok (some y) en3
                | none => .no
              | _ => .no
            | _ => .no) ds [] env1 with
        | .ok ys en => .ok (.ow (.lst ys)) (restE env1 en own)
        | _ => .no
      else .no
  | .comk own i t cs e, env => (keysAt i env).bind fun ds env1 =>
      if ds.length ≤ most then
        match turns (fun d en => match bindT bor t d (wipeE en own) with
          | none => .no
          | some en1 => match evCs bor cs en1 with
            | .ok false en2 => .ok none en2
            | .ok true en2 => match ev bor e en2 with
              | .ok v en3 => match v.share with
                | some y => .ok (some y) en3
                | none => .no
              | _ => .no
            | _ => .no) ds [] env1 with
        | .ok ys en => .ok (.ow (.lst ys)) (restE env1 en own)
        | _ => .no
      else .no
noncomputable def evs (bor : List Nat) : List Ex → Env → Res (List Val)
  | [], env => .ok [] env
  | e :: r, env => (ev bor e env).bind fun v env1 => (evs bor r env1).bind fun vs env2 => .ok (v :: vs) env2
/-- an operand -/
noncomputable def evO (bor : List Nat) : Ex → Env → Res Od
  | .var i, env => match env.at i with
    | some (.ow (.dol kvs)) => .ok (.pk i) (env.set i (some (.sh (MO.dol kvs).data)))
    | some _ => .ok (.pk i) env
    | none => .no
  | e, env => (ev bor e env).bind fun v env1 => .ok (.vl v) env1
noncomputable def evOs (bor : List Nat) : List Ex → Env → Res (List Od)
  | [], env => .ok [] env
  | e :: r, env => (evO bor e env).bind fun v env1 => (evOs bor r env1).bind fun vs env2 => .ok (v :: vs) env2
noncomputable def evAs (bor : List Nat) : List Ag → Env → Res (List Od)
  | [], env => .ok [] env
  | .val e :: r, env => (ev bor e env).bind fun v env1 => (evAs bor r env1).bind fun vs env2 => .ok (.vl v :: vs) env2
  | .lend i :: r, env => match lendOf env i with
    | some _ => (evAs bor r env).bind fun vs env2 => .ok (.pk i :: vs) env2
    | none => .no
noncomputable def evP (bor : List Nat) : Option Ex → Env → Res (Option Int)
  | none, env => .ok none env
  | some e, env => (evO bor e env).bind fun x env1 => match x.data env1 with
    | some (.int i) => .ok (some i) env1
    | _ => .no
/-- a test -/
noncomputable def evT (bor : List Nat) : Ex → Env → Res Bool
  | .not a, env => (evT bor a env).bind fun b env1 => .ok (!b) env1
  | .and es, env => evTA bor es env
  | .or es, env => evTO bor es env
  | .ife t a b, env => (evT bor t env).bind fun k env1 => match k with
    | true => evT bor a env1
    | false => evT bor b env1
  | e, env => (evO bor e env).bind fun x env1 => match x.data env1 with
    | some d => Res.opt (truD d) env1
    | none => .no
noncomputable def evTA (bor : List Nat) : List Ex → Env → Res Bool
  | [], env => .ok true env
  | e :: r, env => (evT bor e env).bind fun b env1 => match b with
    | true => evTA bor r env1
    | false => .ok false env1
noncomputable def evTO (bor : List Nat) : List Ex → Env → Res Bool
  | [], env => .ok false env
  | e :: r, env => (evT bor e env).bind fun b env1 => match b with
    | false => evTO bor r env1
    | true => .ok true env1
noncomputable def evAnd (bor : List Nat) : List Ex → Env → Res Val
  | [], env => .no
  | [e], env => ev bor e env
  | e :: r, env => (ev bor e env).bind fun v env1 => match v with
    | .sh (.bool true) => evAnd bor r env1
    | .sh (.bool false) => .ok (.sh (.bool false)) env1
    | _ => .no
noncomputable def evOr (bor : List Nat) : List Ex → Env → Res Val
  | [], env => .no
  | [e], env => ev bor e env
  | e :: r, env => (ev bor e env).bind fun v env1 => match v with
    | .sh (.bool false) => evOr bor r env1
    | .sh (.bool true) => .ok (.sh (.bool true)) env1
    | _ => .no
noncomputable def evCs (bor : List Nat) : List Ex → Env → Res Bool
  | [], env => .ok true env
  | [c], env => evT bor c env
  | _, env => .no
/-- what a loop walks -/
noncomputable def evS (bor : List Nat) : Sr → Env → Res (List PyData)
  | .it e, env => (ev bor e env).bind fun v env1 => Res.opt (itemsD v.data) env1
  | .rng a, env => (evO bor a env).bind fun x env1 => match x.data env1 with
    | some (.int j) => Res.opt (range2 0 j) env1
    | _ => .no
  | .rng2 a b, env => (evO bor a env).bind fun x env1 => (evO bor b env1).bind fun y env2 => match x.data env2, y.data env2 with
    | some (.int i), some (.int j) => Res.opt (range2 i j) env2
    | _, _ => .no
  | .zip a b, env => (ev bor a env).bind fun v env1 => (ev bor b env1).bind fun w env2 => match v.data, w.data with
    | .list xs, .list ys => .ok ((xs.zip ys).map fun p => .tuple [p.1, p.2]) env2
    | .tuple xs, .tuple ys => .ok ((xs.zip ys).map fun p => .tuple [p.1, p.2]) env2
    | _, _ => .no
  | .enum a, env => (ev bor a env).bind fun v env1 => match v.data with
    | .list xs => .ok (xs.zipIdx.map fun p => .tuple [.int p.2, p.1]) env1
    | _ => .no
end
end
end Pv

/-! PvC: what statements do; calls by depth. -/
set_option linter.all false
set_option maxRecDepth 100000
set_option maxHeartbeats 1000000
namespace Pv
open PySem

inductive Fl where
  | next | cont | brk
  | ret (v : Val)
/-- a loop over items -/
def walk (tgt : PyData → Env → Option Env) (body : Env → Res Fl) : List PyData → Env → Res Fl
  | [], env => .ok .next env
  | d :: ds, env => match tgt d env with
    | none => .no
    | some env1 => match body env1 with
      | .ok .next env2 => walk tgt body ds env2
      | .ok .cont env2 => walk tgt body ds env2
      | .ok .brk env2 => .ok .next env2
      | .ok (.ret v) env2 => .ok (.ret v) env2
      | .ex x env2 => .ex x env2
      | .no => .no
/-- while, at most n turns -/
def whileN (t : Env → Res Bool) (body : Env → Res Fl) : Nat → Env → Res Fl
  | 0, env => .no
  | n + 1, env => match t env with
    | .ok false env1 => .ok .next env1
    | .ok true env1 => match body env1 with
      | .ok .next env2 => whileN t body n env2
      | .ok .cont env2 => whileN t body n env2
      | .ok .brk env2 => .ok .next env2
      | .ok (.ret v) env2 => .ok (.ret v) env2
      | .ex x env2 => .ex x env2
      | .no => .no
    | .ex x env1 => .ex x env1
    | .no => .no
theorem whileN_more (t : Env → Res Bool) (body : Env → Res Fl) : ∀ (n : Nat) (env : Env), whileN t body n env ≠ .no → ∀ m, n ≤ m → whileN t body m env = whileN t body n env
  | 0, env, h, _, _ => absurd rfl h
  | n + 1, env, h, 0, hm => absurd hm (by omega)
  | n + 1, env, h, m + 1, hm => by
    unfold whileN at h ⊢
    cases ht : t env with
    | ok b env1 =>
      rw [ht] at h
      cases b with
      | false => rfl
      | true =>
        simp only at h ⊢
        cases hb : body env1 with
        | ok f env2 =>
          rw [hb] at h
          cases f with
          | next => exact whileN_more t body n env2 h m (by omega)
          | cont => exact whileN_more t body n env2 h m (by omega)
          | brk => rfl
          | ret v => rfl
        | ex x env2 => rfl
        | no => rfl
    | ex x env1 => rfl
    | no => rfl
open Classical in
/-- while: as many turns as it takes -/
noncomputable def whileR (t : Env → Res Bool) (body : Env → Res Fl) (env : Env) : Res Fl :=
  if h : ∃ n, whileN t body n env ≠ .no then whileN t body (choose h) env else .no
theorem whileR_of {t : Env → Res Bool} {body : Env → Res Fl} {n : Nat} {env : Env} {r : Res Fl} (h : whileN t body n env = r) (hr : r ≠ .no) : whileR t body env = r := by
  have hx : ∃ n, whileN t body n env ≠ .no := ⟨n, by rw [h]; exact hr⟩
  unfold whileR
  rw [dif_pos hx]
  have hc := Classical.choose_spec hx
  rcases Nat.le_total n (Classical.choose hx) with q | q
  · rw [whileN_more t body n env (by rw [h]; exact hr) _ q, h]
  · rw [← h, whileN_more t body _ env hc _ q]
theorem whileR_ex {t : Env → Res Bool} {body : Env → Res Fl} {env : Env} {r : Res Fl} (h : whileR t body env = r) (hr : r ≠ .no) : ∃ n, whileN t body n env = r := by
  unfold whileR at h
  split at h
  · exact ⟨_, h⟩
  · exact absurd h.symm hr
/-- one turn -/
theorem whileR_eq (t : Env → Res Bool) (body : Env → Res Fl) (env : Env) : whileR t body env = (match t env with
    | .ok false env1 => .ok .next env1
    | .ok true env1 => match body env1 with
      | .ok .next env2 => whileR t body env2
      | .ok .cont env2 => whileR t body env2
      | .ok .brk env2 => .ok .next env2
      | .ok (.ret v) env2 => .ok (.ret v) env2
      | .ex x env2 => .ex x env2
      | .no => .no
    | .ex x env1 => .ex x env1
    | .no => .no) := by
  by_cases hx : ∃ n, whileN t body n env ≠ .no
  · obtain ⟨n, hn⟩ := hx
    have e := whileR_of (t := t) (body := body) (n := n) (env := env) rfl hn
    rw [e]
    cases n with
    | zero => exact absurd rfl hn
    | succ n =>
      unfold whileN at hn ⊢
      cases ht : t env with
      | ok b env1 =>
        rw [ht] at hn
        cases b with
        | false => rfl
        | true =>
          simp only at hn ⊢
          cases hb : body env1 with
          | ok f env2 =>
            rw [hb] at hn
            cases f with
            | next => exact (whileR_of rfl hn).symm
            | cont => exact (whileR_of rfl hn).symm
            | brk => rfl
            | ret v => rfl
          | ex x env2 => rfl
          | no => rfl
      | ex x env1 => rfl
      | no => rfl
  · have e : whileR t body env = .no := by unfold whileR; rw [dif_neg hx]
    rw [e]
    have none1 : ∀ n, whileN t body n env = .no := fun n => by
      cases h : whileN t body n env with
      | no => rfl
      | ok a b => exact absurd ⟨n, by rw [h]; simp⟩ hx
      | ex a b => exact absurd ⟨n, by rw [h]; simp⟩ hx
    have key : ∀ env2, (∀ n, whileN t body n env2 = .no) → whileR t body env2 = .no := fun env2 h => by
      unfold whileR
      rw [dif_neg (fun ⟨n, q⟩ => q (h n))]
    cases ht : t env with
    | ok b env1 =>
      cases b with
      | false =>
        have q := none1 1
        unfold whileN at q
        rw [ht] at q
        cases q
      | true =>
        simp only
        cases hb : body env1 with
        | ok f env2 =>
          cases f with
          | next =>
            refine (key env2 fun n => ?_).symm
            have q := none1 (n + 1)
            unfold whileN at q
            rw [ht] at q
            simp only [hb] at q
            exact q
          | cont =>
            refine (key env2 fun n => ?_).symm
            have q := none1 (n + 1)
            unfold whileN at q
            rw [ht] at q
            simp only [hb] at q
            exact q
          | brk =>
            have q := none1 1
            unfold whileN at q
            rw [ht] at q
            simp only [hb] at q
            cases q
          | ret v =>
            have q := none1 1
            unfold whileN at q
            rw [ht] at q
            simp only [hb] at q
            cases q
        | ex x env2 =>
          have q := none1 1
          unfold whileN at q
          rw [ht] at q
          simp only [hb] at q
          cases q
        | no => rfl
    | ex x env1 =>
      have q := none1 1
      unfold whileN at q
      rw [ht] at q
      cases q
    | no => rfl

section
variable (Φ : Nat → List Val → CR)
/-- a value into a target -/
def bindV (bor : List Nat) (t : Tgt) (v : Val) (env : Env) : Option Env := match t, v with
  | .name i, .ow m => if i < env.length ∧ i ∉ bor then some (env.set i (some (.ow m))) else none
  | t, .sh d => bindT bor t d env
  | .name i, .scr ns => if i < env.length ∧ i ∉ bor then some (env.set i (some (.scr ns))) else none
  | t, .ow m => none
  | t, .scr ns => none
noncomputable def augD (op : Bop) (a b : PyData) : Option PyData := match op, a, b with
  | .add, .int i, .int j => some (.int (i + j))
  | .sub, .int i, .int j => some (.int (i - j))
  | .mul, .int i, .int j => @ite _ ((-(2 ^ 64) < i ∧ i < 2 ^ 64) ∨ (-(2 ^ 64) < j ∧ j < 2 ^ 64)) (Classical.propDecidable _) (some (.int (i * j))) none
  | _, _, _ => none
/-- all the values, then the slots from the right -/
noncomputable def unpE (bor : List Nat) : List Nat → List Ex → Env → Res Fl
  | [], [], env => .ok .next env
  | i :: is, e :: es, env => (ev Φ bor e env).bind fun v env1 => (unpE bor is es env1).bind fun _ env2 => match bindV bor (.name i) v env2 with
    | some env3 => .ok .next env3
    | none => .no
  | _, _, _ => .no
mutual
noncomputable def exec (bor : List Nat) : Sx → Env → Res Fl
  | .asg t e, env => (ev Φ bor e env).bind fun v env1 => match bindV bor t v env1 with
    | some env2 => .ok .next env2
    | none => .no
  | .par i j a b, env => (ev Φ bor a env).bind fun v env1 => (ev Φ bor b env1).bind fun w env2 =>
      match bindV bor (.name j) w env2 with
      | some env3 => match bindV bor (.name i) v env3 with
        | some env4 => .ok .next env4
        | none => .no
      | none => .no
  | .unp is es, env => unpE Φ bor is es env
  | .aug i op e, env => match env.at i with
    | some (.sh d) => (evO Φ bor e env).bind fun x env1 => match x.data env1 with
      | some g => match augD op d g with
        | some r => match bindT bor (.name i) r env1 with
          | some env2 => .ok .next env2
          | none => .no
        | none => .no
      | none => .no
    | _ => .no
  | .expr e, env => (ev Φ bor e env).bind fun _ env1 => .ok .next env1
  | .append i e, env => match env.at i with
    | some (.ow (.lst _)) => (ev Φ bor e env).bind fun v env1 => match env1.at i, v.share with
      | some (.ow (.lst ds)), some d => if ds.length < most then .ok .next (env1.set i (some (.ow (.lst (ds ++ [d]))))) else .no
      | _, _ => .no
    | _ => .no
  | .extend i e, env => match env.at i with
    | some (.ow (.lst _)) => (ev Φ bor e env).bind fun v env1 => match env1.at i, v.share with
      | some (.ow (.lst ds)), some (.list es) => if ds.length + es.length ≤ most then .ok .next (env1.set i (some (.ow (.lst (ds ++ es))))) else .no
      | _, _ => .no
    | _ => .no
  | .seti i k e, env => (ev Φ bor e env).bind fun v env1 => match v.share, env1.at i with
    | some d, some (.ow (.lst _)) => (evO Φ bor k env1).bind fun y env2 => match env2.at i, y.data env2 with
      | some (.ow (.lst ds)), some (.int n) => match L2.ixN ds.length n with
        | some j => .ok .next (env2.set i (some (.ow (.lst (ds.set j d)))))
        | none => .no
      | _, _ => .no
    | _, _ => .no
  | .dset i k e, env => (ev Φ bor e env).bind fun v env1 => match v.share, env1.at i with
    | some d, some (.ow (.dic _)) => (evO Φ bor k env1).bind fun y env2 => match env2.at i, y.data env2 with
      | some (.ow (.dic ps)), some kd => match keyD kd with
        | some kk => if ps.length < most then .ok .next (env2.set i (some (.ow (.dic (putD ps kk d))))) else .no
        | none => .no
      | _, _ => .no
    | _, _ => .no
  | .dsa i k e, env => if i ∈ bor then .no else match (env.at i).bind Val.dolOf with
    | some ps => (evO Φ bor k (env.set i none)).bind fun y env1 => match (y.data env1).bind keyD with
      | some kk => if ps.length < most ∧ (ps.all fun p => decide (p.2.length < most)) = true then (ev Φ bor e env1).bind fun v env2 => match v.share with
          | some d => .ok .next (env2.set i (some (.ow (.dol (putL ps kk d)))))
          | none => .no
        else .no
      | none => .no
    | none => .no
  | .never, env => .no
  | .ifs c a b, env => (evT Φ bor c env).bind fun k env1 => match k with
    | true => execs bor a env1
    | false => execs bor b env1
  | .loop s t b, env => (evS Φ bor s env).bind fun ds env1 => walk (bindT bor t) (execs bor b) ds env1
  | .whl c b, env => whileR (evT Φ bor c) (execs bor b) env
  | .ret e, env => (ev Φ bor e env).bind fun v env1 => .ok (.ret v) env1
  | .retV i, env => match env.at i with
    | some (.ow (.dol kvs)) => .ok (.ret (.sh (MO.dol kvs).data)) (env.set i (some (.sh (MO.dol kvs).data)))
    | some (.ow m) => if i ∈ bor then .no else .ok (.ret (.ow m)) (env.set i none)
    | some (.sh d) => .ok (.ret (.sh d)) env
    | some (.scr ns) => .ok (.ret (.scr ns)) env
    | none => .no
  | .retN, env => .ok (.ret (.sh .none)) env
  | .cont, env => .ok .cont env
  | .brk, env => .ok .brk env
  | .pass, env => .ok .next env
noncomputable def execs (bor : List Nat) : List Sx → Env → Res Fl
  | [], env => .ok .next env
  | s :: r, env => match exec bor s env with
    | .ok .next env1 => execs bor r env1
    | .ok f env1 => .ok f env1
    | .ex x env1 => .ex x env1
    | .no => .no
end
end

/-- a def: how many slots, which parameters are lent, its body -/
structure Fn where
  slots : Nat
  pars : Nat
  bor : List Nat
  body : List Sx
/-- the slots at the entry -/
def Fn.start (f : Fn) (args : List Val) : Env := args.map some ++ List.replicate (f.slots - args.length) none
def Fn.argsOk (f : Fn) (args : List Val) : Bool := decide (args.length = f.pars) && decide (f.pars ≤ f.slots) &&
  (args.zipIdx.all fun p => match p.1 with
    | .ow _ => decide (p.2 ∈ f.bor)
    | _ => decide (p.2 ∉ f.bor))
/-- where the lent objects stand among the arguments -/
def owPos : Nat → List Val → List Nat
  | _, [] => []
  | i, .ow _ :: r => i :: owPos (i + 1) r
  | i, _ :: r => owPos (i + 1) r
noncomputable def Fn.run (f : Fn) (Φ : Nat → List Val → CR) (args : List Val) : CR :=
  if f.argsOk args = true then match execs Φ f.bor f.body (f.start args) with
    | .ok (.ret v) env => match lentAll env (owPos 0 args) with
      | some ms => .ok v ms
      | none => .no
    | .ok .next env => match lentAll env (owPos 0 args) with
      | some ms => .ok (.sh .none) ms
      | none => .no
    | .ok _ _ => .no
    | .ex x env => match lentAll env (owPos 0 args) with
      | some ms => .ex x ms
      | none => .no
    | .no => .no
  else .no
/-- calls at most k deep -/
noncomputable def callAt (P : List Fn) : Nat → Nat → List Val → CR
  | 0, _, _ => .no
  | k + 1, f, args => match P[f]? with
    | some fn => fn.run (callAt P k) args
    | none => .no
end Pv

/-! PvD: how the machine's heap bears the values of the by-value machine. -/
set_option linter.all false
set_option maxRecDepth 100000
set_option maxHeartbeats 1000000
namespace Pv
open PySem L2

/-- what may turn -/
def Mu : HO → Prop
  | .lst _ => True
  | .dK _ => True
  | _ => False
abbrev keyP : Key → PyData := keyB
/-- the object at a bears no dict of its own -/
def Nd (K : PySem.W.Frag) (H : Hp) (a : Addr) : Prop := (∃ o xs, H a = some (.frz o (.tup xs)) ∧ o.dict = none) ∨ ∃ o, K.lookup a = some o ∧ o.dict = none
structure SqD (K : PySem.W.Frag) (H : Hp) (a : Addr) (xs : List V) : Prop where
  sq : SqT K H a xs
  nd : Nd K H a
mutual
/-- at x stands the datum d; none of its lists and dicts is in N -/
inductive Dn (K : PySem.W.Frag) (H : Hp) (N : Addr → Prop) : V → PyData → Prop
  | non : Dn K H N .non .none
  | bl (b : Bool) : Dn K H N (.bl b) (.bool b)
  | int (i : Int) : Dn K H N (.int i) (.int i)
  | str (x : Str) : Dn K H N (.str x) (.str x)
  | tup {a : Addr} {xs : List V} {ds : List PyData} : SqD K H a xs → DnAll K H N xs ds → Dn K H N (.ref a) (.tuple ds)
  | lst {a : Addr} {xs : List V} {ds : List PyData} : ¬ N a → H a = some (.lst xs) → DnAll K H N xs ds → Dn K H N (.ref a) (.list ds)
  | dic {a : Addr} {kvs : List (Key × V)} {ps : List (PyData × PyData)} : ¬ N a → L2.Rd H a (.dK kvs) → DnKv K H N kvs ps → Dn K H N (.ref a) (.dict ps)
inductive DnAll (K : PySem.W.Frag) (H : Hp) (N : Addr → Prop) : List V → List PyData → Prop
  | nil : DnAll K H N [] []
  | cons {v : V} {vs : List V} {d : PyData} {ds : List PyData} : Dn K H N v d → DnAll K H N vs ds → DnAll K H N (v :: vs) (d :: ds)
inductive DnKv (K : PySem.W.Frag) (H : Hp) (N : Addr → Prop) : List (Key × V) → List (PyData × PyData) → Prop
  | nil : DnKv K H N [] []
  | cons {k : Key} {v : V} {r : List (Key × V)} {d : PyData} {ps : List (PyData × PyData)} : Dn K H N v d → DnKv K H N r ps → DnKv K H N ((k, v) :: r) ((keyP k, d) :: ps)
end
/-- the script: it stands still -/
def SqF (K : PySem.W.Frag) (H : Hp) (a : Addr) (xs : List V) : Prop :=
  (∃ o, H a = some (.frz o (.lst xs))) ∨ ∀ H' : Hp, SqL K H' a xs
theorem SqF.sq {K : PySem.W.Frag} {H : Hp} {a : Addr} {xs : List V} (h : SqF K H a xs) : SqL K H a xs := by
  rcases h with ⟨o, h⟩ | h
  · exact .inl (.inr ⟨o, h⟩)
  · exact h H

section
variable {K : PySem.W.Frag} {H H' : Hp} {N N' : Addr → Prop}
/-- what is not in N, or cannot turn, is as it was -/
def Kept (N : Addr → Prop) (H H' : Hp) : Prop := ∀ b o, H b = some o → (¬ N b ∨ ¬ Mu o) → H' b = some o
def Less (H : Hp) (N N' : Addr → Prop) : Prop := ∀ b, N' b → N b ∨ H b = none
theorem SqT.kept {a : Addr} {xs : List V} (k : Kept N H H') (h : SqT K H a xs) : SqT K H' a xs := by
  rcases h with (h | ⟨o, h⟩) | h
  · exact .inl (.inl (k _ _ h (.inr fun z => z)))
  · exact .inl (.inr ⟨o, k _ _ h (.inr fun z => z)⟩)
  · exact .inr h
theorem Nd.kept {a : Addr} (k : Kept N H H') (h : Nd K H a) : Nd K H' a := by
  rcases h with ⟨o, u, e, d⟩ | h
  · exact .inl ⟨o, u, k _ _ e (.inr fun z => z), d⟩
  · exact .inr h
theorem SqD.kept {a : Addr} {xs : List V} (k : Kept N H H') (h : SqD K H a xs) : SqD K H' a xs := ⟨SqT.kept k h.sq, h.nd.kept k⟩
theorem rd_some {a : Addr} {u : HO} (h : L2.Rd H a u) : ¬ H a = none := by
  rcases h with h | ⟨o, h⟩ <;> rw [h] <;> simp
theorem rd_kept {a : Addr} {u : HO} (k : Kept N H H') (h0 : ¬ N a) (h : L2.Rd H a u) : L2.Rd H' a u := by
  rcases h with h | ⟨o, h⟩
  · exact .inl (k _ _ h (.inl h0))
  · exact .inr ⟨o, k _ _ h (.inl h0)⟩
theorem SqF.kept {a : Addr} {xs : List V} (k : Kept N H H') (h : SqF K H a xs) : SqF K H' a xs := by
  rcases h with ⟨o, h⟩ | h
  · exact .inl ⟨o, k _ _ h (.inr fun z => z)⟩
  · exact .inr h
mutual
theorem Dn.mono (k : Kept N H H') (l : Less H N N') : ∀ (d : PyData) (v : V), Dn K H N v d → Dn K H' N' v d
  | .none, _, .non => .non
  | .bool b, _, .bl _ => .bl b
  | .int i, _, .int _ => .int i
  | .str x, _, .str _ => .str x
  | .tuple ds, _, .tup h1 h2 => .tup (SqD.kept k h1) (DnAll.mono k l ds _ h2)
  | .list ds, _, .lst h0 h1 h2 => .lst (fun z => (l _ z).elim h0 fun y => by rw [y] at h1; cases h1) (k _ _ h1 (.inl h0)) (DnAll.mono k l ds _ h2)
  | .dict ps, _, .dic h0 h1 h2 => .dic (fun z => (l _ z).elim h0 (rd_some h1)) (rd_kept k h0 h1) (DnKv.mono k l ps _ h2)
theorem DnAll.mono (k : Kept N H H') (l : Less H N N') : ∀ (ds : List PyData) (vs : List V), DnAll K H N vs ds → DnAll K H' N' vs ds
  | [], _, .nil => .nil
  | d :: ds, _, .cons h1 h2 => .cons (Dn.mono k l d _ h1) (DnAll.mono k l ds _ h2)
theorem DnKv.mono (k : Kept N H H') (l : Less H N N') : ∀ (ps : List (PyData × PyData)) (kvs : List (Key × V)), DnKv K H N kvs ps → DnKv K H' N' kvs ps
  | [], _, .nil => .nil
  | (_, d) :: ps, _, .cons h1 h2 => .cons (Dn.mono k l d _ h1) (DnKv.mono k l ps _ h2)
end
theorem DnAll.length : ∀ {vs : List V} {ds : List PyData}, DnAll K H N vs ds → vs.length = ds.length
  | _, _, .nil => rfl
  | _, _, .cons _ t => by rw [List.length_cons, List.length_cons, DnAll.length t]
theorem DnAll.get : ∀ {vs : List V} {ds : List PyData} {i : Nat} {v : V}, DnAll K H N vs ds → vs[i]? = some v → ∃ d, ds[i]? = some d ∧ Dn K H N v d
  | _, _, _, _, .nil, e => by simp at e
  | _, _, 0, _, .cons h _, e => by
    simp at e; subst e; exact ⟨_, rfl, h⟩
  | _, _, i + 1, v, .cons _ t, e => by
    obtain ⟨d, h1, h2⟩ := DnAll.get (i := i) (v := v) t (by simpa using e)
    exact ⟨d, by simpa using h1, h2⟩
theorem DnAll.getD : ∀ {vs : List V} {ds : List PyData} {i : Nat} {d : PyData}, DnAll K H N vs ds → ds[i]? = some d → ∃ v, vs[i]? = some v ∧ Dn K H N v d
  | _, _, _, _, .nil, e => by simp at e
  | _, _, 0, _, .cons h _, e => by
    simp at e; subst e; exact ⟨_, rfl, h⟩
  | _, _, i + 1, v, .cons _ t, e => by
    obtain ⟨d, h1, h2⟩ := DnAll.getD (i := i) (d := v) t (by simpa using e)
    exact ⟨d, by simpa using h1, h2⟩
theorem DnAll.append : ∀ {vs ws : List V} {ds es : List PyData}, DnAll K H N vs ds → DnAll K H N ws es → DnAll K H N (vs ++ ws) (ds ++ es)
  | _, _, _, _, .nil, s => s
  | _, _, _, _, .cons r t, s => .cons r (DnAll.append t s)
theorem DnAll.take : ∀ {vs : List V} {ds : List PyData} (n : Nat), DnAll K H N vs ds → DnAll K H N (vs.take n) (ds.take n)
  | _, _, 0, _ => .nil
  | _, _, _ + 1, .nil => .nil
  | _, _, n + 1, .cons r t => .cons r (DnAll.take n t)
theorem DnAll.drop : ∀ {vs : List V} {ds : List PyData} (n : Nat), DnAll K H N vs ds → DnAll K H N (vs.drop n) (ds.drop n)
  | _, _, 0, r => r
  | _, _, _ + 1, .nil => .nil
  | _, _, n + 1, .cons _ t => DnAll.drop n t
theorem DnAll.set {v : V} {d : PyData} (r : Dn K H N v d) : ∀ {vs : List V} {ds : List PyData} (i : Nat), DnAll K H N vs ds → DnAll K H N (vs.set i v) (ds.set i d)
  | _, _, _, .nil => .nil
  | _, _, 0, .cons _ t => .cons r t
  | _, _, i + 1, .cons q t => .cons q (DnAll.set r i t)
theorem DnAll.ints : ∀ (ns : List Int), DnAll K H N (ns.map V.int) (ns.map PyData.int)
  | [] => .nil
  | n :: r => .cons (.int n) (DnAll.ints r)
theorem DnAll.ofInts : ∀ {ns : List Int} {vs : List V}, DnAll K H N vs (ns.map PyData.int) → vs = ns.map V.int
  | [], _, .nil => rfl
  | n :: r, _, .cons (.int _) t => by rw [DnAll.ofInts t]; rfl
end

/-- the lists of a dict of lists, at as -/
inductive DolKv (K : PySem.W.Frag) (H : Hp) (N : Addr → Prop) : List Addr → List (Key × V) → List (PyData × List PyData) → Prop
  | nil : DolKv K H N [] [] []
  | cons {k : Key} {l : Addr} {xs : List V} {ds : List PyData} {as : List Addr} {r : List (Key × V)} {ps : List (PyData × List PyData)} : H l = some (.lst xs) → DnAll K H N xs ds → DolKv K H N as r ps → DolKv K H N (l :: as) ((k, .ref l) :: r) ((keyP k, ds) :: ps)
/-- an owned object stands at a; its addresses are fp -/
def MR (K : PySem.W.Frag) (H : Hp) (N : Addr → Prop) (fp : List Addr) (a : Addr) : MO → Prop
  | .lst ds => fp = [a] ∧ ∃ xs, H a = some (.lst xs) ∧ DnAll K H N xs ds
  | .dic ps => fp = [a] ∧ ∃ kvs, H a = some (.dK kvs) ∧ DnKv K H N kvs ps
  | .dol ps => ∃ as kvs, fp = a :: as ∧ fp.Nodup ∧ H a = some (.dK kvs) ∧ (kvs.map (·.1)).Nodup ∧ DolKv K H N as kvs ps
def SR (K : PySem.W.Frag) (H : Hp) (N : Addr → Prop) (fp : List Addr) (x : V) : Val → Prop
  | .sh d => fp = [] ∧ Dn K H N x d
  | .ow m => ∃ a, x = .ref a ∧ MR K H N fp a m
  | .scr ns => fp = [] ∧ ∃ a, x = .ref a ∧ SqF K H a (ns.map V.int)
/-- the addresses that shared data avoid -/
def Nn (O : List Addr) (F : List (List Addr)) (a : Addr) : Prop := a ∈ O ∨ a ∈ F.flatten
def fpAt (F : List (List Addr)) (i : Nat) : List Addr := F.getD i []

/-- what is fixed while a def runs: the written part, the heap at the entry, the slots lent to it, their addresses -/
structure Cf where
  K : PySem.W.Frag
  H0 : Hp
  B : List (Nat × Addr)
  bA : List Addr
  xr : Hp → Value → Option Addr → Exn → Prop
/-- the state is borne -/
structure ER (C : Cf) (O : List Addr) (F : List (List Addr)) (H : Hp) (σ : St) (env : Env) : Prop where
  lenσ : σ.length = env.length
  lenF : F.length = env.length
  slot : ∀ i v, env.at i = some v → ∃ x, σ[i]? = some (some x) ∧ SR C.K H (Nn O F) (fpAt F i) x v
  emp : ∀ i, (∀ m, env.at i ≠ some (.ow m)) → fpAt F i = []
  nd : F.flatten.Nodup
  dis : ∀ a ∈ O, a ∉ F.flatten
  mt : ∀ a, Nn O F a → ∃ o, H a = some o ∧ Mu o
  fr : ∀ b o, C.H0 b = some o → b ∉ C.bA → H b = some o
  new : ∀ a ∈ F.flatten, a ∈ C.bA ∨ C.H0 a = none
  old : ∀ b, C.H0 b ≠ none → H b ≠ none
  bor : ∀ p ∈ C.B, σ[p.1]? = some (some (.ref p.2))
/-- from one state to a later one -/
structure Step (F : List (List Addr)) (H : Hp) (F' : List (List Addr)) (H' : Hp) : Prop where
  keep : ∀ b o, H b = some o → b ∉ F.flatten → H' b = some o
  new : ∀ a ∈ F'.flatten, a ∈ F.flatten ∨ H a = none
  alive : ∀ b, H b ≠ none → H' b ≠ none
theorem Step.refl {F : List (List Addr)} {H : Hp} : Step F H F H := ⟨fun _ _ e _ => e, fun _ h => .inl h, fun _ h => h⟩
theorem Step.trans {F F1 F2 : List (List Addr)} {H H1 H2 : Hp} (a : Step F H F1 H1) (b : Step F1 H1 F2 H2) : Step F H F2 H2 where
  keep := fun c o e n => by
    have e1 := a.keep c o e n
    refine b.keep c o e1 fun z => ?_
    rcases a.new c z with q | q
    · exact n q
    · rw [q] at e; cases e
  new := fun c h => by
    rcases b.new c h with q | q
    · exact a.new c q
    · refine .inr ?_
      cases r : H c with
      | none => rfl
      | some o => exact absurd q (a.alive c (by rw [r]; simp))
  alive := fun c h => b.alive c (a.alive c h)

section
variable {C : Cf} {O : List Addr} {F F' : List (List Addr)} {H H' : Hp} {σ : St} {env env' : Env}
theorem ER.kept (R : ER C O F H σ env) (s : Step F H F' H') : Kept (Nn O F) H H' := fun b o e h => by
  refine s.keep b o e fun z => ?_
  rcases h with h | h
  · exact h (.inr z)
  · obtain ⟨u, q, m⟩ := R.mt b (.inr z)
    rw [e] at q; cases q
    exact h m
theorem ER.less (R : ER C O F H σ env) (s : Step F H F' H') {P : List Addr} (hP : ∀ a ∈ P, H a = none) : Less H (Nn O F) (Nn (P ++ O) F') := fun b h => by
  rcases h with h | h
  · rcases List.mem_append.mp h with q | q
    · exact .inr (hP b q)
    · exact .inl (.inl q)
  · rcases s.new b h with q | q
    · exact .inl (.inr q)
    · exact .inr q
theorem fpAt_mem {i : Nat} {a : Addr} (h : a ∈ fpAt F i) : a ∈ F.flatten := by
  unfold fpAt at h
  rw [List.getD_eq_getElem?_getD] at h
  cases q : F[i]? with
  | none => rw [q] at h; simp at h
  | some l =>
    rw [q] at h
    exact List.mem_flatten.mpr ⟨l, List.mem_of_getElem? q, by simpa using h⟩
end
end Pv

/-! PvE: readings by the by-value machine; how they are put together. -/
set_option linter.all false
set_option maxRecDepth 100000
set_option maxHeartbeats 1000000
namespace Pv
open PySem L2

/-! ### top-level bearing: the object itself may be owned -/
def Dt (K : PySem.W.Frag) (H : Hp) (N : Addr → Prop) (x : V) : PyData → Prop
  | .list ds => ∃ a xs, x = .ref a ∧ H a = some (.lst xs) ∧ DnAll K H N xs ds
  | .dict ps => ∃ a kvs, x = .ref a ∧ L2.Rd H a (.dK kvs) ∧ DnKv K H N kvs ps
  | d => Dn K H N x d
/-- read only: the script too -/
def Dq (K : PySem.W.Frag) (H : Hp) (N : Addr → Prop) (x : V) : PyData → Prop
  | .list ds => ∃ a xs, x = .ref a ∧ SqL K H a xs ∧ DnAll K H N xs ds
  | .dict ps => ∃ a kvs, x = .ref a ∧ L2.Rd H a (.dK kvs) ∧ DnKv K H N kvs ps
  | d => Dn K H N x d
section
variable {K : PySem.W.Frag} {H H' : Hp} {N N' : Addr → Prop} {x : V} {d : PyData} {v : Val} {fp : List Addr}
theorem Dn.top (h : Dn K H N x d) : Dt K H N x d := by
  cases h with
  | lst h0 h1 h2 => exact ⟨_, _, rfl, h1, h2⟩
  | dic h0 h1 h2 => exact ⟨_, _, rfl, h1, h2⟩
  | non => exact .non
  | bl b => exact .bl b
  | int i => exact .int i
  | str z => exact .str z
  | tup h1 h2 => exact .tup h1 h2
theorem Dt.read (h : Dt K H N x d) : Dq K H N x d := by
  cases d with
  | list ds =>
    obtain ⟨a, xs, e, h1, h2⟩ := h
    exact ⟨a, xs, e, SqL.of h1, h2⟩
  | dict ps => exact h
  | none => exact h
  | bool b => exact h
  | int i => exact h
  | str z => exact h
  | tuple ds => exact h
def Val.plain : Val → Bool
  | .scr _ => false
  | .ow (.dol _) => false
  | _ => true
theorem rd_of {v w : Val} (h : v.rd = some w) : v = w ∧ ∀ ps, w ≠ .ow (.dol ps) := by
  unfold Val.rd at h
  split at h
  · cases h
  · rename_i hn
    cases h
    exact ⟨rfl, fun ps z => hn ps z⟩
theorem lend1_of {v : Val} {m : MO} (h : v.lend1 = some m) : v = .ow m ∧ m.one = true := by
  unfold Val.lend1 at h
  split at h <;> cases h <;> exact ⟨rfl, rfl⟩
theorem lendOf_ok {env : Pv.Env} {i : Nat} {m : MO} (h : lendOf env i = some m) : env.at i = some (.ow m) ∧ m.one = true := by
  unfold lendOf at h
  cases e : env.at i with
  | none => rw [e] at h; cases h
  | some v =>
    rw [e] at h
    obtain ⟨h1, h2⟩ := lend1_of (show v.lend1 = some m from h)
    exact ⟨by rw [h1], h2⟩
theorem lendOf_of {env : Pv.Env} {i : Nat} {m : MO} (h : env.at i = some (.ow m)) (h1 : m.one = true) : lendOf env i = some m := by
  unfold lendOf
  rw [h]
  cases m <;> first | rfl | cases h1
theorem SR.top (h : SR K H N fp x v) (hp : v.plain = true) : Dt K H N x v.data := by
  cases v with
  | sh d => exact h.2.top
  | ow m =>
    obtain ⟨a, e, h⟩ := h
    cases m with
    | lst ds =>
      obtain ⟨_, xs, h1, h2⟩ := h
      exact ⟨a, xs, e, h1, h2⟩
    | dic ps =>
      obtain ⟨_, kvs, h1, h2⟩ := h
      exact ⟨a, kvs, e, .inl h1, h2⟩
    | dol ps => cases hp
  | scr ns => cases hp
theorem SR.read (h : SR K H N fp x v) (hn : ∀ ps, v ≠ .ow (.dol ps)) : Dq K H N x v.data := by
  cases v with
  | sh d => exact h.2.top.read
  | ow m => exact (SR.top h (by cases m <;> first | rfl | exact absurd rfl (hn _))).read
  | scr ns =>
    obtain ⟨_, a, e, h1⟩ := h
    exact ⟨a, _, e, h1.sq, DnAll.ints ns⟩
theorem DolKv.mono (k : Kept N H H') (l : Less H N N') : ∀ {as : List Addr} {kvs : List (Key × V)} {ps : List (PyData × List PyData)}, (∀ a ∈ as, ∀ o, H a = some o → H' a = some o) → DolKv K H N as kvs ps → DolKv K H' N' as kvs ps
  | _, _, _, _, .nil => .nil
  | _, _, _, hf, .cons h1 h2 t => .cons (hf _ List.mem_cons_self _ h1) (DnAll.mono k l _ _ h2) (DolKv.mono k l (fun a ha => hf a (List.mem_cons_of_mem _ ha)) t)
theorem MR.mono (k : Kept N H H') (l : Less H N N') (hf : ∀ a ∈ fp, ∀ o, H a = some o → H' a = some o) {a : Addr} {m : MO} (h : MR K H N fp a m) : MR K H' N' fp a m := by
  cases m with
  | lst ds =>
    obtain ⟨e, xs, h1, h2⟩ := h
    exact ⟨e, xs, hf a (by rw [e]; simp) _ h1, DnAll.mono k l _ _ h2⟩
  | dic ps =>
    obtain ⟨e, xs, h1, h2⟩ := h
    exact ⟨e, xs, hf a (by rw [e]; simp) _ h1, DnKv.mono k l _ _ h2⟩
  | dol ps =>
    obtain ⟨as, kvs, e, nd, h1, nk, h2⟩ := h
    subst e
    exact ⟨as, kvs, rfl, nd, hf a List.mem_cons_self _ h1, nk, DolKv.mono k l (fun b hb => hf b (List.mem_cons_of_mem _ hb)) h2⟩
theorem SR.mono (k : Kept N H H') (l : Less H N N') (hf : ∀ a ∈ fp, ∀ o, H a = some o → H' a = some o) (h : SR K H N fp x v) : SR K H' N' fp x v := by
  cases v with
  | sh d => exact ⟨h.1, Dn.mono k l _ _ h.2⟩
  | ow m =>
    obtain ⟨a, e, h⟩ := h
    exact ⟨a, e, MR.mono k l hf h⟩
  | scr ns =>
    obtain ⟨h0, a, e, h1⟩ := h
    exact ⟨h0, a, e, SqF.kept k h1⟩
end
end Pv

/-! PvF: readings by the by-value machine; arguments; an operation on operands. -/
set_option linter.all false
set_option maxRecDepth 100000
set_option maxHeartbeats 1000000
namespace Pv
open PySem L2

abbrev EXT := Exn → Pv.Env → St → Hp → Prop
/-- operands as they lie; P: the addresses of those that are owned by no slot -/
inductive OR (K : PySem.W.Frag) (H : Hp) (N : Addr → Prop) (σ : St) : List Addr → List Od → List V → Prop
  | nil : OR K H N σ [] [] []
  | vl {fp P : List Addr} {x : V} {v : Val} {os : List Od} {xs : List V} : SR K H N fp x v → OR K H N σ P os xs → OR K H N σ (fp ++ P) (.vl v :: os) (x :: xs)
  | pk {P : List Addr} {x : V} {i : Nat} {os : List Od} {xs : List V} : σ[i]? = some (some x) → OR K H N σ P os xs → OR K H N σ P (.pk i :: os) (x :: xs)
theorem OR.mono {K : PySem.W.Frag} {H H' : Hp} {N N' : Addr → Prop} {σ : St} (k : Kept N H H') (l : Less H N N') : ∀ {P : List Addr} {os : List Od} {xs : List V}, OR K H N σ P os xs → (∀ a ∈ P, ∀ o, H a = some o → H' a = some o) → OR K H' N' σ P os xs
  | _, _, _, .nil, _ => .nil
  | _, _, _, .vl h t, hf => .vl (SR.mono k l (fun a ha => hf a (List.mem_append_left _ ha)) h) (OR.mono k l t fun a ha => hf a (List.mem_append_right _ ha))
  | _, _, _, .pk h t, hf => .pk h (OR.mono k l t hf)

section
variable {C : Cf} {O O' : List Addr} {F F' : List (List Addr)} {H H' : Hp} {σ : St} {env env' : Pv.Env}
theorem ER.perm (R : ER C O F H σ env) (h : ∀ a, a ∈ O' ↔ a ∈ O) : ER C O' F H σ env := by
  have e : Nn O' F = Nn O F := by
    funext a
    exact propext ⟨fun z => z.elim (fun y => .inl ((h a).mp y)) .inr, fun z => z.elim (fun y => .inl ((h a).mpr y)) .inr⟩
  exact ⟨R.lenσ, R.lenF, by rw [e]; exact R.slot, R.emp, R.nd, fun a ha => R.dis a ((h a).mp ha), by rw [e]; exact R.mt, R.fr, R.new, R.old, R.bor⟩
theorem Kept.rfl' {N : Addr → Prop} : Kept N H H := fun _ _ e _ => e
/-- fewer addresses to look after -/
theorem ER.drop (R : ER C O F H σ env) (h : ∀ a, a ∈ O' → a ∈ O) : ER C O' F H σ env := by
  have l : Less H (Nn O F) (Nn O' F) := fun b z => .inl (z.elim (fun y => .inl (h b y)) .inr)
  refine ⟨R.lenσ, R.lenF, fun i v e => ?_, R.emp, R.nd, fun a ha => R.dis a (h a ha), fun a z => R.mt a (z.elim (fun y => .inl (h a y)) .inr), R.fr, R.new, R.old, R.bor⟩
  obtain ⟨x, e1, r⟩ := R.slot i v e
  exact ⟨x, e1, SR.mono Kept.rfl' l (fun _ _ _ q => q) r⟩
/-- one operand among them -/
theorem OR.one {K : PySem.W.Frag} {N : Addr → Prop} {P : List Addr} {v : Val} {x : V} (h : SR K H N P x v) : OR K H N σ P [.vl v] [x] := by
  have q := OR.vl (σ := σ) h OR.nil
  rwa [List.append_nil] at q
end

/-- behind operands -/
def PVs (C : Cf) (O : List Addr) (F : List (List Addr)) (H : Hp) (σ : St) (env' : Pv.Env) (os : List Od) (xs : List V) (H' : Hp) : Prop :=
  ∃ F' P, ER C (P ++ O) F' H' σ env' ∧ Step F H F' H' ∧ (∀ a ∈ P, H a = none) ∧ OR C.K H' (Nn (P ++ O) F') σ P os xs
def PO (C : Cf) (O : List Addr) (F : List (List Addr)) (H : Hp) (σ : St) (env' : Pv.Env) (o : Od) (x : V) (H' : Hp) : Prop := PVs C O F H σ env' [o] [x] H'
def PV (C : Cf) (O : List Addr) (F : List (List Addr)) (H : Hp) (σ : St) (env' : Pv.Env) (v : Val) (x : V) (H' : Hp) : Prop :=
  ∃ F' P, ER C (P ++ O) F' H' σ env' ∧ Step F H F' H' ∧ (∀ a ∈ P, H a = none) ∧ SR C.K H' (Nn (P ++ O) F') P x v
def PB (C : Cf) (O : List Addr) (F : List (List Addr)) (H : Hp) (σ : St) (env' : Pv.Env) (b b' : Bool) (H' : Hp) : Prop :=
  b' = b ∧ ∃ F', ER C O F' H' σ env' ∧ Step F H F' H'
/-- a reading: where the state is borne, what the code gives is what comes -/
def Rg {α β : Type} (C : Cf) (EX : EXT) (m : Pv.Env → Res α) (post : List Addr → List (List Addr) → Hp → St → Pv.Env → α → β → Hp → Prop) (σ : St) (H : Hp) (Q : β → Hp → Prop) : Prop :=
  ∃ O F env, ER C O F H σ env ∧ (match m env with
    | .ok a env' => ∀ b H', post O F H σ env' a b H' → Q b H'
    | .ex e env' => ∀ F' H', ER C O F' H' σ env' → Step F H F' H' → EX e env' σ H'
    | .no => False)
def TV (C : Cf) (EX : EXT) (m : Pv.Env → Res Val) : TE := Rg C EX m (PV C)
def TO (C : Cf) (EX : EXT) (m : Pv.Env → Res Od) : TE := Rg C EX m (PO C)
def TAs (C : Cf) (EX : EXT) (m : Pv.Env → Res (List Od)) : TA := Rg C EX m (PVs C)
def TB (C : Cf) (EX : EXT) (m : Pv.Env → Res Bool) : TT := Rg C EX m (PB C)

section
variable {C : Cf} {O : List Addr} {F F1 : List (List Addr)} {H H1 H2 : Hp} {σ : St} {env env1 env2 : Pv.Env} {EX : EXT}
theorem PV.o {v : Val} {x : V} (h : PV C O F H σ env v x H1) : PO C O F H σ env (.vl v) x H1 := by
  obtain ⟨F', P, a, b, c, d⟩ := h
  exact ⟨F', P, a, b, c, OR.one d⟩
theorem PO.v {v : Val} {x : V} (h : PO C O F H σ env (.vl v) x H1) : PV C O F H σ env v x H1 := by
  obtain ⟨F', P, a, b, c, d⟩ := h
  cases d with
  | vl s t =>
    cases t
    rw [List.append_nil] at *
    exact ⟨F', _, a, b, c, s⟩
theorem Nn.eq {A B : List Addr} (hp : ∀ a, a ∈ A ↔ a ∈ B) : Nn A F = Nn B F := by
  funext a
  exact propext ⟨fun z => z.elim (fun y => .inl ((hp a).mp y)) .inr, fun z => z.elim (fun y => .inl ((hp a).mpr y)) .inr⟩
/-- one operand, then the others -/
theorem PVs.cons {P1 : List Addr} {o : Od} {x : V} {os : List Od} {xs : List V} (R1 : ER C (P1 ++ O) F1 H1 σ env1) (s1 : Step F H F1 H1) (f1 : ∀ a ∈ P1, H a = none) (r1 : OR C.K H1 (Nn (P1 ++ O) F1) σ P1 [o] [x])
    (q : PVs C (P1 ++ O) F1 H1 σ env2 os xs H2) : PVs C O F H σ env2 (o :: os) (x :: xs) H2 := by
  obtain ⟨F2, P2, R2, s2, f2, r2⟩ := q
  have f2' : ∀ a ∈ P2, H a = none := fun a ha => by
    cases e : H a with
    | none => rfl
    | some u => exact absurd (f2 a ha) (s1.alive a (by rw [e]; simp))
  have hp : ∀ a, a ∈ (P1 ++ P2) ++ O ↔ a ∈ P2 ++ (P1 ++ O) := fun a => by
    simp only [List.mem_append]
    constructor
    · rintro ((h | h) | h)
      · exact .inr (.inl h)
      · exact .inl h
      · exact .inr (.inr h)
    · rintro (h | h | h)
      · exact .inl (.inr h)
      · exact .inl (.inl h)
      · exact .inr h
  have r1' : OR C.K H2 (Nn (P2 ++ (P1 ++ O)) F2) σ P1 [o] [x] :=
    OR.mono (R1.kept s2) (R1.less s2 f2) r1 fun a ha u e => s2.keep a u e (R1.dis a (List.mem_append_left _ ha))
  refine ⟨F2, P1 ++ P2, R2.perm hp, s1.trans s2, fun a ha => (List.mem_append.mp ha).elim (f1 a) (f2' a), ?_⟩
  rw [Nn.eq hp]
  generalize Nn (P2 ++ (P1 ++ O)) F2 = N at r1' r2
  cases r1' with
  | vl s t =>
    cases t
    rw [List.append_nil]
    exact .vl s r2
  | pk s t =>
    cases t
    exact .pk s r2
theorem Rg.imp {α β : Type} {m : Pv.Env → Res α} {post : List Addr → List (List Addr) → Hp → St → Pv.Env → α → β → Hp → Prop} {Q Q' : β → Hp → Prop} (h : Rg C EX m post σ H Q) (k : ∀ b H', Q b H' → Q' b H') : Rg C EX m post σ H Q' := by
  obtain ⟨O, F, env, R, h⟩ := h
  refine ⟨O, F, env, R, ?_⟩
  cases e : m env with
  | ok a env' => rw [e] at h; exact fun b H' p => k b H' (h b H' p)
  | ex x env' => rw [e] at h; exact h
  | no => rw [e] at h; exact h
/-- an operand comes -/
theorem TO.intro {ma : Pv.Env → Res Od} {Q : V → Hp → Prop} (R : ER C O F H σ env)
    (h : ∀ o env1, ma env = .ok o env1 → ∀ F1 P1 x H1, ER C (P1 ++ O) F1 H1 σ env1 → Step F H F1 H1 → (∀ a ∈ P1, H a = none) → OR C.K H1 (Nn (P1 ++ O) F1) σ P1 [o] [x] → Q x H1)
    (hx : ∀ e env', ma env = .ex e env' → ∀ F' H', ER C O F' H' σ env' → Step F H F' H' → EX e env' σ H') (hn : ma env ≠ .no) : TO C EX ma σ H Q := by
  refine ⟨O, F, env, R, ?_⟩
  cases e : ma env with
  | ok o env1 => exact fun x H1 ⟨F1, P1, a, b, c, d⟩ => h o env1 e F1 P1 x H1 a b c d
  | ex x env' => exact hx x env' e
  | no => exact hn e
theorem TV.intro {ma : Pv.Env → Res Val} {Q : V → Hp → Prop} (R : ER C O F H σ env)
    (h : ∀ v env1, ma env = .ok v env1 → ∀ F1 P1 x H1, ER C (P1 ++ O) F1 H1 σ env1 → Step F H F1 H1 → (∀ a ∈ P1, H a = none) → SR C.K H1 (Nn (P1 ++ O) F1) P1 x v → Q x H1)
    (hx : ∀ e env', ma env = .ex e env' → ∀ F' H', ER C O F' H' σ env' → Step F H F' H' → EX e env' σ H') (hn : ma env ≠ .no) : TV C EX ma σ H Q := by
  refine ⟨O, F, env, R, ?_⟩
  cases e : ma env with
  | ok o env1 => exact fun x H1 ⟨F1, P1, a, b, c, d⟩ => h o env1 e F1 P1 x H1 a b c d
  | ex x env' => exact hx x env' e
  | no => exact hn e
theorem TAs.intro {ma : Pv.Env → Res (List Od)} {Q : List V → Hp → Prop} (R : ER C O F H σ env)
    (h : ∀ os env1, ma env = .ok os env1 → ∀ xs H1, PVs C O F H σ env1 os xs H1 → Q xs H1)
    (hx : ∀ e env', ma env = .ex e env' → ∀ F' H', ER C O F' H' σ env' → Step F H F' H' → EX e env' σ H') (hn : ma env ≠ .no) : TAs C EX ma σ H Q := by
  refine ⟨O, F, env, R, ?_⟩
  cases e : ma env with
  | ok o env1 => exact h o env1 e
  | ex x env' => exact hx x env' e
  | no => exact hn e
theorem TB.intro {ma : Pv.Env → Res Bool} {Q : Bool → Hp → Prop} (R : ER C O F H σ env)
    (h : ∀ b env1, ma env = .ok b env1 → ∀ F1 H1, ER C O F1 H1 σ env1 → Step F H F1 H1 → Q b H1)
    (hx : ∀ e env', ma env = .ex e env' → ∀ F' H', ER C O F' H' σ env' → Step F H F' H' → EX e env' σ H') (hn : ma env ≠ .no) : TB C EX ma σ H Q := by
  refine ⟨O, F, env, R, ?_⟩
  cases e : ma env with
  | ok o env1 =>
    rintro b H1 ⟨e, F1, a, c⟩
    rw [e]
    exact h o env1 (by assumption) F1 H1 a c
  | ex x env' => exact hx x env' e
  | no => exact hn e
end

/-! ### what an operation leaves: a new thing, or one that stands -/
def New (K : PySem.W.Frag) (H : Hp) (N : Addr → Prop) (H' : Hp) (z : V) (r : Val) : Prop :=
  (∀ b o, H b = some o → H' b = some o) ∧ ∃ fp, (∀ a ∈ fp, H a = none ∧ ∃ o, H' a = some o ∧ Mu o) ∧ SR K H' (fun a => N a ∨ a ∈ fp) fp z r
section
variable {C : Cf} {O : List Addr} {F F1 : List (List Addr)} {H H' H1 H2 : Hp} {σ : St} {env env1 env2 : Pv.Env} {EX : EXT}
/-- the state is borne in a heap with more in it -/
theorem ER.grow (R : ER C O F H σ env) (k : ∀ b o, H b = some o → H' b = some o) {fp : List Addr} (hf : ∀ a ∈ fp, H a = none ∧ ∃ o, H' a = some o ∧ Mu o) : ER C (fp ++ O) F H' σ env ∧ Step F H F H' := by
  have s : Step F H F H' := ⟨fun b o e _ => k b o e, fun a h => .inl h, fun b h => by
    cases e : H b with
    | none => exact absurd e h
    | some o => rw [k b o e]; simp⟩
  have kp : Kept (Nn O F) H H' := fun b o e _ => k b o e
  have l := R.less s (P := fp) fun a ha => (hf a ha).1
  refine ⟨⟨R.lenσ, R.lenF, fun i v e => ?_, R.emp, R.nd, fun a ha => ?_, fun a z => ?_, fun b o e n => k b o (R.fr b o e n), R.new, fun b h => s.alive b (R.old b h), R.bor⟩, s⟩
  · obtain ⟨x, e1, r⟩ := R.slot i v e
    exact ⟨x, e1, SR.mono kp l (fun a _ o q => k a o q) r⟩
  · rcases List.mem_append.mp ha with q | q
    · intro z
      obtain ⟨o, e, _⟩ := R.mt a (.inr z)
      rw [(hf a q).1] at e; cases e
    · exact R.dis a q
  · rcases z with z | z
    · rcases List.mem_append.mp z with q | q
      · exact (hf a q).2
      · obtain ⟨o, e, m⟩ := R.mt a (.inl q)
        exact ⟨o, k a o e, m⟩
    · obtain ⟨o, e, m⟩ := R.mt a (.inr z)
      exact ⟨o, k a o e, m⟩
/-- an operation's result, its operands let go -/
theorem New.fin {P : List Addr} {r : Val} {z : V} (R : ER C (P ++ O) F1 H1 σ env1) (s : Step F H F1 H1) (f : ∀ a ∈ P, H a = none) (n : New C.K H1 (Nn (P ++ O) F1) H2 z r) : PV C O F H σ env1 r z H2 := by
  obtain ⟨k, fp, hf, hr⟩ := n
  obtain ⟨R2, s2⟩ := R.grow k hf
  refine ⟨F1, fp, R2.drop fun a ha => ?_, s.trans s2, fun a ha => ?_, SR.mono Kept.rfl' (fun b z => .inl ?_) (fun _ _ _ q => q) hr⟩
  · rcases List.mem_append.mp ha with q | q
    · exact List.mem_append_left _ q
    · exact List.mem_append_right _ (List.mem_append_right _ q)
  · cases e : H a with
    | none => rfl
    | some u => exact absurd (hf a ha).1 (s.alive a (by rw [e]; simp))
  · rcases z with z | z
    · rcases List.mem_append.mp z with q | q
      · exact .inr q
      · exact .inl (.inl (List.mem_append_right _ q))
    · exact .inl (.inr z)
theorem pk_val {env : Pv.Env} {i : Nat} {v : Val} (e : (Od.pk i).val env = some v) : env.at i = some v ∧ ∀ ps, v ≠ .ow (.dol ps) := by
  have e' : (env.at i).bind Val.rd = some v := e
  cases q : env.at i with
  | none => rw [q] at e'; cases e'
  | some w =>
    rw [q] at e'
    obtain ⟨h1, h2⟩ := rd_of (show w.rd = some v from e')
    exact ⟨by rw [h1], h2⟩
theorem od_ndol {env : Pv.Env} {o : Od} {v : Val} (e : o.val env = some v) : ∀ ps, v ≠ .ow (.dol ps) := by
  cases o with
  | vl w => exact (rd_of e).2
  | pk i => exact (pk_val e).2
/-- an operand's value, where it is used -/
theorem OR.at_ {P : List Addr} {o : Od} {os : List Od} {x : V} {xs : List V} {v : Val} (R : ER C (P ++ O) F H σ env) (r : OR C.K H (Nn (P ++ O) F) σ P (o :: os) (x :: xs)) (e : o.val env = some v) :
    ∃ fp, SR C.K H (Nn (P ++ O) F) fp x v := by
  cases r with
  | vl s t =>
    have e' := (rd_of e).1
    subst e'
    exact ⟨_, s⟩
  | pk s t =>
    obtain ⟨y, e1, q⟩ := R.slot _ v (pk_val e).1
    rw [e1] at s
    cases s
    exact ⟨_, q⟩
theorem OR.tail_ {K : PySem.W.Frag} {N : Addr → Prop} {P : List Addr} {o : Od} {os : List Od} {x : V} {xs : List V} (r : OR K H N σ P (o :: os) (x :: xs)) : ∃ P' Q, P = Q ++ P' ∧ OR K H N σ P' os xs := by
  cases r with
  | vl s t => exact ⟨_, _, rfl, t⟩
  | pk s t => exact ⟨_, [], rfl, t⟩
/-- two operands' values -/
theorem OR.two {P : List Addr} {o p : Od} {x y : V} {v w : Val} (R : ER C (P ++ O) F H σ env) (r : OR C.K H (Nn (P ++ O) F) σ P [o, p] [x, y]) (e : o.val env = some v) (e' : p.val env = some w) :
    (∃ fp, SR C.K H (Nn (P ++ O) F) fp x v) ∧ ∃ fp, SR C.K H (Nn (P ++ O) F) fp y w := by
  refine ⟨OR.at_ R r e, ?_⟩
  obtain ⟨P', Q, e1, t⟩ := r.tail_
  cases t with
  | vl s t =>
    have e2 := (rd_of e').1
    subst e2
    exact ⟨_, s⟩
  | pk s t =>
    obtain ⟨z, e1, q⟩ := R.slot _ w (pk_val e').1
    rw [e1] at s
    cases s
    exact ⟨_, q⟩
end

/-! ### weaker readings -/
section
variable {X : Cx} {e : Expr} {es : List Expr} {st : Stmt} {sts : List Stmt}
theorem _root_.L2.PE.weak {t t' : TE} (h : PE X e t) (w : ∀ σ H Q, t' σ H Q → t σ H Q) : PE X e t' := ⟨fun p s σ H Q I q => h.run p s σ H Q I (w σ H Q q)⟩
theorem _root_.L2.PT.weak {t t' : TT} (h : PT X e t) (w : ∀ σ H Q, t' σ H Q → t σ H Q) : PT X e t' := ⟨fun p s σ H Q I q => h.run p s σ H Q I (w σ H Q q)⟩
theorem _root_.L2.PA.weak {t t' : TA} (h : PA X es t) (w : ∀ σ H Q, t' σ H Q → t σ H Q) : PA X es t' := ⟨fun ps p s σ H Q I q => h.run ps p s σ H Q I (w σ H Q q)⟩
theorem _root_.L2.PS.weak {t t' : TS} (h : PS X st t) (w : ∀ D σ H, t' D σ H → t D σ H) : PS X st t' := ⟨fun p s σ H D I q => h.run p s σ H D I (w D σ H q)⟩
theorem _root_.L2.PSs.weak {t t' : TS} (h : PSs X sts t) (w : ∀ D σ H, t' D σ H → t D σ H) : PSs X sts t' := ⟨fun p s σ H D I q => h.run p s σ H D I (w D σ H q)⟩
end
end Pv

/-! PvFd: dicts by value against dicts on the heap. -/
set_option linter.all false
set_option maxRecDepth 100000
set_option maxHeartbeats 1000000
namespace Pv
open PySem L2

section
variable {K : PySem.W.Frag} {H : Hp} {N : Addr → Prop}
theorem keyD_P (k : Key) : keyD (keyP k) = some k := by cases k <;> rfl
theorem keyD_of {d : PyData} {k : Key} (h : keyD d = some k) : d = keyP k := by
  cases d <;> cases h <;> rfl
/-- a key on the heap -/
theorem Dn.key {x : V} {d : PyData} {k : Key} (h : Dn K H N x d) (e : keyD d = some k) : x = kV k := by
  cases keyD_of e
  cases k with
  | inl i => cases h; rfl
  | inr z => cases h; rfl
theorem look_of : ∀ {kvs : List (Key × V)} {ps : List (PyData × PyData)} (k : Key), DnKv K H N kvs ps → (valV kvs k = none ∧ lookD ps k = none) ∨ ∃ v d, valV kvs k = some v ∧ lookD ps k = some d ∧ Dn K H N v d
  | _, _, k, .nil => .inl ⟨rfl, rfl⟩
  | _, _, k, .cons (k := k') (v := v) (r := r) (d := d) (ps := ps) h t => by
    by_cases e : k' = k
    · refine .inr ⟨v, d, valV_pos (p := (k', v)) e, ?_, h⟩
      unfold lookD
      rw [List.find?_cons, show decide (keyD (keyP k', d).1 = some k) = true by rw [keyD_P]; simp [e]]
      rfl
    · rw [valV_neg (p := (k', v)) e]
      have q : lookD ((keyP k', d) :: ps) k = lookD ps k := by
        unfold lookD
        rw [List.find?_cons, show decide (keyD (keyP k', d).1 = some k) = false by rw [keyD_P]; simp [e]]
      rw [q]
      exact look_of k t
theorem DnKv.mapV {k : Key} {v : V} {d : PyData} (hv : Dn K H N v d) : ∀ {kvs : List (Key × V)} {ps : List (PyData × PyData)}, DnKv K H N kvs ps → DnKv K H N (kvs.map fun kv => if kv.1 = k then (kv.1, v) else kv) (ps.map fun p => if keyD p.1 = some k then (p.1, d) else p)
  | _, _, .nil => .nil
  | _, _, .cons (k := k') h t => by
    rw [List.map_cons, List.map_cons]
    by_cases e : k' = k
    · rw [if_pos (by exact e), if_pos (by rw [keyD_P, e])]
      exact .cons hv (DnKv.mapV hv t)
    · rw [if_neg (by exact e), if_neg (by rw [keyD_P]; simp [e])]
      exact .cons h (DnKv.mapV hv t)
theorem DnKv.app : ∀ {kvs kvs' : List (Key × V)} {ps ps' : List (PyData × PyData)}, DnKv K H N kvs ps → DnKv K H N kvs' ps' → DnKv K H N (kvs ++ kvs') (ps ++ ps')
  | _, _, _, _, .nil, s => s
  | _, _, _, _, .cons h t, s => .cons h (DnKv.app t s)
theorem DnKv.length : ∀ {kvs : List (Key × V)} {ps : List (PyData × PyData)}, DnKv K H N kvs ps → kvs.length = ps.length
  | _, _, .nil => rfl
  | _, _, .cons _ t => by rw [List.length_cons, List.length_cons, DnKv.length t]
theorem DnKv.put {k : Key} {v : V} {d : PyData} {kvs : List (Key × V)} {ps : List (PyData × PyData)} (h : DnKv K H N kvs ps) (hv : Dn K H N v d) : DnKv K H N (putK kvs k v) (putD ps k d) := by
  have any : (kvs.any fun kv => decide (kv.1 = k)) = (lookD ps k).isSome := by
    rw [valV_any]
    rcases look_of k h with ⟨e1, e2⟩ | ⟨w, e, e1, e2, _⟩
    · rw [e1, e2]; rfl
    · rw [e1, e2]; rfl
  unfold putK putD
  rw [any]
  split
  · exact DnKv.mapV hv h
  · exact h.app (.cons hv .nil)
theorem DnKv.drop {k : Key} : ∀ {kvs : List (Key × V)} {ps : List (PyData × PyData)}, DnKv K H N kvs ps → DnKv K H N (dropK kvs k) (dropD ps k)
  | _, _, .nil => .nil
  | _, _, .cons (k := k') h t => by
    have ih := DnKv.drop (k := k) t
    unfold dropK dropD at ih ⊢
    rw [List.filter_cons, List.filter_cons]
    by_cases e : k' = k
    · rw [if_neg (by simp [e]), if_neg (by simp [keyD_P, e])]
      exact ih
    · rw [if_pos (by simp [e]), if_pos (by simp [keyD_P, e])]
      exact .cons h ih
/-- pairs on the heap -/
theorem pairs_dn : ∀ {ds : List PyData} {xs : List V} {kvs : List (PyData × PyData)}, DnAll K H N xs ds → pairsD ds = some kvs → ∃ (as : List Addr) (ps : List (Key × V)), xs = as.map V.ref ∧ Paired (fun p kv => SqT K H p [kV kv.1, kv.2]) as ps ∧ ps.length = ds.length ∧ DnKv K H N ps kvs
  | [], _, kvs, .nil, e => by cases e; exact ⟨[], [], rfl, .nil, rfl, .nil⟩
  | d :: ds, _, kvs, .cons (v := v) h t, e => by
    unfold pairsD at e
    split at e
    · rename_i a b
      split at e
      · rename_i k r e1 e2
        cases e
        obtain ⟨as, ps, h1, h2, h3, h4⟩ := pairs_dn t e2
        cases h with
        | @tup p xs _ q1 q2 =>
          cases q2 with
          | cons r1 r2 =>
            cases r2 with
            | cons r3 r4 =>
              cases r4
              cases r1.key e1
              cases keyD_of e1
              exact ⟨p :: as, (k, _) :: ps, by rw [h1]; rfl, .cons q1.sq h2, by rw [List.length_cons, List.length_cons, h3], .cons r3 h4⟩
      · cases e
    · cases e
theorem merge_dn : ∀ {more : List (Key × V)} {ms : List (PyData × PyData)} {kvs : List (Key × V)} {ps : List (PyData × PyData)}, DnKv K H N more ms → DnKv K H N kvs ps → DnKv K H N (mergeK kvs more) (mergeD ps ms)
  | _, _, kvs, ps, .nil, h => h
  | _, _, kvs, ps, .cons (k := k) (v := v) (r := r) (d := d) (ps := ms) hv t, h => by
    have e : mergeD ps ((keyP k, d) :: ms) = mergeD (putD ps k d) ms := by
      rw [mergeD, keyD_P]
    rw [e]
    show DnKv K H N (mergeK (putK kvs k v) r) _
    exact merge_dn t (h.put hv)
end
end Pv

/-! PvG: the operators. -/
set_option linter.all false
set_option maxRecDepth 100000
set_option maxHeartbeats 2000000
namespace Pv
open PySem L2

def bopO : Bop → Operator
  | .add => .Add
  | .sub => .Sub
  | .mul => .Mult
  | .mod => .Mod
  | .fdiv => .FloorDiv
  | .pow => .Pow
theorem most_eq : most = sizeLine := by rw [sizeLine_eq]; rfl
section
variable {K : PySem.W.Frag} {H : Hp} {N : Addr → Prop} {x y z : V}
/-- an atom, or a thing that stands -/
theorem New.same {d : PyData} (h : Dn K H N z d) : New K H N H z (.sh d) :=
  ⟨fun _ _ e => e, [], by simp, rfl, Dn.mono (fun _ _ e _ => e) (fun b q => .inl (q.elim id fun w => by simp at w)) _ _ h⟩
theorem New.tup {p : Addr} {o : Obj} {xs : List V} {ds : List PyData} (hp : H p = none) (ho : o.dict = none) (h : DnAll K H N xs ds) : New K H N (upd H p (.frz o (.tup xs))) (.ref p) (.sh (.tuple ds)) := by
  have k : ∀ b o', H b = some o' → upd H p (.frz o (.tup xs)) b = some o' := fun b o' e => by rw [upd_ne (ne_of_none e hp)]; exact e
  exact ⟨k, [], by simp, rfl, .tup ⟨.inl (.inr ⟨o, upd_same⟩), .inl ⟨o, _, upd_same, ho⟩⟩ (DnAll.mono (fun b o e _ => k b o e) (fun b q => .inl (q.elim id fun w => by simp at w)) _ _ h)⟩
theorem New.dic {p : Addr} {kvs : List (Key × V)} {ps : List (PyData × PyData)} (hp : H p = none) (h : DnKv K H N kvs ps) : New K H N (upd H p (.dK kvs)) (.ref p) (.ow (.dic ps)) := by
  have k : ∀ b o, H b = some o → upd H p (.dK kvs) b = some o := fun b o e => by rw [upd_ne (ne_of_none e hp)]; exact e
  refine ⟨k, [p], fun a ha => ?_, p, rfl, rfl, kvs, upd_same, DnKv.mono (fun b o e _ => k b o e) (fun b q => q.elim .inl fun w => .inr ?_) _ _ h⟩
  · have e : a = p := by simpa using ha
    subst e
    exact ⟨hp, _, upd_same, trivial⟩
  · have e : b = p := by simpa using w
    subst e
    exact hp
theorem New.lst {p : Addr} {xs : List V} {ds : List PyData} (hp : H p = none) (h : DnAll K H N xs ds) : New K H N (upd H p (.lst xs)) (.ref p) (.ow (.lst ds)) := by
  have k : ∀ b o, H b = some o → upd H p (.lst xs) b = some o := fun b o e => by rw [upd_ne (ne_of_none e hp)]; exact e
  refine ⟨k, [p], fun a ha => ?_, p, rfl, rfl, xs, upd_same, DnAll.mono (fun b o e _ => k b o e) (fun b q => q.elim .inl fun w => .inr ?_) _ _ h⟩
  · have e : a = p := by simpa using ha
    subst e
    exact ⟨hp, _, upd_same, trivial⟩
  · have e : b = p := by simpa using w
    subst e
    exact hp
end
theorem DnAll.rep {K : PySem.W.Frag} {H : Hp} {N : Addr → Prop} {xs : List V} {ds : List PyData} (h : DnAll K H N xs ds) : ∀ n : Nat, DnAll K H N (List.replicate n xs).flatten (List.replicate n ds).flatten
  | 0 => .nil
  | n + 1 => by
    rw [List.replicate_succ, List.replicate_succ, List.flatten_cons, List.flatten_cons]
    exact h.append (DnAll.rep h n)
/-! ### new tuples: their objects are known -/
section
variable {X : Cx}
def rCatD (K : PySem.W.Frag) : R2 := fun x y H Q => ∃ a b xs ys, x = .ref a ∧ y = .ref b ∧ SqT K H a xs ∧ SqT K H b ys ∧ xs.length + ys.length ≤ sizeLine ∧
  (xs = [] → Q (.ref b) H) ∧ (xs ≠ [] → ys = [] → Q (.ref a) H) ∧ (xs ≠ [] → ys ≠ [] → ∀ p o, H p = none → o.dict = none → Q (.ref p) (upd H p (.frz o (.tup (xs ++ ys)))))
theorem op_catD : OpR X (binaryOp .Add) (rCatD X.K) := by
  intro pins s σ H x y v u Q I rx ry h
  obtain ⟨a, b, xs, ys, rfl, rfl, ha, hb, hz, q0, q1, q2⟩ := h
  cases rx
  cases ry
  obtain ⟨its, r1, p1, _⟩ := I.tuple ha
  obtain ⟨its2, r2, p2, _⟩ := I.tuple hb
  by_cases hx : xs = []
  · subst hx
    cases r1
    exact cat_tup0 p1 p2 ⟨.ref b, H, I, rfl, q0 rfl⟩
  · refine HT.cat_tup p1 p2 (fun z => hx (r1.nil_iff.mp z)) (fun z => ⟨.ref a, H, I, rfl, q1 hx (r2.nil_iff.mp z)⟩) (fun z => ?_) (by rw [← r1.length, ← r2.length]; exact hz)
    refine ⟨.ref s.heap.objs.size, _, I.laid (t' := s.toks) (o := .frz { cls := .type "tuple", data := .seq (its ++ its2).toArray } (.tup (xs ++ ys))) (fun b ob q => Heap.get?_push_of_some _ q) (Nat.le_refl _) ?_, rfl, q2 hx (fun w => z (r2.nil_iff.mpr w)) _ _ (I.hok.fresh (Nat.le_refl _)) rfl⟩
    exact ⟨by first | exact Heap.get?_push_size _ rfl | (simp; exact Heap.get?_push_size _ rfl), by rw [List.length_append]; exact hz, _, r1.append r2, PyProof.Rows.IsTup.new _ _⟩
end
section
variable {K : PySem.W.Frag} {H : Hp} {N : Addr → Prop} {x y z : V}
def rBin (K : PySem.W.Frag) (op : Bop) : R2 := fun x y H Q => ∃ N d e r, Dt K H N x d ∧ Dt K H N y e ∧ binD op d e = some r ∧ ∀ z H', New K H N H' z r → Q z H'
end
section
variable {X : Cx}
theorem OpR.imp {f : Value → Value → Sem Value} {r r' : R2} (h : OpR X f r) (w : ∀ x y H Q, r' x y H Q → r x y H Q) : OpR X f r' := fun pins s σ H x y v u Q I rx ry q => h pins s σ H x y v u Q I rx ry (w x y H Q q)
theorem bin_ok (op : Bop) : OpR X (binaryOp (bopO op)) (rBin X.K op) := by
  intro pins s σ H x y v u Q I rx ry h
  obtain ⟨N, d, e, r, hd, he, hr, q⟩ := h
  have twoI : ∀ i j, d = .int i → e = .int j → x = .int i ∧ y = .int j := fun i j e1 e2 => by
    subst e1 e2
    cases (show Dn X.K H N x (.int i) from hd)
    cases (show Dn X.K H N y (.int j) from he)
    exact ⟨rfl, rfl⟩
  unfold binD at hr
  split at hr <;> try (first | (cases hr; done) | skip)
  · rename_i i j
    obtain ⟨e1, e2⟩ := twoI i j rfl rfl
    cases hr
    exact op_add pins s σ H x y v u Q I rx ry ⟨i, j, e1, e2, q _ _ (New.same (.int _))⟩
  · rename_i i j
    cases hr
    cases (show Dn X.K H N x (.bool i) from hd)
    cases (show Dn X.K H N y (.int j) from he)
    cases (show v = Value.bool i from rx)
    obtain ⟨t', rfl⟩ := ry
    exact PySem.IntBool.add_bool_int ⟨.int _, H, I.tok _, ⟨_, rfl⟩, q _ _ (New.same (.int _))⟩
  · rename_i i j
    cases (show Dn X.K H N x (.str i) from hd)
    cases (show Dn X.K H N y (.str j) from he)
    split at hr
    · cases hr
      exact op_add_str pins s σ H _ _ v u Q I rx ry ⟨i, j, rfl, rfl, by rw [← most_eq]; assumption, q _ _ (New.same (.str _))⟩
    · cases hr
  · rename_i ds es
    split at hr
    · rename_i hz
      cases hr
      cases (show Dn X.K H N x (.tuple ds) from hd) with
      | @tup a xs _ h1 h2 =>
        cases (show Dn X.K H N y (.tuple es) from he) with
        | @tup b ys _ h3 h4 =>
          have l1 := h2.length
          have l2 := h4.length
          have hs : xs.length + ys.length ≤ sizeLine := by rw [← most_eq, l1, l2]; exact hz
          refine op_catD pins s σ H _ _ v u Q I rx ry ⟨a, b, xs, ys, rfl, rfl, h1.sq, h3.sq, hs, fun z => ?_, fun z0 z => ?_, fun _ _ p o hp ho => q _ _ (New.tup hp ho (h2.append h4))⟩
          · subst z
            cases h2
            exact q _ _ (New.same (.tup h3 h4))
          · subst z
            cases h4
            rw [List.append_nil] at q
            exact q _ _ (New.same (.tup h1 h2))
    · cases hr
  · rename_i ds es
    split at hr
    · rename_i hz
      cases hr
      obtain ⟨a, xs, rfl, h1, h2⟩ := hd
      obtain ⟨b, ys, rfl, h3, h4⟩ := he
      have l1 := h2.length
      have l2 := h4.length
      exact op_cat pins s σ H _ _ v u Q I rx ry ⟨a, b, xs, ys, rfl, rfl, h1, h3, by rw [← most_eq, l1, l2]; exact hz, fun p hp => q _ _ (New.lst hp (h2.append h4))⟩
    · cases hr
  · rename_i i j
    obtain ⟨e1, e2⟩ := twoI i j rfl rfl
    cases hr
    exact op_sub pins s σ H x y v u Q I rx ry ⟨i, j, e1, e2, q _ _ (New.same (.int _))⟩
  · rename_i i j
    cases hr
    cases (show Dn X.K H N x (.bool i) from hd)
    cases (show Dn X.K H N y (.int j) from he)
    cases (show v = Value.bool i from rx)
    obtain ⟨t', rfl⟩ := ry
    exact PySem.IntBool.sub_bool_int ⟨.int _, H, I.tok _, ⟨_, rfl⟩, q _ _ (New.same (.int _))⟩
  · rename_i i j
    obtain ⟨e1, e2⟩ := twoI i j rfl rfl
    split at hr
    · cases hr
      exact op_mul pins s σ H x y v u Q I rx ry ⟨i, j, e1, e2, by assumption, q _ _ (New.same (.int _))⟩
    · cases hr
  · rename_i ds k
    split at hr
    · rename_i hc
      cases hr
      obtain ⟨c1, c2, c3⟩ := hc
      obtain ⟨a, xs, rfl, h1, h2⟩ := hd
      cases (show Dn X.K H N y (.int k) from he)
      exact op_rep pins s σ H _ _ v u Q I rx ry ⟨a, k, xs, rfl, rfl, h1, by omega, by omega, by rw [← most_eq, h2.length]; exact c3, fun p hp => q _ _ (New.lst hp (h2.rep _))⟩
    · cases hr
  · rename_i i j
    obtain ⟨e1, e2⟩ := twoI i j rfl rfl
    split at hr
    · cases hr
      exact op_mod pins s σ H x y v u Q I rx ry ⟨i, j, e1, e2, by assumption, q _ _ (New.same (.int _))⟩
    · cases hr
  · rename_i i j
    obtain ⟨e1, e2⟩ := twoI i j rfl rfl
    split at hr
    · cases hr
      exact op_fdiv pins s σ H x y v u Q I rx ry ⟨i, j, e1, e2, by assumption, q _ _ (New.same (.int _))⟩
    · cases hr
  · rename_i i j
    obtain ⟨rfl, rfl⟩ := twoI i j rfl rfl
    split at hr
    · rename_i hc
      cases hr
      obtain ⟨t, rfl⟩ := rx
      obtain ⟨t', rfl⟩ := ry
      obtain ⟨c1, c2, c3⟩ := hc
      refine PyProof.Rows.pow_int c1 ?_ ⟨.int (i ^ j.toNat), H, I.tok _, ⟨_, rfl⟩, q _ _ (New.same (.int _))⟩
      have hb := PyProof.Rows.intBits_le c3
      have h1 : (Builtin.Int.intBits i : Int) * j ≤ 256 * 64 := by
        have a1 : (Builtin.Int.intBits i : Int) ≤ 256 := by omega
        exact Int.mul_le_mul a1 c2 c1 (by omega)
      have h2 : (256 * 64 : Int) ≤ 2 ^ 27 := by decide
      omega
    · cases hr
end
end Pv

/-! PvH: data on the heap; == of data in which no dict is met. -/
set_option linter.all false
set_option maxRecDepth 100000
set_option maxHeartbeats 4000000
namespace Pv
open PySem L2 PySem.SeqAt

mutual
theorem aln_refl : ∀ d : PyData, aln d d = true → PyData.eqv d d = true
  | .none, _ => rfl
  | .bool b, _ => by simp [PyData.eqv]
  | .int b, _ => by simp [PyData.eqv]
  | .str b, _ => by simp [PyData.eqv]
  | .list xs, h => by rw [PyData.eqv]; exact alnAll_refl xs h
  | .tuple xs, h => by rw [PyData.eqv]; exact alnAll_refl xs h
  | .dict ps, h => nomatch h
theorem alnAll_refl : ∀ xs : List PyData, alnAll xs xs = true → PyData.eqvAll xs xs = true
  | [], _ => rfl
  | x :: xs, h => by
    rw [alnAll, Bool.and_eq_true] at h
    rw [PyData.eqvAll, aln_refl x h.1, alnAll_refl xs h.2]
    rfl
end
mutual
/-- one thing reads as one datum -/
theorem aln_one {g : Heap} : ∀ (d e : PyData) (v : Value) (as bs : List Addr), aln d e = true → Reads g v d as → Reads g v e bs → d = e
  | .none, _, _, _, _, _, r, q => by cases r; cases q; rfl
  | .bool _, _, _, _, _, _, r, q => by cases r; cases q; rfl
  | .int _, _, _, _, _, _, r, q => by cases r; cases q; rfl
  | .str _, _, _, _, _, _, r, q => by cases r; cases q; rfl
  | .list xs, e, _, _, _, h, r, q => by
    cases r with
    | list a1 a2 a3 a4 =>
      cases q with
      | list b1 b2 b3 b4 =>
        rw [a1] at b1; cases b1
        rw [a3] at b3; cases b3
        rw [alnAll_one xs _ _ _ _ (by rwa [aln] at h) a4 b4]
      | tuple b1 b2 b3 b4 => rw [a1] at b1; cases b1; rw [a2] at b2; exact absurd b2 (by simp)
      | dict b1 b2 b3 b4 b5 => rw [a1] at b1; cases b1; rw [a2] at b2; exact absurd b2 (by simp)
  | .tuple xs, e, _, _, _, h, r, q => by
    cases r with
    | tuple a1 a2 a3 a4 =>
      cases q with
      | tuple b1 b2 b3 b4 =>
        rw [a1] at b1; cases b1
        rw [a3] at b3; cases b3
        rw [alnAll_one xs _ _ _ _ (by rwa [aln] at h) a4 b4]
      | list b1 b2 b3 b4 => rw [a1] at b1; cases b1; rw [a2] at b2; exact absurd b2 (by simp)
      | dict b1 b2 b3 b4 b5 => rw [a1] at b1; cases b1; rw [a2] at b2; exact absurd b2 (by simp)
  | .dict _, _, _, _, _, h, _, _ => nomatch h
theorem alnAll_one {g : Heap} : ∀ (xs ys : List PyData) (vs : List Value) (as bs : List Addr), alnAll xs ys = true → ReadsAll g vs xs as → ReadsAll g vs ys bs → xs = ys
  | [], _, _, _, _, _, r, q => by cases r; cases q; rfl
  | x :: xs, ys, _, _, _, h, r, q => by
    cases r with
    | cons a1 a2 =>
      cases q with
      | cons b1 b2 =>
        rw [alnAll, Bool.and_eq_true] at h
        rw [aln_one x _ _ _ _ h.1 a1 b1, alnAll_one xs _ _ _ _ h.2 a2 b2]
end
mutual
theorem eq_at : ∀ (da db : PyData) (A : Around) (s : Shared) (a b : Value) (as bs : List Addr), Reads s.heap a da as → Reads s.heap b db bs → aln da db = true →
    A.units + min da.depth db.depth < cLine → EqAt A s a b (PyData.eqv da db)
  | .none, db, A, s, a, b, as, bs, ra, rb, h, hu => by
    have hu0 := room_here hu
    cases ra
    cases rb with
    | none => exact EqAt.same _
    | bool y => exact EqAt.none_bool y
    | int y u => exact EqAt.none_int y u
    | str y u => exact EqAt.none_str y u
    | list b1 b2 b3 b4 => exact EqAt.none_list ⟨_, b1, b2, _, b3⟩ hu0
    | tuple b1 b2 b3 b4 => exact EqAt.none_tuple ⟨_, b1, b2, _, b3⟩ hu0
    | dict => exact nomatch h
  | .bool x, db, A, s, a, b, as, bs, ra, rb, h, hu => by
    have hu0 := room_here hu
    cases ra
    cases rb with
    | none => exact EqAt.bool_none x
    | bool y => exact EqAt.bool_bool x y
    | int y u => exact EqAt.bool_int x y u
    | str y u => exact EqAt.bool_str x y u
    | list b1 b2 b3 b4 => exact EqAt.bool_list x ⟨_, b1, b2, _, b3⟩ hu0
    | tuple b1 b2 b3 b4 => exact EqAt.bool_tuple x ⟨_, b1, b2, _, b3⟩ hu0
    | dict => exact nomatch h
  | .int x, db, A, s, a, b, as, bs, ra, rb, h, hu => by
    have hu0 := room_here hu
    cases ra with
    | int _ t =>
      cases rb with
      | none => exact EqAt.int_none x t
      | bool y => exact EqAt.int_bool x t y
      | int y u => exact EqAt.int_int x t y u
      | str y u => exact EqAt.int_str x t y u
      | list b1 b2 b3 b4 => exact EqAt.int_list x t ⟨_, b1, b2, _, b3⟩ hu0
      | tuple b1 b2 b3 b4 => exact EqAt.int_tuple x t ⟨_, b1, b2, _, b3⟩ hu0
      | dict => exact nomatch h
  | .str x, db, A, s, a, b, as, bs, ra, rb, h, hu => by
    have hu0 := room_here hu
    cases ra with
    | str _ t =>
      cases rb with
      | none => exact EqAt.str_none x t
      | bool y => exact EqAt.str_bool x t y
      | int y u => exact EqAt.str_int x t y u
      | str y u => exact EqAt.str_str x t y u
      | list b1 b2 b3 b4 => exact EqAt.str_list x t ⟨_, b1, b2, _, b3⟩ hu0
      | tuple b1 b2 b3 b4 => exact EqAt.str_tuple x t ⟨_, b1, b2, _, b3⟩ hu0
      | dict => exact nomatch h
  | .list xs, db, A, s, a, b, as, bs, ra, rb, h, hu => by
    have hu0 := room_here hu
    cases ra with
    | @list l o vs n _ as₁ a1 a2 a3 a4 =>
      have L : s.heap.IsList l vs := ⟨_, a1, a2, _, a3⟩
      cases rb with
      | @list l' o' vs' n' ys bs₁ b1 b2 b3 b4 =>
        have L' : s.heap.IsList l' vs' := ⟨_, b1, b2, _, b3⟩
        have n1 : vs.size = xs.length := by simpa using ReadsAll.length _ _ _ a4
        have n2 : vs'.size = ys.length := by simpa using ReadsAll.length _ _ _ b4
        have h' : alnAll xs ys = true := by rwa [aln] at h
        rw [PyData.eqv]
        rcases Nat.decEq l l' with ne | e
        · rcases Nat.decEq vs.size vs'.size with z | z
          · rw [eqvAll_other_length (by omega : xs.length ≠ ys.length)]
            exact EqAt.of_refs ne (RcAt.lists_lengths L L' (by simpa using z) hu0)
          · have hx : xs.length = ys.length := by omega
            rw [← eqvAll_same_length hx, ← n1]
            exact EqAt.of_refs ne (RcAt.lists L L' z hu0 fun j j1 j2 => by
              exact eqs_at xs ys A.in1 s vs.toList vs'.toList _ _ a4 b4 h' (room_in hu) j (by rw [Array.length_toList]; exact j1) (by rw [Array.length_toList]; exact j2))
        · cases e
          have q := aln_one (.list xs) (.list ys) _ _ _ h (.list a1 a2 a3 a4) (.list b1 b2 b3 b4)
          injection q with q
          subst q
          rw [alnAll_refl xs h']
          exact EqAt.same _
      | none => exact EqAt.list_none L hu0
      | bool y => exact EqAt.list_bool y L hu0
      | int y u => exact EqAt.list_int y u L hu0
      | str y u => exact EqAt.list_str y u L hu0
      | tuple b1 b2 b3 b4 => exact EqAt.list_tuple L ⟨_, b1, b2, _, b3⟩ hu0
      | dict => exact nomatch h
  | .tuple xs, db, A, s, a, b, as, bs, ra, rb, h, hu => by
    have hu0 := room_here hu
    cases ra with
    | @tuple l o vs n _ as₁ a1 a2 a3 a4 =>
      have L : s.heap.IsTuple l vs := ⟨_, a1, a2, _, a3⟩
      cases rb with
      | @tuple l' o' vs' n' ys bs₁ b1 b2 b3 b4 =>
        have L' : s.heap.IsTuple l' vs' := ⟨_, b1, b2, _, b3⟩
        have n1 : vs.size = xs.length := by simpa using ReadsAll.length _ _ _ a4
        have n2 : vs'.size = ys.length := by simpa using ReadsAll.length _ _ _ b4
        have h' : alnAll xs ys = true := by rwa [aln] at h
        rw [PyData.eqv]
        rcases Nat.decEq l l' with ne | e
        · rw [← eqvAll_eq xs ys, ← n1, ← n2]
          exact EqAt.of_refs ne (RcAt.tuples L L' hu0 fun j j1 j2 => by
            exact eqs_at xs ys A.in1 s vs.toList vs'.toList _ _ a4 b4 h' (room_in hu) j (by rw [Array.length_toList]; exact j1) (by rw [Array.length_toList]; exact j2))
        · cases e
          have q := aln_one (.tuple xs) (.tuple ys) _ _ _ h (.tuple a1 a2 a3 a4) (.tuple b1 b2 b3 b4)
          injection q with q
          subst q
          rw [alnAll_refl xs h']
          exact EqAt.same _
      | none => exact EqAt.tuple_none L hu0
      | bool y => exact EqAt.tuple_bool y L hu0
      | int y u => exact EqAt.tuple_int y u L hu0
      | str y u => exact EqAt.tuple_str y u L hu0
      | list b1 b2 b3 b4 => exact EqAt.tuple_list L ⟨_, b1, b2, _, b3⟩ hu0
      | dict => exact nomatch h
  | .dict _, _, _, _, _, _, _, _, _, _, h, _ => nomatch h
theorem eqs_at : ∀ (xs ys : List PyData) (A : Around) (s : Shared) (vs ws : List Value) (as bs : List Addr), ReadsAll s.heap vs xs as → ReadsAll s.heap ws ys bs → alnAll xs ys = true →
    A.units + min (PyData.depthAll xs) (PyData.depthAll ys) < cLine → ∀ j (h1 : j < vs.length) (h2 : j < ws.length), EqAt A s vs[j] ws[j] (pairEq xs ys j)
  | [], _, _, _, _, _, _, _, ra, _, _, _, j, h1, _ => by cases ra; exact absurd h1 (Nat.not_lt_zero _)
  | _ :: _, [], _, _, _, _, _, _, _, rb, _, _, j, _, h2 => by cases rb; exact absurd h2 (Nat.not_lt_zero _)
  | x :: xs, y :: ys, A, s, _, _, _, _, ra, rb, h, hu, j, h1, h2 => by
    rw [alnAll, Bool.and_eq_true] at h
    cases ra with
    | cons r rs =>
      cases rb with
      | cons q qs =>
        match j with
        | 0 => exact eq_at x y A s _ _ _ _ r q h.1 (room_head hu)
        | j + 1 => exact eqs_at xs ys A s _ _ _ _ rs qs h.2 (room_tail hu) j (Nat.lt_of_succ_lt_succ h1) (Nat.lt_of_succ_lt_succ h2)
end
theorem rc_at {da db : PyData} {A : Around} {s : Shared} {a b : Value} {as bs : List Addr} (ra : Reads s.heap a da as) (rb : Reads s.heap b db bs) (h : aln da db = true)
    (hu : A.units + min da.depth db.depth < cLine) : RcAt A s a b (PyData.eqv da db) := by
  have hu0 := room_here hu
  cases ra with
  | @list l o vs n xs as₁ a1 a2 a3 a4 =>
    have L : s.heap.IsList l vs := ⟨_, a1, a2, _, a3⟩
    cases rb with
    | @list l' o' vs' n' ys bs₁ b1 b2 b3 b4 =>
      have L' : s.heap.IsList l' vs' := ⟨_, b1, b2, _, b3⟩
      have n1 : vs.size = xs.length := by simpa using ReadsAll.length _ _ _ a4
      have n2 : vs'.size = ys.length := by simpa using ReadsAll.length _ _ _ b4
      have h' : alnAll xs ys = true := by rwa [aln] at h
      rw [PyData.eqv]
      rcases Nat.decEq vs.size vs'.size with z | z
      · rw [eqvAll_other_length (by omega : xs.length ≠ ys.length)]
        exact RcAt.lists_lengths L L' (by simpa using z) hu0
      · have hx : xs.length = ys.length := by omega
        rw [← eqvAll_same_length hx, ← n1]
        exact RcAt.lists L L' z hu0 fun j j1 j2 => by
          exact eqs_at xs ys A.in1 s vs.toList vs'.toList _ _ a4 b4 h' (room_in hu) j (by rw [Array.length_toList]; exact j1) (by rw [Array.length_toList]; exact j2)
    | none => exact RcAt.list_none L hu0
    | bool y => exact RcAt.list_bool y L hu0
    | int y u => exact RcAt.list_int y u L hu0
    | str y u => exact RcAt.list_str y u L hu0
    | tuple b1 b2 b3 b4 => exact RcAt.list_tuple L ⟨_, b1, b2, _, b3⟩ hu0
    | dict => exact nomatch h
  | @tuple l o vs n xs as₁ a1 a2 a3 a4 =>
    have L : s.heap.IsTuple l vs := ⟨_, a1, a2, _, a3⟩
    cases rb with
    | @tuple l' o' vs' n' ys bs₁ b1 b2 b3 b4 =>
      have L' : s.heap.IsTuple l' vs' := ⟨_, b1, b2, _, b3⟩
      have n1 : vs.size = xs.length := by simpa using ReadsAll.length _ _ _ a4
      have n2 : vs'.size = ys.length := by simpa using ReadsAll.length _ _ _ b4
      have h' : alnAll xs ys = true := by rwa [aln] at h
      rw [PyData.eqv, ← eqvAll_eq xs ys, ← n1, ← n2]
      exact RcAt.tuples L L' hu0 fun j j1 j2 => by
        exact eqs_at xs ys A.in1 s vs.toList vs'.toList _ _ a4 b4 h' (room_in hu) j (by rw [Array.length_toList]; exact j1) (by rw [Array.length_toList]; exact j2)
    | none => exact RcAt.tuple_none L hu0
    | bool y => exact RcAt.tuple_bool y L hu0
    | int y u => exact RcAt.tuple_int y u L hu0
    | str y u => exact RcAt.tuple_str y u L hu0
    | list b1 b2 b3 b4 => exact RcAt.tuple_list L ⟨_, b1, b2, _, b3⟩ hu0
    | dict => exact nomatch h
  | dict => exact nomatch h
  | none =>
    cases rb with
    | none => exact RcAt.none_none
    | bool y => exact RcAt.none_bool y
    | int y u => exact RcAt.none_int y u
    | str y u => exact RcAt.none_str y u
    | list b1 b2 b3 b4 => exact RcAt.none_list ⟨_, b1, b2, _, b3⟩ hu0
    | tuple b1 b2 b3 b4 => exact RcAt.none_tuple ⟨_, b1, b2, _, b3⟩ hu0
    | dict => exact nomatch h
  | bool x =>
    cases rb with
    | none => exact RcAt.bool_none x
    | bool y => exact RcAt.bool_bool x y
    | int y u => exact RcAt.bool_int x y u
    | str y u => exact RcAt.bool_str x y u
    | list b1 b2 b3 b4 => exact RcAt.bool_list x ⟨_, b1, b2, _, b3⟩ hu0
    | tuple b1 b2 b3 b4 => exact RcAt.bool_tuple x ⟨_, b1, b2, _, b3⟩ hu0
    | dict => exact nomatch h
  | int x t =>
    cases rb with
    | none => exact RcAt.int_none x t
    | bool y => exact RcAt.int_bool x t y
    | int y u => exact RcAt.int_int x t y u
    | str y u => exact RcAt.int_str x t y u
    | list b1 b2 b3 b4 => exact RcAt.int_list x t ⟨_, b1, b2, _, b3⟩ hu0
    | tuple b1 b2 b3 b4 => exact RcAt.int_tuple x t ⟨_, b1, b2, _, b3⟩ hu0
    | dict => exact nomatch h
  | str x t =>
    cases rb with
    | none => exact RcAt.str_none x t
    | bool y => exact RcAt.str_bool x t y
    | int y u => exact RcAt.str_int x t y u
    | str y u => exact RcAt.str_str x t y u
    | list b1 b2 b3 b4 => exact RcAt.str_list x t ⟨_, b1, b2, _, b3⟩ hu0
    | tuple b1 b2 b3 b4 => exact RcAt.str_tuple x t ⟨_, b1, b2, _, b3⟩ hu0
    | dict => exact nomatch h
theorem rcn_at {da db : PyData} {A : Around} {s : Shared} {a b : Value} {as bs : List Addr} (ra : Reads s.heap a da as) (rb : Reads s.heap b db bs) (h : aln da db = true)
    (hu : A.units + min da.depth db.depth < cLine) : RcNeAt A s a b (!PyData.eqv da db) := by
  have hu0 := room_here hu
  cases ra with
  | @list l o vs n xs as₁ a1 a2 a3 a4 =>
    have L : s.heap.IsList l vs := ⟨_, a1, a2, _, a3⟩
    cases rb with
    | @list l' o' vs' n' ys bs₁ b1 b2 b3 b4 =>
      have L' : s.heap.IsList l' vs' := ⟨_, b1, b2, _, b3⟩
      have n1 : vs.size = xs.length := by simpa using ReadsAll.length _ _ _ a4
      have n2 : vs'.size = ys.length := by simpa using ReadsAll.length _ _ _ b4
      have h' : alnAll xs ys = true := by rwa [aln] at h
      rw [PyData.eqv]
      rcases Nat.decEq vs.size vs'.size with z | z
      · rw [eqvAll_other_length (by omega : xs.length ≠ ys.length)]
        exact RcNeAt.lists_lengths L L' (by simpa using z) hu0
      · have hx : xs.length = ys.length := by omega
        rw [← eqvAll_same_length hx, ← n1]
        exact RcNeAt.lists L L' z hu0 fun j j1 j2 => by
          exact eqs_at xs ys A.in1 s vs.toList vs'.toList _ _ a4 b4 h' (room_in hu) j (by rw [Array.length_toList]; exact j1) (by rw [Array.length_toList]; exact j2)
    | none => exact RcNeAt.list_none L hu0
    | bool y => exact RcNeAt.list_bool y L hu0
    | int y u => exact RcNeAt.list_int y u L hu0
    | str y u => exact RcNeAt.list_str y u L hu0
    | tuple b1 b2 b3 b4 => exact RcNeAt.list_tuple L ⟨_, b1, b2, _, b3⟩ hu0
    | dict => exact nomatch h
  | @tuple l o vs n xs as₁ a1 a2 a3 a4 =>
    have L : s.heap.IsTuple l vs := ⟨_, a1, a2, _, a3⟩
    cases rb with
    | @tuple l' o' vs' n' ys bs₁ b1 b2 b3 b4 =>
      have L' : s.heap.IsTuple l' vs' := ⟨_, b1, b2, _, b3⟩
      have n1 : vs.size = xs.length := by simpa using ReadsAll.length _ _ _ a4
      have n2 : vs'.size = ys.length := by simpa using ReadsAll.length _ _ _ b4
      have h' : alnAll xs ys = true := by rwa [aln] at h
      rw [PyData.eqv, ← eqvAll_eq xs ys, ← n1, ← n2]
      exact RcNeAt.tuples L L' hu0 fun j j1 j2 => by
        exact eqs_at xs ys A.in1 s vs.toList vs'.toList _ _ a4 b4 h' (room_in hu) j (by rw [Array.length_toList]; exact j1) (by rw [Array.length_toList]; exact j2)
    | none => exact RcNeAt.tuple_none L hu0
    | bool y => exact RcNeAt.tuple_bool y L hu0
    | int y u => exact RcNeAt.tuple_int y u L hu0
    | str y u => exact RcNeAt.tuple_str y u L hu0
    | list b1 b2 b3 b4 => exact RcNeAt.tuple_list L ⟨_, b1, b2, _, b3⟩ hu0
    | dict => exact nomatch h
  | dict => exact nomatch h
  | none =>
    cases rb with
    | none => exact RcNeAt.none_none
    | bool y => exact RcNeAt.none_bool y
    | int y u => exact RcNeAt.none_int y u
    | str y u => exact RcNeAt.none_str y u
    | list b1 b2 b3 b4 => exact RcNeAt.none_list ⟨_, b1, b2, _, b3⟩ hu0
    | tuple b1 b2 b3 b4 => exact RcNeAt.none_tuple ⟨_, b1, b2, _, b3⟩ hu0
    | dict => exact nomatch h
  | bool x =>
    cases rb with
    | none => exact RcNeAt.bool_none x
    | bool y => exact RcNeAt.bool_bool x y
    | int y u => exact RcNeAt.bool_int x y u
    | str y u => exact RcNeAt.bool_str x y u
    | list b1 b2 b3 b4 => exact RcNeAt.bool_list x ⟨_, b1, b2, _, b3⟩ hu0
    | tuple b1 b2 b3 b4 => exact RcNeAt.bool_tuple x ⟨_, b1, b2, _, b3⟩ hu0
    | dict => exact nomatch h
  | int x t =>
    cases rb with
    | none => exact RcNeAt.int_none x t
    | bool y => exact RcNeAt.int_bool x t y
    | int y u => exact RcNeAt.int_int x t y u
    | str y u => exact RcNeAt.int_str x t y u
    | list b1 b2 b3 b4 => exact RcNeAt.int_list x t ⟨_, b1, b2, _, b3⟩ hu0
    | tuple b1 b2 b3 b4 => exact RcNeAt.int_tuple x t ⟨_, b1, b2, _, b3⟩ hu0
    | dict => exact nomatch h
  | str x t =>
    cases rb with
    | none => exact RcNeAt.str_none x t
    | bool y => exact RcNeAt.str_bool x t y
    | int y u => exact RcNeAt.str_int x t y u
    | str y u => exact RcNeAt.str_str x t y u
    | list b1 b2 b3 b4 => exact RcNeAt.str_list x t ⟨_, b1, b2, _, b3⟩ hu0
    | tuple b1 b2 b3 b4 => exact RcNeAt.str_tuple x t ⟨_, b1, b2, _, b3⟩ hu0
    | dict => exact nomatch h
/-! ### from the abstract heap to what is read -/
section
variable {X : Cx} {pins : List (Addr × Obj)} {σ : St} {H : Hp} {s : Shared} {N : Addr → Prop}
mutual
theorem Dn.reads (I : Inv X pins σ H s) : ∀ (d : PyData) (v : V) (u : Value), Dn X.K H N v d → RelV v u → ∃ as, Reads s.heap u d as ∧ ∀ a ∈ as, H a ≠ none
  | .none, _, u, .non, r => by cases (show u = Value.none from r); exact ⟨_, .none, by simp⟩
  | .bool b, _, u, .bl _, r => by cases (show u = Value.bool b from r); exact ⟨_, .bool b, by simp⟩
  | .int i, _, u, .int _, r => by obtain ⟨t, rfl⟩ := (show ∃ t, u = Value.int i t from r); exact ⟨_, .int i t, by simp⟩
  | .str x, _, u, .str _, r => by obtain ⟨t, rfl⟩ := (show ∃ t, u = Value.str x t from r); exact ⟨_, .str x t, by simp⟩
  | .list ds, _, u, .lst (a := a) h0 h1 h2, r => by
    cases (show u = Value.ref a from r)
    obtain ⟨its, rv, ⟨o, n, ho, hc, _, hd⟩, _⟩ := I.list (SqL.of h1)
    obtain ⟨as, hr, ha⟩ := DnAll.reads I ds _ its h2 rv
    refine ⟨_, .list ho hc hd hr, fun b hb => ?_⟩
    rcases List.mem_cons.mp hb with rfl | hb
    · rw [h1]; simp
    · exact ha b hb
  | .tuple ds, _, u, .tup (a := a) h1 h2, r => by
    cases (show u = Value.ref a from r)
    obtain ⟨its, rv, ⟨o, ho, hc, n, hd⟩, _⟩ := I.tuple h1.sq
    obtain ⟨as, hr, ha⟩ := DnAll.reads I ds _ its h2 rv
    exact ⟨_, .tuple ho hc hd hr, ha⟩
  | .dict ps, _, u, .dic (a := a) (kvs := kvs) h0 h1 h2, r => by
    cases (show u = Value.ref a from r)
    obtain ⟨_, _, vs, rk, o, es, ep, ho, hx, hd, _, hp, _⟩ := (show ObjOk X.prog X.w H s.heap a (.dK kvs) from h1.ok I.hok)
    obtain ⟨as, bs, hr1, hr2, ha⟩ := DnKv.reads I ps kvs vs es.toList h2 rk hp
    refine ⟨_, .dict ho hx.1 hd hr1 hr2, fun b hb => ?_⟩
    rcases List.mem_append.mp hb with hb | hb
    · rcases List.mem_cons.mp hb with rfl | hb
      · exact rd_some h1
      · exact ha b (.inl hb)
    · exact ha b (.inr hb)
theorem DnAll.reads (I : Inv X pins σ H s) : ∀ (ds : List PyData) (vs : List V) (us : List Value), DnAll X.K H N vs ds → Vals vs us → ∃ as, ReadsAll s.heap us ds as ∧ ∀ a ∈ as, H a ≠ none
  | [], _, _, .nil, r => by cases r; exact ⟨_, .nil, by simp⟩
  | d :: ds, _, _, .cons h1 h2, r => by
    cases r with
    | cons r1 r2 =>
      obtain ⟨as, q1, a1⟩ := Dn.reads I d _ _ h1 r1
      obtain ⟨bs, q2, a2⟩ := DnAll.reads I ds _ _ h2 r2
      exact ⟨_, .cons q1 q2, fun b hb => (List.mem_append.mp hb).elim (a1 b) (a2 b)⟩
theorem DnKv.reads (I : Inv X pins σ H s) : ∀ (ps : List (PyData × PyData)) (kvs : List (Key × V)) (vs : List (Key × Value)) (es : List DictEntry), DnKv X.K H N kvs ps → KV kvs vs → Pairs (mixKind X.prog X.w) es vs →
    ∃ as bs, ReadsAll s.heap (es.map (·.key)) (ps.map (·.1)) as ∧ ReadsAll s.heap (es.map (·.val)) (ps.map (·.2)) bs ∧ ∀ a, a ∈ as ∨ a ∈ bs → H a ≠ none
  | [], _, _, _, .nil, r, p => by cases r; cases p; exact ⟨_, _, .nil, .nil, by simp⟩
  | (_, d) :: ps, _, _, _, .cons (k := k) h1 h2, r, p => by
    cases r with
    | cons r1 r2 =>
      cases p with
      | @cons e _ es' _ p1 p2 p3 =>
        obtain ⟨as, bs, q1, q2, a3⟩ := DnKv.reads I ps _ _ _ h2 r2 p3
        obtain ⟨cs, q4, a4⟩ := Dn.reads I d _ _ h1 r1.2
        rw [← p2] at q4
        have kr : ReadsAll s.heap (e.key :: es'.map (·.key)) (keyP k :: ps.map (·.1)) as := by
          rw [← r1.1] at p1
          rcases keyIs_shape (k := k) (v := e.key) p1 with ⟨i, t, rfl, e1⟩ | ⟨x, t, rfl, e1⟩
          · rw [e1]; exact .cons (as := []) (.int i t) q1
          · rw [e1]; exact .cons (as := []) (.str x t) q1
        exact ⟨_, _, kr, .cons q4 q2, fun b hb => by
          rcases hb with hb | hb
          · exact a3 b (.inl hb)
          · exact (List.mem_append.mp hb).elim (a4 b) fun z => a3 b (.inr z)⟩
end
/-- what may be read, as it is read -/
theorem Dq.reads (I : Inv X pins σ H s) {d : PyData} {v : V} {u : Value} (h : Dq X.K H N v d) (r : RelV v u) : ∃ as, Reads s.heap u d as := by
  cases d with
  | list ds =>
    obtain ⟨a, xs, rfl, h1, h2⟩ := h
    cases (show u = Value.ref a from r)
    obtain ⟨its, rv, ⟨o, n, ho, hc, _, hd⟩, _⟩ := I.list h1
    obtain ⟨as, hr, _⟩ := DnAll.reads I ds _ its h2 rv
    exact ⟨_, .list ho hc hd hr⟩
  | dict ps =>
    obtain ⟨a, kvs, rfl, h1, h2⟩ := h
    obtain ⟨as, q, _⟩ := Dn.reads (N := fun _ => False) I (.dict ps) (.ref a) u (.dic (fun z => z) h1 (DnKv.mono (fun _ _ e _ => e) (fun _ z => z.elim) _ _ h2)) r
    exact ⟨as, q⟩
  | none => exact let ⟨as, q, _⟩ := Dn.reads I _ _ _ h r; ⟨as, q⟩
  | bool b => exact let ⟨as, q, _⟩ := Dn.reads I _ _ _ h r; ⟨as, q⟩
  | int b => exact let ⟨as, q, _⟩ := Dn.reads I _ _ _ h r; ⟨as, q⟩
  | str b => exact let ⟨as, q, _⟩ := Dn.reads I _ _ _ h r; ⟨as, q⟩
  | tuple b => exact let ⟨as, q, _⟩ := Dn.reads I _ _ _ h r; ⟨as, q⟩
end
end Pv

/-! PvI: comparisons, truth, built-ins. -/
set_option linter.all false
set_option maxRecDepth 100000
set_option maxHeartbeats 4000000
namespace Pv
open PySem L2 PySem.SeqAt

def copO : Cop → CmpOp
  | .eq => .Eq
  | .ne => .NotEq
  | .lt => .Lt
  | .le => .LtE
  | .gt => .Gt
  | .ge => .GtE
  | .inn => .In
  | .nin => .NotIn
  | .isN => .Is
  | .notN => .IsNot
def rCmp (K : PySem.W.Frag) (op : Cop) : R2 := fun x y H Q => ∃ N d e k, Dq K H N x d ∧ Dq K H N y e ∧ cmpD op d e = some k ∧ Q (.bl k) H
section
variable {X : Cx} {pins : List (Addr × Obj)} {σ : St} {H : Hp} {s : Shared} {N : Addr → Prop} {x y : V}
theorem eqOk_of {a b : PyData} {k : Bool} (h : eqD a b = some k) : aln a b = true ∧ min a.depth b.depth ≤ deepest ∧ k = PyData.eqv a b := by
  unfold eqD at h
  split at h
  · rename_i q
    unfold eqOk at q
    rw [Bool.and_eq_true, decide_eq_true_eq] at q
    exact ⟨q.1, q.2, (Option.some.inj h).symm⟩
  · cases h
theorem get_data {g : Heap} : ∀ {ds : List PyData} {vs : List Value} {as : List Addr} {j : Nat} {u : Value}, ReadsAll g vs ds as → vs[j]? = some u → ∃ d bs, ds[j]? = some d ∧ Reads g u d bs
  | _, _, _, _, _, .nil, h => by simp at h
  | _, _, _, 0, _, .cons r t, h => by simp at h; subst h; exact ⟨_, _, rfl, r⟩
  | _, _, _, j + 1, u, .cons r t, h => by
    obtain ⟨d, bs, h1, h2⟩ := get_data (j := j) (u := u) t (by simpa using h)
    exact ⟨d, bs, by simpa using h1, h2⟩
theorem get_val {g : Heap} : ∀ {ds : List PyData} {vs : List Value} {as : List Addr} {j : Nat} {d : PyData}, ReadsAll g vs ds as → ds[j]? = some d → ∃ u bs, vs[j]? = some u ∧ Reads g u d bs
  | _, _, _, _, _, .nil, h => by simp at h
  | _, _, _, 0, _, .cons r t, h => by simp at h; subst h; exact ⟨_, _, rfl, r⟩
  | _, _, _, j + 1, u, .cons r t, h => by
    obtain ⟨d, bs, h1, h2⟩ := get_val (j := j) (d := u) t (by simpa using h)
    exact ⟨d, bs, by simpa using h1, h2⟩
open Classical in
/-- whether u reads as one of ds that equals d -/
noncomputable def hits (g : Heap) (ds : List PyData) (d : PyData) (u : Value) : Bool := decide (∃ e as, Reads g u e as ∧ e ∈ ds ∧ PyData.eqv e d = true)
open Classical in
theorem hits_iff {g : Heap} {ds : List PyData} {d : PyData} {u : Value} : hits g ds d u = true ↔ ∃ e as, Reads g u e as ∧ e ∈ ds ∧ PyData.eqv e d = true := by
  unfold hits
  exact decide_eq_true_iff
theorem hits_at {A : Around} {s : Shared} {d : PyData} {ds : List PyData} {v : Value} {vs : List Value} {as bs : List Addr} (hu : A.units + 191 < cLine) (rd : Reads s.heap v d bs) (rs : ReadsAll s.heap vs ds as)
    (ok : (ds.all fun y => eqOk y d) = true) : ∀ u ∈ vs, EqAt A.in1 s u v (hits s.heap ds d u) := by
  have room : ∀ e ∈ ds, aln e d = true ∧ A.in1.units + min e.depth d.depth < cLine := fun e he => by
    have q := List.all_eq_true.mp ok e he
    unfold eqOk at q
    rw [Bool.and_eq_true, decide_eq_true_eq] at q
    refine ⟨q.1, ?_⟩
    have := q.2
    unfold deepest at this
    show A.units + 1 + _ < _
    omega
  intro u hu'
  by_cases h : hits s.heap ds d u = true
  · rw [h]
    obtain ⟨e, as', r, he, hq⟩ := hits_iff.mp h
    rw [← hq]
    exact eq_at e d A.in1 s u v as' bs r rd (room e he).1 (room e he).2
  · have h' : hits s.heap ds d u = false := by simpa using h
    obtain ⟨j, hj⟩ := List.mem_iff_getElem?.mp hu'
    obtain ⟨e, as', h1, r⟩ := get_data rs hj
    have he : e ∈ ds := List.mem_of_getElem? h1
    have hf : PyData.eqv e d = false := by
      cases q : PyData.eqv e d with
      | false => rfl
      | true => exact absurd (hits_iff.mpr ⟨e, as', r, he, q⟩) h
    rw [h', ← hf]
    exact eq_at e d A.in1 s u v as' bs r rd (room e he).1 (room e he).2
theorem hits_any {g : Heap} {d : PyData} {ds : List PyData} {vs : List Value} {as : List Addr} (rs : ReadsAll g vs ds as) : vs.any (hits g ds d) = ds.any fun y => PyData.eqv y d := by
  rw [Bool.eq_iff_iff, List.any_eq_true, List.any_eq_true]
  constructor
  · rintro ⟨u, hu, h⟩
    obtain ⟨e, as', r, he, hq⟩ := hits_iff.mp h
    exact ⟨e, he, hq⟩
  · rintro ⟨e, he, hq⟩
    obtain ⟨j, hj⟩ := List.mem_iff_getElem?.mp he
    obtain ⟨u, as', h1, r⟩ := get_val rs hj
    exact ⟨u, List.mem_of_getElem? h1, hits_iff.mpr ⟨e, as', r, he, hq⟩⟩
theorem inD_of {d : PyData} {ds : List PyData} {k : Bool} (h : inD d ds = some k) : (ds.all fun y => eqOk y d) = true ∧ k = ds.any fun y => PyData.eqv y d := by
  unfold inD at h
  split at h
  · exact ⟨by assumption, (Option.some.inj h).symm⟩
  · cases h
theorem Dq.int {i : Int} (h : Dq X.K H N x (.int i)) : x = .int i := by cases (show Dn X.K H N x (.int i) from h); rfl
theorem Dq.str {i : Str} (h : Dq X.K H N x (.str i)) : x = .str i := by cases (show Dn X.K H N x (.str i) from h); rfl
theorem one_sign {z : Str} (h : z.length = 1) : z = ⟨#[z.cps.toList.headD 0]⟩ := by
  obtain ⟨⟨l⟩⟩ := z
  have h' : l.length = 1 := h
  match l, h' with
  | [c], _ => rfl
theorem in_any {Q : VK} {d : PyData} {ds : List PyData} {k : Bool} {u v : Value} (neg : Bool) (hu : X.A.units + 191 < cLine) (I : Inv X pins σ H s) (tup : Bool) (hd : Dq X.K H N x d) (he : Dq X.K H N y (if tup then .tuple ds else .list ds)) (rx : RelV x v) (ry : RelV y u)
    (h : inD d ds = some k) (q : Q (.bl (if neg then !k else k)) H) : wpAny (model X.prog X.w) X.A (compareOp (if neg then .NotIn else .In) v u) (EP X pins σ Q) X.xe s := by
  obtain ⟨ok, rfl⟩ := inD_of h
  obtain ⟨as, rd⟩ := hd.reads I rx
  obtain ⟨bs, re⟩ := he.reads I ry
  cases tup with
  | true =>
    cases re with
    | @tuple a o vs n _ _ k1 k2 k3 k4 =>
      have L : s.heap.IsTuple a vs := ⟨_, k1, k2, _, k3⟩
      have hs := hits_at hu rd k4 ok
      have ha : vs.any (hits s.heap ds d) = ds.any fun y => PyData.eqv y d := by rw [← hits_any k4, Array.any_toList]
      cases neg with
      | true => exact SeqAt.notIn_tupleAt (hits s.heap ds d) L (fun w hw => hs w (by simpa using hw)) ⟨.bl _, H, I, rfl, by rw [ha]; exact q⟩
      | false => exact SeqAt.in_tupleAt (hits s.heap ds d) L (fun w hw => hs w (by simpa using hw)) ⟨.bl _, H, I, rfl, by rw [ha]; exact q⟩
  | false =>
    cases re with
    | @list a o vs n _ _ k1 k2 k3 k4 =>
      have L : s.heap.IsList a vs := ⟨_, k1, k2, _, k3⟩
      have hs := hits_at hu rd k4 ok
      have ha : vs.any (hits s.heap ds d) = ds.any fun y => PyData.eqv y d := by rw [← hits_any k4, Array.any_toList]
      cases neg with
      | true => exact SeqAt.notIn_listAt (hits s.heap ds d) L (fun w hw => hs w (by simpa using hw)) ⟨.bl _, H, I, rfl, by rw [ha]; exact q⟩
      | false => exact SeqAt.in_listAt (hits s.heap ds d) L (fun w hw => hs w (by simpa using hw)) ⟨.bl _, H, I, rfl, by rw [ha]; exact q⟩
theorem isNon_ne {d : PyData} (h : isNon d = false) : d ≠ .none := fun e => by subst e; cases h
theorem Dq.nonv {d : PyData} (h : Dq X.K H N x d) : decide (x = .non) = isNon d := by
  cases d with
  | none => cases (show Dn X.K H N x .none from h); rfl
  | bool b => cases (show Dn X.K H N x (.bool b) from h); rfl
  | int b => cases (show Dn X.K H N x (.int b) from h); rfl
  | str b => cases (show Dn X.K H N x (.str b) from h); rfl
  | list b => obtain ⟨a, xs, rfl, _⟩ := h; rfl
  | tuple b => cases (show Dn X.K H N x (.tuple b) from h); rfl
  | dict b => obtain ⟨a, xs, rfl, _⟩ := h; rfl
/-- a key, in a dict or not -/
theorem in_dict {Q : VK} {d : PyData} {ps : List (PyData × PyData)} {k : Key} {u v : Value} (neg : Bool) (hu : X.A.units + 191 < cLine) (I : Inv X pins σ H s) (hd : Dq X.K H N x d) (hk : keyD d = some k) (he : Dq X.K H N y (.dict ps)) (rx : RelV x v) (ry : RelV y u)
    (q : Q (.bl (if neg then !(lookD ps k).isSome else (lookD ps k).isSome)) H) : wpAny (model X.prog X.w) X.A (compareOp (if neg then .NotIn else .In) v u) (EP X pins σ Q) X.xe s := by
  obtain ⟨a, kvs, rfl, h1, h2⟩ := he
  cases (show u = Value.ref a from ry)
  have ex : x = kV k := by
    cases keyD_of hk
    cases k with
    | inl i => exact hd.int
    | inr z => exact hd.str
  subst ex
  have e : (valV kvs k).isSome = (lookD ps k).isSome := by
    rcases look_of k h2 with ⟨e1, e2⟩ | ⟨w, d', e1, e2, _⟩ <;> rw [e1, e2] <;> rfl
  cases neg with
  | true => exact d_notIn (by omega) I (.inl ⟨_, _, h1, rfl, rfl⟩) rx fun s' I' => ⟨.bl _, H, I', rfl, by rw [e]; exact q⟩
  | false => exact d_in (by omega) I (.inl ⟨_, _, h1, rfl, rfl⟩) rx fun s' I' => ⟨.bl _, H, I', rfl, by rw [e]; exact q⟩
theorem cmp_ok (op : Cop) (hu : X.A.units + 191 < cLine) : OpR X (compareOp (copO op)) (rCmp X.K op) := by
  intro pins s σ H x y v u Q I rx ry h
  obtain ⟨N, d, e, k, hd, he, hk, q⟩ := h
  cases op with
  | eq =>
    obtain ⟨h1, h2, rfl⟩ := eqOk_of hk
    obtain ⟨as, r1⟩ := hd.reads I rx
    obtain ⟨bs, r2⟩ := he.reads I ry
    exact rc_at r1 r2 h1 (by unfold deepest at h2; omega) _ _ _ _ ⟨.bl _, H, I, rfl, q⟩
  | ne =>
    cases e1 : eqD d e with
    | none => unfold cmpD at hk; rw [e1] at hk; cases hk
    | some c =>
      unfold cmpD at hk
      rw [e1] at hk
      cases hk
      obtain ⟨h1, h2, rfl⟩ := eqOk_of e1
      obtain ⟨as, r1⟩ := hd.reads I rx
      obtain ⟨bs, r2⟩ := he.reads I ry
      exact rcn_at r1 r2 h1 (by unfold deepest at h2; omega) _ _ _ _ ⟨.bl _, H, I, rfl, q⟩
  | lt =>
    have hk' : ltD d e = some k := hk
    unfold ltD at hk'
    split at hk'
    · rename_i i j
      cases hk'
      exact op_lt pins s σ H x y v u Q I rx ry ⟨i, j, hd.int, he.int, q⟩
    · rename_i i j
      cases hk'
      exact op_lt_str pins s σ H x y v u Q I rx ry ⟨i, j, hd.str, he.str, q⟩
    · split at hk'
      · rename_i c
        cases hk'
        obtain ⟨as, r1⟩ := hd.reads I rx
        obtain ⟨bs, r2⟩ := he.reads I ry
        obtain ⟨c1, c2, c3⟩ := c
        exact PySem.W.rcLt_alike d e X.A s v u as bs r1 r2 c1 (isNon_ne c2) (by unfold deepest at c3; omega) _ _ _ _ ⟨.bl _, H, I, rfl, q⟩
      · cases hk'
  | le =>
    have hk' : leD d e = some k := hk
    unfold leD at hk'
    split at hk'
    · rename_i i j
      cases hk'
      exact op_le pins s σ H x y v u Q I rx ry ⟨i, j, hd.int, he.int, q⟩
    · rename_i i j
      cases hk'
      exact op_le_str pins s σ H x y v u Q I rx ry ⟨i, j, hd.str, he.str, q⟩
    · cases hk'
  | gt =>
    unfold cmpD at hk
    simp only at hk
    split at hk
    · rename_i i j
      cases hk
      exact op_gt pins s σ H x y v u Q I rx ry ⟨i, j, hd.int, he.int, q⟩
    · cases hk
  | ge =>
    unfold cmpD at hk
    simp only at hk
    split at hk
    · rename_i i j
      cases hk
      exact op_ge pins s σ H x y v u Q I rx ry ⟨i, j, hd.int, he.int, q⟩
    · cases hk
  | inn =>
    unfold cmpD at hk
    simp only at hk
    split at hk
    · exact in_any false hu I true hd he rx ry hk q
    · exact in_any false hu I false hd he rx ry hk q
    · rename_i a z
      split at hk
      · rename_i hl
        cases hk
        exact op_in_sign pins s σ H x y v u Q I rx ry ⟨_, z, by rw [hd.str]; exact congrArg V.str (one_sign hl), he.str, q⟩
      · cases hk
    · cases e1 : keyD d with
      | none => rw [e1] at hk; cases hk
      | some kk => rw [e1] at hk; cases hk; exact in_dict false hu I hd e1 he rx ry q
    · cases hk
  | nin =>
    unfold cmpD at hk
    simp only at hk
    split at hk
    · rename_i ys
      cases e1 : inD d ys with
      | none => rw [e1] at hk; cases hk
      | some c => rw [e1] at hk; cases hk; exact in_any true hu I true hd he rx ry e1 q
    · rename_i ys
      cases e1 : inD d ys with
      | none => rw [e1] at hk; cases hk
      | some c => rw [e1] at hk; cases hk; exact in_any true hu I false hd he rx ry e1 q
    · rename_i a z
      split at hk
      · rename_i hl
        cases hk
        exact op_notIn_sign pins s σ H x y v u Q I rx ry ⟨_, z, by rw [hd.str]; exact congrArg V.str (one_sign hl), he.str, q⟩
      · cases hk
    · cases e1 : keyD d with
      | none => rw [e1] at hk; cases hk
      | some kk => rw [e1] at hk; cases hk; exact in_dict true hu I hd e1 he rx ry q
    · cases hk
  | isN =>
    unfold cmpD at hk
    simp only at hk
    split at hk
    · cases hk
      cases (show Dn X.K H N y .none from he)
      exact op_isN pins s σ H x _ v u Q I rx ry ⟨rfl, by rw [hd.nonv]; exact q⟩
    · cases hk
  | notN =>
    unfold cmpD at hk
    simp only at hk
    split at hk
    · cases hk
      cases (show Dn X.K H N y .none from he)
      exact op_notN pins s σ H x _ v u Q I rx ry ⟨rfl, by rw [hd.nonv]; exact q⟩
    · cases hk
end
end Pv

/-! PvJ0: sorted of a tuple. -/
set_option linter.all false
set_option maxRecDepth 100000
set_option maxHeartbeats 1000000
namespace PyProof.Rows
open PySem PySem.Calls PySem.W
section
variable {prog : Program} {w : World} {A : Around} {E : Value → Shared → Prop} {s : Shared}
/-- a list or a tuple -/
def SrcAt (h : Heap) (l : Addr) (vs : List Value) : Prop := h.IsList l vs.toArray ∨ IsTup h l vs.toArray
theorem pv_collect {l : Addr} {vs : List Value} {Q : List Value → Shared → Prop} (hl : SrcAt s.heap l vs)
    (h : Q vs { s with heap := (s.heap.push (seqObj "list" #[] 0)).update s.heap.objs.size (Obj.mapSeq (· ++ vs.toArray)) }) (hsz : vs.length ≤ sizeLine) :
    wpAny (model prog w) A (collect (.ref l)) Q E s := by
  rcases hl with hl | hl
  · exact collect_list hl h hsz
  obtain ⟨o, ho, hc, n, hd⟩ := id hl
  unfold collect
  refine wpAny_bind (wpAny_runValue (codeAny_builtin entry_proto_collect' ?_))
  show wpAny _ _ (do again (.builtin "list.__iadd__" ⟨[← newList [], .ref l], []⟩)) _ _ s
  refine wpAny_bind (wpAny_newList (wpAny_pure ⟨Code.quiet_builtin _ (by decide +kernel), codeAny_builtin entry_list_iadd' ?_⟩))
  show wpAny _ _ (Builtin.List.listExtendWith (.ref s.heap.objs.size) (.ref l) (.ref s.heap.objs.size)) _ _ { s with heap := s.heap.push (seqObj "list" #[] 0) }
  unfold Builtin.List.listExtendWith
  have ho' : (s.heap.push (seqObj "list" #[] 0)).get? l = some o := Heap.get?_push_of_some _ ho
  refine wpAny_bind (wpAny_typeOf (T := "tuple") ⟨o, ho', hc⟩ ?_)
  have ht : (Value.type "tuple" == Value.type "tuple") = true := by rfl
  rw [if_pos (by rw [ht]; simp)]
  refine wpAny_bind (listItems_at ho' hd ?_)
  refine wpAny_bind (listItems_at (xs := #[]) (n := 0) (Heap.get?_push_size _ rfl) rfl ?_)
  rw [if_neg (by simp)]
  refine wpAny_bind (listUpdate_at (xs := #[]) (n := 0) (Heap.get?_push_size _ rfl) rfl ?_ (Nat.zero_le _) (by show (#[] ++ vs.toArray).size ≤ sizeLine + 1; simp only [Array.size_append, List.size_toArray, List.length_nil]; omega))
  refine wpAny_pure ?_
  show wpAny (model prog w) A (do
      let o ← load s.heap.objs.size
      match o.data with
      | .seq xs _ => pure xs.toList
      | _ => unsupported "internal:collect") Q E { s with heap := (s.heap.push (seqObj "list" #[] 0)).update s.heap.objs.size (Obj.mapSeq (· ++ vs.toArray)) }
  refine wpAny_bind (wpAny_load (get?_update_seq (Heap.get?_push_size _ rfl) _) ?_)
  show wpAny _ _ (pure ((#[] : Array Value) ++ vs.toArray).toList) Q E _
  rw [show ((#[] : Array Value) ++ vs.toArray).toList = vs by simp]
  exact wpAny_pure h
theorem pv_sorted {κ : KeyKind} {l : Addr} {vs : List Value} {Q : Value → Shared → Prop} (hl : SrcAt s.heap l vs) (S : SortsAt prog w A.in1.in1 { s with heap := sortingHeap (copyHeap s.heap vs) (s.heap.objs.size + 1) vs } κ vs) (hL : vs.length ≤ sizeLine)
    (h : Q (.ref (s.heap.objs.size + 1)) { s with heap := sortedAll s.heap vs (sortVals κ false vs vs).toArray }) : wpAny (model prog w) A (call (.builtin "sorted") [.ref l]) Q E s := by
  refine call_function_entry_kw (kw := []) kind_sorted plain_sorted entry_sorted (args_sorted1 _) ?_
  unfold Builtin.«sorted»
  refine wpAny_bind (m := checkCount "sorted" 1 1 _) (wpAny_pure ?_)
  refine wpAny_bind (pv_collect hl ?_ hL)
  refine wpAny_bind (wpAny_newList ?_ hL)
  have hsz : ((s.heap.push (seqObj "list" #[] 0)).update s.heap.objs.size (Obj.mapSeq (· ++ vs.toArray))).objs.size = s.heap.objs.size + 1 := by
    rw [Heap.size_update, size_push']
  show wpAny _ _ _ _ _ { s with heap := copyHeap s.heap vs }
  rw [hsz]
  refine wpAny_bind (wpAny_holding (wpAny_call_entry_kw slot_list_sort ⟨_, copyHeap_at s.heap vs, rfl⟩ entry_list_sort ?body (args_list_sort _)))
  case body =>
    show wpAny (model prog w) A.in1.in1 (Builtin.«list.sort» ⟨[.ref (s.heap.objs.size + 1)], []⟩) _ _ _
    refine wpAny_mono (list_sort_vals (P := fun f s' => f = .done (.ret .none) ∧ Q (.ref (s.heap.objs.size + 1)) s') (s := { s with heap := copyHeap s.heap vs }) (copyHeap_at s.heap vs) S hL ⟨rfl, h⟩) (fun f s' hf => ?_) fun _ _ e => e
    obtain ⟨rfl, hq⟩ := hf
    exact ⟨_, rfl, wpAny_pure ⟨_, rfl, hq⟩⟩
end
end PyProof.Rows

/-! PvJ1: sorted of tuples some of which are empty. -/
set_option linter.all false
set_option maxRecDepth 100000
set_option maxHeartbeats 1000000
namespace Pv
open PySem L2 PySem.SeqAt PyProof.Rows

section
variable {prog : Program} {w : World} {A : Around} {s : Shared} {E : Value → Shared → Prop}
theorem tup_lt_call {Q : Value → Shared → Prop} {p q : Addr} {us vs : Array Value} {ee rr : Nat → Bool} (tp : s.heap.IsTuple p us) (tq : s.heap.IsTuple q vs)
    (ce : ∀ j (j1 : j < us.size) (j2 : j < vs.size), EqAt A.in1 s us[j] vs[j] (ee j)) (cl : ∀ j (j1 : j < us.size) (j2 : j < vs.size), ee j = false → RcLt A.in1 s us[j] vs[j] (rr j))
    (fin : Q (.bool (firstLt ee rr (decide (us.size < vs.size)) (List.range (min us.size vs.size)))) s) : wpAny (model prog w) A (call (.builtin "tuple.__lt__") [.ref p, .ref q]) Q E s := by
  obtain ⟨⟨c1, d1, t1, z1⟩, g1, e1, n1, f1⟩ := id tp
  obtain ⟨⟨c2, d2, t2, z2⟩, g2, e2, n2, f2⟩ := id tq
  dsimp only at e1 f1 e2 f2
  cases e1
  cases f1
  cases e2
  cases f2
  exact call_meets PySem.F.slot_tuple_lt ⟨_, g1, rfl⟩ PySem.F.entry_tuple_lt (PySem.F.args_tuple_lt_2 _ _) (tuple_ltAt p q us vs n1 n2 d1 d2 z1 z2 ee rr) ⟨g1, g2, ce, cl, fin⟩
theorem one_tup {xs ys : List PyData} {u v : Value} {as bs : List Addr} {Q : Bool → Shared → Prop} (ru : Reads s.heap u (.tuple xs) as) (rv : Reads s.heap v (.tuple ys) bs) (al : PySem.W.alike (.tuple xs) (.tuple ys) = true)
    (room : A.units + min (PyData.depth (.tuple xs)) (PyData.depth (.tuple ys)) < cLine) (fin : Q (PySem.W.dataLt (.tuple xs) (.tuple ys)) s) : wpAny (model prog w) A (oneLt' true u v) Q E s := by
  have al2 : PySem.W.alikeAll xs ys = true := by simpa [PySem.W.alike] using al
  cases ru with
  | @tuple a1 o1 i1 m1 _ l1 g1 g2 g3 g4 =>
    cases rv with
    | @tuple a2 o2 i2 m2 _ l2 k1 k2 k3 k4 =>
      have z1 : i1.size = xs.length := by simpa using ReadsAll.length _ _ _ g4
      have z2 : i2.size = ys.length := by simpa using ReadsAll.length _ _ _ k4
      rw [PySem.W.dataLt_tuple, ← PySem.W.firstLt_toks xs ys al2, ← z1, ← z2] at fin
      rw [oneLt'_eq, if_pos rfl]
      refine wpAny_bind (wpAny_cRoomFor (room_here room) (wpAny_bind (wpAny_callSpecialIfBound?_slot (T := "tuple") ⟨_, g1, g2⟩ PySem.F.slot_tuple_lt (tup_lt_call (ee := pairEq xs ys) (rr := fun j => PySem.W.dataLt (xs.getD j .none) (ys.getD j .none)) ⟨_, g1, g2, _, g3⟩ ⟨_, k1, k2, _, k3⟩ (fun j j1 j2 => ?_) (fun j j1 j2 jn => ?_) (wpAny_truthy_bool fin)))))
      · have q := PySem.W.eqAt_alikeAll xs ys A.in1 s i1.toList i2.toList _ _ g4 k4 al2 (room_in room) j (by simpa using j1) (by simpa using j2)
        simpa using q
      · have q := PySem.W.rcLt_alikeAll xs ys A.in1 s i1.toList i2.toList _ _ g4 k4 al2 (room_in room) j (by simpa using j1) (by simpa using j2) jn
        simpa using q
/-- is it a tuple with an item -/
def neT : PyData → Bool
  | .tuple (_ :: _) => true
  | _ => false
theorem firsts_at {M : Model} : ∀ {vs : List Value} {ds : List PyData}, PySem.W.EachIs (fun v d => ∃ as, Reads s.heap v d as) vs ds → (∀ d ∈ ds, ∃ xs, d = .tuple xs) →
    ∃ fs : List (Option Value), fs.map (·.isSome) = ds.map neT ∧ ∀ {Q : List (Option Value) → Shared → Prop}, Q fs s → wpAny M A (vs.mapM firstOfTuple') Q E s
  | _, _, .nil, _ => ⟨[], rfl, fun h => by rw [List.mapM_nil]; exact wpAny_pure h⟩
  | _, _, .cons (b := d) ⟨as, r⟩ t, ht => by
    obtain ⟨fs, h1, h2⟩ := firsts_at (M := M) t fun d hd => ht d (List.mem_cons_of_mem _ hd)
    obtain ⟨xs, rfl⟩ := ht _ List.mem_cons_self
    cases r with
    | @tuple a o is n _ _ ho hc hd hr =>
      refine ⟨is[0]? :: fs, ?_, fun {Q} h => ?_⟩
      · rw [List.map_cons, List.map_cons, h1]
        congr 1
        have z : is.size = xs.length := by simpa using ReadsAll.length _ _ _ hr
        cases xs with
        | nil =>
          have e : is[0]? = none := by simp at z; simp [z]
          rw [e]; rfl
        | cons x r =>
          have e : 0 < is.size := by rw [z]; simp
          simp [e, neT]
      · rw [List.mapM_cons]
        refine wpAny_bind ?_
        rw [PySem.W.kas_first_eq]
        refine wpAny_bind (PySem.W.Looks.here (show PySem.W.Looks M s.heap (typeOf (.ref a)) o.cls from (PySem.W.Looks.ld ho).andThen .now) ?_)
        rw [hc, if_neg (by simp)]
        refine wpAny_bind (PyProof.Rows.listItems_at ho hd (wpAny_pure ?_))
        exact wpAny_bind (h2 (Q := fun bs s' => wpAny M A (pure (is[0]? :: bs)) Q E s') (wpAny_pure h))
theorem sorts_mixed {vs : List Value} {ds : List PyData} (e : PySem.W.EachIs (fun v d => ∃ as, Reads s.heap v d as) vs ds) (hal : PySem.W.AllAlike ds) (ht : ∀ d ∈ ds, ∃ xs, d = .tuple xs) (he : PyData.tuple [] ∈ ds) (hu : ∀ d, d ∈ ds → A.units + d.depth < cLine) :
    PySem.W.SortsAt prog w A s (PySem.W.dataKind s.heap ds) vs := by
  have room : ∀ {d d' : PyData}, d ∈ ds → A.units + min d.depth d'.depth < cLine := fun {d d'} hd => Nat.lt_of_le_of_lt (Nat.add_le_add_left (Nat.min_le_left _ _) _) (hu d hd)
  have nn : ∀ d ∈ ds, d ≠ .none := fun d hd z => by
    obtain ⟨xs, q⟩ := ht d hd
    rw [q] at z; cases z
  have some_ : ∀ fs : List (Option Value), fs.map (·.isSome) = ds.map neT → (fs.toArray.all fun x => x.isSome) = false := fun fs h => by
    have q : (fs.map (·.isSome)).all id = false := by
      rw [h, List.all_map]
      exact List.all_eq_false.mpr ⟨_, he, by simp [neT]⟩
    rw [List.all_map] at q
    simpa using q
  refine ⟨fun v hv => ?_, ?_⟩
  · obtain ⟨d, hd, as, r⟩ := e.left v hv
    exact ⟨_, PySem.W.dataKind_some hal hd r⟩
  · cases hds : ds with
    | nil => rw [hds] at he; cases he
    | cons d0 dr =>
      rw [← hds]
      cases h0 : neT d0 with
      | true =>
        refine ⟨general', ?_, fun h2 E Q hq => ?_⟩
        · intro E x y a b Q ha hb hq
          obtain ⟨d, as, hd, ra, rfl⟩ := PySem.W.dataKind_inv ha
          obtain ⟨d', bs, hd', rb, rfl⟩ := PySem.W.dataKind_inv hb
          exact PySem.W.oneLt_alike (f := false) (fun z => by cases z) ra rb (hal d hd d' hd') (nn d hd) (room hd) hq
        · obtain ⟨fs, f1, f2⟩ := firsts_at (A := A) (E := E) (M := model prog w) e ht
          rw [kat_kind_eq, List.mapM_toArray, map_eq_pure_bind]
          refine wpAny_bind (wpAny_bind (f2 (wpAny_pure ?_)))
          rw [if_neg (by rw [some_ fs f1]; simp)]
          have hh : (fs.toArray[0]?.bind id).isSome = true := by
            rw [hds, List.map_cons, h0] at f1
            cases fs with
            | nil => cases f1
            | cons g gs =>
              rw [List.map_cons] at f1
              have := (List.cons.inj f1).1
              cases g with
              | none => cases this
              | some g => simp
          rw [if_pos hh]
          exact wpAny_pure hq
      | false =>
        refine ⟨oneType', ?_, fun h2 E Q hq => ?_⟩
        · intro E x y a b Q ha hb hq
          obtain ⟨d, as, hd, ra, rfl⟩ := PySem.W.dataKind_inv ha
          obtain ⟨d', bs, hd', rb, rfl⟩ := PySem.W.dataKind_inv hb
          obtain ⟨xs, rfl⟩ := ht d hd
          obtain ⟨ys, rfl⟩ := ht d' hd'
          rw [keyLt'_oneType]
          exact one_tup ra rb (hal _ hd _ hd') (room hd) hq
        · obtain ⟨fs, f1, f2⟩ := firsts_at (A := A) (E := E) (M := model prog w) e ht
          rw [kat_kind_eq, List.mapM_toArray, map_eq_pure_bind]
          refine wpAny_bind (wpAny_bind (f2 (wpAny_pure ?_)))
          rw [if_neg (by rw [some_ fs f1]; simp)]
          have hh : (fs.toArray[0]?.bind id).isSome = false := by
            rw [hds, List.map_cons, h0] at f1
            cases fs with
            | nil => cases f1
            | cons g gs =>
              rw [List.map_cons] at f1
              have := (List.cons.inj f1).1
              cases g with
              | none => simp
              | some g => cases this
          rw [if_neg (by rw [hh]; simp), oneTypeOnly'_eq, List.mapM_toArray, map_eq_pure_bind]
          have hT : ∀ v ∈ vs, PySem.W.Looks (model prog w) s.heap (typeOf v) (Value.type "tuple") := fun v hv => by
            obtain ⟨d, hd, as, r⟩ := e.left v hv
            obtain ⟨xs, rfl⟩ := ht d hd
            exact PySem.W.looks_reads r
          refine wpAny_bind (wpAny_bind (wpAny_bind (PySem.W.kas_mapM (r := Value.type "tuple") _ (fun v hv Q' hq => (hT v hv).here hq) (wpAny_pure ?_))))
          cases vs with
          | nil => simp at h2
          | cons v vr =>
            have h3 : ((List.map (fun _ => Value.type "tuple") (v :: vr)).toArray.all fun x => x == Value.type "tuple") = true := by
              simp only [List.all_toArray, List.all_map, List.all_eq_true]
              intro _ _
              exact beq_self_eq_true _
            have h4 : (List.map (fun _ => Value.type "tuple") (v :: vr)).toArray[0]? = some (Value.type "tuple") := by simp
            rw [h4]
            simp only [h3, if_true]
            exact wpAny_pure (wpAny_pure hq)
end
end Pv

/-! PvJ: built-ins called with values. -/
set_option linter.all false
set_option maxRecDepth 100000
set_option maxHeartbeats 1000000
namespace Pv
open PySem L2 PySem.SeqAt

/-- the built-in that is called -/
def prV : Pr → Value
  | .len => .builtin "len"
  | .tuple => .type "tuple"
  | .list => .type "list"
  | .sorted => .builtin "sorted"
  | .all => .builtin "all"
  | .any => .builtin "any"
  | .sum => .builtin "sum"
  | .abs => .builtin "abs"
  | .min2 => .builtin "min"
  | .max2 => .builtin "max"
  | .int => .type "int"
  | .str => .type "str"
  | .dict => .type "dict"
  | .repr => .builtin "repr"
  | .isi _ => .builtin "isinstance"
def DqL (K : PySem.W.Frag) (H : Hp) (N : Addr → Prop) : List V → List PyData → Prop
  | [], [] => True
  | x :: xs, d :: ds => Dq K H N x d ∧ DqL K H N xs ds
  | _, _ => False
def rPr (K : PySem.W.Frag) (p : Pr) : List V → Hp → VK → Prop := fun xs H Q => ∃ N ds r, DqL K H N xs ds ∧ primD p ds = some r ∧ ∀ z H', New K H N H' z r → Q z H'
section
variable {X : Cx} {pins : List (Addr × Obj)} {σ : St} {H : Hp} {s : Shared} {N : Addr → Prop} {x y : V}
theorem DqL.one {xs : List V} {d : PyData} (h : DqL X.K H N xs [d]) : ∃ x, xs = [x] ∧ Dq X.K H N x d := by
  match xs, h with
  | [x], h => exact ⟨x, rfl, h.1⟩
theorem DqL.two {xs : List V} {d e : PyData} (h : DqL X.K H N xs [d, e]) : ∃ x y, xs = [x, y] ∧ Dq X.K H N x d ∧ Dq X.K H N y e := by
  match xs, h with
  | [x, y], h => exact ⟨x, y, rfl, h.1, h.2.1⟩
theorem bools_of : ∀ {ds : List PyData} {bs : List Bool}, bools ds = some bs → ds = bs.map PyData.bool
  | [], _, h => by cases h; rfl
  | .bool b :: r, bs, h => by
    unfold bools at h
    cases e : bools r with
    | none => rw [e] at h; cases h
    | some cs => rw [e] at h; cases h; rw [bools_of e]; rfl
  | .none :: _, _, h => by cases h
  | .int _ :: _, _, h => by cases h
  | .str _ :: _, _, h => by cases h
  | .list _ :: _, _, h => by cases h
  | .tuple _ :: _, _, h => by cases h
  | .dict _ :: _, _, h => by cases h
theorem intsD_of : ∀ {ds : List PyData} {bs : List Int}, intsD ds = some bs → ds = bs.map PyData.int
  | [], _, h => by cases h; rfl
  | .int b :: r, bs, h => by
    unfold intsD at h
    cases e : intsD r with
    | none => rw [e] at h; cases h
    | some cs => rw [e] at h; cases h; rw [intsD_of e]; rfl
  | .none :: _, _, h => by cases h
  | .bool _ :: _, _, h => by cases h
  | .str _ :: _, _, h => by cases h
  | .list _ :: _, _, h => by cases h
  | .tuple _ :: _, _, h => by cases h
  | .dict _ :: _, _, h => by cases h
theorem DnAll.ofBools {K : PySem.W.Frag} : ∀ {ns : List Bool} {vs : List V}, DnAll K H N vs (ns.map PyData.bool) → vs = ns.map V.bl
  | [], _, .nil => rfl
  | n :: r, _, .cons (.bl _) t => by rw [DnAll.ofBools t]; rfl
/-! ### sorted -/
theorem each_zip (I : Inv X pins σ H s) : ∀ {ds : List PyData} {vs : List V} {us : List Value}, DnAll X.K H N vs ds → Vals vs us →
    PySem.W.EachIs (fun (u : Value) (b : V × PyData) => RelV b.1 u ∧ Dn X.K H N b.1 b.2) us (vs.zip ds) ∧ PySem.W.EachIs (fun (u : Value) (b : V × PyData) => ∃ as, Reads s.heap u b.2 as) us (vs.zip ds) ∧ (vs.zip ds).map Prod.snd = ds
  | _, _, _, .nil, .nil => ⟨.nil, .nil, rfl⟩
  | _, _, _, .cons h1 h2, .cons r1 r2 => by
    obtain ⟨a, b, c⟩ := each_zip I h2 r2
    obtain ⟨as, q, _⟩ := Dn.reads I _ _ _ h1 r1
    exact ⟨.cons ⟨r1, h1⟩ a, .cons ⟨as, q⟩ b, by rw [List.zip_cons_cons, List.map_cons, c]⟩
theorem each_back {K : PySem.W.Frag} : ∀ {us : List Value} {bs : List (V × PyData)}, PySem.W.EachIs (fun (u : Value) (b : V × PyData) => RelV b.1 u ∧ Dn K H N b.1 b.2) us bs → Vals (bs.map Prod.fst) us ∧ DnAll K H N (bs.map Prod.fst) (bs.map Prod.snd)
  | _, _, .nil => ⟨.nil, .nil⟩
  | _, _, .cons h t => by
    obtain ⟨a, b⟩ := each_back t
    exact ⟨.cons h.1 a, .cons h.2 b⟩
theorem pv_data {prog : Program} {w : World} {A : Around} {E : Value → Shared → Prop} {s : Shared} {β : Type} {vs : List Value} {bs : List β} {enc : β → PyData} {R : Value → β → Prop} {l : Addr} {Q : Value → Shared → Prop} (hl : PyProof.Rows.SrcAt s.heap l vs) (e : PySem.W.EachIs R vs bs) (er : PySem.W.EachIs (fun v b => ∃ as, Reads s.heap v (enc b) as) vs bs) (hal : PySem.W.AllAlike (bs.map enc)) (hk : PySem.W.Sortable (bs.map enc) ∨ ((∀ d ∈ bs.map enc, ∃ xs, d = .tuple xs) ∧ PyData.tuple [] ∈ bs.map enc)) (hL : bs.length ≤ sizeLine)
    (hu : ∀ b, b ∈ bs → A.units + 2 + (enc b).depth < cLine) (h : ∀ out, out.length = bs.length → PySem.W.EachIs R out (bs.mergeSort (PySem.W.dataLe false enc)) → Q (.ref (s.heap.objs.size + 1)) { s with heap := PyProof.Rows.sortedAll s.heap vs (List.toArray out) }) :
    wpAny (model prog w) A (call (.builtin "sorted") [.ref l]) Q E s := by
  have er' : PySem.W.EachIs (fun v b => ∃ as, Reads (PySem.W.sortingHeap (PySem.W.copyHeap s.heap vs) (s.heap.objs.size + 1) vs) v (enc b) as) vs bs := er.mono fun _ _ ⟨as, r⟩ => ⟨as, PyProof.Rows.Reads.keeps (fun _ _ => PySem.W.sorting_copy_old) r⟩
  have em := PySem.W.each_map (R := fun v d => ∃ as, Reads (PySem.W.sortingHeap (PySem.W.copyHeap s.heap vs) (s.heap.objs.size + 1) vs) v d as) enc er'
  have S : PySem.W.SortsAt prog w A.in1.in1 { s with heap := PySem.W.sortingHeap (PySem.W.copyHeap s.heap vs) (s.heap.objs.size + 1) vs } (PySem.W.dataKind (PySem.W.sortingHeap (PySem.W.copyHeap s.heap vs) (s.heap.objs.size + 1) vs) (bs.map enc)) vs := by
    rcases hk with hk | ⟨h1, hn⟩
    · exact PySem.W.SortsAt.data (s := { s with heap := PySem.W.sortingHeap (PySem.W.copyHeap s.heap vs) (s.heap.objs.size + 1) vs }) em hal hk (PySem.W.bound_map hu)
    · exact sorts_mixed (s := { s with heap := PySem.W.sortingHeap (PySem.W.copyHeap s.heap vs) (s.heap.objs.size + 1) vs }) em hal h1 hn (PySem.W.bound_map hu)
  exact PyProof.Rows.pv_sorted hl S (by rw [e.length]; exact hL) (h _ (by rw [PySem.W.sortVals_length false rfl]; exact e.length) (PySem.W.sortVals_data false e er' hal))
theorem sorted_ok {Q : VK} {ds : List PyData} {a : Addr} {xs : List V} (hu : X.A.units + 200 < cLine) (I : Inv X pins σ H s) (hl : SqL X.K H a xs ∨ SqT X.K H a xs) (hd : DnAll X.K H N xs ds) (ok : sortOk ds = true)
    (q : ∀ z H', New X.K H N H' z (.ow (.lst (sortD ds))) → Q z H') : wpAny (model X.prog X.w) X.A (call (.builtin "sorted") [.ref a]) (EP X pins σ Q) X.xe s := by
  unfold sortOk at ok
  simp only [Bool.and_eq_true, List.all_eq_true, decide_eq_true_eq, Bool.or_eq_true] at ok
  obtain ⟨⟨⟨al, dp⟩, ln⟩, so⟩ := ok
  obtain ⟨its, rv, pl, hz⟩ : ∃ its, Vals xs its ∧ PyProof.Rows.SrcAt s.heap a its ∧ xs.length ≤ sizeLine := by
    rcases hl with hl | hl
    · obtain ⟨its, rv, pl, hz⟩ := I.list hl
      exact ⟨its, rv, .inl pl.isList, hz⟩
    · obtain ⟨its, rv, pl, hz⟩ := I.tuple hl
      exact ⟨its, rv, .inr pl, hz⟩
  obtain ⟨e1, e2, e3⟩ := each_zip I hd rv
  have hlen : (xs.zip ds).length = ds.length := by
    rw [List.length_zip, hd.length]
    omega
  have hal : PySem.W.AllAlike ((xs.zip ds).map Prod.snd) := by rw [e3]; exact fun d h d' h' => al d h d' h'
  have hL : (xs.zip ds).length ≤ sizeLine := by rw [hlen, ← most_eq]; exact ln
  have pick : ∀ {R0 : Value → V × PyData → Prop} {Q0 : Value → Shared → Prop} {E0 : Value → Shared → Prop}, PySem.W.EachIs R0 its (xs.zip ds) → (∀ b, b ∈ xs.zip ds → X.A.units + 2 + b.2.depth < cLine) →
      (∀ out, out.length = (xs.zip ds).length → PySem.W.EachIs R0 out ((xs.zip ds).mergeSort (PySem.W.dataLe false Prod.snd)) → Q0 (.ref (s.heap.objs.size + 1)) { s with heap := PyProof.Rows.sortedAll s.heap its (List.toArray out) }) →
      wpAny (model X.prog X.w) X.A (call (.builtin "sorted") [.ref a]) Q0 E0 s := fun e0 hu0 h0 => by
    rcases so with so | so
    · have tup : ∀ d ∈ (xs.zip ds).map Prod.snd, ∃ ys, d = .tuple ys := fun d h => by
        rw [e3] at h
        have := so d h
        match d, this with
        | .tuple ys, _ => exact ⟨ys, rfl⟩
      by_cases hemp : PyData.tuple [] ∈ (xs.zip ds).map Prod.snd
      · exact pv_data (enc := Prod.snd) pl e0 e2 hal (.inr ⟨tup, hemp⟩) hL hu0 h0
      · refine pv_data (enc := Prod.snd) pl e0 e2 hal (.inl (.inl fun d h => ?_)) hL hu0 h0
        obtain ⟨ys, rfl⟩ := tup d h
        cases ys with
        | nil => exact absurd h hemp
        | cons x r => exact ⟨x, r, rfl⟩
    · refine pv_data (enc := Prod.snd) pl e0 e2 hal (.inl (.inr fun d h => ?_)) hL hu0 h0
      rw [e3] at h
      have := so d h
      constructor
      · rintro rfl
        cases this
      · rintro ys rfl
        cases this
  refine pick e1 (fun b hb => ?_) fun out ho hs => ?_
  · have h1 : b.2 ∈ ds := by rw [← e3]; exact List.mem_map.mpr ⟨b, hb, rfl⟩
    have h2 := dp _ h1
    unfold deepest at h2
    omega
  · obtain ⟨b1, b2⟩ := each_back hs
    obtain ⟨ep, he'⟩ := PyProof.Rows.sortedAll_at s.heap its (List.toArray out)
    have es : ((xs.zip ds).mergeSort (PySem.W.dataLe false Prod.snd)).map Prod.snd = sortD ds := by
      have g : ∀ es, (xs.zip ds).map Prod.snd = es → ((xs.zip ds).mergeSort (PySem.W.dataLe false Prod.snd)).map Prod.snd = es.mergeSort (fun a b => !PySem.W.dataLt b a) := fun es he => by
        rw [← he, PySem.W.dataLe_eq]
        exact PySem.W.sort_maps (α := V × PyData) (r := fun a b => cond false (!PySem.W.dataLt a.2 b.2) (!PySem.W.dataLt b.2 a.2)) (s := fun a b => !PySem.W.dataLt b a) Prod.snd fun a _ b _ => rfl
      exact g _ e3
    rw [es] at b2
    have hn : H (s.heap.objs.size + 1) = none := I.hok.fresh (Nat.le_succ _)
    have hle : (((xs.zip ds).mergeSort (PySem.W.dataLe false Prod.snd)).map Prod.fst).length ≤ sizeLine := by
      rw [List.length_map, List.length_mergeSort, hlen, ← most_eq]
      exact ln
    refine ⟨.ref _, _, I.laid (t' := s.toks) (o := .lst (((xs.zip ds).mergeSort (PySem.W.dataLe false Prod.snd)).map Prod.fst)) (fun _ _ => PyProof.Rows.sortedAll_old) (Nat.le_succ _) ⟨hle, out, ep, b1, he'⟩, rfl, q _ _ (New.lst hn b2)⟩
/-! ### repr -/
/-- the interpreter's table of modules is an object of the top's -/
def SysOk (X : Cx) : Prop := ∃ o, X.base.get? sysModules = some o ∧ o.cls = .type "dict"
theorem sysIn (I : Inv X pins σ H s) (h0 : SysOk X) {a : Addr} (ha : H a ≠ none) : a ≠ sysModules := fun e => by
  subst e
  obtain ⟨o, q, _⟩ := h0
  exact ha (I.bs _ _ q).2
theorem Dq.reads' (I : Inv X pins σ H s) (h0 : SysOk X) {d : PyData} {v : V} {u : Value} (h : Dq X.K H N v d) (r : RelV v u) : ∃ as, Reads s.heap u d as ∧ sysModules ∉ as := by
  have go : ∀ {as : List Addr}, (∀ a ∈ as, H a ≠ none) → sysModules ∉ as := fun ha hm => sysIn I h0 (ha _ hm) rfl
  cases d with
  | list ds =>
    obtain ⟨a, xs, rfl, h1, h2⟩ := h
    cases (show u = Value.ref a from r)
    obtain ⟨its, rv, ⟨o, n, ho, hc, _, hd⟩, _⟩ := I.list h1
    obtain ⟨as, hr, ha⟩ := DnAll.reads I ds _ its h2 rv
    refine ⟨_, .list ho hc hd hr, fun hm => ?_⟩
    rcases List.mem_cons.mp hm with e | hm
    · subst e
      obtain ⟨o', q, c⟩ := h0
      rw [(I.bs _ _ q).1] at ho
      cases ho
      rw [c] at hc
      exact absurd hc (by simp)
    · exact go ha hm
  | dict ps =>
    obtain ⟨a, kvs, rfl, h1, h2⟩ := h
    obtain ⟨as, q, ha⟩ := Dn.reads (N := fun _ => False) I (.dict ps) (.ref a) u (.dic (fun z => z) h1 (DnKv.mono (fun _ _ e _ => e) (fun _ z => z.elim) _ _ h2)) r
    exact ⟨as, q, go ha⟩
  | none => exact let ⟨as, q, ha⟩ := Dn.reads I _ _ _ h r; ⟨as, q, go ha⟩
  | bool b => exact let ⟨as, q, ha⟩ := Dn.reads I _ _ _ h r; ⟨as, q, go ha⟩
  | int b => exact let ⟨as, q, ha⟩ := Dn.reads I _ _ _ h r; ⟨as, q, go ha⟩
  | str b => exact let ⟨as, q, ha⟩ := Dn.reads I _ _ _ h r; ⟨as, q, go ha⟩
  | tuple b => exact let ⟨as, q, ha⟩ := Dn.reads I _ _ _ h r; ⟨as, q, go ha⟩
theorem repr_ok {Q : VK} {d : PyData} {v : Value} (hu : X.A.units + 200 < cLine) (hg : X.A.guards = some []) (hb : SysOk X) (I : Inv X pins σ H s) (hd : Dq X.K H N x d) (rx : RelV x v) (h1 : d.showable = true) (h2 : d.shown.length ≤ most) (h3 : d.depth ≤ deepest)
    (q : Q (.str d.shown) H) : wpAny (model X.prog X.w) X.A (call (.builtin "repr") [v]) (EP X pins σ Q) X.xe s := by
  have h2' : d.shown.length ≤ sizeLine := by rw [← most_eq]; exact h2
  unfold deepest at h3
  obtain ⟨as, r, ha⟩ := hd.reads' I hb rx
  have go : ∀ a, v = .ref a → wpAny (model X.prog X.w) X.A (call (.builtin "repr") [v]) (EP X pins σ Q) X.xe s := fun a e => by
    subst e
    exact PySem.repr_of_reads' r h1 (fun _ => ha) hg (by omega) (fun _ _ e => e) (fun h' u tk k => ⟨.str d.shown, H, I.kept k, ⟨_, rfl⟩, q⟩) h2'
  cases d with
  | none => cases r; exact PySem.P.repr_of_none ⟨.str _, H, I.tok _, ⟨_, rfl⟩, q⟩
  | bool b => cases r; exact PySem.P.repr_of_bool ⟨.str _, H, I.tok _, ⟨_, rfl⟩, q⟩
  | int i =>
    cases r
    refine PySem.P.repr_of_int ?_ ⟨.str _, H, I.tok _, ⟨_, rfl⟩, q⟩
    simpa [PyData.showable] using h1
  | str z => cases r; exact PySem.P.repr_of_str ⟨.str _, H, I.tok _, ⟨_, rfl⟩, q⟩ h2'
  | list ds => cases r; exact go _ rfl
  | tuple ds => cases r; exact go _ rfl
  | dict ds => cases r; exact go _ rfl
/-! ### the built-ins -/
def isIsi : Pr → Bool
  | .isi _ => true
  | _ => false
/-- tuple(xs) of a list -/
theorem call_tupleD : CallR X (.type "tuple") (fun xs H Q => ∃ p ys, xs = [.ref p] ∧ SqL X.K H p ys ∧ ∀ l o, H l = none → o.dict = none → Q (.ref l) (upd H l (.frz o (.tup ys)))) := by
  intro pins s σ H xs us Q I r h
  obtain ⟨p, ys, rfl, hq, q⟩ := h
  obtain ⟨u, rfl, rx⟩ := vals1 r
  cases rx
  obtain ⟨its, r', pl, hz⟩ := I.list hq
  have hlen := r'.length
  refine call_tuple_list pl.isList (fun h' kp => ?_) (by simp only [List.size_toArray] <;> omega)
  have I1 : L2.Inv X pins σ H { s with heap := h' } := I.kept (t' := s.toks) kp
  have I2 : L2.Inv X pins σ (upd H h'.objs.size (.frz { cls := .type "tuple", data := .seq its.toArray } (.tup ys))) { s with heap := h'.push { cls := .type "tuple", data := .seq its.toArray } } :=
    I1.laid (t' := s.toks) (fun b o e => Heap.get?_push_of_some _ e) (Nat.le_refl _) ⟨Heap.get?_push_size _ rfl, hz, its, r', PyProof.Rows.IsTup.new _ _⟩
  exact ⟨.ref h'.objs.size, _, I2, rfl, q _ _ (I1.hok.fresh (Nat.le_refl _)) rfl⟩
/-- dict(t) of a tuple of pairs -/
theorem call_dictT (hcalm : X.calm = true) : CallR X (.type "dict") (fun xs H Q => ∃ (a : Addr) (ps : List Addr) (kvs : List (Key × V)), xs = [.ref a] ∧ SqD X.K H a (ps.map V.ref) ∧ Paired (fun p kv => SqT X.K H p [kV kv.1, kv.2]) ps kvs ∧
    ∀ p, H p = none → Q (.ref p) (upd H p (.dK (mergeK [] kvs)))) := by
  intro pins s σ H xs us Q I r q
  obtain ⟨a, ps, kvs, ex, hq, hp, q⟩ := q
  subst ex
  obtain ⟨u, eu, rx⟩ := vals1 r
  subst eu
  cases rx
  obtain ⟨its, rv, ⟨o, ho, hc, n, hdat⟩, hz⟩ := I.tuple hq.sq
  have ei := refs_at rv
  subst ei
  rw [List.length_map] at hz
  obtain ⟨prs, rel, hl, hpr⟩ := pairs_of I hp
  have hd : o.dict = none := by
    rcases hq.nd with ⟨o', u, e, d⟩ | ⟨o', e, d⟩
    · obtain ⟨e2, _⟩ := I.hok a _ e
      rw [ho] at e2
      cases e2
      exact d
    · have e2 := I.kIn a o' e
      rw [ho] at e2
      cases e2
      exact d
  have key : ∀ (j : Nat) (q : Key × Value), prs[j]? = some q → ∃ (b : Addr) (u : Value), ps[j]? = some b ∧ PyProof.Rows.IsTup s.heap b #[u, q.2] ∧ (mixKind X.prog X.w).is q.1 u = true := hpr
  -- the keys, as they stand
  have us : ∃ ws : List (Value × Value), ws.length = prs.length ∧ ∀ (j : Nat) (w : Value × Value), ws[j]? = some w → ∃ (b : Addr) (k : Key), ps[j]? = some b ∧ PyProof.Rows.IsTup s.heap b #[w.1, w.2] ∧ prs[j]? = some (k, w.2) ∧ (mixKind X.prog X.w).is k w.1 = true := by
    have pick : ∀ j : Fin prs.length, ∃ u : Value, ∃ b : Addr, ps[j.1]? = some b ∧ PyProof.Rows.IsTup s.heap b #[u, (prs[j.1]).2] ∧ (mixKind X.prog X.w).is (prs[j.1]).1 u = true := fun j => by
      obtain ⟨b, u, h1, h2, h3⟩ := key j.1 _ (List.getElem?_eq_getElem j.2)
      exact ⟨u, b, h1, h2, h3⟩
    refine ⟨List.ofFn fun j : Fin prs.length => ((pick j).choose, (prs[j.1]).2), by simp, fun j w e => ?_⟩
    have hj : j < prs.length := by
      have := (List.getElem?_eq_some_iff.mp e).1
      simpa using this
    have ew : w = ((pick ⟨j, hj⟩).choose, (prs[j]).2) := by
      rw [List.getElem?_eq_getElem (by simpa using hj)] at e
      have := Option.some.inj e
      rw [← this]
      simp
    obtain ⟨b, h1, h2, h3⟩ := (pick ⟨j, hj⟩).choose_spec
    subst ew
    exact ⟨b, (prs[j]).1, h1, h2, List.getElem?_eq_getElem hj, h3⟩
  obtain ⟨ws, hw, hws⟩ := us
  have P := PairArg.tuple (prog := X.prog) (w := X.w) a (ps.map Value.ref).toArray (fun j => ps.getD j 0) ws
  have ok : PlainSeq "tuple" s.heap a (ps.map Value.ref).toArray ∧ PairItems s.heap (ps.map Value.ref).toArray (fun j => ps.getD j 0) ws := by
    refine ⟨⟨o, n, ho, hc, hd, hdat⟩, by simp [hw, hl], fun j k v e => ?_⟩
    obtain ⟨b, k', h1, h2, _⟩ := hws j _ e
    obtain ⟨o', g1, g2, n', g3⟩ := h2
    refine ⟨by simp [h1, List.getD], .inl ?_⟩
    simp only [List.getD, h1, Option.getD_some]
    exact ⟨o', g1, g2, n', g3⟩
  refine PySem.call_dict_pairs (kvs := prs) (knd := mixKind X.prog X.w) P (I.ok.hd hcalm) ok ⟨hw.symm, fun i k v e => ?_⟩ (by rw [hw, hl]; exact hz) fun h' tk hd' k => ?_
  · obtain ⟨b, k', h1, h2, h3, h4⟩ := hws i _ e
    exact ⟨k', h3, h4⟩
  · have hm : (s.heap.objs.size == sysModules) = false := beq_eq_false_iff_ne.mpr (Nat.ne_of_gt I.big)
    have hlen : (mergeK [] kvs).length ≤ sizeLine := by
      refine Nat.le_trans (length_mergeK kvs []) ?_
      rw [List.length_nil, Nat.zero_add, rel.length, hl]
      exact hz
    exact ⟨.ref s.heap.objs.size, upd H s.heap.objs.size (.dK (mergeK [] kvs)), I.laid (t' := tk) (fun b o e => k b o (fun q => nomatch q) e) (Nat.le_refl _) (show ObjOk X.prog X.w _ _ _ (.dK (mergeK [] kvs)) from ⟨hlen, hm, merged [] prs, KV.merge rel .nil, hd'⟩), rfl, q _ (I.hok.fresh (Nat.le_refl _))⟩
theorem DnAll.strs {K : PySem.W.Frag} {H : Hp} {N : Addr → Prop} : ∀ (ys : List Str), DnAll K H N (ys.map V.str) (ys.map PyData.str)
  | [] => .nil
  | y :: r => .cons (.str y) (DnAll.strs r)
theorem keys_dn {K : PySem.W.Frag} {H : Hp} {N : Addr → Prop} : ∀ {kvs : List (Key × V)} {ps : List (PyData × PyData)}, DnKv K H N kvs ps → DnAll K H N (kvs.map fun kv => kV kv.1) (ps.map (·.1))
  | _, _, .nil => .nil
  | _, _, .cons (k := k) _ t => by
    cases k with
    | inl i => exact .cons (.int i) (keys_dn t)
    | inr z => exact .cons (.str z) (keys_dn t)
theorem keysS_of {K : PySem.W.Frag} {H : Hp} {N : Addr → Prop} : ∀ {kvs : List (Key × V)} {ps : List (PyData × PyData)} {ks : List Str}, DnKv K H N kvs ps → keysS ps = some ks → kvs.map (·.1) = ks.map Sum.inr
  | _, _, ks, .nil, e => by cases e; rfl
  | _, _, ks, .cons (k := k) (ps := ps) _ t, e => by
    cases k with
    | inl i => cases e
    | inr z =>
      unfold keysS at e
      cases q : keysS ps with
      | none => rw [show keyP (Sum.inr z) = PyData.str z from rfl] at e; simp only [q] at e; cases e
      | some r =>
        rw [show keyP (Sum.inr z) = PyData.str z from rfl] at e
        simp only [q] at e
        cases e
        rw [List.map_cons, List.map_cons, keysS_of t q]
theorem rising_pw : ∀ (r : List Str) (p : Str), PyProof.Rows.risingS p r = true → (p :: r).Pairwise fun a b => a.cps.toList ≤ b.cps.toList
  | [], p, _ => by simp
  | x :: r, p, h => by
    unfold PyProof.Rows.risingS at h
    rw [Bool.and_eq_true, PyProof.Rows.ltCps_eq] at h
    have ih := rising_pw r x h.2
    have h1 : p.cps.toList ≤ x.cps.toList := by
      have := h.1
      simp only [Bool.not_eq_true', decide_eq_false_iff_not] at this
      exact List.not_lt.mp this
    refine List.pairwise_cons.mpr ⟨fun y hy => ?_, ih⟩
    rcases List.mem_cons.mp hy with rfl | hy
    · exact h1
    · exact List.le_trans h1 ((List.pairwise_cons.mp ih).1 y hy)
theorem sortS_eq {ys ks : List Str} (p : ys.Perm ks) (h : PyProof.Rows.sortedS ys = true) : ys.map PyData.str = sortD (ks.map .str) := by
  have e : sortD (ks.map .str) = (ks.mergeSort fun a b => decide (a.cps.toList ≤ b.cps.toList)).map PyData.str := by
    unfold sortD
    rw [List.map_mergeSort (f := PyData.str) (r := fun a b => decide (a.cps.toList ≤ b.cps.toList)) (s := fun a b => !PySem.W.dataLt b a)]
    intro a _ b _
    exact (congrFun (congrFun (PySem.W.dataLe_str (β := Str) id) a) b).symm
  rw [e]
  congr 1
  have hy : ys.Pairwise fun a b => a.cps.toList ≤ b.cps.toList := by
    cases ys with
    | nil => exact .nil
    | cons x r => exact rising_pw r x h
  have hm := List.pairwise_mergeSort (le := fun (a b : Str) => decide (a.cps.toList ≤ b.cps.toList)) (fun a b c h1 h2 => by simp only [decide_eq_true_eq] at *; exact List.le_trans h1 h2) (fun a b => by simp only [Bool.or_eq_true, decide_eq_true_eq]; exact List.le_total _ _) ks
  refine (p.trans (List.mergeSort_perm ks _).symm).eq_of_pairwise (le := fun a b => a.cps.toList ≤ b.cps.toList) (fun a b _ _ h1 h2 => PySem.W.str_of_cps (List.le_antisymm h1 h2)) hy (hm.imp fun h => by simpa using h)
theorem keysI_of {K : PySem.W.Frag} {H : Hp} {N : Addr → Prop} : ∀ {kvs : List (Key × V)} {ps : List (PyData × PyData)} {ks : List Int}, DnKv K H N kvs ps → keysI ps = some ks → kvs.map (·.1) = ks.map Sum.inl
  | _, _, ks, .nil, e => by cases e; rfl
  | _, _, ks, .cons (k := k) (ps := ps) _ t, e => by
    cases k with
    | inr i => cases e
    | inl z =>
      unfold keysI at e
      cases q : keysI ps with
      | none => rw [show keyP (Sum.inl z) = PyData.int z from rfl] at e; simp only [q] at e; cases e
      | some r =>
        rw [show keyP (Sum.inl z) = PyData.int z from rfl] at e
        simp only [q] at e
        cases e
        rw [List.map_cons, List.map_cons, keysI_of t q]
theorem sortI_eq {ys ks : List Int} (p : ys.Perm ks) (h : ys.Pairwise (· ≤ ·)) : ys.map PyData.int = sortD (ks.map .int) := by
  have e : sortD (ks.map .int) = (ks.mergeSort fun a b => decide (a ≤ b)).map PyData.int := by
    unfold sortD
    rw [List.map_mergeSort (f := PyData.int) (r := fun a b => decide (a ≤ b)) (s := fun a b => !PySem.W.dataLt b a)]
    intro a _ b _
    rw [PySem.W.dataLt_int, Bool.eq_iff_iff]
    simp
  rw [e]
  congr 1
  have hm := List.pairwise_mergeSort (le := fun (a b : Int) => decide (a ≤ b)) (fun a b c h1 h2 => by simp only [decide_eq_true_eq] at *; omega) (fun a b => by simp only [Bool.or_eq_true, decide_eq_true_eq]; omega) ks
  refine (p.trans (List.mergeSort_perm ks _).symm).eq_of_pairwise (le := fun a b => a ≤ b) (fun a b _ _ h1 h2 => by omega) h (hm.imp fun h => by simpa using h)
theorem pr_ok (p : Pr) (hp : isIsi p = false) (hc : X.calm = true) (hu : X.A.units + 200 < cLine) (hg : X.A.guards = some []) (hb : SysOk X) : CallR X (prV p) (rPr X.K p) := by
  intro pins s σ H xs us Q I rv h
  obtain ⟨N, ds, r, hd, hr, q⟩ := h
  unfold primD at hr
  split at hr
  · -- len of a list
    obtain ⟨x, rfl, h⟩ := hd.one
    obtain ⟨a, ys, rfl, h1, h2⟩ := h
    cases hr
    refine call_len_seq pins s σ H _ us Q I rv ⟨a, ys, rfl, .inl h1, ?_⟩
    rw [h2.length]
    exact q _ _ (New.same (.int _))
  · obtain ⟨x, rfl, h⟩ := hd.one
    cases (show Dn X.K H N x (.tuple _) from h) with
    | tup h1 h2 =>
      cases hr
      refine call_len_seq pins s σ H _ us Q I rv ⟨_, _, rfl, .inr h1.sq, ?_⟩
      rw [h2.length]
      exact q _ _ (New.same (.int _))
  · obtain ⟨x, rfl, h⟩ := hd.one
    split at hr
    · rename_i hz
      cases hr
      exact call_len_str pins s σ H _ us Q I rv ⟨_, by rw [h.str], by rw [← most_eq]; exact hz, q _ _ (New.same (.int _))⟩
    · cases hr
  · obtain ⟨x, rfl, h⟩ := hd.one
    obtain ⟨a, kvs, rfl, h1, h2⟩ := h
    cases hr
    obtain rfl := rv.ref1
    exact d_len I (h1) fun t s' I' => ⟨.int _, H, I', ⟨_, by rw [h2.length]⟩, q _ _ (New.same (.int _))⟩
  · obtain ⟨x, rfl, h⟩ := hd.one
    obtain ⟨a, ys, rfl, h1, h2⟩ := h
    cases hr
    exact call_tupleD pins s σ H _ us Q I rv ⟨a, ys, rfl, h1, fun l o hl ho => q _ _ (New.tup hl ho h2)⟩
  · obtain ⟨x, rfl, h⟩ := hd.one
    cases (show Dn X.K H N x (.tuple _) from h) with
    | tup h1 h2 =>
      cases hr
      exact call_tuple_of pins s σ H _ us Q I rv ⟨_, _, rfl, .inr ⟨h1.sq, q _ _ (New.same (.tup h1 h2))⟩⟩
  · obtain ⟨x, rfl, h⟩ := hd.one
    obtain ⟨a, ys, rfl, h1, h2⟩ := h
    cases hr
    exact call_list_of pins s σ H _ us Q I rv ⟨a, ys, rfl, .inl h1, fun l hl => q _ _ (New.lst hl h2)⟩
  · obtain ⟨x, rfl, h⟩ := hd.one
    cases (show Dn X.K H N x (.tuple _) from h) with
    | tup h1 h2 =>
      cases hr
      exact call_list_of pins s σ H _ us Q I rv ⟨_, _, rfl, .inr h1.sq, fun l hl => q _ _ (New.lst hl h2)⟩
  · obtain ⟨x, rfl, h⟩ := hd.one
    obtain ⟨a, kvs, rfl, h1, h2⟩ := h
    cases hr
    exact call_listD hc pins s σ H _ us Q I rv ⟨a, kvs, rfl, h1, fun l hl => q _ _ (New.lst hl (keys_dn h2))⟩
  · obtain ⟨x, rfl, h⟩ := hd.one
    obtain ⟨a, ys, rfl, h1, h2⟩ := h
    split at hr
    · cases hr
      obtain rfl := rv.ref1
      exact sorted_ok hu I (.inl h1) h2 (by assumption) q
    · cases hr
  · obtain ⟨x, rfl, h⟩ := hd.one
    split at hr
    · rename_i ok
      cases hr
      cases (show Dn X.K H N x (.tuple _) from h) with
      | tup h1 h2 =>
        obtain rfl := rv.ref1
        exact sorted_ok hu I (.inr h1.sq) h2 ok q
    · cases hr
  · obtain ⟨x, rfl, h⟩ := hd.one
    obtain ⟨a, kvs, rfl, h1, h2⟩ := h
    split at hr
    · rename_i ks ek
      split at hr
      · rename_i h64
        cases hr
        refine call_sortedD hc pins s σ H _ us Q I rv ⟨a, kvs, ks, rfl, h1, keysS_of h2 ek, h64, fun ys p pm so hp => q _ _ ?_⟩
        rw [← sortS_eq pm so]
        exact New.lst hp (DnAll.strs ys)
      · cases hr
    · split at hr
      · rename_i ks ek
        split at hr
        · rename_i h64
          cases hr
          refine call_sortedDI hc pins s σ H _ us Q I rv ⟨a, kvs, ks, rfl, h1, keysI_of h2 ek, h64, fun ys p pm so hp => q _ _ ?_⟩
          rw [← sortI_eq pm so]
          exact New.lst hp (DnAll.ints ys)
        · cases hr
      · cases hr
  · obtain ⟨x, rfl, h⟩ := hd.one
    obtain ⟨a, ys, rfl, h1, h2⟩ := h
    rename_i ds'
    cases e : bools ds' with
    | none => rw [e] at hr; cases hr
    | some bs =>
      rw [e] at hr
      cases hr
      rw [bools_of e] at h2
      rw [h2.ofBools] at h1
      exact cr_all hc pins s σ H _ us Q I rv ⟨a, bs, rfl, h1, q _ _ (New.same (.bl _))⟩
  · obtain ⟨x, rfl, h⟩ := hd.one
    obtain ⟨a, ys, rfl, h1, h2⟩ := h
    rename_i ds'
    cases e : bools ds' with
    | none => rw [e] at hr; cases hr
    | some bs =>
      rw [e] at hr
      cases hr
      rw [bools_of e] at h2
      rw [h2.ofBools] at h1
      exact cr_any hc pins s σ H _ us Q I rv ⟨a, bs, rfl, h1, q _ _ (New.same (.bl _))⟩
  · obtain ⟨x, rfl, h⟩ := hd.one
    obtain ⟨a, ys, rfl, h1, h2⟩ := h
    rename_i ds'
    cases e : intsD ds' with
    | none => rw [e] at hr; cases hr
    | some bs =>
      rw [e] at hr
      cases hr
      rw [intsD_of e] at h2
      rw [h2.ofInts] at h1
      exact cr_sum hc pins s σ H _ us Q I rv ⟨a, bs, rfl, h1, q _ _ (New.same (.int _))⟩
  · obtain ⟨x, rfl, h⟩ := hd.one
    cases hr
    exact call_abs pins s σ H _ us Q I rv ⟨_, by rw [h.int], q _ _ (New.same (.int _))⟩
  · obtain ⟨x, y, rfl, h, h'⟩ := hd.two
    cases hr
    exact call_min2 hc pins s σ H _ us Q I rv ⟨_, _, by rw [h.int, h'.int], q _ _ (New.same (.int _))⟩
  · obtain ⟨x, y, rfl, h, h'⟩ := hd.two
    cases hr
    exact call_max2 hc pins s σ H _ us Q I rv ⟨_, _, by rw [h.int, h'.int], q _ _ (New.same (.int _))⟩
  · obtain ⟨x, rfl, h⟩ := hd.one
    cases hr
    exact call_int1 pins s σ H _ us Q I rv (.inl ⟨_, by rw [h.int], q _ _ (New.same (.int _))⟩)
  · obtain ⟨x, rfl, h⟩ := hd.one
    cases hr
    rename_i k
    exact call_int1 pins s σ H _ us Q I rv (.inr ⟨k, by cases (show Dn X.K H N x (.bool _) from h); rfl, q _ _ (New.same (.int _))⟩)
  · obtain ⟨x, rfl, h⟩ := hd.one
    split at hr
    · cases hr
      exact call_str_int pins s σ H _ us Q I rv ⟨_, by rw [h.int], by assumption, q _ _ (New.same (.str _))⟩
    · cases hr
  · obtain ⟨x, rfl, h⟩ := hd.one
    cases hr
    cases (show Dn X.K H N x (.bool _) from h)
    obtain ⟨u, rfl, rx⟩ := vals1 rv
    cases (show u = Value.bool _ from rx)
    exact PySem.P.str_of_bool ⟨.str _, H, I.tok _, ⟨_, rfl⟩, q _ _ (New.same (.str _))⟩
  · obtain ⟨x, rfl, h⟩ := hd.one
    cases hr
    exact SkE.call_str_str pins s σ H _ us Q I rv ⟨_, by rw [h.str], q _ _ (New.same (.str _))⟩
  · obtain ⟨x, rfl, h⟩ := hd.one
    split at hr
    · rename_i c
      cases hr
      obtain ⟨u, rfl, rx⟩ := vals1 rv
      exact repr_ok hu hg hb I h rx c.1 c.2.1 c.2.2 (q _ _ (New.same (.str _)))
    · cases hr
  · obtain ⟨x, rfl, h⟩ := hd.one
    obtain ⟨a, ys, rfl, h1, h2⟩ := h
    rename_i ds'
    cases e : pairsD ds' with
    | none => rw [e] at hr; cases hr
    | some ps =>
      rw [e] at hr
      cases hr
      obtain ⟨as, kvs, e1, e2, e3, e4⟩ := pairs_dn h2 e
      rw [e1] at h1
      exact call_dictP hc pins s σ H _ us Q I rv ⟨a, as, kvs, rfl, h1, e2, fun p hp => q _ _ (New.dic hp (merge_dn e4 .nil))⟩
  · obtain ⟨x, rfl, h⟩ := hd.one
    rename_i ds'
    cases e : pairsD ds' with
    | none => rw [e] at hr; cases hr
    | some ps =>
      rw [e] at hr
      cases hr
      cases (show Dn X.K H N x (.tuple ds') from h) with
      | tup h1 h2 =>
        obtain ⟨as, kvs, e1, e2, e3, e4⟩ := pairs_dn h2 e
        rw [e1] at h1
        exact call_dictT hc pins s σ H _ us Q I rv ⟨_, as, kvs, rfl, h1, e2, fun p hp => q _ _ (New.dic hp (merge_dn e4 .nil))⟩
  · obtain ⟨x, rfl, h⟩ := hd.one
    obtain ⟨a, kvs, rfl, h1, h2⟩ := h
    cases hr
    exact call_dictD pins s σ H _ us Q I rv ⟨a, kvs, rfl, h1, fun p hp => q _ _ (New.dic hp h2)⟩
  · cases hp
  · cases hr
end
end Pv

/-! PvK: isinstance, truth, places, slices. -/
set_option linter.all false
set_option maxRecDepth 100000
set_option maxHeartbeats 4000000
namespace Pv
open PySem PySem.Spec L2 PySem.SeqAt

def tyN : Ty → String
  | .str => "str"
  | .int => "int"
  | .bool => "bool"
  | .tuple => "tuple"
  | .list => "list"
  | .dict => "dict"
def tyD : PyData → String
  | .none => "NoneType"
  | .bool _ => "bool"
  | .int _ => "int"
  | .str _ => "str"
  | .list _ => "list"
  | .tuple _ => "tuple"
  | .dict _ => "dict"
theorem kit_all (t : Ty) (d : PyData) : kitB (tyD d) (tyN t) = some (isTy t d) := by
  cases t <;> cases d <;> (simp only [tyD, tyN, isTy]; decide +kernel)
section
variable {X : Cx} {pins : List (Addr × Obj)} {σ : St} {H : Hp} {s : Shared} {N : Addr → Prop} {x y : V}
theorem Dq.ty {d : PyData} (h : Dq X.K H N x d) : TyX X.K H x (.type (tyD d)) := by
  cases d with
  | none => cases (show Dn X.K H N x .none from h); exact .base .non
  | bool b => cases (show Dn X.K H N x (.bool b) from h); exact .base (.bl b)
  | int b => cases (show Dn X.K H N x (.int b) from h); exact .base (.int b)
  | str b => cases (show Dn X.K H N x (.str b) from h); exact .base (.str b)
  | list b =>
    obtain ⟨a, xs, rfl, h1, _⟩ := h
    rcases h1 with (h1 | ⟨o, h1⟩) | ⟨o, its, n, h1, h2, _⟩
    · exact .base (.lst h1)
    · exact .base (.frz h1)
    · exact .kList h1 h2
  | tuple b =>
    cases (show Dn X.K H N x (.tuple b) from h) with
    | tup h1 _ =>
      rcases h1.sq with (h1 | ⟨o, h1⟩) | ⟨o, its, n, h1, h2, _⟩
      · exact .base (.tup h1)
      · exact .fTuple h1
      · exact .kTuple h1 h2
  | dict b =>
    obtain ⟨a, xs, rfl, h1, _⟩ := h
    rcases h1 with h1 | ⟨o, h1⟩
    · exact .base (.dK h1)
    · exact .fDict h1
/-- isinstance(x, T) -/
def rIsV (K : PySem.W.Frag) (t : Ty) : List V → Hp → VK → Prop := fun xs H Q => ∃ N d x, xs = [x, .ty (tyN t)] ∧ Dq K H N x d ∧ Q (.bl (isTy t d)) H
theorem isi_ok (t : Ty) : CallR X (.builtin "isinstance") (rIsV X.K t) := by
  intro pins s σ H xs us Q I rv h
  obtain ⟨N, d, x, rfl, hd, q⟩ := h
  exact call_isi pins s σ H _ us Q I rv ⟨x, .ty (tyN t), _, _, isTy t d, rfl, .ty _, hd.ty, kit_ty (kit_all t d), q⟩
/-- truth -/
theorem Dq.truth {d : PyData} {k : Bool} (h : Dq X.K H N x d) (e : truD d = some k) : TruV X.K x H k := by
  cases d with
  | none => cases (show Dn X.K H N x .none from h); cases e; rfl
  | bool b => cases (show Dn X.K H N x (.bool b) from h); cases e; rfl
  | int b => cases (show Dn X.K H N x (.int b) from h); cases e; rfl
  | str b =>
    cases (show Dn X.K H N x (.str b) from h)
    unfold truD at e
    simp only at e
    split at e
    · cases e
      exact ⟨by rw [← most_eq]; assumption, rfl⟩
    · cases e
  | list b =>
    obtain ⟨a, xs, rfl, h1, h2⟩ := h
    cases e
    refine .inl ⟨xs, h1, ?_⟩
    cases h2 <;> rfl
  | tuple b =>
    cases (show Dn X.K H N x (.tuple b) from h) with
    | tup h1 h2 =>
      cases e
      refine .inr (.inl ⟨_, h1.sq, ?_⟩)
      cases h2 <;> rfl
  | dict b =>
    cases e
/-! ### places -/
theorem DnAll.at_ {K : PySem.W.Frag} {xs : List V} {ds : List PyData} {i : Int} {d : PyData} (h : DnAll K H N xs ds) (e : atD ds i = some d) : ∃ v, atI xs i = some v ∧ Dn K H N v d := by
  unfold atD atI at e
  unfold atI
  rw [h.length]
  cases q : ixN ds.length i with
  | none => rw [q] at e; cases e
  | some j =>
    rw [q] at e
    exact h.getD (show ds[j]? = some d from e)
def rIdx (K : PySem.W.Frag) : R2 := fun x y H Q => ∃ N d e r, Dq K H N x d ∧ Dq K H N y e ∧ idxD d e = some r ∧ ∀ z, Dn K H N z r → Q z H
/-- d[k], there -/
theorem ix_dict {value slice : Expr} {pins : List (Addr × Obj)} {s : Shared} {σ : St} {H : Hp} {a : Addr} {y w : V} {u : Value} {Q : VK} (hu : X.A.units + 1 < cLine) (I : Inv X pins σ H s) (g : DGet H a y (some w)) (ry : RelV y u) (q : Q w H) (hs : subscripted slice false (.ref a) u = operate [.ref a, u] (getItem (.ref a) u)) :
    wpAny (model X.prog X.w) X.A (PyProof.Rows.subscriptTail value slice (.ref a) u) (EP X pins σ Q) X.xe s := by
  have hT := dict_typeIs I g
  unfold PyProof.Rows.subscriptTail
  refine wpAny_bind ?_
  rw [getitemInPython_of_ne hT.not_modules]
  refine wpAny_bind (wpAny_specialOf hT PySem.F.slot_dict_getitem.lookup ?_)
  have tail : wpAny (model X.prog X.w) X.A (subscripted slice false (.ref a) u) (fun r s' => wpAny (model X.prog X.w) X.A (letTemporaryGo value (.ref a) r >>= fun _ => pure r) (EP X pins σ Q) X.xe s') X.xe s := by
    rw [hs]
    exact wpAny_operating (d_getItem hu I g ry fun w' s' I' rw' => wpAny_bind (wpAny_letTemporaryGo (wpAny_pure ⟨w, H, I', rw', q⟩)))
  first
    | exact wpAny_pure (wpAny_bind tail)
    | exact wpAny_bind (wpAny_pure (wpAny_bind tail))
    | exact wpAny_bind tail
theorem idx_ok (hu : X.A.units + 1 < cLine) : IxR X (rIdx X.K) := by
  intro value slice pins s σ H x y v u Q I rx ry h hs
  obtain ⟨N, d, e, r, hd, he, hr, q⟩ := h
  unfold idxD at hr
  split at hr
  · obtain ⟨a, xs, rfl, h1, h2⟩ := hd
    obtain ⟨z, h3, h4⟩ := h2.at_ hr
    exact ix_seq value slice pins s σ H _ y v u Q I rx ry (.inl ⟨a, xs, _, z, rfl, he.int, h1, h3, q _ h4⟩) hs
  · cases (show Dn X.K H N x (.tuple _) from hd) with
    | tup h1 h2 =>
      obtain ⟨z, h3, h4⟩ := h2.at_ hr
      exact ix_seq value slice pins s σ H _ y v u Q I rx ry (.inr (.inl ⟨_, _, _, z, rfl, he.int, h1.sq, h3, q _ h4⟩)) hs
  · split at hr
    · rename_i z i hz
      cases e1 : atD z.cps.toList i with
      | none => rw [e1] at hr; cases hr
      | some c =>
        rw [e1] at hr
        cases hr
        exact ix_seq value slice pins s σ H _ y v u Q I rx ry (.inr (.inr ⟨z, i, c, hd.str, he.int, by rw [← most_eq]; exact hz, e1, q _ (.str _)⟩)) hs
    · cases hr
  · rename_i ps
    obtain ⟨a, kvs, rfl, h1, h2⟩ := hd
    cases e1 : keyD e with
    | none => rw [e1] at hr; cases hr
    | some k =>
      rw [e1] at hr
      replace hr : lookD ps k = some r := hr
      cases (show v = Value.ref a from rx)
      have ey : y = kV k := by
        cases keyD_of e1
        cases k with
        | inl i => exact he.int
        | inr z => exact he.str
      subst ey
      rcases look_of k h2 with ⟨_, e3⟩ | ⟨w, d', e2, e3, dn⟩
      · rw [hr] at e3; cases e3
      · rw [hr] at e3
        cases e3
        exact ix_dict hu I (by rw [← e2]; exact Or.inl ⟨_, _, h1, rfl, rfl⟩) ry (q _ dn) hs
  · cases hr
/-! ### slices -/
theorem cut_dn {K : PySem.W.Frag} {xs : List V} {ds : List PyData} (h : DnAll K H N xs ds) (lo hi : Option Int) : DnAll K H N (cutV xs lo hi) (cutL ds lo hi) := by
  unfold cutV cutL
  rw [h.length]
  exact (h.drop _).take _
def rSlc (K : PySem.W.Frag) : V → Option Int → Option Int → Hp → VK → Prop := fun x lo hi H Q => ∃ N d r, Dq K H N x d ∧ slcD d lo hi = some r ∧ ∀ z H', New K H N H' z r → Q z H'
def rSlD (K : PySem.W.Frag) : V → Option Int → Option Int → Hp → VK → Prop := fun x lo hi H Q => ∃ a xs, x = .ref a ∧ SqT K H a xs ∧
  (HT.sIx xs.length 0 lo = 0 ∧ HT.sIx xs.length xs.length hi = xs.length → Q (.ref a) H) ∧ (¬ (HT.sIx xs.length 0 lo = 0 ∧ HT.sIx xs.length xs.length hi = xs.length) → ∀ p o, H p = none → o.dict = none → Q (.ref p) (upd H p (.frz o (.tup (cutV xs lo hi)))))
theorem sl_tupD : SlR X (rSlD X.K) := by
  intro pins s σ H x v vl vu lo hi sl Q I rx hs pl pu h
  obtain ⟨a, xs, rfl, hx, q1, q2⟩ := h
  cases rx
  obtain ⟨its, r, ht, hz⟩ := I.tuple hx
  have hlen : its.toArray.size = xs.length := by rw [List.size_toArray]; exact r.length.symm
  refine ⟨"tuple", _, PyProof.Rows.slot_tuple_getitem.lookup, ht.typeIs, ?_⟩
  by_cases hw : HT.sIx xs.length 0 lo = 0 ∧ HT.sIx xs.length xs.length hi = xs.length
  · exact getItem_tuple_whole ht hs pl pu (by rw [hlen]; exact hw) ⟨.ref a, H, I, rfl, q1 hw⟩
  · refine HT.getItem_tuple_cut ht hs pl pu (by rw [hlen]; exact hw) ?_ (by rw [hlen]; exact hz)
    rw [hlen]
    refine ⟨.ref s.heap.objs.size, _, I.laid (t' := s.toks) (o := .frz { cls := .type "tuple", data := .seq ((its.drop (HT.sIx xs.length 0 lo)).take (HT.sIx xs.length xs.length hi - HT.sIx xs.length 0 lo)).toArray } (.tup (cutV xs lo hi))) (fun b ob q => Heap.get?_push_of_some _ q) (Nat.le_refl _) ?_, rfl, q2 hw _ _ (I.hok.fresh (Nat.le_refl _)) rfl⟩
    exact ⟨by first | exact Heap.get?_push_size _ rfl | (simp; exact Heap.get?_push_size _ rfl), Nat.le_trans (cutV_length xs lo hi) hz, _, (r.drop (HT.sIx xs.length 0 lo)).take (HT.sIx xs.length xs.length hi - HT.sIx xs.length 0 lo), by first | exact PyProof.Rows.IsTup.new _ _ | (simp; exact PyProof.Rows.IsTup.new _ _)⟩
theorem slc_ok : SlR X (rSlc X.K) := by
  intro pins s σ H x v vl vu lo hi sl Q I rx hs pl pu h
  obtain ⟨N, d, r, hd, hr, q⟩ := h
  unfold slcD at hr
  split at hr
  · obtain ⟨a, xs, rfl, h1, h2⟩ := hd
    cases hr
    exact sl_list pins s σ H _ v vl vu lo hi sl Q I rx hs pl pu ⟨a, xs, rfl, h1, fun p hp => q _ _ (New.lst hp (cut_dn h2 lo hi))⟩
  · rename_i ds
    cases (show Dn X.K H N x (.tuple ds) from hd) with
    | @tup a xs _ h1 h2 =>
      cases hr
      refine sl_tupD pins s σ H _ v vl vu lo hi sl Q I rx hs pl pu ⟨a, xs, rfl, h1.sq, fun w => ?_, fun _ p o hp ho => q _ _ (New.tup hp ho (cut_dn h2 lo hi))⟩
      have e : cutL ds lo hi = ds := by
        unfold cutL
        rw [← h2.length, w.1, w.2, List.drop_zero, Nat.sub_zero, h2.length, List.take_length]
      rw [e] at q
      exact q _ _ (New.same (.tup h1 h2))
  · split at hr
    · rename_i z hz
      cases hr
      exact sl_str pins s σ H _ v vl vu lo hi sl Q I rx hs pl pu ⟨z, hd.str, by rw [← most_eq]; exact hz, q _ _ (New.same (.str _))⟩
    · cases hr
  · cases hr
end
end Pv

/-! PvL: how the bearing of a state follows a slot: kept, frozen, bound, moved, changed. -/
set_option linter.all false
set_option maxRecDepth 100000
set_option maxHeartbeats 1000000
namespace Pv
open PySem L2

theorem fp_zero {l : List Addr} {F : List (List Addr)} : fpAt (l :: F) 0 = l := rfl
theorem fp_succ {l : List Addr} {F : List (List Addr)} {j : Nat} : fpAt (l :: F) (j + 1) = fpAt F j := rfl
theorem fp_nil {j : Nat} : fpAt [] j = [] := by
  cases j <;> rfl
theorem flat_mem {a : Addr} : ∀ {F : List (List Addr)}, a ∈ F.flatten ↔ ∃ j, a ∈ fpAt F j
  | [] => ⟨fun h => by simp at h, fun ⟨j, h⟩ => by rw [fp_nil] at h; simp at h⟩
  | l :: F => by
    rw [List.flatten_cons, List.mem_append, flat_mem (F := F)]
    constructor
    · rintro (h | ⟨j, h⟩)
      · exact ⟨0, h⟩
      · exact ⟨j + 1, h⟩
    · rintro ⟨j, h⟩
      cases j with
      | zero => exact .inl h
      | succ j => exact .inr ⟨j, h⟩
def Apart (F : List (List Addr)) : Prop := (∀ j, (fpAt F j).Nodup) ∧ ∀ i j a, i ≠ j → a ∈ fpAt F i → a ∉ fpAt F j
theorem flat_nd : ∀ {F : List (List Addr)}, F.flatten.Nodup ↔ Apart F
  | [] => ⟨fun _ => ⟨fun j => by rw [fp_nil]; exact List.nodup_nil, fun i j a _ h => by rw [fp_nil] at h; simp at h⟩, fun _ => List.nodup_nil⟩
  | l :: F => by
    rw [List.flatten_cons, List.nodup_append, flat_nd (F := F)]
    constructor
    · rintro ⟨h1, ⟨h2, h3⟩, h4⟩
      refine ⟨fun j => ?_, fun i j a ne hi hj => ?_⟩
      · cases j with
        | zero => exact h1
        | succ j => exact h2 j
      · cases i with
        | zero =>
          cases j with
          | zero => exact ne rfl
          | succ j => exact h4 a hi a (flat_mem.mpr ⟨j, hj⟩) rfl
        | succ i =>
          cases j with
          | zero => exact h4 a hj a (flat_mem.mpr ⟨i, hi⟩) rfl
          | succ j => exact h3 i j a (fun e => ne (by rw [e])) hi hj
    · rintro ⟨h1, h2⟩
      refine ⟨h1 0, ⟨fun j => h1 (j + 1), fun i j a ne => h2 (i + 1) (j + 1) a fun e => ne (by omega)⟩, fun a ha b hb e => ?_⟩
      obtain ⟨j, hj⟩ := flat_mem.mp hb
      rw [← e] at hj
      exact h2 0 (j + 1) a (by omega) ha hj
theorem fp_set_same {F : List (List Addr)} {i : Nat} {l : List Addr} (h : i < F.length) : fpAt (F.set i l) i = l := by
  unfold fpAt
  rw [List.getD_eq_getElem?_getD, List.getElem?_set_self h]
  rfl
theorem fp_set_ne {F : List (List Addr)} {i j : Nat} {l : List Addr} (h : i ≠ j) : fpAt (F.set i l) j = fpAt F j := by
  unfold fpAt
  rw [List.getD_eq_getElem?_getD, List.getElem?_set_ne h, List.getD_eq_getElem?_getD]
theorem Apart.put {F : List (List Addr)} (A : Apart F) {i : Nat} {l : List Addr} (h : i < F.length) (nl : l.Nodup) (d : ∀ a ∈ l, ∀ j, j ≠ i → a ∉ fpAt F j) : Apart (F.set i l) := by
  refine ⟨fun j => ?_, fun j k a ne hj hk => ?_⟩
  · by_cases e : i = j
    · subst e; rw [fp_set_same h]; exact nl
    · rw [fp_set_ne e]; exact A.1 j
  · by_cases e : i = j
    · subst e
      rw [fp_set_same h] at hj
      rw [fp_set_ne ne] at hk
      exact d a hj k (Ne.symm ne) hk
    · rw [fp_set_ne e] at hj
      by_cases e' : i = k
      · subst e'
        rw [fp_set_same h] at hk
        exact d a hk j (fun z => e z.symm) hj
      · rw [fp_set_ne e'] at hk
        exact A.2 j k a ne hj hk
theorem at_set_same {env : Env} {i : Nat} {v : Option Val} (h : i < env.length) : Env.at (env.set i v) i = v := by
  unfold Env.at
  rw [List.getElem?_set_self h]
  rfl
theorem at_set_ne {env : Env} {i j : Nat} {v : Option Val} (h : i ≠ j) : Env.at (env.set i v) j = Env.at env j := by
  unfold Env.at
  rw [List.getElem?_set_ne h]
theorem at_lt {env : Env} {i : Nat} {v : Val} (h : Env.at env i = some v) : i < env.length := by
  unfold Env.at at h
  cases q : env[i]? with
  | none => rw [q] at h; cases h
  | some u => exact (List.getElem?_eq_some_iff.mp q).1

section
variable {C : Cf} {O O1 : List Addr} {F F' : List (List Addr)} {H H' : Hp} {σ σ' : St} {env env' : Env} {i : Nat}
theorem ER.apart (R : ER C O F H σ env) : Apart F := flat_nd.mp R.nd
/-- slot i bound anew; O1 shrinks to O -/
theorem ER.into {x : V} {v : Val} {fp : List Addr} (R : ER C O1 F H σ env) (hi : i < env.length) (ho : ∀ a ∈ O, a ∈ O1) (hf : ∀ a ∈ fp, a ∉ O ∧ (a ∈ O1 ∨ a ∈ fpAt F i)) (nf : fp.Nodup)
    (nw : ∀ a ∈ fp, a ∈ C.bA ∨ C.H0 a = none) (em : (∀ m, v ≠ .ow m) → fp = []) (bo : ∀ p ∈ C.B, p.1 = i → x = .ref p.2) (s : SR C.K H (Nn O (F.set i fp)) fp x v) :
    ER C O (F.set i fp) H (σ.set i (some x)) (env.set i (some v)) := by
  have hF : i < F.length := by rw [R.lenF]; exact hi
  have hσ : i < σ.length := by rw [R.lenσ]; exact hi
  have sub : ∀ a, Nn O (F.set i fp) a → Nn O1 F a := fun a z => by
    rcases z with z | z
    · exact .inl (ho a z)
    · obtain ⟨j, hj⟩ := flat_mem.mp z
      by_cases e : i = j
      · subst e
        rw [fp_set_same hF] at hj
        rcases (hf a hj).2 with q | q
        · exact .inl q
        · exact .inr (flat_mem.mpr ⟨i, q⟩)
      · rw [fp_set_ne e] at hj
        exact .inr (flat_mem.mpr ⟨j, hj⟩)
  have l : Less H (Nn O1 F) (Nn O (F.set i fp)) := fun b z => .inl (sub b z)
  have far : ∀ a ∈ fp, ∀ j, j ≠ i → a ∉ fpAt F j := fun a ha j ne hj => by
    rcases (hf a ha).2 with q | q
    · exact R.dis a q (flat_mem.mpr ⟨j, hj⟩)
    · exact R.apart.2 i j a (Ne.symm ne) q hj
  refine ⟨by rw [List.length_set, List.length_set, R.lenσ], by rw [List.length_set, List.length_set, R.lenF], fun j w e => ?_, fun j h => ?_, flat_nd.mpr (R.apart.put hF nf far), fun a ha z => ?_, fun a z => R.mt a (sub a z), R.fr, fun a z => ?_, R.old, fun p hp => ?_⟩
  · by_cases q : i = j
    · subst q
      rw [at_set_same hi] at e
      cases e
      rw [fp_set_same hF]
      exact ⟨x, List.getElem?_set_self hσ, s⟩
    · rw [at_set_ne q] at e
      obtain ⟨y, e1, r⟩ := R.slot j w e
      rw [fp_set_ne q]
      exact ⟨y, by rw [List.getElem?_set_ne q]; exact e1, SR.mono Kept.rfl' l (fun _ _ _ z => z) r⟩
  · by_cases q : i = j
    · subst q
      rw [fp_set_same hF]
      refine em fun m e => h m ?_
      rw [at_set_same hi, e]
    · rw [fp_set_ne q]
      refine R.emp j fun m e => h m ?_
      rw [at_set_ne q]; exact e
  · obtain ⟨j, hj⟩ := flat_mem.mp z
    by_cases q : i = j
    · subst q
      rw [fp_set_same hF] at hj
      exact (hf a hj).1 ha
    · rw [fp_set_ne q] at hj
      exact R.dis a (ho a ha) (flat_mem.mpr ⟨j, hj⟩)
  · obtain ⟨j, hj⟩ := flat_mem.mp z
    by_cases q : i = j
    · subst q
      rw [fp_set_same hF] at hj
      exact nw a hj
    · rw [fp_set_ne q] at hj
      exact R.new a (flat_mem.mpr ⟨j, hj⟩)
  · by_cases q : i = p.1
    · rw [← q, List.getElem?_set_self hσ, bo p hp q.symm]
    · rw [List.getElem?_set_ne q]
      exact R.bor p hp
/-- slot i emptied; what it owned is looked after apart -/
theorem ER.move (R : ER C O F H σ env) : ER C (fpAt F i ++ O) (F.set i []) H σ (env.set i none) := by
  by_cases hi : i < env.length
  · have hF : i < F.length := by rw [R.lenF]; exact hi
    have sub : ∀ a, Nn (fpAt F i ++ O) (F.set i []) a → Nn O F a := fun a z => by
      rcases z with z | z
      · rcases List.mem_append.mp z with q | q
        · exact .inr (flat_mem.mpr ⟨i, q⟩)
        · exact .inl q
      · obtain ⟨j, hj⟩ := flat_mem.mp z
        by_cases e : i = j
        · subst e
          rw [fp_set_same hF] at hj
          simp at hj
        · rw [fp_set_ne e] at hj
          exact .inr (flat_mem.mpr ⟨j, hj⟩)
    have l : Less H (Nn O F) (Nn (fpAt F i ++ O) (F.set i [])) := fun b z => .inl (sub b z)
    refine ⟨by rw [List.length_set, R.lenσ], by rw [List.length_set, List.length_set, R.lenF], fun j w e => ?_, fun j h => ?_, flat_nd.mpr (R.apart.put hF List.nodup_nil fun a ha => by simp at ha), fun a ha z => ?_, fun a z => R.mt a (sub a z), R.fr, fun a z => ?_, R.old, R.bor⟩
    · by_cases q : i = j
      · subst q
        rw [at_set_same hi] at e
        cases e
      · rw [at_set_ne q] at e
        obtain ⟨y, e1, r⟩ := R.slot j w e
        rw [fp_set_ne q]
        exact ⟨y, e1, SR.mono Kept.rfl' l (fun _ _ _ z => z) r⟩
    · by_cases q : i = j
      · subst q
        rw [fp_set_same hF]
      · rw [fp_set_ne q]
        refine R.emp j fun m e => h m ?_
        rw [at_set_ne q]; exact e
    · obtain ⟨j, hj⟩ := flat_mem.mp z
      by_cases q : i = j
      · subst q
        rw [fp_set_same hF] at hj
        simp at hj
      · rw [fp_set_ne q] at hj
        rcases List.mem_append.mp ha with y | y
        · exact R.apart.2 i j a q y hj
        · exact R.dis a y (flat_mem.mpr ⟨j, hj⟩)
    · obtain ⟨j, hj⟩ := flat_mem.mp z
      by_cases q : i = j
      · subst q
        rw [fp_set_same hF] at hj
        simp at hj
      · rw [fp_set_ne q] at hj
        exact R.new a (flat_mem.mpr ⟨j, hj⟩)
  · have e1 : fpAt F i = [] := by
      unfold fpAt
      rw [List.getD_eq_getElem?_getD, List.getElem?_eq_none (by rw [R.lenF]; omega)]
      rfl
    have e2 : env.set i none = env := List.set_eq_of_length_le (by omega)
    have e3 : F.set i [] = F := List.set_eq_of_length_le (by rw [R.lenF]; omega)
    rw [e1, e2, e3]
    exact R
theorem MR.mem {K : PySem.W.Frag} {N : Addr → Prop} {fp : List Addr} {a : Addr} {m : MO} (h : MR K H N fp a m) : a ∈ fp ∧ fp.Nodup := by
  cases m with
  | lst ds => rw [h.1]; simp
  | dic ps => rw [h.1]; simp
  | dol ps =>
    obtain ⟨as, kvs, e, nd, _⟩ := h
    exact ⟨by rw [e]; exact List.mem_cons_self, nd⟩
theorem MR.fp {K : PySem.W.Frag} {N : Addr → Prop} {fp : List Addr} {a : Addr} {m : MO} (h : MR K H N fp a m) (h1 : m.one = true) : fp = [a] := by
  cases m with
  | lst ds => exact h.1
  | dic ps => exact h.1
  | dol ps => cases h1
/-- the step from F to F with slot i emptied -/
theorem Step.less (R : ER C O F H σ env) {l : List Addr} (hl : ∀ a ∈ l, a ∈ fpAt F i) : Step F H (F.set i l) H := by
  refine ⟨fun _ _ e _ => e, fun a h => .inl ?_, fun _ h => h⟩
  by_cases hi : i < F.length
  · obtain ⟨j, hj⟩ := flat_mem.mp h
    by_cases e : i = j
    · subst e
      rw [fp_set_same hi] at hj
      exact flat_mem.mpr ⟨i, hl a hj⟩
    · rw [fp_set_ne e] at hj
      exact flat_mem.mpr ⟨j, hj⟩
  · rwa [List.set_eq_of_length_le (by omega)] at h
theorem dol_kv {K : PySem.W.Frag} {N N' : Addr → Prop} (l : Less H N N') : ∀ {as : List Addr} {kvs : List (Key × V)} {ps : List (PyData × List PyData)}, (∀ a ∈ as, ¬ N' a) → DolKv K H N as kvs ps → DnKv K H N' kvs (ps.map fun p => (p.1, .list p.2))
  | _, _, _, _, .nil => .nil
  | _, _, _, hn, .cons h1 h2 t => .cons (.lst (hn _ List.mem_cons_self) h1 (DnAll.mono Kept.rfl' l _ _ h2)) (dol_kv l (fun a ha => hn a (List.mem_cons_of_mem _ ha)) t)
/-- slot i's list or dict, from now on shared -/
theorem ER.freeze {m : MO} (R : ER C O F H σ env) (e : Env.at env i = some (.ow m)) :
    ER C O (F.set i []) H σ (env.set i (some (.sh m.data))) ∧ ∃ x, σ[i]? = some (some x) ∧ Dn C.K H (Nn O (F.set i [])) x m.data := by
  obtain ⟨x, e1, a, e2, hm⟩ := R.slot i _ e
  have hi := at_lt e
  have hF : i < F.length := by rw [R.lenF]; exact hi
  have ha : a ∈ fpAt F i := (MR.mem hm).1
  have noAll : ∀ a ∈ fpAt F i, ¬ Nn O (F.set i []) a := fun a ha z => by
    rcases z with z | z
    · exact R.dis a z (flat_mem.mpr ⟨i, ha⟩)
    · obtain ⟨j, hj⟩ := flat_mem.mp z
      by_cases q : i = j
      · subst q
        rw [fp_set_same hF] at hj
        simp at hj
      · rw [fp_set_ne q] at hj
        exact R.apart.2 i j a q ha hj
  have no := noAll a ha
  have l : Less H (Nn O F) (Nn O (F.set i [])) := fun b z => by
    refine .inl (z.elim .inl fun y => .inr ?_)
    obtain ⟨j, hj⟩ := flat_mem.mp y
    by_cases q : i = j
    · subst q
      rw [fp_set_same hF] at hj
      simp at hj
    · rw [fp_set_ne q] at hj
      exact flat_mem.mpr ⟨j, hj⟩
  have d : Dn C.K H (Nn O (F.set i [])) x m.data := by
    rw [e2]
    cases m with
    | lst ds =>
      obtain ⟨_, xs, h1, h2⟩ := hm
      exact .lst no h1 (DnAll.mono Kept.rfl' l _ _ h2)
    | dic ps =>
      obtain ⟨_, kvs, h1, h2⟩ := hm
      exact .dic no (.inl h1) (DnKv.mono Kept.rfl' l _ _ h2)
    | dol ps =>
      obtain ⟨as, kvs, q, nd, h1, _, h2⟩ := hm
      refine .dic no (.inl h1) (dol_kv l (fun b hb => noAll b ?_) h2)
      rw [q]
      exact List.mem_cons_of_mem _ hb
  refine ⟨?_, x, e1, d⟩
  have q := R.into (x := x) (v := .sh m.data) (fp := []) (O := O) hi (fun _ h => h) (fun a h => by simp at h) List.nodup_nil (fun a h => by simp at h) (fun _ => rfl) (fun p hp z => ?_) ⟨rfl, d⟩
  · have e3 : σ.set i (some x) = σ := by
      refine List.ext_getElem? fun j => ?_
      by_cases q : i = j
      · subst q
        rw [List.getElem?_set_self (by rw [R.lenσ]; exact hi), e1]
      · rw [List.getElem?_set_ne q]
    rwa [e3] at q
  · have q := R.bor p hp
    rw [z, e1] at q
    exact Option.some.inj (Option.some.inj q)
/-- an operation's value into slot i -/
theorem ER.put {P : List Addr} {x : V} {v : Val} (R : ER C (P ++ O) F H σ env) (hi : i < env.length) (hP : ∀ a ∈ P, a ∉ O) (h0 : ∀ a ∈ P, C.H0 a = none) (bo : ∀ p ∈ C.B, p.1 ≠ i)
    (s : SR C.K H (Nn (P ++ O) F) P x v) : ER C O (F.set i P) H (σ.set i (some x)) (env.set i (some v)) := by
  have nP : P.Nodup := by
    cases v with
    | sh d => rw [s.1]; exact List.nodup_nil
    | ow m =>
      obtain ⟨a, _, h⟩ := s
      exact (MR.mem h).2
    | scr ns => rw [s.1]; exact List.nodup_nil
  have hF : i < F.length := by rw [R.lenF]; exact hi
  refine R.into hi (fun a h => List.mem_append_right _ h) (fun a h => ⟨hP a h, .inl (List.mem_append_left _ h)⟩) nP (fun a h => .inr (h0 a h)) (fun h => ?_) (fun p hp z => absurd z (bo p hp)) (SR.mono Kept.rfl' (fun b z => .inl ?_) (fun _ _ _ z => z) s)
  · cases v with
    | sh d => exact s.1
    | ow m => exact absurd rfl (h m)
    | scr ns => exact s.1
  · rcases z with z | z
    · exact .inl (List.mem_append_right _ z)
    · obtain ⟨j, hj⟩ := flat_mem.mp z
      by_cases q : i = j
      · subst q
        rw [fp_set_same hF] at hj
        exact .inl (List.mem_append_left _ hj)
      · rw [fp_set_ne q] at hj
        exact .inr (flat_mem.mpr ⟨j, hj⟩)
theorem fresh0 {P : List Addr} (R : ER C O F H σ env) (f : ∀ a ∈ P, H a = none) : ∀ a ∈ P, C.H0 a = none := fun a h => by
  cases q : C.H0 a with
  | none => rfl
  | some o => exact absurd (f a h) (R.old a (by rw [q]; simp))
/-- a step, then P into slot i, P fresh before the step -/
theorem Step.into {F1 : List (List Addr)} {H1 : Hp} {P : List Addr} (s : Step F H F1 H1) (f : ∀ a ∈ P, H a = none) : Step F H (F1.set i P) H1 := by
  refine ⟨s.keep, fun a z => ?_, s.alive⟩
  by_cases hi : i < F1.length
  · obtain ⟨j, hj⟩ := flat_mem.mp z
    by_cases q : i = j
    · subst q
      rw [fp_set_same hi] at hj
      exact .inr (f a hj)
    · rw [fp_set_ne q] at hj
      exact s.new a (flat_mem.mpr ⟨j, hj⟩)
  · rw [List.set_eq_of_length_le (by omega)] at z
    exact s.new a z
/-- slot i's object changes in place -/
theorem ER.turn {a : Addr} {m m' : MO} {o : HO} (hone : m.one = true) (R : ER C O1 F H σ env) (ho : ∀ a ∈ O, a ∈ O1) (e : Env.at env i = some (.ow m)) (e1 : σ[i]? = some (some (.ref a))) (ha : H a ≠ none) (mo : Mu o) (h : MR C.K (upd H a o) (Nn O F) [a] a m') :
    ER C O F (upd H a o) σ (env.set i (some (.ow m'))) ∧ Step F H F (upd H a o) := by
  have hi := at_lt e
  obtain ⟨x, e2, b, e3, hm⟩ := R.slot i _ e
  rw [e1] at e2
  cases e2
  have e4 := V.ref.inj e3
  subst e4
  have hfp := MR.fp hm hone
  have hin : a ∈ fpAt F i := by rw [hfp]; simp
  have hflat : a ∈ F.flatten := flat_mem.mpr ⟨i, hin⟩
  have other : ∀ b, b ≠ a → upd H a o b = H b := fun b hb => upd_ne hb
  have kp : Kept (Nn O1 F) H (upd H a o) := fun b u q z => by
    by_cases hb : b = a
    · subst hb
      rcases z with z | z
      · exact absurd (.inr hflat) z
      · obtain ⟨u', q', mu⟩ := R.mt b (.inr hflat)
        rw [q] at q'; cases q'
        exact absurd mu z
    · rw [other b hb]; exact q
  have l : Less H (Nn O1 F) (Nn O F) := fun b z => .inl (z.elim (fun y => .inl (ho b y)) .inr)
  have al : ∀ b, H b ≠ none → upd H a o b ≠ none := fun b z => by
    by_cases hb : b = a
    · subst hb; rw [upd_same]; simp
    · rw [other b hb]; exact z
  refine ⟨⟨by rw [List.length_set, R.lenσ], by rw [List.length_set, R.lenF], fun j w q => ?_, fun j z => ?_, R.nd, fun b hb => R.dis b (ho b hb), fun b z => ?_, fun b u q n => ?_, R.new, fun b z => al b (R.old b z), R.bor⟩, ⟨fun b u q n => ?_, fun b z => .inl z, al⟩⟩
  · by_cases hj : i = j
    · subst hj
      rw [at_set_same hi] at q
      cases q
      exact ⟨_, e1, a, rfl, by rw [hfp]; exact h⟩
    · rw [at_set_ne hj] at q
      obtain ⟨y, q1, r⟩ := R.slot j w q
      refine ⟨y, q1, SR.mono kp l (fun b hb u q2 => ?_) r⟩
      rw [other b fun z => R.apart.2 i j a hj hin (by rw [← z]; exact hb)]
      exact q2
  · by_cases hj : i = j
    · subst hj
      exact absurd (at_set_same hi) (z m')
    · exact R.emp j fun m2 q => z m2 (by rw [at_set_ne hj]; exact q)
  · by_cases hb : b = a
    · subst hb
      exact ⟨o, upd_same, mo⟩
    · rw [other b hb]
      exact R.mt b (z.elim (fun y => .inl (ho b y)) .inr)
  · have hb : b ≠ a := fun z => by
      subst z
      rcases R.new b hflat with y | y
      · exact n y
      · rw [q] at y; cases y
    rw [other b hb]
    exact R.fr b u q n
  · have hb : b ≠ a := fun z => n (by rw [z]; exact hflat)
    rw [other b hb]; exact q
end
end Pv

/-! PvM: the rules for expressions, as readings by the by-value machine. -/
set_option linter.all false
set_option maxRecDepth 100000
set_option maxHeartbeats 2000000
namespace Pv
open PySem PySem.Spec L2

/-- what is to hold behind a piece's end -/
def Fin {α β : Type} (C : Cf) (EX : EXT) (post : List Addr → List (List Addr) → Hp → St → Env → α → β → Hp → Prop) (O : List Addr) (F : List (List Addr)) (H : Hp) (σ : St) (Q : β → Hp → Prop) : Res α → Prop
  | .ok a env' => ∀ b H', post O F H σ env' a b H' → Q b H'
  | .ex e env' => ∀ F' H', ER C O F' H' σ env' → Step F H F' H' → EX e env' σ H'
  | .no => False
section
variable {C : Cf} {O : List Addr} {F F1 : List (List Addr)} {H H1 : Hp} {σ : St} {env env1 : Env} {EX : EXT} {α β : Type}
theorem rg_iff {m : Env → Res α} {post : List Addr → List (List Addr) → Hp → St → Env → α → β → Hp → Prop} {Q : β → Hp → Prop} : Rg C EX m post σ H Q ↔ ∃ O F env, ER C O F H σ env ∧ Fin C EX post O F H σ Q (m env) := by
  unfold Rg
  constructor
  · rintro ⟨O, F, env, R, h⟩
    refine ⟨O, F, env, R, ?_⟩
    cases e : m env <;> rw [e] at h <;> exact h
  · rintro ⟨O, F, env, R, h⟩
    refine ⟨O, F, env, R, ?_⟩
    cases e : m env <;> rw [e] at h <;> exact h
/-- the places at which the later pieces end, seen from the first state -/
theorem Fin.ex_of {P : List Addr} {e : Exn} {env' : Env} (s : Step F H F1 H1) (h : ∀ F' H', ER C O F' H' σ env' → Step F H F' H' → EX e env' σ H') : ∀ F' H', ER C (P ++ O) F' H' σ env' → Step F1 H1 F' H' → EX e env' σ H' :=
  fun F' H' R t => h F' H' (R.drop fun a ha => List.mem_append_right _ ha) (s.trans t)
/-- one operand -/
theorem op1 {ma : Env → Res Od} {k : Od → Env → Res α} {post : List Addr → List (List Addr) → Hp → St → Env → α → β → Hp → Prop} {Q : β → Hp → Prop} {G : V → Hp → Prop} (R : ER C O F H σ env)
    (h : Fin C EX post O F H σ Q ((ma env).bind k))
    (g : ∀ o env1 F1 P x H1, ER C (P ++ O) F1 H1 σ env1 → Step F H F1 H1 → (∀ a ∈ P, H a = none) → OR C.K H1 (Nn (P ++ O) F1) σ P [o] [x] → Fin C EX post O F H σ Q (k o env1) → G x H1) : TO C EX ma σ H G := by
  refine TO.intro R (fun o env1 e1 F1 P1 x H1 R1 s1 f1 r1 => g o env1 F1 P1 x H1 R1 s1 f1 r1 ?_) (fun e env' e1 => ?_) (fun e1 => ?_)
  · rw [e1] at h; exact h
  · rw [e1] at h; exact h
  · rw [e1] at h; exact h
/-- two -/
theorem op2 {ma mb : Env → Res Od} {k : Od → Od → Env → Res α} {post : List Addr → List (List Addr) → Hp → St → Env → α → β → Hp → Prop} {Q : β → Hp → Prop} {G : V → V → Hp → Prop} (R : ER C O F H σ env)
    (h : Fin C EX post O F H σ Q ((ma env).bind fun o env1 => (mb env1).bind fun p env2 => k o p env2))
    (g : ∀ o p env2 F2 P x y H2, ER C (P ++ O) F2 H2 σ env2 → Step F H F2 H2 → (∀ a ∈ P, H a = none) → OR C.K H2 (Nn (P ++ O) F2) σ P [o, p] [x, y] → Fin C EX post O F H σ Q (k o p env2) → G x y H2) :
    TO C EX ma σ H fun x H1 => TO C EX mb σ H1 fun y H2 => G x y H2 := by
  refine op1 R h fun o env1 F1 P1 x H1 R1 s1 f1 r1 h1 => ?_
  refine TO.intro R1 (fun p env2 e2 F2 P2 y H2 R2 s2 f2 r2 => ?_) (fun e env' e2 => ?_) (fun e2 => ?_)
  · rw [e2] at h1
    obtain ⟨F', P, R', s', f', r'⟩ := PVs.cons R1 s1 f1 r1 ⟨F2, P2, R2, s2, f2, r2⟩
    exact g o p env2 F' P x y H2 R' s' f' r' h1
  · rw [e2] at h1
    exact Fin.ex_of s1 h1
  · rw [e2] at h1; exact h1
theorem argsN {ma : Env → Res (List Od)} {k : List Od → Env → Res α} {post : List Addr → List (List Addr) → Hp → St → Env → α → β → Hp → Prop} {Q : β → Hp → Prop} {G : List V → Hp → Prop} (R : ER C O F H σ env)
    (h : Fin C EX post O F H σ Q ((ma env).bind k))
    (g : ∀ os env1 F1 P xs H1, ER C (P ++ O) F1 H1 σ env1 → Step F H F1 H1 → (∀ a ∈ P, H a = none) → OR C.K H1 (Nn (P ++ O) F1) σ P os xs → Fin C EX post O F H σ Q (k os env1) → G xs H1) : TAs C EX ma σ H G := by
  refine TAs.intro R (fun os env1 e1 xs H1 ⟨F1, P1, R1, s1, f1, r1⟩ => g os env1 F1 P1 xs H1 R1 s1 f1 r1 ?_) (fun e env' e1 => ?_) (fun e1 => ?_)
  · rw [e1] at h; exact h
  · rw [e1] at h; exact h
  · rw [e1] at h; exact h
theorem op1A {ma : Env → Res Od} {mb : Env → Res (List Od)} {k : Od → List Od → Env → Res α} {post : List Addr → List (List Addr) → Hp → St → Env → α → β → Hp → Prop} {Q : β → Hp → Prop} {G : V → List V → Hp → Prop} (R : ER C O F H σ env)
    (h : Fin C EX post O F H σ Q ((ma env).bind fun o env1 => (mb env1).bind fun p env2 => k o p env2))
    (g : ∀ o p env2 F2 P x y H2, ER C (P ++ O) F2 H2 σ env2 → Step F H F2 H2 → (∀ a ∈ P, H a = none) → OR C.K H2 (Nn (P ++ O) F2) σ P (o :: p) (x :: y) → Fin C EX post O F H σ Q (k o p env2) → G x y H2) :
    TO C EX ma σ H fun x H1 => TAs C EX mb σ H1 fun y H2 => G x y H2 := by
  refine op1 R h fun o env1 F1 P1 x H1 R1 s1 f1 r1 h1 => ?_
  refine TAs.intro R1 (fun p env2 e2 ys H2 q => ?_) (fun e env' e2 => ?_) (fun e2 => ?_)
  · rw [e2] at h1
    obtain ⟨F', P, R', s', f', r'⟩ := PVs.cons R1 s1 f1 r1 q
    exact g o p env2 F' P x ys H2 R' s' f' r' h1
  · rw [e2] at h1
    exact Fin.ex_of s1 h1
  · rw [e2] at h1; exact h1
/-- a test ahead -/
theorem opB {ma : Env → Res Bool} {k : Bool → Env → Res α} {post : List Addr → List (List Addr) → Hp → St → Env → α → β → Hp → Prop} {Q : β → Hp → Prop} {G : Bool → Hp → Prop} (R : ER C O F H σ env)
    (h : Fin C EX post O F H σ Q ((ma env).bind k))
    (g : ∀ b env1 F1 H1, ER C O F1 H1 σ env1 → Step F H F1 H1 → Fin C EX post O F H σ Q (k b env1) → G b H1) : TB C EX ma σ H G := by
  refine TB.intro R (fun b env1 e1 F1 H1 R1 s1 => g b env1 F1 H1 R1 s1 ?_) (fun e env' e1 => ?_) (fun e1 => ?_)
  · rw [e1] at h; exact h
  · rw [e1] at h; exact h
  · rw [e1] at h; exact h
theorem opV {ma : Env → Res Val} {k : Val → Env → Res α} {post : List Addr → List (List Addr) → Hp → St → Env → α → β → Hp → Prop} {Q : β → Hp → Prop} {G : V → Hp → Prop} (R : ER C O F H σ env)
    (h : Fin C EX post O F H σ Q ((ma env).bind k))
    (g : ∀ v env1 F1 P x H1, ER C (P ++ O) F1 H1 σ env1 → Step F H F1 H1 → (∀ a ∈ P, H a = none) → SR C.K H1 (Nn (P ++ O) F1) P x v → Fin C EX post O F H σ Q (k v env1) → G x H1) : TV C EX ma σ H G := by
  refine TV.intro R (fun v env1 e1 F1 P1 x H1 R1 s1 f1 r1 => g v env1 F1 P1 x H1 R1 s1 f1 r1 ?_) (fun e env' e1 => ?_) (fun e1 => ?_)
  · rw [e1] at h; exact h
  · rw [e1] at h; exact h
  · rw [e1] at h; exact h
/-- from a later state, the earlier places kept -/
theorem Fin.later {r : Res Val} {Q : V → Hp → Prop} (s : Step F H F1 H1) (h : Fin C EX (PV C) O F H σ Q r) : Fin C EX (PV C) O F1 H1 σ Q r := by
  cases r with
  | ok v env' =>
    intro b H' ⟨F', P, R, t, f, q⟩
    refine h b H' ⟨F', P, R, s.trans t, fun a ha => ?_, q⟩
    cases e : H a with
    | none => rfl
    | some u => exact absurd (f a ha) (s.alive a (by rw [e]; simp))
  | ex e env' => exact fun F' H' R t => h F' H' R (s.trans t)
  | no => exact h
theorem Fin.laterB {r : Res Bool} {Q : Bool → Hp → Prop} (s : Step F H F1 H1) (h : Fin C EX (PB C) O F H σ Q r) : Fin C EX (PB C) O F1 H1 σ Q r := by
  cases r with
  | ok v env' =>
    intro b H' ⟨e, F', R, t⟩
    exact h b H' ⟨e, F', R, s.trans t⟩
  | ex e env' => exact fun F' H' R t => h F' H' R (s.trans t)
  | no => exact h
theorem plainV {o : Od} {v : Val} (e : o.val env = some v) (h : ∀ ns, v ≠ .scr ns) : v.plain = true := by
  cases v with
  | sh d => rfl
  | ow m => cases m <;> first | rfl | exact absurd rfl (od_ndol e _)
  | scr ns => exact absurd rfl (h ns)
theorem od_val {o : Od} {v : Val} (e : o.val env = some v) : o.data env = some v.data := by
  unfold Od.data; rw [e]; rfl
theorem od_data {o : Od} {d : PyData} (e : o.data env = some d) : ∃ v, o.val env = some v ∧ v.data = d := by
  unfold Od.data at e
  cases q : o.val env with
  | none => rw [q] at e; cases e
  | some v => rw [q] at e; exact ⟨v, rfl, Option.some.inj e⟩
/-- operands as data, read only -/
theorem OR.data1 {P : List Addr} {o : Od} {x : V} {d : PyData} (R : ER C (P ++ O) F H σ env) (r : OR C.K H (Nn (P ++ O) F) σ P [o] [x]) (e : o.data env = some d) : Dq C.K H (Nn (P ++ O) F) x d := by
  obtain ⟨v, e1, e2⟩ := od_data e
  obtain ⟨fp, s⟩ := OR.at_ R r e1
  rw [← e2]
  exact s.read (od_ndol e1)
theorem OR.data2 {P : List Addr} {o p : Od} {x y : V} {d e : PyData} (R : ER C (P ++ O) F H σ env) (r : OR C.K H (Nn (P ++ O) F) σ P [o, p] [x, y]) (e1 : o.data env = some d) (e2 : p.data env = some e) :
    Dq C.K H (Nn (P ++ O) F) x d ∧ Dq C.K H (Nn (P ++ O) F) y e := by
  obtain ⟨v, a1, a2⟩ := od_data e1
  obtain ⟨w, b1, b2⟩ := od_data e2
  obtain ⟨⟨f1, s1⟩, f2, s2⟩ := OR.two R r a1 b1
  rw [← a2, ← b2]
  exact ⟨s1.read (od_ndol a1), s2.read (od_ndol b1)⟩
theorem od_one {K : PySem.W.Frag} {N : Addr → Prop} {slot : ∀ i v, Env.at env i = some v → ∃ x, σ[i]? = some (some x) ∧ SR K H N (fpAt F i) x v} : ∀ {P : List Addr} {os : List Od} {xs : List V} {ds : List PyData}, OR K H N σ P os xs → opdata os env = some ds → DqL K H N xs ds
  | _, [], [], ds, .nil, e => by
    cases e
    exact trivial
  | _, o :: os, x :: xs, ds, r, e => by
    unfold opdata at e
    cases q1 : o.data env with
    | none => rw [q1] at e; cases e
    | some d =>
      cases q2 : opdata os env with
      | none => rw [q1, q2] at e; cases e
      | some es =>
        rw [q1, q2] at e
        cases e
        obtain ⟨v, a1, a2⟩ := od_data q1
        rw [← a2]
        cases r with
        | vl s t =>
          have a2' := rd_of a1
          obtain ⟨a3, a4⟩ := a2'
          subst a3
          exact ⟨s.read a4, od_one (slot := slot) t q2⟩
        | pk s t =>
          obtain ⟨y, e1, z⟩ := slot _ v (pk_val a1).1
          rw [e1] at s; cases s
          exact ⟨z.read (pk_val a1).2, od_one (slot := slot) t q2⟩
theorem OR.dataN {P : List Addr} {os : List Od} {xs : List V} {ds : List PyData} (R : ER C (P ++ O) F H σ env) (r : OR C.K H (Nn (P ++ O) F) σ P os xs) (e : opdata os env = some ds) : DqL C.K H (Nn (P ++ O) F) xs ds :=
  od_one (slot := R.slot) r e
end

section
variable {X : Cx} {C : Cf} {EX : EXT} {a b c e : Expr} {es : List Expr} {pos : Pos} {ma mb mc : Env → Res Od} {mv mw : Env → Res Val} {mt : Env → Res Bool} {ms : Env → Res (List Od)}
/-- a value as an operand -/
theorem r_vl (h : PE X e (TV C EX mv)) : PE X e (TO C EX fun env => (mv env).bind fun v env1 => .ok (.vl v) env1) := h.weak fun σ H Q q => by
  obtain ⟨O, F, env, R, q⟩ := rg_iff.mp q
  exact opV R q fun v env1 F1 P x H1 R1 s1 f1 r1 k => k x H1 (PV.o ⟨F1, P, R1, s1, f1, r1⟩)
/-- an operation's value -/
theorem fin_new {O P : List Addr} {F F1 : List (List Addr)} {H H1 : Hp} {σ : St} {env1 : Env} {Q : V → Hp → Prop} {v : Val} (R1 : ER C (P ++ O) F1 H1 σ env1) (s1 : Step F H F1 H1) (f1 : ∀ a ∈ P, H a = none)
    (k : Fin C EX (PV C) O F H σ Q (.ok v env1)) : ∀ z H', New C.K H1 (Nn (P ++ O) F1) H' z v → Q z H' := fun z H' n => k z H' (New.fin R1 s1 f1 n)
theorem r_cst {d : PyData} (h : ∃ v, PE X e (tC v) ∧ ∀ H N, Dn C.K H N v d) : PE X e (TV C EX fun env => .ok (.sh d) env) := by
  obtain ⟨v, h, dn⟩ := h
  refine h.weak fun σ H Q q => ?_
  obtain ⟨O, F, env, R, q⟩ := rg_iff.mp q
  exact q v H ⟨F, [], R, Step.refl, fun a ha => by simp at ha, rfl, dn _ _⟩
theorem r_bin {op : Bop} (hK : C.K = X.K) (ha : PE X a (TO C EX ma)) (hb : PE X b (TO C EX mb)) : PE X (.BinOp a (bopO op) b pos) (TV C EX fun env => (ma env).bind fun x env1 => (mb env1).bind fun y env2 =>
      match x.val env2, y.val env2 with
      | some (.scr _), _ => .no
      | _, some (.scr _) => .no
      | some v, some w => Res.opt (binD op v.data w.data) env2
      | _, _ => .no) := (pe_op (bin_ok op) ha hb).weak fun σ H Q q => by
  obtain ⟨O, F, env, R, q⟩ := rg_iff.mp q
  refine op2 R q fun o p env2 F2 P x y H2 R2 s2 f2 r2 k => ?_
  rw [← hK]
  have fin : ∀ v w, o.val env2 = some v → p.val env2 = some w → v.plain = true → w.plain = true → Fin C EX (PV C) O F H σ Q (Res.opt (binD op v.data w.data) env2) → rBin C.K op x y H2 Q := fun v w e1 e2 p1 p2 k => by
    obtain ⟨⟨g1, t1⟩, g2, t2⟩ := OR.two R2 r2 e1 e2
    cases e3 : binD op v.data w.data with
    | none => rw [e3] at k; exact k.elim
    | some r =>
      rw [e3] at k
      exact ⟨_, _, _, r, t1.top p1, t2.top p2, e3, fin_new R2 s2 f2 k⟩
  cases e1 : o.val env2 with
  | none =>
    rw [e1] at k
    cases e2 : p.val env2 with
    | none => rw [e2] at k; exact k.elim
    | some w => rw [e2] at k; cases w <;> exact k.elim
  | some v =>
    rw [e1] at k
    cases v with
    | scr ns => exact k.elim
    | sh d =>
      cases e2 : p.val env2 with
      | none => rw [e2] at k; exact k.elim
      | some w =>
        rw [e2] at k
        cases w with
        | scr ns => exact k.elim
        | sh d' => exact fin _ _ e1 e2 (plainV e1 (by intro _ z; cases z)) (plainV e2 (by intro _ z; cases z)) k
        | ow m' => exact fin _ _ e1 e2 (plainV e1 (by intro _ z; cases z)) (plainV e2 (by intro _ z; cases z)) k
    | ow m =>
      cases e2 : p.val env2 with
      | none => rw [e2] at k; exact k.elim
      | some w =>
        rw [e2] at k
        cases w with
        | scr ns => exact k.elim
        | sh d' => exact fin _ _ e1 e2 (plainV e1 (by intro _ z; cases z)) (plainV e2 (by intro _ z; cases z)) k
        | ow m' => exact fin _ _ e1 e2 (plainV e1 (by intro _ z; cases z)) (plainV e2 (by intro _ z; cases z)) k
theorem r_neg (hK : C.K = X.K) (ha : PE X a (TO C EX ma)) : PE X (.UnaryOp .USub a pos) (TV C EX fun env => (ma env).bind fun x env1 => match x.data env1 with
    | some (.int i) => .ok (.sh (.int (-i))) env1
    | _ => .no) := (pe_un un_neg ha).weak fun σ H Q q => by
  obtain ⟨O, F, env, R, q⟩ := rg_iff.mp q
  refine op1 R q fun o env1 F1 P x H1 R1 s1 f1 r1 k => ?_
  split at k
  · rename_i i e1
    have d := OR.data1 R1 r1 e1
    rw [hK] at d
    exact ⟨i, d.int, fin_new R1 s1 f1 k _ _ (New.same (.int _))⟩
  · exact k.elim
theorem r_not (hK : C.K = X.K) (ha : PE X a (TO C EX ma)) : PE X (.UnaryOp .Not a pos) (TV C EX fun env => (ma env).bind fun x env1 => match x.data env1 with
    | some d => Res.opt ((truD d).map fun b => .sh (.bool (!b))) env1
    | none => .no) := by
  refine ⟨fun pins s σ H Q I q => ?_⟩
  obtain ⟨O, F, env, R, q⟩ := rg_iff.mp q
  have go := op1 (G := fun x H1 => ∃ k, TruV X.K x H1 k ∧ Q (.bl (!k)) H1) R q fun o env1 F1 P x H1 R1 s1 f1 r1 k => by
    cases e1 : o.data env1 with
    | none => rw [e1] at k; exact k.elim
    | some d =>
      rw [e1] at k
      cases e2 : truD d with
      | none =>
        simp only [e2] at k
        exact k.elim
      | some b =>
        simp only [e2] at k
        have dq := OR.data1 R1 r1 e1
        rw [hK] at dq
        exact ⟨b, dq.truth e2, fin_new R1 s1 f1 k _ _ (New.same (.bl _))⟩
  refine PyProof.Rows.UnaryOp_ (thn (ha.run pins s σ H _ I go) fun v s1 ⟨x, H1, I1, r1, k, t, q1⟩ => ?_)
  exact PyProof.Rows.not_of (thn (tru_ok pins s1 σ H1 x v (fun k' H' => Q (.bl (!k')) H') I1 r1 ⟨k, t, q1⟩) fun k' s2 ⟨H2, I2, q2⟩ => ⟨.bl (!k'), H2, I2, rfl, q2⟩)
theorem r_cmp {op : Cop} (hK : C.K = X.K) (hu : X.A.units + 191 < cLine) (hm : behindInMarks (copO op) b = false) (ha : PE X a (TO C EX ma)) (hb : PE X b (TO C EX mb)) : PE X (.Compare a [copO op] [b] pos) (TV C EX fun env => (ma env).bind fun x env1 => (mb env1).bind fun y env2 =>
      match x.data env2, y.data env2 with
      | some d, some e => Res.opt ((cmpD op d e).map fun k => .sh (.bool k)) env2
      | _, _ => .no) := (pe_cmpR (cmp_ok op hu) ha hb hm).weak fun σ H Q q => by
  obtain ⟨O, F, env, R, q⟩ := rg_iff.mp q
  refine op2 R q fun o p env2 F2 P x y H2 R2 s2 f2 r2 k => ?_
  split at k
  · rename_i d e' e1 e2
    obtain ⟨d1, d2⟩ := OR.data2 R2 r2 e1 e2
    cases e3 : cmpD op d e' with
    | none => simp only [e3] at k; exact k.elim
    | some r =>
      simp only [e3] at k
      rw [hK] at d1 d2
      exact ⟨_, _, _, r, d1, d2, e3, fin_new R2 s2 f2 k _ _ (New.same (.bl _))⟩
  · exact k.elim
/-- the same as a test -/
theorem r_cmpT {op : Cop} (hK : C.K = X.K) (hu : X.A.units + 191 < cLine) (hm : behindInMarks (copO op) b = false) (ha : PE X a (TO C EX ma)) (hb : PE X b (TO C EX mb)) : PT X (.Compare a [copO op] [b] pos) (TB C EX fun env => (ma env).bind fun x env1 => (mb env1).bind fun y env2 =>
      match x.data env2, y.data env2 with
      | some d, some e => Res.opt (cmpD op d e) env2
      | _, _ => .no) := (pt_cmpR (cmp_ok op hu) ha hb hm).weak fun σ H Q q => by
  obtain ⟨O, F, env, R, q⟩ := rg_iff.mp q
  refine op2 (G := fun x y H2 => rCmp X.K op x y H2 fun z H' => ∃ k, z = .bl k ∧ Q k H') R q fun o p env2 F2 P x y H2 R2 s2 f2 r2 k => ?_
  split at k
  · rename_i d e' e1 e2
    obtain ⟨d1, d2⟩ := OR.data2 R2 r2 e1 e2
    cases e3 : cmpD op d e' with
    | none => simp only [e3] at k; exact k.elim
    | some r =>
      simp only [e3] at k
      rw [hK] at d1 d2
      exact ⟨_, _, _, r, d1, d2, e3, r, rfl, k r H2 ⟨rfl, F2, R2.drop fun a ha => List.mem_append_right _ ha, s2⟩⟩
  · exact k.elim
theorem r_idx (hK : C.K = X.K) (hu : X.A.units + 1 < cLine) (hs : PlainIx b) (ha : PE X a (TO C EX ma)) (hb : PE X b (TO C EX mb)) : PE X (.Subscript a b pos) (TV C EX fun env => (ma env).bind fun x env1 => (mb env1).bind fun y env2 =>
      match x.data env2, y.data env2 with
      | some d, some e => Res.opt ((idxD d e).map .sh) env2
      | _, _ => .no) := (pe_ix (idx_ok hu) ha hb hs).weak fun σ H Q q => by
  obtain ⟨O, F, env, R, q⟩ := rg_iff.mp q
  refine op2 R q fun o p env2 F2 P x y H2 R2 s2 f2 r2 k => ?_
  split at k
  · rename_i d e' e1 e2
    obtain ⟨d1, d2⟩ := OR.data2 R2 r2 e1 e2
    cases e3 : idxD d e' with
    | none => simp only [e3] at k; exact k.elim
    | some r =>
      simp only [e3] at k
      rw [← hK]
      exact ⟨_, _, _, r, d1, d2, e3, fun z dz => fin_new R2 s2 f2 k _ _ (New.same dz)⟩
  · exact k.elim
theorem share_dn {C : Cf} {O P : List Addr} {F : List (List Addr)} {H : Hp} {σ : St} {env : Env} {fp : List Addr} {x : V} {v : Val} {d : PyData} (R : ER C (P ++ O) F H σ env) (hP : ∀ a ∈ P, a ∉ O) (hf : ∀ a ∈ fp, a ∈ P) (s : SR C.K H (Nn (P ++ O) F) fp x v) (e : v.share = some d) : Dn C.K H (Nn O F) x d := by
  have l : Less H (Nn (P ++ O) F) (Nn O F) := fun b z => .inl (z.elim (fun y => .inl (List.mem_append_right _ y)) .inr)
  have no : ∀ a, fp = [a] → ¬ Nn O F a := fun a q z => by
    have ha : a ∈ P := hf a (by rw [q]; simp)
    rcases z with z | z
    · exact hP a ha z
    · exact R.dis a (List.mem_append_left _ ha) z
  cases v with
  | sh d' =>
    cases e
    exact Dn.mono Kept.rfl' l _ _ s.2
  | ow m =>
    obtain ⟨a, rfl, h⟩ := s
    cases m with
    | lst ds =>
      cases e
      obtain ⟨q, xs, h1, h2⟩ := h
      exact .lst (no a q) h1 (DnAll.mono Kept.rfl' l _ _ h2)
    | dic ps =>
      cases e
      obtain ⟨q, xs, h1, h2⟩ := h
      exact .dic (no a q) (.inl h1) (DnKv.mono Kept.rfl' l _ _ h2)
    | dol ps => cases e
  | scr ns => cases e
theorem share_all {C : Cf} {O P : List Addr} {F : List (List Addr)} {H : Hp} {σ : St} {env : Env} (R : ER C (P ++ O) F H σ env) (hP : ∀ a ∈ P, a ∉ O) : ∀ {P' : List Addr} {vs : List Val} {xs : List V} {ds : List PyData}, (∀ a ∈ P', a ∈ P) →
    OR C.K H (Nn (P ++ O) F) σ P' (vs.map .vl) xs → shareAll vs = some ds → DnAll C.K H (Nn O F) xs ds
  | _, [], [], ds, _, .nil, e => by cases e; exact .nil
  | _, v :: vs, x :: xs, ds, hp, r, e => by
    unfold shareAll at e
    cases q1 : v.share with
    | none => rw [q1] at e; cases e
    | some d =>
      cases q2 : shareAll vs with
      | none => rw [q1, q2] at e; cases e
      | some es =>
        rw [q1, q2] at e
        cases e
        cases r with
        | vl s t => exact .cons (share_dn R hP (fun a ha => hp a (List.mem_append_left _ ha)) s q1) (share_all R hP (fun a ha => hp a (List.mem_append_right _ ha)) t q2)
theorem fresh_off {C : Cf} {O P : List Addr} {F : List (List Addr)} {H : Hp} {σ : St} {env : Env} (R : ER C O F H σ env) (f : ∀ a ∈ P, H a = none) : ∀ a ∈ P, a ∉ O := fun a ha z => by
  obtain ⟨o, e, _⟩ := R.mt a (.inl z)
  rw [f a ha] at e; cases e
/-- values in a row, as operands -/
def vls (m : Env → Res (List Val)) : Env → Res (List Od) := fun env => (m env).bind fun vs env1 => .ok (vs.map .vl) env1
theorem vls_fin {C : Cf} {O : List Addr} {F : List (List Addr)} {H : Hp} {σ : St} {EX : EXT} {α β : Type} {m : Env → Res (List Val)} {k : List Val → Env → Res α} {post : List Addr → List (List Addr) → Hp → St → Env → α → β → Hp → Prop} {Q : β → Hp → Prop} {G : List V → Hp → Prop} {env : Env} (R : ER C O F H σ env)
    (h : Fin C EX post O F H σ Q ((m env).bind k))
    (g : ∀ vs env1 F1 P xs H1, ER C (P ++ O) F1 H1 σ env1 → Step F H F1 H1 → (∀ a ∈ P, H a = none) → OR C.K H1 (Nn (P ++ O) F1) σ P (vs.map .vl) xs → Fin C EX post O F H σ Q (k vs env1) → G xs H1) : TAs C EX (vls m) σ H G := by
  unfold vls
  refine TAs.intro R (fun os env1 e1 xs H1 ⟨F1, P1, R1, s1, f1, r1⟩ => ?_) (fun e env' e1 => ?_) (fun e1 => ?_)
  · cases q : m env with
    | ok vs env2 =>
      rw [q] at e1 h
      cases e1
      exact g vs _ F1 P1 xs H1 R1 s1 f1 r1 h
    | ex e env' => rw [q] at e1; cases e1
    | no => rw [q] at e1; cases e1
  · cases q : m env with
    | ok vs env2 => rw [q] at e1; cases e1
    | ex e env' => rw [q] at e1 h; cases e1; exact h
    | no => rw [q] at e1; cases e1
  · cases q : m env with
    | ok vs env2 => rw [q] at e1; cases e1
    | ex e env' => rw [q] at e1; cases e1
    | no => rw [q] at h; exact h
/-- (e, ..): its object is known -/
def tTupD (t : TA) : TE := fun σ H Q => t σ H fun xs H1 => xs.length ≤ sizeLine ∧ ∀ p o, H1 p = none → o.dict = none → Q (.ref p) (upd H1 p (.frz o (.tup xs)))
open PyProof.Rows in
theorem pe_tupD {t : TA} {x1 : Nat} (h : PA X es t) : PE X (.Tuple es x1 pos) (tTupD t) := by
  refine ⟨fun pins s σ H Q I hq => ?_⟩
  refine wpAny_Tuple_spliced (thn (h.run pos pins s σ H _ I hq) fun us s1 ⟨xs, H1, I1, r, z, q⟩ => ⟨by rw [← r.length]; exact z, ?_⟩)
  have hf : H1 s1.heap.objs.size = none := I1.hok.fresh (Nat.le_refl _)
  refine ⟨.ref s1.heap.objs.size, upd H1 s1.heap.objs.size (.frz { cls := .type "tuple", data := .seq us.toArray } (.tup xs)), I1.laid (t' := s1.toks) (fun b u e => Heap.get?_push_of_some _ e) (Nat.le_refl _) ?_, rfl, q _ _ hf rfl⟩
  exact ⟨Heap.get?_push_size _ rfl, z, us, r, ⟨_, Heap.get?_push_size _ rfl, rfl, _, rfl⟩⟩
theorem r_tup {mvs : Env → Res (List Val)} {j : Nat} (ha : PA X es (TAs C EX (vls mvs))) : PE X (.Tuple es j pos) (TV C EX fun env => (mvs env).bind fun vs env1 => match shareAll vs with
    | some ds => if ds.length ≤ most then .ok (.sh (.tuple ds)) env1 else .no
    | none => .no) := (pe_tupD ha).weak fun σ H Q q => by
  obtain ⟨O, F, env, R, q⟩ := rg_iff.mp q
  refine vls_fin R q fun vs env1 F1 P xs H1 R1 s1 f1 r1 k => ?_
  split at k
  · rename_i ds e1
    have dn := share_all R1 (fresh_off R f1) (fun a h => h) r1 e1
    split at k
    · rename_i hz
      refine ⟨by rw [dn.length, ← most_eq]; exact hz, fun p o hp ho => ?_⟩
      exact fin_new (P := []) (R1.drop fun a ha => List.mem_append_right _ ha) s1 (fun a ha => by simp at ha) k _ _ (New.tup hp ho dn)
    · exact k.elim
  · exact k.elim
theorem r_lst {mvs : Env → Res (List Val)} (ha : PA X es (TAs C EX (vls mvs))) : PE X (.List es pos) (TV C EX fun env => (mvs env).bind fun vs env1 => match shareAll vs with
    | some ds => if ds.length ≤ most then .ok (.ow (.lst ds)) env1 else .no
    | none => .no) := (pe_lst ha).weak fun σ H Q q => by
  obtain ⟨O, F, env, R, q⟩ := rg_iff.mp q
  refine vls_fin R q fun vs env1 F1 P xs H1 R1 s1 f1 r1 k => ?_
  split at k
  · rename_i ds e1
    have dn := share_all R1 (fresh_off R f1) (fun a h => h) r1 e1
    split at k
    · rename_i hz
      refine ⟨by rw [dn.length, ← most_eq]; exact hz, fun p hp => ?_⟩
      exact fin_new (P := []) (R1.drop fun a ha => List.mem_append_right _ ha) s1 (fun a ha => by simp at ha) k _ _ (New.lst hp dn)
    · exact k.elim
  · exact k.elim
theorem r_prim {x : Str} {p : Pr} {p1 : Pos} (hK : C.K = X.K) (hc : CallR X (prV p) (rPr X.K p)) (hg : Gl X x) (hm : X.mg x = none) (hv : bootBuiltins x = some (prV p)) (hn : x ≠ "__name__") (hdb : (x == ("__debug__" : Str)) = false)
    (ht : (∃ id, prV p = .builtin id) ∨ ∃ T, prV p = .type T) (he : starEach (e :: es) X.env = (false, eval e X.env) :: starEach es X.env) (hpl : (backTo pos (starEach es X.env)).any (·.1) = false)
    (ha : PA X (e :: es) (TAs C EX ms)) : PE X (.Call (.Name x p1) (e :: es) [] pos) (TV C EX fun env => (ms env).bind fun os env1 => match opdata os env1 with
    | some ds => Res.opt (primD p ds) env1
    | none => .no) := by
  have go : ∀ σ H Q, TV C EX (fun env => (ms env).bind fun os env1 => match opdata os env1 with | some ds => Res.opt (primD p ds) env1 | none => .no) σ H Q → tCB (rPr X.K p) (TAs C EX ms) σ H Q := fun σ H Q q => by
    obtain ⟨O, F, env, R, q⟩ := rg_iff.mp q
    refine argsN R q fun os env1 F1 P xs H1 R1 s1 f1 r1 k => ?_
    split at k
    · rename_i ds e1
      have dq := OR.dataN R1 r1 e1
      cases e3 : primD p ds with
      | none => simp only [e3] at k; exact k.elim
      | some r =>
        simp only [e3] at k
        rw [← hK]
        exact ⟨_, _, r, dq, e3, fin_new R1 s1 f1 k⟩
    · exact k.elim
  rcases ht with ⟨id, e1⟩ | ⟨T, e1⟩
  · rw [e1] at hc hv
    exact (pe_callB hc hg hm hv ha hn hdb he hpl).weak go
  · rw [e1] at hc hv
    exact (pe_callTy hc hg hm hv ha hn hdb he hpl).weak go
end
end Pv

/-! PvN: more rules: names, and, or, chains, conditionals, slices, methods, pop; tests. -/
set_option linter.all false
set_option maxRecDepth 100000
set_option maxHeartbeats 2000000
namespace Pv
open PySem PySem.Spec L2

theorem Nn.cut {O P : List Addr} {F : List (List Addr)} {H : Hp} : Less H (Nn (P ++ O) F) (Nn O F) := fun b z => .inl (z.elim (fun y => .inl (List.mem_append_right _ y)) .inr)
theorem Nn.nil {O : List Addr} : ([] : List Addr) ++ O = O := rfl
section
variable {X : Cx} {C : Cf} {EX : EXT} {a b c e : Expr} {es : List Expr} {pos : Pos} {ma mb mc : Env → Res Od} {mv mw : Env → Res Val} {mt mu : Env → Res Bool} {ms : Env → Res (List Od)}
/-- a variable as an operand -/
theorem r_pk {x : Str} {i : Nat} (h : PE X (.Name x pos) (tVar i)) : PE X (.Name x pos) (TO C EX fun env => match env.at i with
    | some (.ow (.dol kvs)) => .ok (.pk i) (env.set i (some (.sh (MO.dol kvs).data)))
    | some _ => .ok (.pk i) env
    | none => .no) := h.weak fun σ H Q q => by
  obtain ⟨O, F, env, R, q⟩ := rg_iff.mp q
  cases e : Env.at env i with
  | none => simp only [e] at q; exact q.elim
  | some v =>
    obtain ⟨y, e1, s⟩ := R.slot i v e
    have plain : Fin C EX (PO C) O F H σ Q (.ok (.pk i) env) → tVar i σ H Q := fun q => ⟨y, e1, q y H ⟨F, [], R, Step.refl, fun a ha => by simp at ha, .pk e1 .nil⟩⟩
    cases v with
    | sh d => simp only [e] at q; exact plain q
    | scr d => simp only [e] at q; exact plain q
    | ow m =>
      cases m with
      | lst ds => simp only [e] at q; exact plain q
      | dic ds => simp only [e] at q; exact plain q
      | dol ds =>
        simp only [e] at q
        obtain ⟨R2, z, e2, _⟩ := R.freeze e
        exact ⟨z, e2, q z H ⟨F.set i [], [], R2, Step.less R fun a ha => by simp at ha, fun a ha => by simp at ha, .pk e2 .nil⟩⟩
/-- a variable as a value: a list or dict that the slot owned is shared from then on -/
theorem r_var {x : Str} {i : Nat} (h : PE X (.Name x pos) (tVar i)) : PE X (.Name x pos) (TV C EX fun env => match env.at i with
    | some (.sh d) => .ok (.sh d) env
    | some (.ow (.lst ds)) => .ok (.sh (.list ds)) (env.set i (some (.sh (.list ds))))
    | some (.ow (.dic kvs)) => .ok (.sh (.dict kvs)) (env.set i (some (.sh (.dict kvs))))
    | some (.ow (.dol kvs)) => .ok (.sh (MO.dol kvs).data) (env.set i (some (.sh (MO.dol kvs).data)))
    | some (.scr ns) => .ok (.scr ns) env
    | _ => .no) := h.weak fun σ H Q q => by
  obtain ⟨O, F, env, R, q⟩ := rg_iff.mp q
  cases e : Env.at env i with
  | none => simp only [e] at q; exact q.elim
  | some v =>
    have fz : ∀ m, v = .ow m → ∃ y, σ[i]? = some (some y) ∧ PV C O F H σ (env.set i (some (.sh m.data))) (.sh m.data) y H := fun m e1 => by
      subst e1
      obtain ⟨R2, y, e2, d⟩ := R.freeze e
      exact ⟨y, e2, F.set i [], [], R2, Step.less R fun a ha => by simp at ha, fun a ha => by simp at ha, rfl, d⟩
    cases v with
    | sh d =>
      simp only [e] at q
      obtain ⟨y, e1, s⟩ := R.slot i _ e
      exact ⟨y, e1, q y H ⟨F, [], R, Step.refl, fun a ha => by simp at ha, rfl, s.2⟩⟩
    | scr ns =>
      simp only [e] at q
      obtain ⟨y, e1, s⟩ := R.slot i _ e
      exact ⟨y, e1, q y H ⟨F, [], R, Step.refl, fun a ha => by simp at ha, rfl, s.2⟩⟩
    | ow m =>
      obtain ⟨y, e1, p⟩ := fz m rfl
      cases m with
      | lst ds => simp only [e] at q; exact ⟨y, e1, q y H p⟩
      | dic ds => simp only [e] at q; exact ⟨y, e1, q y H p⟩
      | dol ds => simp only [e] at q; exact ⟨y, e1, q y H p⟩
theorem bool_of {K : PySem.W.Frag} {H : Hp} {N : Addr → Prop} {fp : List Addr} {x : V} {k : Bool} (s : SR K H N fp x (.sh (.bool k))) : fp = [] ∧ x = .bl k := by
  obtain ⟨e, d⟩ := s
  cases d
  exact ⟨e, rfl⟩
theorem r_and {rest : List Expr} (ha : PE X a (TV C EX mv)) (hb : PE X (.BoolOp .And (b :: rest) pos) (TV C EX mw)) : PE X (.BoolOp .And (a :: b :: rest) pos) (TV C EX fun env => (mv env).bind fun v env1 => match v with
      | .sh (.bool true) => mw env1
      | .sh (.bool false) => .ok (.sh (.bool false)) env1
      | _ => .no) := (pe_and ha hb).weak fun σ H Q q => by
  obtain ⟨O, F, env, R, q⟩ := rg_iff.mp q
  refine opV R q fun v env1 F1 P x H1 R1 s1 f1 r1 k => ?_
  split at k
  · obtain ⟨e, ex⟩ := bool_of r1
    subst e
    exact ⟨true, ex, rg_iff.mpr ⟨O, F1, env1, R1, Fin.later s1 k⟩⟩
  · obtain ⟨e, ex⟩ := bool_of r1
    subst e
    exact ⟨false, ex, fin_new R1 s1 f1 k _ _ (New.same (.bl _))⟩
  · exact k.elim
theorem r_or {rest : List Expr} (ha : PE X a (TV C EX mv)) (hb : PE X (.BoolOp .Or (b :: rest) pos) (TV C EX mw)) : PE X (.BoolOp .Or (a :: b :: rest) pos) (TV C EX fun env => (mv env).bind fun v env1 => match v with
      | .sh (.bool false) => mw env1
      | .sh (.bool true) => .ok (.sh (.bool true)) env1
      | _ => .no) := (pe_or ha hb).weak fun σ H Q q => by
  obtain ⟨O, F, env, R, q⟩ := rg_iff.mp q
  refine opV R q fun v env1 F1 P x H1 R1 s1 f1 r1 k => ?_
  split at k
  · obtain ⟨e, ex⟩ := bool_of r1
    subst e
    exact ⟨false, ex, rg_iff.mpr ⟨O, F1, env1, R1, Fin.later s1 k⟩⟩
  · obtain ⟨e, ex⟩ := bool_of r1
    subst e
    exact ⟨true, ex, fin_new R1 s1 f1 k _ _ (New.same (.bl _))⟩
  · exact k.elim
/-- a test by its value's truth -/
theorem r_tru (hK : C.K = X.K) (ha : PE X a (TO C EX ma)) (he : ∀ whole, isTrue a X.env whole = (do let v ← whole; standAt a.pos; holding [v] (truthy v))) : PT X a (TB C EX fun env => (ma env).bind fun x env1 => match x.data env1 with
    | some d => Res.opt (truD d) env1
    | none => .no) := (pt_truth ha he).weak fun σ H Q q => by
  obtain ⟨O, F, env, R, q⟩ := rg_iff.mp q
  refine op1 (G := fun x H' => ∃ k, TruV X.K x H' k ∧ Q k H') R q fun o env1 F1 P x H1 R1 s1 f1 r1 k => ?_
  split at k
  · rename_i d e1
    have dq := OR.data1 R1 r1 e1
    rw [hK] at dq
    cases e3 : truD d with
    | none => rw [e3] at k; exact k.elim
    | some r =>
      rw [e3] at k
      exact ⟨r, dq.truth e3, k r H1 ⟨rfl, F1, R1.drop fun a ha => List.mem_append_right _ ha, s1⟩⟩
  · exact k.elim
theorem r_notT (ha : PT X a (TB C EX mt)) : PT X (.UnaryOp .Not a pos) (TB C EX fun env => (mt env).bind fun b env1 => .ok (!b) env1) := (pt_not ha).weak fun σ H Q q => by
  obtain ⟨O, F, env, R, q⟩ := rg_iff.mp q
  exact opB (G := fun b H1 => Q (!b) H1) R q fun b env1 F1 H1 R1 s1 k => k (!b) H1 ⟨rfl, F1, R1, s1⟩
theorem r_and1 (ha : PT X a (TB C EX mt)) : PW X (.BoolOp .And [a] pos) (TB C EX mt) := pw_and1 ha
theorem _root_.L2.PW.weak {t t' : TT} (h : PW X e t) (w : ∀ σ H Q, t' σ H Q → t σ H Q) : PW X e t' := ⟨fun wh p s σ H Q I q => h.run wh p s σ H Q I (w σ H Q q)⟩
theorem r_andT {rest : List Expr} (ha : PT X a (TB C EX mt)) (hb : PW X (.BoolOp .And (b :: rest) pos) (TB C EX mu)) : PW X (.BoolOp .And (a :: b :: rest) pos) (TB C EX fun env => (mt env).bind fun k env1 => match k with
    | true => mu env1
    | false => .ok false env1) := (pw_and ha hb).weak fun σ H Q q => by
  obtain ⟨O, F, env, R, q⟩ := rg_iff.mp q
  refine opB (G := fun c H1 => if c = true then TB C EX mu σ H1 Q else Q false H1) R q fun k env1 F1 H1 R1 s1 k' => ?_
  cases k with
  | true => exact rg_iff.mpr ⟨O, F1, env1, R1, Fin.laterB s1 k'⟩
  | false => exact k' false H1 ⟨rfl, F1, R1, s1⟩
theorem r_orT {rest : List Expr} (ha : PT X a (TB C EX mt)) (hb : PW X (.BoolOp .Or (b :: rest) pos) (TB C EX mu)) : PW X (.BoolOp .Or (a :: b :: rest) pos) (TB C EX fun env => (mt env).bind fun k env1 => match k with
    | false => mu env1
    | true => .ok true env1) := (pw_or ha hb).weak fun σ H Q q => by
  obtain ⟨O, F, env, R, q⟩ := rg_iff.mp q
  refine opB (G := fun c H1 => if c = true then Q true H1 else TB C EX mu σ H1 Q) R q fun k env1 F1 H1 R1 s1 k' => ?_
  cases k with
  | false => exact rg_iff.mpr ⟨O, F1, env1, R1, Fin.laterB s1 k'⟩
  | true => exact k' true H1 ⟨rfl, F1, R1, s1⟩
theorem r_ife (hc : PT X c (TB C EX mt)) (ha : PE X a (TV C EX mv)) (hb : PE X b (TV C EX mw)) : PE X (.IfExp c a b pos) (TV C EX fun env => (mt env).bind fun k env1 => match k with
    | true => mv env1
    | false => mw env1) := (pe_ifExp hc ha hb).weak fun σ H Q q => by
  obtain ⟨O, F, env, R, q⟩ := rg_iff.mp q
  refine opB (G := fun d H1 => if d = true then TV C EX mv σ H1 Q else TV C EX mw σ H1 Q) R q fun k env1 F1 H1 R1 s1 k' => ?_
  cases k with
  | true => exact rg_iff.mpr ⟨O, F1, env1, R1, Fin.later s1 k'⟩
  | false => exact rg_iff.mpr ⟨O, F1, env1, R1, Fin.later s1 k'⟩
/-- a op b op' c -/
def chainK (op op' : Cop) (mc : Env → Res Od) (x y : Od) (env2 : Env) : Res Val :=
  match x.data env2, y.data env2 with
  | some d, some e => match cmpD op d e with
    | some false => .ok (.sh (.bool false)) env2
    | some true => (mc env2).bind fun z env3 => match y.data env3, z.data env3 with
      | some e', some g => Res.opt ((cmpD op' e' g).map fun k => .sh (.bool k)) env3
      | _, _ => .no
    | none => .no
  | _, _ => .no
theorem chain_w (hK : C.K = X.K) {op op' : Cop} (σ : St) (H : Hp) (Q : VK) (q : TV C EX (fun env => (ma env).bind fun x env1 => (mb env1).bind fun y env2 => chainK op op' mc x y env2) σ H Q) :
    tChain (rCmp X.K op) (rCmp X.K op') (TO C EX ma) (TO C EX mb) (TO C EX mc) σ H Q := by
  obtain ⟨O, F, env, R, q⟩ := rg_iff.mp q
  refine op2 (G := fun x y H2 => rCmp X.K op x y H2 fun z H3 => ∃ k, z = .bl k ∧ (if k = true then TO C EX mc σ H3 fun w' H4 => rCmp X.K op' y w' H4 Q else Q (.bl false) H3)) R q fun o p env2 F2 P x y H2 R2 s2 f2 r2 k => ?_
  unfold chainK at k
  split at k
  · rename_i d e' e1 e2
    obtain ⟨d1, d2⟩ := OR.data2 R2 r2 e1 e2
    rw [hK] at d1 d2
    cases e3 : cmpD op d e' with
    | none => simp only [e3] at k; exact k.elim
    | some r =>
      simp only [e3] at k
      refine ⟨_, _, _, r, d1, d2, e3, r, rfl, ?_⟩
      cases r with
      | false =>
        rw [if_neg Bool.false_ne_true]
        exact fin_new R2 s2 f2 k _ _ (New.same (.bl _))
      | true =>
        rw [if_pos rfl]
        simp only at k
        obtain ⟨P', P0, eP, r3⟩ := r2.tail_
        have sub : ∀ a, a ∈ P' → a ∈ P := fun a ha => by rw [eP]; exact List.mem_append_right _ ha
        have R3 : ER C (P' ++ O) F2 H2 σ env2 := R2.drop fun a ha => (List.mem_append.mp ha).elim (fun z => List.mem_append_left _ (sub a z)) fun z => List.mem_append_right _ z
        have r4 : OR C.K H2 (Nn (P' ++ O) F2) σ P' [p] [y] := OR.mono Kept.rfl' (fun b z => .inl (z.elim (fun w => (List.mem_append.mp w).elim (fun v => .inl (List.mem_append_left _ (sub b v))) fun v => .inl (List.mem_append_right _ v)) .inr)) r3 fun _ _ _ e => e
        refine TO.intro R3 (fun z env3 e4 F4 P4 w H4 R4 s4 f4 r5 => ?_) (fun e env' e4 => ?_) (fun e4 => ?_)
        · rw [e4] at k
          obtain ⟨F5, P5, R5, s5, f5, r6⟩ := PVs.cons R3 s2 (fun a ha => f2 a (sub a ha)) r4 ⟨F4, P4, R4, s4, f4, r5⟩
          replace k : Fin C EX (PV C) O F H σ Q (match p.data env3, z.data env3 with | some e', some g => Res.opt ((cmpD op' e' g).map fun k => .sh (.bool k)) env3 | _, _ => .no) := k
          split at k
          · rename_i d' g' e5 e6
            obtain ⟨d3, d4⟩ := OR.data2 R5 r6 e5 e6
            rw [hK] at d3 d4
            cases e7 : cmpD op' d' g' with
            | none => simp only [e7] at k; exact k.elim
            | some r' =>
              simp only [e7] at k
              exact ⟨_, _, _, r', d3, d4, e7, fin_new R5 s5 f5 k _ _ (New.same (.bl _))⟩
          · exact k.elim
        · rw [e4] at k
          exact Fin.ex_of s2 k
        · rw [e4] at k; exact k
  · exact k.elim
theorem r_chain {op op' : Cop} (hK : C.K = X.K) (hu : X.A.units + 191 < cLine) (hm : lastMarks [copO op, copO op'] [b, c] = false) (ha : PE X a (TO C EX ma)) (hb : PE X b (TO C EX mb)) (hc : PE X c (TO C EX mc)) :
    PE X (.Compare a [copO op, copO op'] [b, c] pos) (TV C EX fun env => (ma env).bind fun x env1 => (mb env1).bind fun y env2 => chainK op op' mc x y env2) := (pe_chain (cmp_ok op hu) (cmp_ok op' hu) ha hb hc hm).weak (chain_w hK)
/-- a comparison's reading as a test -/
theorem r_boolT {t : TE} (h : PT X e (tTest t)) (w : ∀ σ H Q, TV C EX mv σ H Q → t σ H Q) : PT X e (TB C EX fun env => (mv env).bind fun v env1 => match v with
    | .sh d => Res.opt (match d with | .bool k => some k | _ => none) env1
    | _ => .no) := h.weak fun σ H Q q => by
  obtain ⟨O, F, env, R, q⟩ := rg_iff.mp q
  refine w σ H _ (opV R q fun v env1 F1 P x H1 R1 s1 f1 r1 k => ?_)
  cases v with
  | sh d =>
    cases d with
    | bool k' =>
      obtain ⟨e, ex⟩ := bool_of r1
      subst e
      exact ⟨k', ex, k k' H1 ⟨rfl, F1, R1, s1⟩⟩
    | _ => exact k.elim
  | _ => exact k.elim
theorem r_chainT {op op' : Cop} (hK : C.K = X.K) (hu : X.A.units + 191 < cLine) (hm : lastMarks [copO op, copO op'] [b, c] = false) (ha : PE X a (TO C EX ma)) (hb : PE X b (TO C EX mb)) (hc : PE X c (TO C EX mc)) :
    PT X (.Compare a [copO op, copO op'] [b, c] pos) (TB C EX fun env => ((ma env).bind fun x env1 => (mb env1).bind fun y env2 => chainK op op' mc x y env2).bind fun v env1 => match v with
    | .sh d => Res.opt (match d with | .bool k => some k | _ => none) env1
    | _ => .no) := r_boolT (pt_chain (cmp_ok op hu) (cmp_ok op' hu) ha hb hc hm) (chain_w hK)
/-- a slice's part -/
def TP (C : Cf) (EX : EXT) (m : Env → Res (Option Int)) : L2.TO := Rg C EX m fun O F H σ env' o o' H' => o' = o ∧ ∃ F', ER C O F' H' σ env' ∧ Step F H F' H'
theorem _root_.L2.PO.weak {eo : Option Expr} {t t' : L2.TO} (h : L2.PO X eo t) (w : ∀ σ H Q, t' σ H Q → t σ H Q) : L2.PO X eo t' := ⟨fun p s σ H Q I q => h.run p s σ H Q I (w σ H Q q)⟩
theorem r_p0 : L2.PO X none (TP C EX fun env => .ok none env) := po_none.weak fun σ H Q q => by
  obtain ⟨O, F, env, R, q⟩ := rg_iff.mp q
  exact q none H ⟨rfl, F, R, Step.refl⟩
theorem r_p1 (ha : PE X a (TO C EX ma)) : L2.PO X (some a) (TP C EX fun env => (ma env).bind fun x env1 => match x.data env1 with
    | some (.int i) => .ok (some i) env1
    | _ => .no) := (po_some ha).weak fun σ H Q q => by
  obtain ⟨O, F, env, R, q⟩ := rg_iff.mp q
  refine op1 R q fun o env1 F1 P x H1 R1 s1 f1 r1 k => ?_
  split at k
  · rename_i i e1
    have d := OR.data1 R1 r1 e1
    refine ⟨i, ?_, k (some i) H1 ⟨rfl, F1, R1.drop fun a ha => List.mem_append_right _ ha, s1⟩⟩
    cases (show Dn C.K H1 _ x (.int i) from d)
    rfl
  · exact k.elim
theorem opP {O : List Addr} {F : List (List Addr)} {H : Hp} {σ : St} {env : Env} {α β : Type} {mp : Env → Res (Option Int)} {k : Option Int → Env → Res α} {post : List Addr → List (List Addr) → Hp → St → Env → α → β → Hp → Prop} {Q : β → Hp → Prop} {G : Option Int → Hp → Prop} (R : ER C O F H σ env)
    (h : Fin C EX post O F H σ Q ((mp env).bind k))
    (g : ∀ o env1 F1 H1, ER C O F1 H1 σ env1 → Step F H F1 H1 → Fin C EX post O F H σ Q (k o env1) → G o H1)
    (hx : ∀ e env', (∀ F' H', ER C O F' H' σ env' → Step F H F' H' → EX e env' σ H') → ∀ F' H', ER C O F' H' σ env' → Step F H F' H' → EX e env' σ H' := fun _ _ h => h) : TP C EX mp σ H G := by
  refine ⟨O, F, env, R, ?_⟩
  cases e : mp env with
  | ok o env1 =>
    rw [e] at h
    rintro o' H1 ⟨rfl, F1, R1, s1⟩
    exact g _ env1 F1 H1 R1 s1 h
  | ex x env' => rw [e] at h; exact h
  | no => rw [e] at h; exact h
theorem r_slc {lo hi : Option Expr} {p2 : Pos} {ml mh : Env → Res (Option Int)} (hK : C.K = X.K) (ha : PE X a (TO C EX ma)) (hl : L2.PO X lo (TP C EX ml)) (hh : L2.PO X hi (TP C EX mh)) :
    PE X (.Subscript a (.Slice lo hi none p2) pos) (TV C EX fun env => (ma env).bind fun x env1 => (ml env1).bind fun l env2 => (mh env2).bind fun h env3 =>
      match x.val env3 with
      | some (.scr _) => .no
      | some v => Res.opt (slcD v.data l h) env3
      | none => .no) := (pe_slice slc_ok ha hl hh).weak fun σ H Q q => by
  obtain ⟨O, F, env, R, q⟩ := rg_iff.mp q
  refine op1 R q fun o env1 F1 P x H1 R1 s1 f1 r1 k => ?_
  have k0 : Fin C EX (PV C) O F H σ Q _ := k
  -- the lower part
  have lowx : ∀ (m : Env → Res (Option Int)) (F0 : List (List Addr)) (H0 : Hp) (en : Env), Step F H F0 H0 → (∀ e env', (∀ F' H', ER C O F' H' σ env' → Step F H F' H' → EX e env' σ H') → ∀ F' H', ER C (P ++ O) F' H' σ env' → Step F0 H0 F' H' → EX e env' σ H') := fun m F0 H0 en s0 e env' h => Fin.ex_of s0 h
  refine ⟨P ++ O, F1, env1, R1, ?_⟩
  cases e1 : ml env1 with
  | ex e env' => rw [e1] at k; exact lowx ml F1 H1 env1 s1 e env' k
  | no => rw [e1] at k; exact k
  | ok l env2 =>
    rw [e1] at k
    rintro l' H2 ⟨rfl, F2, R2, s2⟩
    refine ⟨P ++ O, F2, env2, R2, ?_⟩
    replace k : Fin C EX (PV C) O F H σ Q ((mh env2).bind fun h env3 => match o.val env3 with | some (.scr _) => .no | some v => Res.opt (slcD v.data l' h) env3 | none => .no) := k
    cases e2 : mh env2 with
    | ex e env' => rw [e2] at k; exact lowx mh F2 H2 env2 (s1.trans s2) e env' k
    | no => rw [e2] at k; exact k
    | ok h env3 =>
      rw [e2] at k
      rintro h' H3 ⟨rfl, F3, R3, s3⟩
      replace k : Fin C EX (PV C) O F H σ Q (match o.val env3 with | some (.scr _) => .no | some v => Res.opt (slcD v.data l' h') env3 | none => .no) := k
      have s12 := s2.trans s3
      have r3 : OR C.K H3 (Nn (P ++ O) F3) σ P [o] [x] := OR.mono (R1.kept s12) (fun b z => (R1.less (P := []) s12 (fun a ha => by simp at ha)) b z) r1 fun a ha u e => s12.keep a u e (R1.dis a (List.mem_append_left _ ha))
      have sF : Step F H F3 H3 := s1.trans s12
      have fin : ∀ v, o.val env3 = some v → v.plain = true → Fin C EX (PV C) O F H σ Q (Res.opt (slcD v.data l' h') env3) → rSlc X.K x l' h' H3 Q := fun v e3 pl k => by
        obtain ⟨fp, t⟩ := OR.at_ R3 r3 e3
        cases e4 : slcD v.data l' h' with
        | none => rw [e4] at k; exact k.elim
        | some r =>
          rw [e4] at k
          have d := t.read (od_ndol e3)
          rw [← hK]
          exact ⟨_, _, r, d, e4, fin_new R3 sF f1 k⟩
      cases e3 : o.val env3 with
      | none => rw [e3] at k; exact k.elim
      | some v =>
        rw [e3] at k
        cases v with
        | scr ns => exact k.elim
        | sh d => exact fin _ e3 rfl k
        | ow m => exact fin _ e3 (plainV e3 (by intro _ z; cases z)) k
end
end Pv

/-! PvO: methods, lists in place; what statements are read as. -/
set_option linter.all false
set_option maxRecDepth 100000
set_option maxHeartbeats 2000000
namespace Pv
open PySem PySem.Spec L2

/-! ### statements -/
/-- behind a return -/
def PR (C : Cf) (O : List Addr) (F : List (List Addr)) (H : Hp) (env' : Env) (v : Val) (x : V) (H' : Hp) : Prop :=
  ∃ σ' F' P, ER C (P ++ O) F' H' σ' env' ∧ Step F H F' H' ∧ (∀ a ∈ P, a ∈ F.flatten ∨ H a = none) ∧ SR C.K H' (Nn (P ++ O) F') P x v
/-- what is to hold behind a statement -/
def FinS (C : Cf) (EX : EXT) (O : List Addr) (F : List (List Addr)) (H : Hp) (D : Ends) : Res Fl → Prop
  | .ok .next env' => ∀ σ' F' H', ER C O F' H' σ' env' → Step F H F' H' → D.nx σ' H'
  | .ok .cont env' => ∀ σ' F' H', ER C O F' H' σ' env' → Step F H F' H' → D.ct σ' H'
  | .ok .brk env' => ∀ σ' F' H', ER C O F' H' σ' env' → Step F H F' H' → D.bk σ' H'
  | .ok (.ret v) env' => ∀ x H', PR C O F H env' v x H' → D.rt x H'
  | .ex e env' => ∀ σ' F' H', ER C O F' H' σ' env' → Step F H F' H' → EX e env' σ' H'
  | .no => False
def TX (C : Cf) (EX : EXT) (m : Env → Res Fl) : TS := fun D σ H => ∃ O F env, ER C O F H σ env ∧ FinS C EX O F H D (m env)
theorem tx_iff {C : Cf} {EX : EXT} {m : Env → Res Fl} {D : Ends} {σ : St} {H : Hp} : TX C EX m D σ H ↔ ∃ O F env, ER C O F H σ env ∧ FinS C EX O F H D (m env) := Iff.rfl
section
variable {C : Cf} {O : List Addr} {F F1 : List (List Addr)} {H H1 : Hp} {σ : St} {env env1 : Env} {EX : EXT} {D : Ends}
theorem FinS.later {r : Res Fl} (s : Step F H F1 H1) (h : FinS C EX O F H D r) : FinS C EX O F1 H1 D r := by
  cases r with
  | ok f env' =>
    cases f with
    | next => exact fun σ' F' H' R t => h σ' F' H' R (s.trans t)
    | cont => exact fun σ' F' H' R t => h σ' F' H' R (s.trans t)
    | brk => exact fun σ' F' H' R t => h σ' F' H' R (s.trans t)
    | ret v =>
      rintro x H' ⟨σ', F', P, R, t, f, q⟩
      refine h x H' ⟨σ', F', P, R, s.trans t, fun a ha => ?_, q⟩
      rcases f a ha with z | z
      · exact s.new a z
      · cases e : H a with
        | none => exact .inr rfl
        | some u => exact absurd z (s.alive a (by rw [e]; simp))
  | ex e env' => exact fun σ' F' H' R t => h σ' F' H' R (s.trans t)
  | no => exact h
/-- an operand, then what the statement does -/
theorem sop1 {ma : Env → Res Od} {k : Od → Env → Res Fl} {G : V → Hp → Prop} (R : ER C O F H σ env) (h : FinS C EX O F H D ((ma env).bind k))
    (g : ∀ o env1 F1 P x H1, ER C (P ++ O) F1 H1 σ env1 → Step F H F1 H1 → (∀ a ∈ P, H a = none) → OR C.K H1 (Nn (P ++ O) F1) σ P [o] [x] → FinS C EX O F H D (k o env1) → G x H1) : TO C EX ma σ H G := by
  refine TO.intro R (fun o env1 e1 F1 P1 x H1 R1 s1 f1 r1 => g o env1 F1 P1 x H1 R1 s1 f1 r1 ?_) (fun e env' e1 F' H' => ?_) (fun e1 => ?_)
  · rw [e1] at h; exact h
  · rw [e1] at h; exact h σ F' H'
  · rw [e1] at h; exact h
theorem sopV {ma : Env → Res Val} {k : Val → Env → Res Fl} {G : V → Hp → Prop} (R : ER C O F H σ env) (h : FinS C EX O F H D ((ma env).bind k))
    (g : ∀ v env1 F1 P x H1, ER C (P ++ O) F1 H1 σ env1 → Step F H F1 H1 → (∀ a ∈ P, H a = none) → SR C.K H1 (Nn (P ++ O) F1) P x v → FinS C EX O F H D (k v env1) → G x H1) : TV C EX ma σ H G := by
  refine TV.intro R (fun v env1 e1 F1 P1 x H1 R1 s1 f1 r1 => g v env1 F1 P1 x H1 R1 s1 f1 r1 ?_) (fun e env' e1 F' H' => ?_) (fun e1 => ?_)
  · rw [e1] at h; exact h
  · rw [e1] at h; exact h σ F' H'
  · rw [e1] at h; exact h
theorem sopB {ma : Env → Res Bool} {k : Bool → Env → Res Fl} {G : Bool → Hp → Prop} (R : ER C O F H σ env) (h : FinS C EX O F H D ((ma env).bind k))
    (g : ∀ b env1 F1 H1, ER C O F1 H1 σ env1 → Step F H F1 H1 → FinS C EX O F H D (k b env1) → G b H1) : TB C EX ma σ H G := by
  refine TB.intro R (fun b env1 e1 F1 H1 R1 s1 => g b env1 F1 H1 R1 s1 ?_) (fun e env' e1 F' H' => ?_) (fun e1 => ?_)
  · rw [e1] at h; exact h
  · rw [e1] at h; exact h σ F' H'
  · rw [e1] at h; exact h
end

/-! ### methods of texts -/
def mtId : Mt → String
  | .upper => "str.upper"
  | .join => "str.join"
def mtN : Mt → Str
  | .upper => "upper"
  | .join => "join"
def rMt (K : PySem.W.Frag) (m : Mt) : V → List V → Hp → VK → Prop := fun x xs H Q => ∃ N z ds r, x = .str z ∧ DqL K H N xs ds ∧ methD m z ds = some r ∧ ∀ z H', New K H N H' z r → Q z H'
theorem strs_dn {K : PySem.W.Frag} {H : Hp} {N : Addr → Prop} : ∀ {ds : List PyData} {xs : List V} {ys : List Str}, DnAll K H N xs ds → strsD ds = some ys → xs = ys.map V.str
  | [], _, ys, .nil, e => by cases e; rfl
  | d :: ds, _, ys, .cons h t, e => by
    cases d with
    | str z =>
      unfold strsD at e
      cases q : strsD ds with
      | none => rw [q] at e; cases e
      | some zs =>
        rw [q] at e
        cases e
        cases h
        rw [strs_dn t q]
        rfl
    | _ => cases e
theorem mt_slot (m : Mt) : Slot "str" (mtN m) (mtId m) ∧ typeOf (.builtin (mtId m)) = pure (.type "method_descriptor") := by
  cases m
  · exact ⟨F.slot_str_upper, F.type_str_upper⟩
  · exact ⟨F.slot_str_join, F.type_str_join⟩
theorem mt_ok {X : Cx} (m : Mt) : MtR X (mtId m) (rMt X.K m) := by
  intro pins s σ H x xs v us Q I rx rv h
  obtain ⟨N, z, ds, r, rfl, hds, hr, q⟩ := h
  unfold methD at hr
  split at hr
  · split at hr
    · rename_i hz
      cases hr
      cases xs with
      | nil => exact mt_upper pins s σ H _ _ v us Q I rx rv ⟨z, rfl, rfl, hz, q _ _ (New.same (.str _))⟩
      | cons y ys => exact hds.elim
    · cases hr
  · rename_i es
    cases e1 : strsD es with
    | none => rw [e1] at hr; cases hr
    | some ys =>
      simp only [e1] at hr
      split at hr
      · rename_i hz
        cases hr
        obtain ⟨y, rfl, hy⟩ := hds.one
        obtain ⟨a, xs, rfl, h1, h2⟩ := hy
        rw [strs_dn h2 e1] at h1
        exact mt_join pins s σ H _ _ v us Q I rx rv ⟨z, a, ys, rfl, rfl, .inl h1, hz, q _ _ (New.same (.str _))⟩
      · cases hr
  · cases hr
section
variable {X : Cx} {C : Cf} {EX : EXT} {a b c e o : Expr} {es : List Expr} {pos apos cpos p1 : Pos} {ma mb mc : Env → Res Od} {mv mw : Env → Res Val} {ms : Env → Res (List Od)}
theorem r_meth0 {m : Mt} (hK : C.K = X.K) (ho : PE X o (TO C EX ma)) (hbase : attributeBase o (mtN m) X.env (eval o X.env) = eval o X.env) (hline : (apos.endLine == cpos.line) = true) :
    PE X (.Call (.Attribute o (mtN m) apos) [] [] cpos) (TV C EX fun env => (ma env).bind fun x env1 => match x.data env1 with
    | some (.str z) => (Res.ok [] env1).bind fun os env2 => match opdata os env2 with
      | some ds => Res.opt (methD m z ds) env2
      | none => .no
    | _ => .no) :=
  (pe_bm0 F.plainAttrs_str (mt_slot m).1 (mt_slot m).2 (mt_ok m) ho hbase hline).weak fun σ H Q q => by
  obtain ⟨O, F, env, R, q⟩ := rg_iff.mp q
  refine op1 R q fun o env1 F1 P x H1 R1 s1 f1 r1 k => ?_
  split at k
  · rename_i z e1
    have d := OR.data1 R1 r1 e1
    cases (show Dn C.K H1 _ x (.str z) from d)
    refine ⟨rfl, ?_⟩
    replace k : Fin C EX (PV C) O F H σ Q (Res.opt (methD m z []) env1) := k
    cases e3 : methD m z [] with
    | none => rw [e3] at k; exact k.elim
    | some r =>
      rw [e3] at k
      rw [← hK]
      exact ⟨_, z, [], r, rfl, trivial, e3, fin_new R1 s1 f1 k⟩
  · exact k.elim
theorem r_methN {m : Mt} (hK : C.K = X.K) (ho : PE X o (TO C EX ma)) (ha : PA X (e :: es) (TAs C EX ms)) (hbase : attributeBase o (mtN m) X.env (eval o X.env) = eval o X.env) (hline : (apos.endLine == cpos.line) = true)
    (hfew : ((backTo cpos (starEach (e :: es) X.env)).all (fun x => !x.1) && (backToKw cpos (keywordEach [] X.env)).all (fun x => x.1.isSome) && decide ((e :: es).length + ([] : List Keyword).length + (if ([] : List Keyword).isEmpty then 0 else 1) < 30)) = true)
    (hs : starEach (e :: es) X.env = (false, eval e X.env) :: starEach es X.env) (hplain : (backTo cpos (starEach es X.env)).any (·.1) = false) :
    PE X (.Call (.Attribute o (mtN m) apos) (e :: es) [] cpos) (TV C EX fun env => (ma env).bind fun x env1 => match x.data env1 with
    | some (.str z) => (ms env1).bind fun os env2 => match opdata os env2 with
      | some ds => Res.opt (methD m z ds) env2
      | none => .no
    | _ => .no) :=
  (pe_bm F.plainAttrs_str (mt_slot m).1 (mt_slot m).2 (mt_ok m) ho ha hbase hfew hline hs hplain).weak fun σ H Q q => by
  obtain ⟨O, F, env, R, q⟩ := rg_iff.mp q
  refine op1 R q fun o env1 F1 P1 x H1 R1 s1 f1 r1 h1 => ?_
  split at h1
  · rename_i z e1
    have d := OR.data1 R1 r1 e1
    cases (show Dn C.K H1 _ x (.str z) from d)
    refine ⟨rfl, TAs.intro R1 (fun os env2 e2 xs H2 p => ?_) (fun e env' e2 => ?_) (fun e2 => ?_)⟩
    · rw [e2] at h1
      obtain ⟨F', P, R', s', f', r'⟩ := PVs.cons R1 s1 f1 r1 p
      replace h1 : Fin C EX (PV C) O F H σ Q (match opdata os env2 with | some ds => Res.opt (methD m z ds) env2 | none => .no) := h1
      cases e4 : opdata os env2 with
      | none => rw [e4] at h1; exact h1.elim
      | some ds =>
        rw [e4] at h1
        obtain ⟨P', P0, eP, r3⟩ := r'.tail_
        have dq := od_one (slot := R'.slot) r3 e4
        simp only at h1
        cases e3 : methD m z ds with
        | none => rw [e3] at h1; exact h1.elim
        | some r =>
          rw [e3] at h1
          rw [← hK]
          exact ⟨_, z, ds, r, rfl, dq, e3, fin_new R' s' f' h1⟩
    · rw [e2] at h1
      exact Fin.ex_of s1 h1
    · rw [e2] at h1; exact h1
  · exact h1.elim
/-! ### lists in place -/
theorem own_list {O : List Addr} {F : List (List Addr)} {H : Hp} {σ : St} {env : Env} {i : Nat} {ds : List PyData} {y : V} (R : ER C O F H σ env) (e : Env.at env i = some (.ow (.lst ds))) (ey : σ[i]? = some (some y)) :
    ∃ l xs, y = .ref l ∧ H l = some (.lst xs) ∧ DnAll C.K H (Nn O F) xs ds ∧ l ∉ O ∧ fpAt F i = [l] := by
  obtain ⟨x, e1, l, e2, hf, xs, h1, h2⟩ := R.slot i _ e
  rw [e1] at ey; cases ey
  exact ⟨l, xs, e2, h1, h2, fun z => R.dis l z (flat_mem.mpr ⟨i, by rw [hf]; simp⟩), hf⟩
theorem upd_dn {O O1 : List Addr} {F : List (List Addr)} {H : Hp} {l : Addr} {o : HO} (h : l ∈ F.flatten) (ho : ∀ a ∈ O, a ∈ O1) (mu : ∀ u, H l = some u → Mu u) : Kept (Nn O1 F) H (upd H l o) ∧ Less H (Nn O1 F) (Nn O F) := by
  refine ⟨fun b u e z => ?_, fun b z => .inl (z.elim (fun y => .inl (ho b y)) .inr)⟩
  by_cases hb : b = l
  · subst hb
    rcases z with z | z
    · exact absurd (.inr h) z
    · exact absurd (mu u e) z
  · rw [upd_ne hb]; exact e
/-- slot i's list gets other items -/
theorem list_up {O P : List Addr} {F : List (List Addr)} {H : Hp} {σ : St} {env : Env} {i : Nat} {ds ds' : List PyData} {l : Addr} {xs xs' : List V} (R : ER C (P ++ O) F H σ env) (e : Env.at env i = some (.ow (.lst ds))) (ey : σ[i]? = some (some (.ref l))) (hl : H l = some (.lst xs)) (d : DnAll C.K H (Nn O F) xs' ds') :
    ER C O F (upd H l (.lst xs')) σ (env.set i (some (.ow (.lst ds')))) ∧ Step F H F (upd H l (.lst xs')) ∧ Kept (Nn O F) H (upd H l (.lst xs')) := by
  obtain ⟨l', _, e1, _, _, _, hf⟩ := own_list R e ey
  cases e1
  have hfl : l ∈ F.flatten := flat_mem.mpr ⟨i, by rw [hf]; simp⟩
  obtain ⟨kp, ls⟩ := upd_dn (H := H) (O := O) (O1 := O) (o := .lst xs') hfl (fun _ h => h) (fun u e => by rw [hl] at e; cases e; trivial)
  obtain ⟨R2, s2⟩ := R.turn rfl (fun _ h => List.mem_append_right _ h) e ey (by rw [hl]; simp) (o := .lst xs') trivial (m' := .lst ds') ⟨rfl, _, upd_same, DnAll.mono kp ls _ _ d⟩
  exact ⟨R2, s2, kp⟩
/-- x.pop() -/
theorem r_pop {x : Str} {i : Nat} (hK : C.K = X.K) (hx : PE X (.Name x p1) (tVar i)) (hbase : attributeBase (.Name x p1) "pop" X.env (eval (.Name x p1) X.env) = eval (.Name x p1) X.env) (hline : (apos.endLine == cpos.line) = true) :
    PE X (.Call (.Attribute (.Name x p1) "pop" apos) [] [] cpos) (TV C EX fun env => match env.at i with
    | some (.ow (.lst ds)) => match ds.getLast? with
      | some d => .ok (.sh d) (env.set i (some (.ow (.lst ds.dropLast))))
      | none => .no
    | _ => .no) := (pe_bm0 F.plainAttrs_list F.slot_list_pop F.type_list_pop mt_pop hx hbase hline).weak fun σ H Q q => by
  obtain ⟨O, F, env, R, q⟩ := rg_iff.mp q
  split at q
  · rename_i ds e1
    split at q
    · rename_i d e2
      obtain ⟨y, ey, _⟩ := R.slot i _ e1
      obtain ⟨l, xs, rfl, h1, h2, _, hf⟩ := own_list R e1 ey
      have e3 : ds[ds.length - 1]? = some d := by rw [← List.getLast?_eq_getElem?]; exact e2
      obtain ⟨w, e4, dw⟩ := h2.getD e3
      have dl : DnAll C.K H (Nn O F) xs.dropLast ds.dropLast := by
        rw [List.dropLast_eq_take, List.dropLast_eq_take, h2.length]
        exact h2.take _
      obtain ⟨R2, s2, kp⟩ := list_up (P := []) R e1 ey h1 dl
      refine ⟨.ref l, ey, .inl ⟨rfl, xs, SqL.of h1⟩, l, xs, w, rfl, rfl, h1, by rw [h2.length]; exact e4, ?_⟩
      exact q w _ ⟨F, [], R2, s2, fun a ha => by simp at ha, rfl, Dn.mono kp (fun b z => .inl z) _ _ dw⟩
    · exact q.elim
  · exact q.elim
/-- an owned value, as it is handed on, from a later state -/
theorem share_later {O P : List Addr} {F F1 F2 : List (List Addr)} {H H1 H2 : Hp} {σ : St} {env env1 env2 : Env} {x : V} {v : Val} {d : PyData} (R : ER C O F H σ env) (R1 : ER C (P ++ O) F1 H1 σ env1) (f1 : ∀ a ∈ P, H a = none) (r1 : SR C.K H1 (Nn (P ++ O) F1) P x v)
    (s2 : Step F1 H1 F2 H2) (R2 : ER C (P ++ O) F2 H2 σ env2) (e : v.share = some d) : Dn C.K H2 (Nn O F2) x d := by
  have r2 : SR C.K H2 (Nn (P ++ O) F2) P x v := SR.mono (R1.kept s2) (fun b z => (R1.less (P := []) s2 (fun a ha => by simp at ha)) b z) (fun a ha u e => s2.keep a u e (R1.dis a (List.mem_append_left _ ha))) r1
  exact share_dn R2 (fresh_off R f1) (fun a h => h) r2 e
/-- x.append(e) -/
theorem r_append {x : Str} {i : Nat} (hK : C.K = X.K) (hx : PE X (.Name x p1) (tVar i)) (he : PE X e (TV C EX mv)) (hbase : attributeBase (.Name x p1) "append" X.env (eval (.Name x p1) X.env) = eval (.Name x p1) X.env) (hline : (apos.endLine == cpos.line) = true)
    (hfew : ((backTo cpos (starEach [e] X.env)).all (fun x => !x.1) && (backToKw cpos (keywordEach [] X.env)).all (fun x => x.1.isSome) && decide ([e].length + ([] : List Keyword).length + (if ([] : List Keyword).isEmpty then 0 else 1) < 30)) = true)
    (hs : starEach [e] X.env = (false, eval e X.env) :: starEach [] X.env) (hplain : (backTo cpos (starEach [] X.env)).any (·.1) = false) (hsw : swapsWith (.Call (.Attribute (.Name x p1) "append" apos) [e] [] cpos) none pos.line X.env = pure false) :
    PS X (.Expr (.Call (.Attribute (.Name x p1) "append" apos) [e] [] cpos) pos) (TX C EX fun env => match env.at i with
    | some (.ow (.lst _)) => (mv env).bind fun v env1 => match env1.at i, v.share with
      | some (.ow (.lst ds)), some d => if ds.length < most then .ok .next (env1.set i (some (.ow (.lst (ds ++ [d]))))) else .no
      | _, _ => .no
    | _ => .no) := (ps_expr (pe_bm F.plainAttrs_list F.slot_list_append F.type_list_append mt_append hx (pa_cons he pa_nil hs) hbase hfew hline hs hplain) hsw).weak fun D σ H q => by
  obtain ⟨O, F, env, R, q⟩ := tx_iff.mp q
  split at q
  · rename_i ds0 e0
    obtain ⟨y, ey, _⟩ := R.slot i _ e0
    obtain ⟨l, xs0, rfl, h0, _⟩ := own_list R e0 ey
    refine ⟨.ref l, ey, .inl ⟨rfl, xs0, SqL.of h0⟩, sopV R q fun v env1 F1 P z H1 R1 s1 f1 r1 k => ?_⟩
    split at k
    · rename_i ds d e1 e2
      split at k
      · rename_i hz
        obtain ⟨l', xs, e3, h1, h2, _⟩ := own_list R1 e1 ey
        cases e3
        have dn := share_later R R1 f1 r1 Step.refl R1 e2
        obtain ⟨R2, s2, _⟩ := list_up R1 e1 ey h1 ((DnAll.mono Kept.rfl' Nn.cut _ _ h2).append (.cons dn .nil))
        exact ⟨l, xs, z, rfl, rfl, h1, by rw [h2.length, ← most_eq]; exact hz, k σ F1 _ R2 (s1.trans s2)⟩
      · exact k.elim
    · exact k.elim
  · exact q.elim
/-- x.extend(e), e a list -/
theorem r_extend {x : Str} {i : Nat} (hK : C.K = X.K) (hx : PE X (.Name x p1) (tVar i)) (he : PE X e (TV C EX mv)) (hbase : attributeBase (.Name x p1) "extend" X.env (eval (.Name x p1) X.env) = eval (.Name x p1) X.env) (hline : (apos.endLine == cpos.line) = true)
    (hfew : ((backTo cpos (starEach [e] X.env)).all (fun x => !x.1) && (backToKw cpos (keywordEach [] X.env)).all (fun x => x.1.isSome) && decide ([e].length + ([] : List Keyword).length + (if ([] : List Keyword).isEmpty then 0 else 1) < 30)) = true)
    (hs : starEach [e] X.env = (false, eval e X.env) :: starEach [] X.env) (hplain : (backTo cpos (starEach [] X.env)).any (·.1) = false) (hsw : swapsWith (.Call (.Attribute (.Name x p1) "extend" apos) [e] [] cpos) none pos.line X.env = pure false) :
    PS X (.Expr (.Call (.Attribute (.Name x p1) "extend" apos) [e] [] cpos) pos) (TX C EX fun env => match env.at i with
    | some (.ow (.lst _)) => (mv env).bind fun v env1 => match env1.at i, v.share with
      | some (.ow (.lst ds)), some (.list es) => if ds.length + es.length ≤ most then .ok .next (env1.set i (some (.ow (.lst (ds ++ es))))) else .no
      | _, _ => .no
    | _ => .no) := (ps_expr (pe_bm F.plainAttrs_list F.slot_list_extend F.type_list_extend mt_extend hx (pa_cons he pa_nil hs) hbase hfew hline hs hplain) hsw).weak fun D σ H q => by
  obtain ⟨O, F, env, R, q⟩ := tx_iff.mp q
  split at q
  · rename_i ds0 e0
    obtain ⟨y, ey, _⟩ := R.slot i _ e0
    obtain ⟨l, xs0, rfl, h0, _⟩ := own_list R e0 ey
    refine ⟨.ref l, ey, .inl ⟨rfl, xs0, SqL.of h0⟩, sopV R q fun v env1 F1 P z H1 R1 s1 f1 r1 k => ?_⟩
    split at k
    · rename_i ds es' e1 e2
      split at k
      · rename_i hz
        obtain ⟨l', xs, e3, h1, h2, _⟩ := own_list R1 e1 ey
        cases e3
        cases share_later R R1 f1 r1 Step.refl R1 e2 with
        | lst _ h3 h4 =>
          obtain ⟨R2, s2, _⟩ := list_up R1 e1 ey h1 ((DnAll.mono Kept.rfl' Nn.cut _ _ h2).append h4)
          exact ⟨l, _, xs, _, rfl, rfl, h1, h3, by rw [h2.length, h4.length, ← most_eq]; exact hz, k σ F1 _ R2 (s1.trans s2)⟩
      · exact k.elim
    · exact k.elim
  · exact q.elim
/-- x[k] = e -/
theorem r_seti {x : Str} {i : Nat} (hK : C.K = X.K) (hx : PE X (.Name x p1) (tVar i)) (he : PE X e (TV C EX mv)) (hk : PE X a (TO C EX ma)) (hsw : swapsWithSole [.Subscript (.Name x p1) a cpos] e pos.line X.env = pure false)
    (hw : swappedStores [.Subscript (.Name x p1) a cpos] e X.env = pure none) (h1 : (assignEach [.Subscript (.Name x p1) a cpos] X.env).map (·.2) = [assign (.Subscript (.Name x p1) a cpos) X.env])
    (ha : ∀ v, assign (.Subscript (.Name x p1) a cpos) X.env v = (do
      let ov ← holding [v] (eval (.Name x p1) X.env)
      let iv ← holding [v, ov] (eval a X.env)
      standAt cpos
      holding [v, ov, iv] (setItem ov iv v)
      release [v, ov, iv] [])) :
    PS X (.Assign [.Subscript (.Name x p1) a cpos] e pos) (TX C EX fun env => (mv env).bind fun v env1 => match v.share, env1.at i with
    | some d, some (.ow (.lst _)) => (ma env1).bind fun y env2 => match env2.at i, y.data env2 with
      | some (.ow (.lst ds)), some (.int n) => match ixN ds.length n with
        | some j => .ok .next (env2.set i (some (.ow (.lst (ds.set j d)))))
        | none => .no
      | _, _ => .no
    | _, _ => .no) := (ps_asg he (pg_sub hx hk set_list ha) hsw hw h1).weak fun D σ H q => by
  obtain ⟨O, F, env, R, q⟩ := tx_iff.mp q
  refine sopV R q fun v env1 F1 P z H1 R1 s1 f1 r1 k => ?_
  split at k
  · rename_i d ds0 e2 e0
    obtain ⟨y0, ey, _⟩ := R1.slot i _ e0
    obtain ⟨l, xs0, rfl, _⟩ := own_list R1 e0 ey
    refine ⟨.ref l, ey, TO.intro R1 (fun o env2 e3 F2 P2 y H2 R2 s2 f2 r2 => ?_) (fun ex env' e3 F' H' R' t => ?_) (fun e3 => ?_)⟩
    · rw [e3] at k
      replace k : FinS C EX O F H D (match env2.at i, o.data env2 with | some (.ow (.lst ds)), some (.int n) => (match ixN ds.length n with | some j => .ok .next (env2.set i (some (.ow (.lst (ds.set j d))))) | none => .no) | _, _ => .no) := k
      split at k
      · rename_i ds n e4 e5
        split at k
        · rename_i j e6
          obtain ⟨l', xs, e7, h1, h2, _⟩ := own_list R2 e4 ey
          cases e7
          have dq := OR.data1 R2 r2 e5
          have R3 : ER C (P ++ O) F2 H2 σ env2 := R2.drop fun a ha => List.mem_append_right _ ha
          have dn := share_later R R1 f1 r1 s2 R3 e2
          have h3 : DnAll C.K H2 (Nn O F2) xs ds := DnAll.mono Kept.rfl' Nn.cut _ _ (DnAll.mono Kept.rfl' Nn.cut _ _ h2)
          obtain ⟨R4, s4, _⟩ := list_up R3 e4 ey h1 (h3.set dn j)
          refine ⟨l, xs, n, j, rfl, ?_, h1, by rw [h2.length]; exact e6, k σ F2 _ R4 ((s1.trans s2).trans s4)⟩
          cases (show Dn C.K H2 _ y (.int n) from dq)
          rfl
        · exact k.elim
      · exact k.elim
    · rw [e3] at k
      exact k σ F' H' (R'.drop fun a ha => List.mem_append_right _ ha) (s1.trans t)
    · rw [e3] at k; exact k
  · exact k.elim
end
end Pv

/-! PvP: statements: targets, assignments, branches, returns, while. -/
set_option linter.all false
set_option maxRecDepth 100000
set_option maxHeartbeats 2000000
namespace Pv
open PySem PySem.Spec L2

/-! ### targets -/
mutual
def Tgt.ns : Tgt → List Nat
  | .name i => [i]
  | .tup ts => Tgt.nss ts
def Tgt.nss : List Tgt → List Nat
  | [] => []
  | t :: ts => t.ns ++ Tgt.nss ts
end
def Back (C : Cf) (O : List Addr) (F : List (List Addr)) (H : Hp) (ns : List Nat) (σ : St) (env' : Env) (Q : St → Hp → Prop) : Prop := ∀ σ' F', ER C O F' H σ' env' → (∀ a ∈ F'.flatten, a ∈ F.flatten) → (∀ j, j ∉ ns → σ'[j]? = σ[j]?) → Q σ' H
/-- a datum, or (flag) a tuple that is only taken apart -/
def Dw (w : Bool) (K : PySem.W.Frag) (H : Hp) (N : Addr → Prop) (x : V) (d : PyData) : Prop := Dn K H N x d ∨ (w = true ∧ ∃ a xs ds, x = .ref a ∧ d = .tuple ds ∧ SqT K H a xs ∧ DnAll K H N xs ds)
def Tgt.isT : Tgt → Bool
  | .name _ => false
  | .tup _ => true
def GB (C : Cf) (bor : List Nat) (t : Tgt) : TG := fun v σ H Q => ∃ O F env d env', ER C O F H σ env ∧ Dw t.isT C.K H (Nn O F) v d ∧ bindT bor t d env = some env' ∧ Back C O F H t.ns σ env' Q
def GBs (C : Cf) (bor : List Nat) (ts : List Tgt) : TGs := fun vs σ H Q => ∃ O F env ds env', ER C O F H σ env ∧ DnAll C.K H (Nn O F) vs ds ∧ bindTs bor ts ds env = some env' ∧ Back C O F H (Tgt.nss ts) σ env' Q
theorem _root_.L2.PG.weak {X : Cx} {tg : Expr} {t t' : TG} (h : PG X tg t) (w : ∀ v σ H Q, t' v σ H Q → t v σ H Q) : PG X tg t' := ⟨fun p s σ H v u Q I r q => h.run p s σ H v u Q I r (w v σ H Q q)⟩
theorem _root_.L2.PGs.weak {X : Cx} {tg : List Expr} {t t' : TGs} (h : PGs X tg t) (w : ∀ v σ H Q, t' v σ H Q → t v σ H Q) : PGs X tg t' := ⟨fun p s σ H v u Q I r q => h.run p s σ H v u Q I r (w v σ H Q q)⟩
section
variable {X : Cx} {C : Cf} {EX : EXT} {bor : List Nat} {a b c e o : Expr} {es : List Expr} {pos apos cpos p1 p2 : Pos} {ma mb mc : Env → Res Od} {mv mw : Env → Res Val} {mt : Env → Res Bool} {ms : Env → Res (List Od)}
theorem shrink_dn {K : PySem.W.Frag} {H : Hp} {O : List Addr} {F F' : List (List Addr)} (h : ∀ a ∈ F'.flatten, a ∈ F.flatten) : Less H (Nn O F) (Nn O F') := fun b z => .inl (z.elim .inl fun y => .inr (h b y))
theorem r_gname {i : Nat} {x : Str} (hB : ∀ p ∈ C.B, p.1 ∈ bor) (h : PG X (.Name x pos) (gName i)) : PG X (.Name x pos) (GB C bor (.name i)) := h.weak fun v σ H Q q => by
  obtain ⟨O, F, env, d, env', R, dn, e, q⟩ := q
  replace dn : Dn C.K H (Nn O F) v d := dn.elim id fun z => by cases z.1
  unfold bindT at e
  split at e
  · rename_i h1
    cases e
    have no : ∀ p ∈ C.B, p.1 ≠ i := fun p hp z => h1.2 (by rw [← z]; exact hB p hp)
    have l : ∀ a ∈ (F.set i []).flatten, a ∈ F.flatten := fun a ha => by
      obtain ⟨j, hj⟩ := flat_mem.mp ha
      by_cases q : i = j
      · subst q
        rw [fp_set_same (by rw [R.lenF]; exact h1.1)] at hj
        simp at hj
      · rw [fp_set_ne q] at hj
        exact flat_mem.mpr ⟨j, hj⟩
    exact q _ _ (R.put (P := []) h1.1 (fun a ha => by simp at ha) (fun a ha => by simp at ha) no ⟨rfl, dn⟩) l fun j hj => List.getElem?_set_ne fun z => hj (by rw [z]; simp [Tgt.ns])
  · cases e
theorem r_gnil : PGs X [] (GBs C bor []) := pgs_nil.weak fun vs σ H Q q => by
  obtain ⟨O, F, env, ds, env', R, dn, e, q⟩ := q
  cases dn with
  | nil =>
    cases e
    exact ⟨rfl, q σ F R (fun a h => h) fun _ _ => rfl⟩
  | cons _ _ => cases e
theorem r_gcons {t : Tgt} {ts : List Tgt} (h1 : PG X e (GB C bor t)) (h2 : PGs X es (GBs C bor ts)) (hs : (assignEach (e :: es) X.env).map (·.2) = assign e X.env :: (assignEach es X.env).map (·.2)) :
    PGs X (e :: es) (GBs C bor (t :: ts)) := (pgs_cons h1 h2 hs).weak fun vs σ H Q q => by
  obtain ⟨O, F, env, ds, env', R, dn, e, q⟩ := q
  cases dn with
  | nil => cases e
  | @cons v vr d dr d1 d2 =>
    unfold bindTs at e
    cases e1 : bindT bor t d env with
    | none => rw [e1] at e; cases e
    | some env1 =>
      rw [e1] at e
      refine ⟨v, vr, rfl, O, F, env, d, env1, R, .inl d1, e1, fun σ1 F1 R1 l1 n1 => ?_⟩
      exact ⟨O, F1, env1, dr, env', R1, DnAll.mono Kept.rfl' (shrink_dn (K := C.K) l1) _ _ d2, e, fun σ2 F2 R2 l2 n2 => q σ2 F2 R2 (fun a h => l1 a (l2 a h)) fun j hj => by
        rw [n2 j fun z => hj (by unfold Tgt.nss; exact List.mem_append_right _ z), n1 j fun z => hj (by unfold Tgt.nss; exact List.mem_append_left _ z)]⟩
theorem bindTs_len : ∀ {ts : List Tgt} {ds : List PyData} {env env' : Env}, bindTs bor ts ds env = some env' → ds.length = ts.length
  | [], [], _, _, _ => rfl
  | [], _ :: _, _, _, e => by cases e
  | _ :: _, [], _, _, e => by cases e
  | t :: ts, d :: ds, env, env', e => by
    unfold bindTs at e
    cases e1 : bindT bor t d env with
    | none => rw [e1] at e; cases e
    | some env1 =>
      rw [e1] at e
      rw [List.length_cons, List.length_cons, bindTs_len e]
theorem r_gtup {ts : List Tgt} {k : Nat} (hc : X.calm = true) (hK : C.K = X.K) (h : PGs X es (GBs C bor ts)) (hn : (assignEach es X.env).length = ts.length) (hst : (assignEach es X.env).findIdx? (·.1) = none) :
    PG X (.Tuple es k pos) (GB C bor (.tup ts)) := (pg_tup hc h hn hst).weak fun v σ H Q q => by
  obtain ⟨O, F, env, d, env', R, dn, e, q⟩ := q
  cases d with
  | tuple ds =>
    unfold bindT at e
    have dn2 : ∃ a xs, v = .ref a ∧ SqT C.K H a xs ∧ DnAll C.K H (Nn O F) xs ds := by
      rcases dn with dn | ⟨_, a, xs, ds2, e1, e2, h1, h2⟩
      · cases dn with
        | @tup a xs _ h1 h2 => exact ⟨a, xs, rfl, h1.sq, h2⟩
      · cases e2
        exact ⟨a, xs, e1, h1, h2⟩
    obtain ⟨a, xs, rfl, h1, h2⟩ := dn2
    exact ⟨a, xs, rfl, by rw [← hK]; exact h1, by rw [h2.length]; exact bindTs_len e, O, F, env, ds, env', R, h2, e, q⟩
  | _ => unfold bindT at e; cases e
/-! ### assignments -/
theorem put_val {O P : List Addr} {F F1 : List (List Addr)} {H H1 : Hp} {σ σ0 : St} {env env1 env2 : Env} {i : Nat} {x : V} {v : Val} (hB : ∀ p ∈ C.B, p.1 ∈ bor) (R : ER C O F H σ0 env) (R1 : ER C (P ++ O) F1 H1 σ env1) (s1 : Step F H F1 H1) (f1 : ∀ a ∈ P, H a = none) (r1 : SR C.K H1 (Nn (P ++ O) F1) P x v)
    (e : bindV bor (.name i) v env1 = some env2) : ER C O (F1.set i P) H1 (σ.set i (some x)) env2 ∧ Step F H (F1.set i P) H1 := by
  have key : i < env1.length ∧ i ∉ bor ∧ env2 = env1.set i (some v) := by
    cases v with
    | sh d =>
      unfold bindV bindT at e
      simp only at e
      split at e
      · rename_i h; cases e; exact ⟨h.1, h.2, rfl⟩
      · cases e
    | ow m =>
      unfold bindV at e
      simp only at e
      split at e
      · rename_i h; cases e; exact ⟨h.1, h.2, rfl⟩
      · cases e
    | scr ns =>
      unfold bindV at e
      simp only at e
      split at e
      · rename_i h; cases e; exact ⟨h.1, h.2, rfl⟩
      · cases e
  obtain ⟨h1, h2, rfl⟩ := key
  have no : ∀ p ∈ C.B, p.1 ≠ i := fun p hp z => h2 (by rw [← z]; exact hB p hp)
  exact ⟨R1.put h1 (fresh_off R f1) (fresh0 R f1) no r1, s1.into f1⟩
theorem set_w {i : Nat} {x : Str} (hB : ∀ p ∈ C.B, p.1 ∈ bor) (D : Ends) (σ : St) (H : Hp) (q : TX C EX (fun env => (mv env).bind fun v env1 => match bindV bor (.name i) v env1 with
    | some env2 => .ok .next env2
    | none => .no) D σ H) : tAsg (TV C EX mv) (gName i) D σ H := by
  obtain ⟨O, F, env, R, q⟩ := tx_iff.mp q
  refine sopV R q fun v env1 F1 P z H1 R1 s1 f1 r1 k => ?_
  cases e1 : bindV bor (.name i) v env1 with
  | none => rw [e1] at k; exact k.elim
  | some env2 =>
    rw [e1] at k
    obtain ⟨R2, s2⟩ := put_val hB R R1 s1 f1 r1 e1
    exact k _ _ _ R2 s2
theorem r_set {i : Nat} {x : Str} (hB : ∀ p ∈ C.B, p.1 ∈ bor) (he : PE X e (TV C EX mv)) (hg : PG X (.Name x p1) (gName i)) (hs : swapsWithSole [.Name x p1] e pos.line X.env = pure false) (hw : swappedStores [.Name x p1] e X.env = pure none)
    (h1 : (assignEach [.Name x p1] X.env).map (·.2) = [assign (.Name x p1) X.env]) : PS X (.Assign [.Name x p1] e pos) (TX C EX fun env => (mv env).bind fun v env1 => match bindV bor (.name i) v env1 with
    | some env2 => .ok .next env2
    | none => .no) := (ps_asg he hg hs hw h1).weak (set_w (x := x) hB)
theorem r_asgT {t : Tgt} {tg : Expr} (hnm : ∀ i, t ≠ .name i) (he : PE X e (TV C EX mv)) (hg : PG X tg (GB C bor t)) (hs : swapsWithSole [tg] e pos.line X.env = pure false) (hw : swappedStores [tg] e X.env = pure none)
    (h1 : (assignEach [tg] X.env).map (·.2) = [assign tg X.env]) : PS X (.Assign [tg] e pos) (TX C EX fun env => (mv env).bind fun v env1 => match bindV bor t v env1 with
    | some env2 => .ok .next env2
    | none => .no) := (ps_asg he hg hs hw h1).weak fun D σ H q => by
  obtain ⟨O, F, env, R, q⟩ := tx_iff.mp q
  refine sopV R q fun v env1 F1 P z H1 R1 s1 f1 r1 k => ?_
  cases e1 : bindV bor t v env1 with
  | none => rw [e1] at k; exact k.elim
  | some env2 =>
    rw [e1] at k
    cases t with
    | name i => exact absurd rfl (hnm i)
    | tup ts =>
      cases v with
      | ow m => cases e1
      | scr ns => cases e1
      | sh d =>
        have ep := r1.1
        subst ep
        exact ⟨O, F1, env1, d, env2, R1, .inl r1.2, e1, fun σ' F' R' l _ => k σ' F' H1 R' ⟨s1.keep, fun a ha => s1.new a (l a ha), s1.alive⟩⟩
/-- x, y = a, b, stored from the right -/
theorem r_par {i j : Nat} {x y : Str} {px py pt pt2 : Pos} {kt k2 : Nat} (hc : X.calm = true) (hB : ∀ p ∈ C.B, p.1 ∈ bor) (hN : X.N.Nodup) (hi : X.N[i]? = some x) (hj : X.N[j]? = some y) (hij : i ≠ j)
    (hx : X.env.scope.names.lookup x = some .local) (hy : X.env.scope.names.lookup y = some .local) (ha : PE X a (TV C EX mv)) (hb : PE X b (TV C EX mw))
    (hst : starEach [a, b] X.env = (false, eval a X.env) :: starEach [b] X.env) (hst2 : starEach [b] X.env = (false, eval b X.env) :: starEach [] X.env)
    (hw : swappedStores [.Tuple [.Name x px, .Name y py] kt pt] (.Tuple [a, b] k2 pt2) X.env = pure (some [x, y]))
    (hs : swapsWithSole [.Tuple [.Name x px, .Name y py] kt pt] (.Tuple [a, b] k2 pt2) pos.line X.env = pure false) :
    PS X (.Assign [.Tuple [.Name x px, .Name y py] kt pt] (.Tuple [a, b] k2 pt2) pos) (TX C EX fun env => (mv env).bind fun v env1 => (mw env1).bind fun w env2 =>
      match bindV bor (.name j) w env2 with
      | some env3 => match bindV bor (.name i) v env3 with
        | some env4 => .ok .next env4
        | none => .no
      | none => .no) := (ps_par hc hN hi hj hij hx hy (pa_cons ha (pa_cons hb pa_nil hst2) hst) hw hs).weak fun D σ H q => by
  obtain ⟨O, F, env, R, q⟩ := tx_iff.mp q
  refine sopV R q fun v env1 F1 P z H1 R1 s1 f1 r1 k => ?_
  refine TV.intro R1 (fun w env2 e2 F2 P2 z2 H2 R2 s2 f2 r2 => ?_) (fun ex env' e3 F' H' R' t => ?_) (fun e3 => ?_)
  · rw [e2] at k
    replace k : FinS C EX O F H D (match bindV bor (.name j) w env2 with | some env3 => (match bindV bor (.name i) v env3 with | some env4 => .ok .next env4 | none => .no) | none => .no) := k
    cases e3 : bindV bor (.name j) w env2 with
    | none => rw [e3] at k; exact k.elim
    | some env3 =>
      rw [e3] at k
      simp only at k
      cases e4 : bindV bor (.name i) v env3 with
      | none => rw [e4] at k; exact k.elim
      | some env4 =>
        rw [e4] at k
        obtain ⟨R3, s3⟩ := put_val hB R1 R2 s2 f2 r2 e3
        have s13 := s1.trans s3
        have r3 : SR C.K H2 (Nn (P ++ O) (F2.set j P2)) P z v := SR.mono (R1.kept s3) (fun b z => (R1.less (P := []) s3 (fun a ha => by simp at ha)) b z) (fun a ha u e => s3.keep a u e (R1.dis a (List.mem_append_left _ ha))) r1
        obtain ⟨R4, s4⟩ := put_val hB R R3 s13 f1 r3 e4
        refine ⟨z, z2, rfl, ?_⟩
        rw [List.set_comm _ _ hij]
        exact k _ _ _ R4 s4
  · rw [e3] at k
    exact k σ F' H' (R'.drop fun a ha => List.mem_append_right _ ha) (s1.trans t)
  · rw [e3] at k; exact k
/-- x op= e -/
def rAug (op : Bop) : TIp := fun x y H Q => ∃ i j r, x = .int i ∧ y = .int j ∧ augD op (.int i) (.int j) = some (.int r) ∧ Q (.int r) H
theorem aug_ok (op : Bop) : PIp X (bopO op) (rAug op) := by
  intro pins s σ H x y v u Q I rx ry h
  obtain ⟨i, j, r, rfl, rfl, hr, q⟩ := h
  cases op with
  | add =>
    cases hr
    exact iop_add pins s σ H _ _ v u Q I rx ry ⟨i, j, rfl, rfl, q⟩
  | sub =>
    cases hr
    exact iop_sub pins s σ H _ _ v u Q I rx ry ⟨i, j, rfl, rfl, q⟩
  | mul =>
    unfold augD at hr
    simp only at hr
    split at hr
    · rename_i hz
      cases hr
      exact iop_mul pins s σ H _ _ v u Q I rx ry ⟨i, j, rfl, rfl, hz, q⟩
    · cases hr
  | mod => cases hr
  | fdiv => cases hr
  | pow => cases hr
theorem aug_int {op : Bop} {d g r : PyData} (h : augD op d g = some r) : ∃ i j k, d = .int i ∧ g = .int j ∧ r = .int k := by
  unfold augD at h
  split at h
  · cases h; exact ⟨_, _, _, rfl, rfl, rfl⟩
  · cases h; exact ⟨_, _, _, rfl, rfl, rfl⟩
  · split at h
    · cases h; exact ⟨_, _, _, rfl, rfl, rfl⟩
    · cases h
  · cases h
theorem r_aug {op : Bop} {i : Nat} {x : Str} (hB : ∀ p ∈ C.B, p.1 ∈ bor) (hN : X.N.Nodup) (hi : X.N[i]? = some x) (hx : Loc X.env.scope x) (he : PE X e (TO C EX ma)) (hf : X.fn x = true ∨ X.env.scope.names.lookup x = some .local) :
    PS X (.AugAssign (.Name x p1) (bopO op) e pos) (TX C EX fun env => match env.at i with
    | some (.sh d) => (ma env).bind fun x env1 => match x.data env1 with
      | some g => match augD op d g with
        | some r => match bindT bor (.name i) r env1 with
          | some env2 => .ok .next env2
          | none => .no
        | none => .no
      | none => .no
    | _ => .no) := (ps_aug hN hi hx he (aug_ok op) hf).weak fun D σ H q => by
  obtain ⟨O, F, env, R, q⟩ := tx_iff.mp q
  split at q
  · rename_i d e0
    obtain ⟨y, ey, sy⟩ := R.slot i _ e0
    refine ⟨y, ey, sop1 R q fun o env1 F1 P z H1 R1 s1 f1 r1 k => ?_⟩
    split at k
    · rename_i g e1
      split at k
      · rename_i r e2
        obtain ⟨i', j', k', rfl, rfl, rfl⟩ := aug_int e2
        split at k
        · rename_i env2 e3
          have dz := OR.data1 R1 r1 e1
          obtain ⟨_, dy⟩ := sy
          cases dy
          cases (show Dn C.K H1 _ z (.int j') from dz)
          refine ⟨i', j', k', rfl, rfl, e2, ?_⟩
          have R2 : ER C ([] ++ O) F1 H1 σ env1 := R1.drop fun a ha => List.mem_append_right _ ha
          obtain ⟨R3, s3⟩ := put_val (v := .sh (.int k')) (i := i) hB R R2 s1 (fun a ha => by simp at ha) ⟨rfl, .int k'⟩ e3
          exact k _ _ _ R3 s3
        · exact k.elim
      · exact k.elim
    · exact k.elim
  · exact q.elim
theorem r_expr (he : PE X e (TV C EX mv)) (hs : swapsWith e none pos.line X.env = pure false) : PS X (.Expr e pos) (TX C EX fun env => (mv env).bind fun _ env1 => .ok .next env1) := (ps_expr he hs).weak fun D σ H q => by
  obtain ⟨O, F, env, R, q⟩ := tx_iff.mp q
  exact sopV R q fun v env1 F1 P z H1 R1 s1 f1 r1 k => k σ F1 H1 (R1.drop fun a ha => List.mem_append_right _ ha) s1
theorem r_pass : PS X (.Pass pos) (TX C EX fun env => .ok .next env) := ps_pass.weak fun D σ H q => by
  obtain ⟨O, F, env, R, q⟩ := tx_iff.mp q
  exact q σ F H R Step.refl
theorem r_brk : PS X (.Break pos) (TX C EX fun env => .ok .brk env) := ps_break.weak fun D σ H q => by
  obtain ⟨O, F, env, R, q⟩ := tx_iff.mp q
  exact q σ F H R Step.refl
theorem r_cont : PS X (.Continue pos) (TX C EX fun env => .ok .cont env) := ps_continue.weak fun D σ H q => by
  obtain ⟨O, F, env, R, q⟩ := tx_iff.mp q
  exact q σ F H R Step.refl
theorem r_retN : PS X (.Return none pos) (TX C EX fun env => .ok (.ret (.sh .none)) env) := ps_retN.weak fun D σ H q => by
  obtain ⟨O, F, env, R, q⟩ := tx_iff.mp q
  exact q .non H ⟨σ, F, [], R, Step.refl, fun a ha => by simp at ha, rfl, .non⟩
theorem r_ret (he : PE X e (TV C EX mv)) : PS X (.Return (some e) pos) (TX C EX fun env => (mv env).bind fun v env1 => .ok (.ret v) env1) := (ps_ret he).weak fun D σ H q => by
  obtain ⟨O, F, env, R, q⟩ := tx_iff.mp q
  exact sopV R q fun v env1 F1 P z H1 R1 s1 f1 r1 k => k z H1 ⟨σ, F1, P, R1, s1, fun a ha => .inr (f1 a ha), r1⟩
/-- return x: what x owns goes along -/
theorem r_retV {i : Nat} {x : Str} (hx : PE X (.Name x p1) (tVar i)) : PS X (.Return (some (.Name x p1)) pos) (TX C EX fun env => match env.at i with
      | some (.ow (.dol kvs)) => .ok (.ret (.sh (MO.dol kvs).data)) (env.set i (some (.sh (MO.dol kvs).data)))
      | some (.ow m) => if i ∈ bor then .no else .ok (.ret (.ow m)) (env.set i none)
      | some (.sh d) => .ok (.ret (.sh d)) env
      | some (.scr ns) => .ok (.ret (.scr ns)) env
      | none => .no) := (ps_ret hx).weak fun D σ H q => by
  obtain ⟨O, F, env, R, q⟩ := tx_iff.mp q
  cases e : Env.at env i with
  | none => simp only [e] at q; exact q.elim
  | some v =>
    obtain ⟨y, ey, s⟩ := R.slot i v e
    refine ⟨y, ey, ?_⟩
    cases v with
    | sh d =>
      simp only [e] at q
      exact q y H ⟨σ, F, [], R, Step.refl, fun a ha => by simp at ha, rfl, s.2⟩
    | scr ns =>
      simp only [e] at q
      exact q y H ⟨σ, F, [], R, Step.refl, fun a ha => by simp at ha, rfl, s.2⟩
    | ow m =>
      by_cases hd : ∃ kvs, m = .dol kvs
      · obtain ⟨kvs, rfl⟩ := hd
        simp only [e] at q
        obtain ⟨R2, z, e2, dn⟩ := R.freeze e
        rw [ey] at e2
        cases e2
        exact q y H ⟨σ, F.set i [], [], R2, Step.less R fun a ha => by simp at ha, fun a ha => by simp at ha, rfl, dn⟩
      have q : FinS C EX O F H D (if i ∈ bor then .no else .ok (.ret (.ow m)) (env.set i none)) := by
        cases m with
        | lst ds => simp only [e] at q; exact q
        | dic ds => simp only [e] at q; exact q
        | dol ds => exact absurd ⟨_, rfl⟩ hd
      split at q
      · exact q.elim
      · have R2 := R.move (i := i)
        refine q y H ⟨σ, F.set i [], fpAt F i, R2, Step.less R (fun a ha => by simp at ha), fun a ha => .inl (flat_mem.mpr ⟨i, ha⟩), ?_⟩
        refine SR.mono Kept.rfl' (fun b z => .inl ?_) (fun _ _ _ e => e) s
        rcases z with z | z
        · rcases List.mem_append.mp z with w | w
          · exact .inr (flat_mem.mpr ⟨i, w⟩)
          · exact .inl w
        · obtain ⟨j, hj⟩ := flat_mem.mp z
          by_cases q : i = j
          · subst q
            rw [fp_set_same (by rw [R.lenF]; exact at_lt e)] at hj
            simp at hj
          · rw [fp_set_ne q] at hj
            exact .inr (flat_mem.mpr ⟨j, hj⟩)
theorem r_if {c : Expr} {as bs : List Stmt} {m1 m2 : Env → Res Fl} (hc : PT X c (TB C EX mt)) (ha : PSs X as (TX C EX m1)) (hb : PSs X bs (TX C EX m2)) : PS X (.If c as bs pos) (TX C EX fun env => (mt env).bind fun k env1 => match k with
    | true => m1 env1
    | false => m2 env1) := (ps_if hc ha hb).weak fun D σ H q => by
  obtain ⟨O, F, env, R, q⟩ := tx_iff.mp q
  refine sopB (G := fun b H1 => if b = true then TX C EX m1 D σ H1 else TX C EX m2 D σ H1) R q fun k env1 F1 H1 R1 s1 k' => ?_
  cases k with
  | true => exact tx_iff.mpr ⟨O, F1, env1, R1, FinS.later s1 k'⟩
  | false => exact tx_iff.mpr ⟨O, F1, env1, R1, FinS.later s1 k'⟩
theorem r_nil : PSs X [] (TX C EX fun env => .ok .next env) := pss_nil.weak fun D σ H q => by
  obtain ⟨O, F, env, R, q⟩ := tx_iff.mp q
  exact q σ F H R Step.refl
theorem r_seq {st : Stmt} {rest : List Stmt} {m1 m2 : Env → Res Fl} (h1 : PS X st (TX C EX m1)) (h2 : PSs X rest (TX C EX m2)) : PSs X (st :: rest) (TX C EX fun env => match m1 env with
    | .ok .next env1 => m2 env1
    | .ok f env1 => .ok f env1
    | .ex x env1 => .ex x env1
    | .no => .no) := (pss_cons h1 h2).weak fun D σ H q => by
  obtain ⟨O, F, env, R, q⟩ := tx_iff.mp q
  refine tx_iff.mpr ⟨O, F, env, R, ?_⟩
  cases e : m1 env with
  | ok f env1 =>
    rw [e] at q
    cases f with
    | next => exact fun σ' F' H' R' s' => tx_iff.mpr ⟨O, F', env1, R', FinS.later s' q⟩
    | cont => exact q
    | brk => exact q
    | ret v => exact q
  | ex x env1 => rw [e] at q; exact q
  | no => rw [e] at q; exact q
end
end Pv

/-! PvPu: several names at once. -/
set_option linter.all false
set_option maxRecDepth 100000
set_option maxHeartbeats 2000000
namespace Pv
open PySem PySem.Spec L2

/-- the values in their slots, from the right -/
def setR : List Nat → List V → St → St
  | i :: is, x :: xs, σ => (setR is xs σ).set i (some x)
  | _, _, σ => σ
/-- from the left -/
def setF : List Nat → List V → St → St
  | i :: is, x :: xs, σ => setF is xs (σ.set i (some x))
  | _, _, σ => σ
theorem setR_set {j : Nat} {y : Option V} : ∀ {is : List Nat} {xs : List V} {σ : St}, j ∉ is → setR is xs (σ.set j y) = (setR is xs σ).set j y
  | [], _, _, _ => rfl
  | _ :: _, [], _, _ => rfl
  | i :: is, x :: xs, σ, h => by
    have hi : j ≠ i := fun z => h (by rw [z]; exact List.mem_cons_self)
    rw [setR, setR, setR_set fun z => h (List.mem_cons_of_mem _ z), List.set_comm _ _ hi]
theorem setF_R : ∀ {is : List Nat} {xs : List V} {σ : St}, is.Nodup → setF is xs σ = setR is xs σ
  | [], _, _, _ => rfl
  | _ :: _, [], _, _ => rfl
  | i :: is, x :: xs, σ, h => by
    obtain ⟨h1, h2⟩ := List.nodup_cons.mp h
    rw [setF, setR, setF_R h2, setR_set h1]
/-- names, from the left -/
def gNs : List Nat → TGs
  | [] => gNil
  | i :: is => gCons (gName i) (gNs is)
theorem gNs_ok : ∀ {is : List Nat} {xs : List V} {σ : St} {H : Hp} {Q : St → Hp → Prop}, xs.length = is.length → Q (setF is xs σ) H → gNs is xs σ H Q
  | [], [], _, _, _, _, q => ⟨rfl, q⟩
  | [], _ :: _, _, _, _, h, _ => by cases h
  | _ :: _, [], _, _, _, h, _ => by cases h
  | i :: is, x :: xs, _, _, _, h, q => ⟨x, xs, rfl, gNs_ok (Nat.succ.inj h) q⟩
section
variable {X : Cx} {C : Cf} {EX : EXT} {bor : List Nat} {Φ : Nat → List Val → CR}
/-- the reading of the values -/
noncomputable def tVs (C : Cf) (EX : EXT) (Φ : Nat → List Val → CR) (bor : List Nat) : List Ex → TA
  | [] => tNil
  | e :: es => tCons (TV C EX (ev Φ bor e)) (tVs C EX Φ bor es)
def FinU (C : Cf) (EX : EXT) (O : List Addr) (F : List (List Addr)) (H : Hp) (σ : St) (is : List Nat) (G : List V → Hp → Prop) : Res Fl → Prop
  | .ok _ env' => ∀ xs F' H', xs.length = is.length → ER C O F' H' (setR is xs σ) env' → Step F H F' H' → G xs H'
  | .ex x env' => ∀ F' H', ER C O F' H' σ env' → Step F H F' H' → EX x env' σ H'
  | .no => False
theorem unp_w (hB : ∀ p ∈ C.B, p.1 ∈ bor) : ∀ (es : List Ex) (is : List Nat) {O : List Addr} {F : List (List Addr)} {H : Hp} {σ : St} {env : Env} {G : List V → Hp → Prop}, ER C O F H σ env →
    FinU C EX O F H σ is G (unpE Φ bor is es env) → tVs C EX Φ bor es σ H G
  | [], [], O, F, H, σ, env, G, R, h => h [] F H rfl R Step.refl
  | [], _ :: _, O, F, H, σ, env, G, R, h => h.elim
  | _ :: _, [], O, F, H, σ, env, G, R, h => h.elim
  | e :: es, i :: is, O, F, H, σ, env, G, R, h => by
    unfold unpE at h
    refine TV.intro R (fun v env1 e1 F1 P x H1 R1 s1 f1 r1 => ?_) (fun ex env' e1 F' H' R' t => ?_) (fun e1 => ?_)
    · rw [e1] at h
      replace h : FinU C EX O F H σ (i :: is) G ((unpE Φ bor is es env1).bind fun _ env2 => match bindV bor (.name i) v env2 with | some env3 => .ok .next env3 | none => .no) := h
      refine unp_w hB es is R1 ?_
      cases eu : unpE Φ bor is es env1 with
      | no => rw [eu] at h; exact h
      | ex z env2 =>
        rw [eu] at h
        exact fun F' H' R' t => h F' H' (R'.drop fun a ha => List.mem_append_right _ ha) (s1.trans t)
      | ok fl env2 =>
        rw [eu] at h
        replace h : FinU C EX O F H σ (i :: is) G (match bindV bor (.name i) v env2 with | some env3 => .ok .next env3 | none => .no) := h
        intro xs F2 H2 hl R2 s2
        cases e3 : bindV bor (.name i) v env2 with
        | none => rw [e3] at h; exact h.elim
        | some env3 =>
          rw [e3] at h
          have r3 : SR C.K H2 (Nn (P ++ O) F2) P x v := SR.mono (R1.kept s2) (fun b z => (R1.less (P := []) s2 (fun a ha => by simp at ha)) b z) (fun a ha u e => s2.keep a u e (R1.dis a (List.mem_append_left _ ha))) r1
          obtain ⟨R4, s4⟩ := put_val hB R R2 (s1.trans s2) f1 r3 e3
          exact h (x :: xs) _ H2 (by rw [List.length_cons, List.length_cons, hl]) R4 s4
    · rw [e1] at h
      exact h F' H' R' t
    · rw [e1] at h; exact h
theorem unp_ex {is : List Nat} {es : List Ex} {O : List Addr} {F : List (List Addr)} {H : Hp} {σ : St} {env : Env} {D : Ends} {G : List V → Hp → Prop} (h : FinS C EX O F H D (unpE Φ bor is es env))
    (g : ∀ xs F' H' env', xs.length = is.length → ER C O F' H' (setR is xs σ) env' → (∀ F2 H2, ER C O F2 H2 (setR is xs σ) env' → Step F' H' F2 H2 → D.nx (setR is xs σ) H2) → G xs H') :
    FinU C EX O F H σ is G (unpE Φ bor is es env) := by
  cases e : unpE Φ bor is es env with
  | no => rw [e] at h; exact h
  | ex x env' => rw [e] at h; exact h σ
  | ok f env' =>
    have ef : f = .next := by
      revert e
      cases is with
      | nil => cases es with
        | nil => intro e; unfold unpE at e; cases e; rfl
        | cons _ _ => intro e; unfold unpE at e; cases e
      | cons i is => cases es with
        | nil => intro e; unfold unpE at e; cases e
        | cons a es =>
          intro e
          unfold unpE at e
          cases q : ev Φ bor a env with
          | no => rw [q] at e; cases e
          | ex _ _ => rw [q] at e; cases e
          | ok v env1 =>
            rw [q] at e
            replace e : (unpE Φ bor is es env1).bind (fun _ env2 => match bindV bor (.name i) v env2 with | some env3 => Res.ok Fl.next env3 | none => Res.no) = Res.ok f env' := e
            cases q2 : unpE Φ bor is es env1 with
            | no => rw [q2] at e; cases e
            | ex _ _ => rw [q2] at e; cases e
            | ok f2 env2 =>
              rw [q2] at e
              replace e : (match bindV bor (.name i) v env2 with | some env3 => Res.ok Fl.next env3 | none => Res.no) = Res.ok f env' := e
              cases q3 : bindV bor (.name i) v env2 with
              | none => rw [q3] at e; cases e
              | some _ => rw [q3] at e; cases e; rfl
    subst ef
    rw [e] at h
    exact fun xs F' H' hl R' t => g xs F' H' env' hl R' fun F2 H2 R2 t2 => h _ F2 H2 R2 (t.trans t2)
/-- three local names, stored from the right -/
theorem r_unp3 {a b c : Expr} {ea eb ec : Ex} {i j l : Nat} {x y z : Str} {px py pz pt pt2 pos : Pos} {kt k2 : Nat} (hc : X.calm = true) (hB : ∀ p ∈ C.B, p.1 ∈ bor) (hN : X.N.Nodup) (hi : X.N[i]? = some x) (hj : X.N[j]? = some y) (hl : X.N[l]? = some z) (nd : [i, j, l].Nodup)
    (hx : X.env.scope.names.lookup x = some .local) (hy : X.env.scope.names.lookup y = some .local) (hz : X.env.scope.names.lookup z = some .local) (ha : PA X [a, b, c] (tVs C EX Φ bor [ea, eb, ec]))
    (hw : swappedStores [.Tuple [.Name x px, .Name y py, .Name z pz] kt pt] (.Tuple [a, b, c] k2 pt2) X.env = pure (some [x, y, z]))
    (hs : swapsWithSole [.Tuple [.Name x px, .Name y py, .Name z pz] kt pt] (.Tuple [a, b, c] k2 pt2) pos.line X.env = pure false) :
    PS X (.Assign [.Tuple [.Name x px, .Name y py, .Name z pz] kt pt] (.Tuple [a, b, c] k2 pt2) pos) (TX C EX (unpE Φ bor [i, j, l] [ea, eb, ec])) := by
  have nd' := nd
  simp only [List.nodup_cons, List.mem_cons, List.not_mem_nil, or_false, not_or] at nd'
  obtain ⟨⟨h1, h2⟩, h3, _⟩ := nd'
  refine (ps_par3 hc hN hi hj hl h1 h2 h3 hx hy hz ha hw hs).weak fun D σ H q => ?_
  obtain ⟨O, F, env, R, q⟩ := tx_iff.mp q
  refine unp_w hB _ _ R (unp_ex q fun xs F' H' env' hl R' k => ?_)
  match xs, hl, R', k with
  | [u, v, w], _, R', k =>
    refine ⟨u, v, w, rfl, ?_⟩
    have e : ((σ.set i (some u)).set j (some v)).set l (some w) = setR [i, j, l] [u, v, w] σ := setF_R (is := [i, j, l]) (xs := [u, v, w]) nd
    rw [e]
    exact k F' H' R' Step.refl
/-- names that are stored through the tuple itself -/
theorem r_unpT {ts vs : List Expr} {es : List Ex} {is : List Nat} {kt k2 : Nat} {pt pt2 pos : Pos} (hc : X.calm = true) (hK : C.K = X.K) (hB : ∀ p ∈ C.B, p.1 ∈ bor) (nd : is.Nodup) (hz : is.length < 30) (ha : PA X vs (tVs C EX Φ bor es)) (hg : PGs X ts (gNs is))
    (hn : (assignEach ts X.env).length = is.length) (hst : (assignEach ts X.env).findIdx? (·.1) = none)
    (hs : swapsWithSole [.Tuple ts kt pt] (.Tuple vs k2 pt2) pos.line X.env = pure false) (hw : swappedStores [.Tuple ts kt pt] (.Tuple vs k2 pt2) X.env = pure none) (h1 : (assignEach [.Tuple ts kt pt] X.env).map (·.2) = [assign (.Tuple ts kt pt) X.env]) :
    PS X (.Assign [.Tuple ts kt pt] (.Tuple vs k2 pt2) pos) (TX C EX (unpE Φ bor is es)) := (ps_asg (pe_tupD ha) (pg_tup hc hg hn hst) hs hw h1).weak fun D σ H q => by
  obtain ⟨O, F, env, R, q⟩ := tx_iff.mp q
  refine unp_w hB _ _ R (unp_ex q fun xs F' H' env' hl R' k => ?_)
  have hm : sizeLine = 16777216 := rfl
  refine ⟨by rw [hl]; omega, fun p o hp ho => ⟨p, xs, rfl, .inl (.inr ⟨o, upd_same⟩), hl, gNs_ok hl ?_⟩⟩
  rw [setF_R nd]
  obtain ⟨R2, s2⟩ := R'.grow (H' := upd H' p (.frz o (.tup xs))) (fp := []) (fun b u e => by rw [upd_ne (ne_of_none e hp)]; exact e) (fun a ha => by simp at ha)
  exact k F' _ R2 s2
end
end Pv

/-! PvQ: what loops walk; while, for. -/
set_option linter.all false
set_option maxRecDepth 100000
set_option maxHeartbeats 2000000
namespace Pv
open PySem PySem.Spec L2

/-- J walks the data ds, in each later heap -/
structure Wk (K : PySem.W.Frag) (N : Addr → Prop) (H : Hp) (w : Bool) (ds : List PyData) (J : It) : Prop where
  go : ∀ i H', i < ds.length → Kept N H H' → J.go i H'
  yld : ∀ i H' N' x H'', i < ds.length → Kept N H H' → Less H N N' → J.yld i H' x H'' → ∃ d, ds[i]? = some d ∧ (∀ b o, H' b = some o → H'' b = some o) ∧ Dw w K H'' N' x d
  stop : ∀ H', Kept N H H' → J.stop ds.length H'
def IS (C : Cf) (EX : EXT) (w : Bool) (m : Env → Res (List PyData)) : TI := fun σ H R => ∃ O F env, ER C O F H σ env ∧ match m env with
  | .ok ds env' => ∀ J F' H', ER C O F' H' σ env' → Step F H F' H' → Wk C.K (Nn O F') H' w ds J → R J H'
  | .ex e env' => ∀ F' H', ER C O F' H' σ env' → Step F H F' H' → EX e env' σ H'
  | .no => False
section
variable {K : PySem.W.Frag} {H : Hp} {N : Addr → Prop} {w : Bool} {ds : List PyData} {xs : List V} {a b : Addr}
theorem Wk.lst (h : ∀ H', Kept N H H' → SqL K H' a xs) (d : DnAll K H N xs ds) : Wk K N H w ds (Itl K a) where
  go := fun i H' hi k => by
    rw [← d.length] at hi
    exact ⟨xs, xs[i], h H' k, by simp [hi]⟩
  yld := fun i H' N' x H'' hi k l y => by
    obtain ⟨rfl, y⟩ := y
    obtain ⟨d', e1, e2⟩ := d.get (y xs (h _ k))
    exact ⟨d', e1, fun _ _ e => e, .inl (Dn.mono k l _ _ e2)⟩
  stop := fun H' k => ⟨xs, h H' k, by rw [d.length]; exact Nat.le_refl _⟩
theorem Wk.tup (h : SqT K H a xs) (d : DnAll K H N xs ds) : Wk K N H w ds (Itt K a) where
  go := fun i H' hi k => by
    rw [← d.length] at hi
    exact ⟨xs, xs[i], SqT.kept k h, by simp [hi]⟩
  yld := fun i H' N' x H'' hi k l y => by
    obtain ⟨rfl, y⟩ := y
    obtain ⟨d', e1, e2⟩ := d.get (y xs (SqT.kept k h))
    exact ⟨d', e1, fun _ _ e => e, .inl (Dn.mono k l _ _ e2)⟩
  stop := fun H' k => ⟨xs, SqT.kept k h, by rw [d.length]; exact Nat.le_refl _⟩
theorem Wk.str (z : Str) : Wk K N H w (z.cps.toList.map fun c => .str ⟨#[c]⟩) (Its z) where
  go := fun i H' hi k => by
    show i < z.cps.size
    simpa using hi
  yld := fun i H' N' x H'' hi k l y => by
    obtain ⟨rfl, c, e1, rfl⟩ := y
    refine ⟨.str ⟨#[c]⟩, ?_, fun _ _ e => e, .inl (.str _)⟩
    rw [List.getElem?_map, Array.getElem?_toList, e1]
    rfl
  stop := fun H' k => by
    show z.cps.size ≤ _
    simp
theorem Wk.rng (lo : Int) (n : Nat) : Wk K N H w ((List.range n).map fun (k : Nat) => .int (lo + (k : Int))) (Itr lo n) where
  go := fun i H' hi k => by
    show i < n
    simpa using hi
  yld := fun i H' N' x H'' hi k l y => by
    obtain ⟨rfl, rfl⟩ := y
    refine ⟨.int (lo + i), ?_, fun _ _ e => e, .inl (.int _)⟩
    have hi' : i < n := by simpa using hi
    simp [hi']
  stop := fun H' k => by
    show n ≤ _
    simp
theorem pair_dn {H' H'' : Hp} {N' : Addr → Prop} {T : Addr} {x y : V} {d e : PyData} (hT : H' T = none) (eH : H'' = upd H' T (.tup [x, y])) (dx : Dn K H' N' x d) (dy : Dn K H' N' y e) :
    (∀ b o, H' b = some o → H'' b = some o) ∧ Dw true K H'' N' (.ref T) (.tuple [d, e]) := by
  subst eH
  have k : ∀ b o, H' b = some o → upd H' T (.tup [x, y]) b = some o := fun b o q => by rw [upd_ne (ne_of_none q hT)]; exact q
  exact ⟨k, .inr ⟨rfl, _, _, _, rfl, rfl, SqT.of upd_same, .cons (Dn.mono (fun b o q _ => k b o q) (fun _ z => .inl z) _ _ dx) (.cons (Dn.mono (fun b o q _ => k b o q) (fun _ z => .inl z) _ _ dy) .nil)⟩⟩
theorem zip_get {xs ys : List PyData} {i : Nat} {d e : PyData} (h1 : xs[i]? = some d) (h2 : ys[i]? = some e) : ((xs.zip ys).map fun p => PyData.tuple [p.1, p.2])[i]? = some (.tuple [d, e]) := by
  rw [List.getElem?_map, show (xs.zip ys)[i]? = some (d, e) from List.getElem?_zip_eq_some.mpr ⟨h1, h2⟩]
  rfl
theorem Wk.zip {ys : List V} {es : List PyData} (h : ∀ H', Kept N H H' → SqL K H' a xs) (h' : ∀ H', Kept N H H' → SqL K H' b ys) (d : DnAll K H N xs ds) (d' : DnAll K H N ys es) : Wk K N H true ((ds.zip es).map fun p => .tuple [p.1, p.2]) (Itz K a b) where
  go := fun i H' hi k => by
    rw [List.length_map, List.length_zip, ← d.length, ← d'.length] at hi
    exact ⟨xs, ys, xs[i], ys[i], h H' k, h' H' k, List.getElem?_eq_getElem (by omega), List.getElem?_eq_getElem (by omega)⟩
  yld := fun i H' N' x H'' hi k l y => by
    obtain ⟨T, u, w, rfl, hT, eH, y1, y2⟩ := y
    obtain ⟨d1, e1, e2⟩ := d.get (y1 xs (h _ k))
    obtain ⟨d2, e3, e4⟩ := d'.get (y2 ys (h' _ k))
    obtain ⟨g, dn⟩ := pair_dn hT eH (Dn.mono k l _ _ e2) (Dn.mono k l _ _ e4)
    exact ⟨_, zip_get e1 e3, g, dn⟩
  stop := fun H' k => ⟨xs, ys, h H' k, h' H' k, by rw [List.length_map, List.length_zip, d.length, d'.length]; omega⟩
theorem Wk.zipT {ys : List V} {es : List PyData} (h : SqT K H a xs) (h' : SqT K H b ys) (d : DnAll K H N xs ds) (d' : DnAll K H N ys es) : Wk K N H true ((ds.zip es).map fun p => .tuple [p.1, p.2]) (RZ.ItzT K a b) where
  go := fun i H' hi k => by
    rw [List.length_map, List.length_zip, ← d.length, ← d'.length] at hi
    exact ⟨xs, ys, xs[i], ys[i], SqT.kept k h, SqT.kept k h', List.getElem?_eq_getElem (by omega), List.getElem?_eq_getElem (by omega)⟩
  yld := fun i H' N' x H'' hi k l y => by
    obtain ⟨T, u, w, rfl, hT, eH, y1, y2⟩ := y
    obtain ⟨d1, e1, e2⟩ := d.get (y1 xs (SqT.kept k h))
    obtain ⟨d2, e3, e4⟩ := d'.get (y2 ys (SqT.kept k h'))
    obtain ⟨g, dn⟩ := pair_dn hT eH (Dn.mono k l _ _ e2) (Dn.mono k l _ _ e4)
    exact ⟨_, zip_get e1 e3, g, dn⟩
  stop := fun H' k => ⟨xs, ys, SqT.kept k h, SqT.kept k h', by rw [List.length_map, List.length_zip, d.length, d'.length]; omega⟩
theorem Wk.enum (h : ∀ H', Kept N H H' → SqL K H' a xs) (d : DnAll K H N xs ds) : Wk K N H true (ds.zipIdx.map fun p => .tuple [.int p.2, p.1]) (Ite K a) where
  go := fun i H' hi k => by
    rw [List.length_map, List.length_zipIdx, ← d.length] at hi
    exact ⟨xs, xs[i], h H' k, by simp [hi]⟩
  yld := fun i H' N' x H'' hi k l y => by
    obtain ⟨T, u, rfl, hT, eH, y1⟩ := y
    obtain ⟨d1, e1, e2⟩ := d.get (y1 xs (h _ k))
    obtain ⟨g, dn⟩ := pair_dn hT eH (.int (i : Nat)) (Dn.mono k l _ _ e2)
    refine ⟨_, ?_, g, dn⟩
    rw [List.getElem?_map, List.getElem?_zipIdx, e1]
    simp
  stop := fun H' k => ⟨xs, h H' k, by rw [List.length_map, List.length_zipIdx, d.length]; exact Nat.le_refl _⟩
end
section
variable {X : Cx} {C : Cf} {EX : EXT} {bor : List Nat} {a b c e o tg : Expr} {es : List Expr} {pos apos cpos p1 p2 : Pos} {ma mb mc : Env → Res Od} {mv mw : Env → Res Val} {mt : Env → Res Bool}
/-- a value that is walked: it is shared, or the script -/
theorem walk_list {O P : List Addr} {F1 : List (List Addr)} {H1 : Hp} {σ : St} {env1 : Env} {x : V} {v : Val} {ds : List PyData} (R1 : ER C (P ++ O) F1 H1 σ env1) (hP : ∀ a ∈ P, a ∉ O) (r1 : SR C.K H1 (Nn (P ++ O) F1) P x v) (e : v.data = .list ds) :
    ∃ a xs, x = .ref a ∧ (∀ H', Kept (Nn O F1) H1 H' → SqL C.K H' a xs) ∧ DnAll C.K H1 (Nn O F1) xs ds := by
  have done : ∀ d, v.share = some d → d = .list ds → ∃ a xs, x = .ref a ∧ (∀ H', Kept (Nn O F1) H1 H' → SqL C.K H' a xs) ∧ DnAll C.K H1 (Nn O F1) xs ds := fun d e1 e2 => by
    subst e2
    cases share_dn R1 hP (fun a h => h) r1 e1 with
    | @lst a xs _ h0 h1 h2 => exact ⟨a, xs, rfl, fun H' k => SqL.of (k _ _ h1 (.inl h0)), h2⟩
  cases v with
  | sh d => exact done d rfl e
  | ow m =>
    cases m with
    | lst es => exact done _ rfl e
    | dic es => cases e
    | dol es => cases e
  | scr ns =>
    obtain ⟨_, a, e1, h1⟩ := r1
    cases e
    exact ⟨a, _, e1, fun H' k => (h1.kept k).sq, DnAll.ints ns⟩
theorem walk_tup {O P : List Addr} {F1 : List (List Addr)} {H1 : Hp} {σ : St} {env1 : Env} {x : V} {v : Val} {ds : List PyData} (R1 : ER C (P ++ O) F1 H1 σ env1) (r1 : SR C.K H1 (Nn (P ++ O) F1) P x v) (e : v.data = .tuple ds) :
    ∃ a xs, x = .ref a ∧ SqT C.K H1 a xs ∧ DnAll C.K H1 (Nn O F1) xs ds := by
  cases v with
  | sh d =>
    cases e
    cases r1.2 with
    | @tup a xs _ h1 h2 => exact ⟨a, xs, rfl, h1.sq, DnAll.mono Kept.rfl' Nn.cut _ _ h2⟩
  | ow m => cases m <;> cases e
  | scr ns => cases e
theorem r_it {w : Bool} (hK : C.K = X.K) (he : PE X e (TV C EX mv)) : PI X tg e (IS C EX w fun env => (mv env).bind fun v env1 => Res.opt (itemsD v.data) env1) := by
  refine ⟨fun pins s σ H R I h => ?_⟩
  obtain ⟨O, F, env, RR, h⟩ := h
  have go : TV C EX mv σ H fun x H1 => (∃ a xs, x = .ref a ∧ SqL X.K H1 a xs ∧ R (Itl X.K a) H1) ∨ (∃ a xs, x = .ref a ∧ SqT X.K H1 a xs ∧ R (Itt X.K a) H1) ∨ ∃ z, x = .str z ∧ R (Its z) H1 := by
    refine TV.intro RR (fun v env1 e1 F1 P x H1 R1 s1 f1 r1 => ?_) (fun ex env' e1 => ?_) (fun e1 => ?_)
    · have k : match (Res.opt (itemsD v.data) env1 : Res (List PyData)) with
        | .ok ds env' => ∀ J F' H', ER C O F' H' σ env' → Step F H F' H' → Wk C.K (Nn O F') H' w ds J → R J H'
        | .ex e env' => ∀ F' H', ER C O F' H' σ env' → Step F H F' H' → EX e env' σ H'
        | .no => False := by
        simp only [e1] at h
        exact h
      have R2 : ER C O F1 H1 σ env1 := R1.drop fun a ha => List.mem_append_right _ ha
      rw [← hK]
      cases e2 : v.data with
      | list ds =>
        rw [e2] at k
        obtain ⟨a, xs, rfl, st, dn⟩ := walk_list R1 (fresh_off RR f1) r1 e2
        exact .inl ⟨a, xs, rfl, st _ Kept.rfl', k _ F1 H1 R2 s1 (.lst st dn)⟩
      | tuple ds =>
        rw [e2] at k
        obtain ⟨a, xs, rfl, st, dn⟩ := walk_tup R1 r1 e2
        exact .inr (.inl ⟨a, xs, rfl, st, k _ F1 H1 R2 s1 (.tup st dn)⟩)
      | str z =>
        rw [e2] at k
        have d := r1.read (by rintro ps rfl; cases e2)
        rw [e2] at d
        cases (show Dn C.K H1 _ x (.str z) from d)
        exact .inr (.inr ⟨z, rfl, k _ F1 H1 R2 s1 (.str z)⟩)
      | _ => rw [e2] at k; exact k.elim
    · simp only [e1] at h; exact h
    · simp only [e1] at h; exact h
  refine thn (he.run pins s σ H _ I go) fun v s1 ⟨x, H1, I1, r1, q1⟩ => ?_
  rcases q1 with ⟨a, xs, rfl, hq, q⟩ | ⟨a, xs, rfl, hq, q⟩ | ⟨z, rfl, q⟩
  · cases r1
    obtain ⟨its, rv, p, hz⟩ := I1.list hq
    refine wpAny_pyIter_list p.isList ⟨_, [s1.heap.objs.size], _, _, H1, rfl, I1.kept (t' := s1.toks) fun b o e => Heap.get?_push_of_some _ e, turn_list a _, ⟨_, Heap.get?_push_size _ rfl, rfl, rfl⟩, fun b hb => ?_, q⟩
    cases List.mem_singleton.mp hb
    exact I1.fpOk (Nat.le_refl _) (I1.hok.fresh (Nat.le_refl _))
  · cases r1
    obtain ⟨its, rv, p, hz⟩ := I1.tuple hq
    refine wpAny_pyIter_tuple (items := its.toArray) p ⟨_, [s1.heap.objs.size], _, _, H1, rfl, I1.kept (t' := s1.toks) fun b o e => Heap.get?_push_of_some _ e, turn_tuple a _, ⟨_, Heap.get?_push_size _ rfl, rfl, rfl⟩, fun b hb => ?_, q⟩
    cases List.mem_singleton.mp hb
    exact I1.fpOk (Nat.le_refl _) (I1.hok.fresh (Nat.le_refl _))
  · obtain ⟨t, rfl⟩ := r1
    cases ha : z.cps.all (· < 128)
    · exact wpAny_pyIter_wide ha (pi_one (tk := s1.toks) I1 _ (turn_str _ z t _ (.inr rfl)) ⟨_, Heap.get?_push_size _ rfl, rfl, rfl⟩ q)
    · exact wpAny_pyIter_ascii ha (pi_one (tk := s1.toks) I1 _ (turn_str _ z t _ (.inl rfl)) ⟨_, Heap.get?_push_size _ rfl, rfl, rfl⟩ q)
theorem _root_.L2.PI.weak {X : Cx} {tg e : Expr} {t t' : TI} (h : PI X tg e t) (w : ∀ σ H Q, t' σ H Q → t σ H Q) : PI X tg e t' := ⟨fun p s σ H R I q => h.run p s σ H R I (w σ H R q)⟩
end
end Pv

/-! PvR: range, zip, enumerate; while, for. -/
set_option linter.all false
set_option maxRecDepth 100000
set_option maxHeartbeats 2000000
namespace Pv
open PySem PySem.Spec L2

section
variable {X : Cx} {C : Cf} {EX : EXT} {bor : List Nat} {a b c e o tg : Expr} {es : List Expr} {pos apos cpos p1 p2 : Pos} {ma mb mc : Env → Res Od} {mv mw : Env → Res Val} {mt : Env → Res Bool}
/-- what is to hold behind a source -/
def FinI (C : Cf) (EX : EXT) (w : Bool) (O : List Addr) (F : List (List Addr)) (H : Hp) (σ : St) (R : It → Hp → Prop) : Res (List PyData) → Prop
  | .ok ds env' => ∀ J F' H', ER C O F' H' σ env' → Step F H F' H' → Wk C.K (Nn O F') H' w ds J → R J H'
  | .ex e env' => ∀ F' H', ER C O F' H' σ env' → Step F H F' H' → EX e env' σ H'
  | .no => False
theorem is_iff {w : Bool} {m : Env → Res (List PyData)} {σ : St} {H : Hp} {R : It → Hp → Prop} : IS C EX w m σ H R ↔ ∃ O F env, ER C O F H σ env ∧ FinI C EX w O F H σ R (m env) := by
  unfold IS
  constructor
  · rintro ⟨O, F, env, RR, h⟩
    refine ⟨O, F, env, RR, ?_⟩
    cases e : m env <;> rw [e] at h <;> exact h
  · rintro ⟨O, F, env, RR, h⟩
    refine ⟨O, F, env, RR, ?_⟩
    cases e : m env <;> rw [e] at h <;> exact h
theorem iop1 {w : Bool} {O : List Addr} {F : List (List Addr)} {H : Hp} {σ : St} {env : Env} {R : It → Hp → Prop} {k : Od → Env → Res (List PyData)} {G : V → Hp → Prop} (RR : ER C O F H σ env) (h : FinI C EX w O F H σ R ((ma env).bind k))
    (g : ∀ o env1 F1 P x H1, ER C (P ++ O) F1 H1 σ env1 → Step F H F1 H1 → (∀ a ∈ P, H a = none) → OR C.K H1 (Nn (P ++ O) F1) σ P [o] [x] → FinI C EX w O F H σ R (k o env1) → G x H1) : TO C EX ma σ H G := by
  refine TO.intro RR (fun o env1 e1 F1 P1 x H1 R1 s1 f1 r1 => g o env1 F1 P1 x H1 R1 s1 f1 r1 ?_) (fun e env' e1 => ?_) (fun e1 => ?_)
  · rw [e1] at h; exact h
  · rw [e1] at h; exact h
  · rw [e1] at h; exact h
theorem r_rng {w : Bool} (hg : Gl X "range") (hm : X.mg "range" = none) (ha : PE X a (TO C EX ma)) (hs : starEach [a] X.env = (false, eval a X.env) :: starEach [] X.env) :
    PI X tg (.Call (.Name "range" p1) [a] [] pos) (IS C EX w fun env => (ma env).bind fun x env1 => match x.data env1 with
    | some (.int j) => Res.opt (range2 0 j) env1
    | _ => .no) := (pi_range1 hg hm (pa_cons ha pa_nil hs) hs).weak fun σ H R q => by
  obtain ⟨O, F, env, RR, q⟩ := is_iff.mp q
  refine iop1 RR q fun o env1 F1 P x H1 R1 s1 f1 r1 k => ?_
  split at k
  · rename_i j e1
    have d := OR.data1 R1 r1 e1
    cases (show Dn C.K H1 _ x (.int j) from d)
    unfold range2 at k
    split at k
    · rename_i hz
      refine ⟨j, rfl, hz.2.2.1, hz.2.2.2, ?_⟩
      have e0 : (j - 0).toNat = j.toNat := by simp
      rw [e0] at k
      exact k _ F1 H1 (R1.drop fun a ha => List.mem_append_right _ ha) s1 (Wk.rng 0 j.toNat)
    · exact k.elim
  · exact k.elim
theorem r_rng2 {w : Bool} (hg : Gl X "range") (hm : X.mg "range" = none) (ha : PE X a (TO C EX ma)) (hb : PE X b (TO C EX mb)) (hs : starEach [a, b] X.env = (false, eval a X.env) :: starEach [b] X.env) (hs2 : starEach [b] X.env = (false, eval b X.env) :: starEach [] X.env) :
    PI X tg (.Call (.Name "range" p1) [a, b] [] pos) (IS C EX w fun env => (ma env).bind fun x env1 => (mb env1).bind fun y env2 => match x.data env2, y.data env2 with
    | some (.int i), some (.int j) => Res.opt (range2 i j) env2
    | _, _ => .no) := (pi_range2 hg hm (pa_cons ha (pa_cons hb pa_nil hs2) hs) (by rw [hs, hs2]; rfl) hs2).weak fun σ H R q => by
  obtain ⟨O, F, env, RR, q⟩ := is_iff.mp q
  refine iop1 RR q fun o env1 F1 P x H1 R1 s1 f1 r1 h1 => ?_
  refine TO.intro R1 (fun p env2 e2 F2 P2 y H2 R2 s2 f2 r2 => ?_) (fun e env' e2 F' H' R' t => ?_) (fun e2 => ?_)
  · rw [e2] at h1
    obtain ⟨F', P', R', s', f', r'⟩ := PVs.cons R1 s1 f1 r1 ⟨F2, P2, R2, s2, f2, r2⟩
    replace h1 : FinI C EX w O F H σ R (match o.data env2, p.data env2 with | some (.int i), some (.int j) => Res.opt (range2 i j) env2 | _, _ => .no) := h1
    split at h1
    · rename_i i j e3 e4
      obtain ⟨d1, d2⟩ := OR.data2 R' r' e3 e4
      cases (show Dn C.K H2 _ x (.int i) from d1)
      cases (show Dn C.K H2 _ y (.int j) from d2)
      unfold range2 at h1
      split at h1
      · rename_i hz
        exact ⟨i, j, rfl, hz, h1 _ F' H2 (R'.drop fun a ha => List.mem_append_right _ ha) s' (Wk.rng i _)⟩
      · exact h1.elim
    · exact h1.elim
  · rw [e2] at h1
    exact h1 F' H' (R'.drop fun a ha => List.mem_append_right _ ha) (s1.trans t)
  · rw [e2] at h1; exact h1
theorem r_zip {elts : List Expr} {kk : Nat} {tpos : Pos} (hK : C.K = X.K) (hg : Gl X "zip") (hm : X.mg "zip" = none) (ha : PE X a (TV C EX mv)) (hb : PE X b (TV C EX mw)) (hs : starEach [a, b] X.env = (false, eval a X.env) :: starEach [b] X.env) (hs2 : starEach [b] X.env = (false, eval b X.env) :: starEach [] X.env)
    (hpl : (backTo pos (starEach [b] X.env)).any (·.1) = false) : PI X (.Tuple elts kk tpos) (.Call (.Name "zip" p1) [a, b] [] pos) (IS C EX true fun env => (mv env).bind fun v env1 => (mw env1).bind fun w env2 => match v.data, w.data with
    | .list xs, .list ys => .ok ((xs.zip ys).map fun p => .tuple [p.1, p.2]) env2
    | .tuple xs, .tuple ys => .ok ((xs.zip ys).map fun p => .tuple [p.1, p.2]) env2
    | _, _ => .no) := (RZ.pi_zipA hg hm (pa_cons ha (pa_cons hb pa_nil hs2) hs) hs hpl).weak fun σ H R q => by
  obtain ⟨O, F, env, RR, q⟩ := is_iff.mp q
  refine TV.intro RR (fun v env1 e1 F1 P x H1 R1 s1 f1 r1 => ?_) (fun e env' e1 => ?_) (fun e1 => ?_)
  · rw [e1] at q
    refine TV.intro R1 (fun w env2 e2 F2 P2 y H2 R2 s2 f2 r2 => ?_) (fun e env' e2 F' H' R' t => ?_) (fun e2 => ?_)
    · replace q : FinI C EX true O F H σ R ((mw env1).bind fun w env2 => match v.data, w.data with
        | .list xs, .list ys => .ok ((xs.zip ys).map fun p => .tuple [p.1, p.2]) env2
        | .tuple xs, .tuple ys => .ok ((xs.zip ys).map fun p => .tuple [p.1, p.2]) env2
        | _, _ => .no) := q
      rw [e2] at q
      replace q : FinI C EX true O F H σ R (match v.data, w.data with
        | .list xs, .list ys => .ok ((xs.zip ys).map fun p => .tuple [p.1, p.2]) env2
        | .tuple xs, .tuple ys => .ok ((xs.zip ys).map fun p => .tuple [p.1, p.2]) env2
        | _, _ => .no) := q
      have R3 : ER C (P ++ O) F2 H2 σ env2 := R2.drop fun a ha => List.mem_append_right _ ha
      have R4 : ER C O F2 H2 σ env2 := R3.drop fun a ha => List.mem_append_right _ ha
      have r3 : SR C.K H2 (Nn (P ++ O) F2) P x v := SR.mono (R1.kept s2) (fun b z => (R1.less (P := []) s2 (fun a ha => by simp at ha)) b z) (fun a ha u e => s2.keep a u e (R1.dis a (List.mem_append_left _ ha))) r1
      have r4 : SR C.K H2 (Nn (P2 ++ O) F2) P2 y w := SR.mono Kept.rfl' (fun b z => .inl (z.elim (fun u => .inl ((List.mem_append.mp u).elim (fun t => List.mem_append_left _ t) fun t => List.mem_append_right _ (List.mem_append_right _ t))) .inr)) (fun _ _ _ e => e) r2
      have R5 : ER C (P2 ++ O) F2 H2 σ env2 := R2.drop fun a ha => (List.mem_append.mp ha).elim (fun t => List.mem_append_left _ t) fun t => List.mem_append_right _ (List.mem_append_right _ t)
      have hP2 : ∀ a ∈ P2, a ∉ O := fun a ha z => fresh_off R1 f2 a ha (List.mem_append_right _ z)
      rw [← hK]
      split at q
      · rename_i xs ys e3 e4
        obtain ⟨a1, us, rfl, st, dn⟩ := walk_list R3 (fresh_off RR f1) r3 e3
        obtain ⟨a2, ws, rfl, st2, dn2⟩ := walk_list R5 hP2 r4 e4
        exact ⟨a1, a2, us, ws, rfl, .inl ⟨st _ Kept.rfl', st2 _ Kept.rfl', q _ F2 H2 R4 (s1.trans s2) (.zip st st2 dn dn2)⟩⟩
      · rename_i xs ys e3 e4
        obtain ⟨a1, us, rfl, st, dn⟩ := walk_tup R3 r3 e3
        obtain ⟨a2, ws, rfl, st2, dn2⟩ := walk_tup R5 r4 e4
        exact ⟨a1, a2, us, ws, rfl, .inr ⟨st, st2, q _ F2 H2 R4 (s1.trans s2) (.zipT st st2 dn dn2)⟩⟩
      · exact q.elim
    · replace q : FinI C EX true O F H σ R ((mw env1).bind _) := q
      rw [e2] at q
      exact q F' H' (R'.drop fun a ha => List.mem_append_right _ ha) (s1.trans t)
    · replace q : FinI C EX true O F H σ R ((mw env1).bind _) := q
      rw [e2] at q; exact q
  · rw [e1] at q; exact q
  · rw [e1] at q; exact q
theorem r_enum {elts : List Expr} {kk : Nat} {tpos : Pos} (hK : C.K = X.K) (hg : Gl X "enumerate") (hm : X.mg "enumerate" = none) (ha : PE X a (TV C EX mv)) (hs : starEach [a] X.env = (false, eval a X.env) :: starEach [] X.env) :
    PI X (.Tuple elts kk tpos) (.Call (.Name "enumerate" p1) [a] [] pos) (IS C EX true fun env => (mv env).bind fun v env1 => match v.data with
    | .list xs => .ok (xs.zipIdx.map fun p => .tuple [.int p.2, p.1]) env1
    | _ => .no) := (pi_enum hg hm (pa_cons ha pa_nil hs) hs).weak fun σ H R q => by
  obtain ⟨O, F, env, RR, q⟩ := is_iff.mp q
  refine TV.intro RR (fun v env1 e1 F1 P x H1 R1 s1 f1 r1 => ?_) (fun e env' e1 => ?_) (fun e1 => ?_)
  · rw [e1] at q
    replace q : FinI C EX true O F H σ R (match v.data with
      | .list xs => .ok (xs.zipIdx.map fun p => .tuple [.int p.2, p.1]) env1
      | _ => .no) := q
    rw [← hK]
    split at q
    · rename_i xs e3
      obtain ⟨a1, us, rfl, st, dn⟩ := walk_list R1 (fresh_off RR f1) r1 e3
      exact ⟨a1, us, rfl, st _ Kept.rfl', q _ F1 H1 (R1.drop fun a ha => List.mem_append_right _ ha) s1 (.enum st dn)⟩
    · exact q.elim
  · rw [e1] at q; exact q
  · rw [e1] at q; exact q
/-! ### while -/
theorem r_while {body : List Stmt} {mB : Env → Res Fl} (hp : PassesOwn (model X.prog X.w) X.A X.env X.xe) (hc : PT X c (TB C EX mt)) (hb : PSs X body (TX C EX mB)) : PS X (.While c body [] pos) (TX C EX fun env => whileR mt mB env) := (ps_while hp hc hb).weak fun D σ H q => by
  obtain ⟨O, F, env, R, q⟩ := tx_iff.mp q
  have hr : whileR mt mB env ≠ .no := fun z => by rw [z] at q; exact q
  generalize er : whileR mt mB env = r at q hr
  obtain ⟨n, hn⟩ := whileR_ex er hr
  refine ⟨fun m σ' H' => ∃ F' env', ER C O F' H' σ' env' ∧ Step F H F' H' ∧ whileN mt mB m env' = r, ⟨n, F, env, R, Step.refl, hn⟩, ?_⟩
  rintro m σ1 H1 ⟨F1, env1, R1, s1, e1⟩
  have q1 : FinS C EX O F1 H1 D r := FinS.later s1 q
  cases m with
  | zero => exact absurd e1.symm hr
  | succ m =>
    unfold whileN at e1
    cases et : mt env1 with
    | ex x env2 =>
      rw [et] at e1
      rw [← e1] at q1
      exact ⟨O, F1, env1, R1, by rw [et]; exact fun F' H' R' t => q1 σ1 F' H' R' t⟩
    | no =>
      rw [et] at e1
      exact absurd e1.symm hr
    | ok k env2 =>
      rw [et] at e1
      refine ⟨O, F1, env1, R1, ?_⟩
      rw [et]
      rintro k' H2 ⟨rfl, F2, R2, s2⟩
      cases k' with
      | false =>
        rw [if_neg Bool.false_ne_true]
        simp only at e1
        rw [← e1] at q1
        exact q1 σ1 F2 H2 R2 s2
      | true =>
        rw [if_pos rfl]
        simp only at e1
        refine ⟨fun σ' H' => ∃ F' env', ER C O F' H' σ' env' ∧ Step F H F' H' ∧ whileN mt mB m env' = r, fun σ' H' ⟨F', env', R', s', e'⟩ => ⟨m, Nat.lt_succ_self m, F', env', R', s', e'⟩, tx_iff.mpr ⟨O, F2, env2, R2, ?_⟩⟩
        have s12 := s1.trans s2
        cases eb : mB env2 with
        | no => rw [eb] at e1; exact absurd e1.symm hr
        | ex x env3 =>
          rw [eb] at e1
          rw [← e1] at q1
          exact FinS.later s2 q1
        | ok f env3 =>
          rw [eb] at e1
          cases f with
          | next => exact fun σ' F' H' R' t => ⟨F', env3, R', s12.trans t, e1⟩
          | cont => exact fun σ' F' H' R' t => ⟨F', env3, R', s12.trans t, e1⟩
          | brk =>
            simp only at e1
            rw [← e1] at q1
            exact FinS.later s2 q1
          | ret v =>
            simp only at e1
            rw [← e1] at q1
            exact FinS.later s2 q1
/-! ### for -/
theorem r_for {iter : Expr} {body : List Stmt} {t : Tgt} {mi : Env → Res (List PyData)} {mB : Env → Res Fl} (hp : PassesOwn (model X.prog X.w) X.A X.env X.xe) (hc : X.calm = true) (hi : PI X tg iter (IS C EX t.isT mi)) (hg : PG X tg (GB C bor t)) (hb : PSs X body (TX C EX mB))
    (hs : ∀ x, foldedSetIterable iter X.env x = pure x) : PS X (.For tg iter body [] pos) (TX C EX fun env => (mi env).bind fun ds env1 => walk (bindT bor t) mB ds env1) := (ps_for hp hc hi hg hb hs).weak fun D σ H q => by
  obtain ⟨O, F, env, R, q⟩ := tx_iff.mp q
  refine is_iff.mpr ⟨O, F, env, R, ?_⟩
  cases ei : mi env with
  | no => rw [ei] at q; exact q
  | ex x env' => rw [ei] at q; exact fun F' H' R' t => q σ F' H' R' t
  | ok ds env1 =>
    rw [ei] at q
    replace q : FinS C EX O F H D (walk (bindT bor t) mB ds env1) := q
    intro J F1 H1 R1 s1 wk
    generalize er : walk (bindT bor t) mB ds env1 = r at q
    have hr : r ≠ .no := fun z => by rw [z] at q; exact q
    refine ⟨fun i m σ' H' => m = ds.length - i ∧ i ≤ ds.length ∧ ∃ F' env', ER C O F' H' σ' env' ∧ Step F1 H1 F' H' ∧ walk (bindT bor t) mB (ds.drop i) env' = r, ⟨ds.length, rfl, Nat.zero_le _, F1, env1, R1, Step.refl, er⟩, ?_⟩
    rintro i m σ2 H2 ⟨rfl, hi', F2, env2, R2, s2, e2⟩
    have q2 : FinS C EX O F2 H2 D r := FinS.later (s1.trans s2) q
    have kp : Kept (Nn O F1) H1 H2 := R1.kept s2
    have ls : Less H1 (Nn O F1) (Nn O F2) := R1.less (P := []) s2 fun a ha => by simp at ha
    by_cases hlt : i < ds.length
    · refine .inr ⟨wk.go i H2 hlt kp, fun σ' H' => ∃ F' env', ER C O F' H' σ' env' ∧ Step F1 H1 F' H' ∧ walk (bindT bor t) mB (ds.drop (i + 1)) env' = r, fun σ' H' ⟨F', env', R', s', e'⟩ => ⟨ds.length - (i + 1), by omega, rfl, hlt, F', env', R', s', e'⟩, fun x H3 y => ?_⟩
      obtain ⟨d, ed, gr, dn⟩ := wk.yld i H2 _ x H3 hlt kp ls y
      obtain ⟨R3, s3⟩ := R2.grow (fp := []) gr fun a ha => by simp at ha
      have ecut : ds.drop i = d :: ds.drop (i + 1) := by
        rw [List.drop_eq_getElem_cons hlt]
        congr 1
        rw [List.getElem?_eq_getElem hlt] at ed
        exact Option.some.inj ed
      rw [ecut] at e2
      unfold walk at e2
      cases eb : bindT bor t d env2 with
      | none => rw [eb] at e2; exact absurd e2.symm hr
      | some env3 =>
        rw [eb] at e2
        refine ⟨O, F2, env2, d, env3, R3, dn, eb, fun σ4 F4 R4 l4 n4 => tx_iff.mpr ⟨O, F4, env3, R4, ?_⟩⟩
        have s4 : Step F2 H2 F4 H3 := ⟨s3.keep, fun a ha => .inl (l4 a ha), s3.alive⟩
        have s14 := s2.trans s4
        simp only at e2
        cases em : mB env3 with
        | no => rw [em] at e2; exact absurd e2.symm hr
        | ex x env5 =>
          rw [em] at e2
          rw [← e2] at q2
          exact FinS.later s4 q2
        | ok f env5 =>
          rw [em] at e2
          cases f with
          | next => exact fun σ' F' H' R' t => ⟨F', env5, R', s14.trans t, e2⟩
          | cont => exact fun σ' F' H' R' t => ⟨F', env5, R', s14.trans t, e2⟩
          | brk =>
            simp only at e2
            rw [← e2] at q2
            exact FinS.later s4 q2
          | ret v =>
            simp only at e2
            rw [← e2] at q2
            exact FinS.later s4 q2
    · have ei : i = ds.length := by omega
      subst ei
      refine .inl ⟨wk.stop H2 kp, ?_⟩
      rw [List.drop_length] at e2
      unfold walk at e2
      rw [← e2] at q2
      exact q2 σ2 F2 H2 R2 Step.refl
end
end Pv

/-! PvS: comprehensions. -/
set_option linter.all false
set_option maxRecDepth 100000
set_option maxHeartbeats 2000000
namespace Pv
open PySem PySem.Spec L2

section
variable {C : Cf} {O O1 : List Addr} {F F' F1 : List (List Addr)} {H H' H1 : Hp} {σ σ' : St} {env env' env1 : Env} {i : Nat} {vs : List Nat}
theorem wipeE_length (env : Env) : ∀ vs : List Nat, (wipeE env vs).length = env.length
  | [] => rfl
  | v :: vs => by unfold wipeE; rw [List.length_set, wipeE_length env vs]
theorem restE_length (env env' : Env) : ∀ vs : List Nat, (restE env env' vs).length = env'.length
  | [] => rfl
  | v :: vs => by unfold restE; rw [List.length_set, restE_length env env' vs]
theorem at_beyond {env : Env} {i : Nat} (h : env.length ≤ i) : Env.at env i = none := by
  unfold Env.at
  rw [List.getElem?_eq_none h]
  rfl
theorem wipeE_at (env : Env) (i : Nat) : ∀ vs : List Nat, Env.at (wipeE env vs) i = if i ∈ vs then none else Env.at env i
  | [] => by simp [wipeE]
  | v :: vs => by
    unfold wipeE
    by_cases h : v = i
    · subst h
      rw [if_pos (by simp)]
      by_cases hv : v < (wipeE env vs).length
      · exact at_set_same hv
      · exact at_beyond (by rw [List.length_set]; omega)
    · rw [at_set_ne h, wipeE_at env i vs]
      have : i ≠ v := Ne.symm h
      simp [this]
theorem restE_at (env env' : Env) (he : env.length = env'.length) (i : Nat) : ∀ vs : List Nat, Env.at (restE env env' vs) i = if i ∈ vs then Env.at env i else Env.at env' i
  | [] => by simp [restE]
  | v :: vs => by
    unfold restE
    by_cases h : v = i
    · subst h
      rw [if_pos (by simp)]
      by_cases hv : v < (restE env env' vs).length
      · exact at_set_same hv
      · rw [at_beyond (by rw [List.length_set]; omega), at_beyond (by rw [restE_length] at hv; omega)]
    · rw [at_set_ne h, restE_at env env' he i vs]
      have : i ≠ v := Ne.symm h
      simp [this]
def cutF (F : List (List Addr)) : List Nat → List (List Addr)
  | [] => F
  | v :: vs => (cutF F vs).set v []
def heldF (F : List (List Addr)) : List Nat → List Addr
  | [] => []
  | v :: vs => fpAt F v ++ heldF F vs
theorem cutF_length (F : List (List Addr)) : ∀ vs : List Nat, (cutF F vs).length = F.length
  | [] => rfl
  | v :: vs => by unfold cutF; rw [List.length_set, cutF_length F vs]
theorem fp_beyond {F : List (List Addr)} {i : Nat} (h : F.length ≤ i) : fpAt F i = [] := by
  unfold fpAt
  rw [List.getD_eq_getElem?_getD, List.getElem?_eq_none h]
  rfl
theorem cutF_at (F : List (List Addr)) (i : Nat) : ∀ vs : List Nat, fpAt (cutF F vs) i = if i ∈ vs then [] else fpAt F i
  | [] => by simp [cutF]
  | v :: vs => by
    unfold cutF
    by_cases h : v = i
    · subst h
      rw [if_pos (by simp)]
      by_cases hv : v < (cutF F vs).length
      · exact fp_set_same hv
      · exact fp_beyond (by rw [List.length_set]; omega)
    · rw [fp_set_ne h, cutF_at F i vs]
      have : i ≠ v := Ne.symm h
      simp [this]
theorem heldF_mem {a : Addr} : ∀ {vs : List Nat}, a ∈ heldF F vs ↔ ∃ i ∈ vs, a ∈ fpAt F i
  | [] => by simp [heldF]
  | v :: vs => by
    unfold heldF
    rw [List.mem_append, heldF_mem (vs := vs)]
    simp
theorem wipe_at (σ : St) (j : Nat) : ∀ vs : List Nat, j ∉ vs → (L2.wipe σ vs)[j]? = σ[j]?
  | [], _ => rfl
  | v :: vs, h => by
    unfold L2.wipe
    rw [List.getElem?_set_ne (fun e => h (by rw [e]; simp)), wipe_at σ j vs fun z => h (List.mem_cons_of_mem _ z)]
theorem wipe_in (σ : St) (j : Nat) : ∀ vs : List Nat, j ∈ vs → j < σ.length → (L2.wipe σ vs)[j]? = some none
  | v :: vs, h, hj => by
    unfold L2.wipe
    by_cases e : v = j
    · subst e
      exact List.getElem?_set_self (by rw [wipe_length]; exact hj)
    · rw [List.getElem?_set_ne e]
      exact wipe_in σ j vs ((List.mem_cons.mp h).elim (fun z => absurd z.symm e) id) hj
/-- own slots set aside -/
theorem ER.wipe (R : ER C O F H σ env) (hb : ∀ p ∈ C.B, p.1 ∉ vs) : ER C (heldF F vs ++ O) (cutF F vs) H (L2.wipe σ vs) (wipeE env vs) := by
  have sub : ∀ a, Nn (heldF F vs ++ O) (cutF F vs) a ↔ Nn O F a := fun a => by
    constructor
    · rintro (z | z)
      · rcases List.mem_append.mp z with q | q
        · obtain ⟨i, _, hi⟩ := heldF_mem.mp q
          exact .inr (flat_mem.mpr ⟨i, hi⟩)
        · exact .inl q
      · obtain ⟨j, hj⟩ := flat_mem.mp z
        rw [cutF_at] at hj
        split at hj
        · simp at hj
        · exact .inr (flat_mem.mpr ⟨j, hj⟩)
    · rintro (z | z)
      · exact .inl (List.mem_append_right _ z)
      · obtain ⟨j, hj⟩ := flat_mem.mp z
        by_cases q : j ∈ vs
        · exact .inl (List.mem_append_left _ (heldF_mem.mpr ⟨j, q, hj⟩))
        · exact .inr (flat_mem.mpr ⟨j, by rw [cutF_at, if_neg q]; exact hj⟩)
  have eN : Nn (heldF F vs ++ O) (cutF F vs) = Nn O F := funext fun a => propext (sub a)
  refine ⟨by rw [wipe_length, wipeE_length, R.lenσ], by rw [cutF_length, wipeE_length, R.lenF], fun i v e => ?_, fun i h => ?_, flat_nd.mpr ⟨fun j => ?_, fun i j a ne hi hj => ?_⟩, fun a ha z => ?_, fun a z => R.mt a ((sub a).mp z), R.fr, fun a z => ?_, R.old, fun p hp => ?_⟩
  · rw [wipeE_at] at e
    split at e
    · cases e
    · rename_i hi
      obtain ⟨x, e1, s⟩ := R.slot i v e
      rw [eN, cutF_at, if_neg hi, wipe_at σ i vs hi]
      exact ⟨x, e1, s⟩
  · rw [cutF_at]
    split
    · rfl
    · rename_i hi
      refine R.emp i fun m e => h m ?_
      rw [wipeE_at, if_neg hi]; exact e
  · rw [cutF_at]
    split
    · exact List.nodup_nil
    · exact R.apart.1 j
  · rw [cutF_at] at hi hj
    split at hi
    · simp at hi
    · split at hj
      · simp at hj
      · exact R.apart.2 i j a ne hi hj
  · obtain ⟨j, hj⟩ := flat_mem.mp z
    rw [cutF_at] at hj
    split at hj
    · simp at hj
    · rename_i hjv
      rcases List.mem_append.mp ha with q | q
      · obtain ⟨i, hi, q⟩ := heldF_mem.mp q
        exact R.apart.2 i j a (fun e => hjv (by rw [← e]; exact hi)) q hj
      · exact R.dis a q (flat_mem.mpr ⟨j, hj⟩)
  · obtain ⟨j, hj⟩ := flat_mem.mp z
    rw [cutF_at] at hj
    split at hj
    · simp at hj
    · exact R.new a (flat_mem.mpr ⟨j, hj⟩)
  · rw [wipe_at σ p.1 vs (hb p hp)]
    exact R.bor p hp
/-- an object that no slot owns changes -/
theorem ER.poke {D : Addr} {o : HO} (R : ER C O F H σ env) (hD : D ∈ O) (h0 : C.H0 D = none) (mo : Mu o) : ER C O F (upd H D o) σ env ∧ Kept (Nn O F) H (upd H D o) ∧ ∀ b, b ≠ D → upd H D o b = H b := by
  have other : ∀ b, b ≠ D → upd H D o b = H b := fun b hb => upd_ne hb
  have kp : Kept (Nn O F) H (upd H D o) := fun b u q z => by
    by_cases hb : b = D
    · subst hb
      rcases z with z | z
      · exact absurd (.inl hD) z
      · obtain ⟨u', q', mu⟩ := R.mt b (.inl hD)
        rw [q] at q'; cases q'
        exact absurd mu z
    · rw [other b hb]; exact q
  have notF : ∀ j, D ∉ fpAt F j := fun j hj => R.dis D hD (flat_mem.mpr ⟨j, hj⟩)
  refine ⟨⟨R.lenσ, R.lenF, fun j w q => ?_, R.emp, R.nd, R.dis, fun b z => ?_, fun b u q n => ?_, R.new, fun b z => ?_, R.bor⟩, kp, other⟩
  · obtain ⟨y, q1, r⟩ := R.slot j w q
    exact ⟨y, q1, SR.mono kp (fun b z => .inl z) (fun b hb u q2 => by rw [other b fun z => notF j (by rw [← z]; exact hb)]; exact q2) r⟩
  · by_cases hb : b = D
    · subst hb; exact ⟨o, upd_same, mo⟩
    · rw [other b hb]; exact R.mt b z
  · have hb : b ≠ D := fun z => by rw [z, h0] at q; cases q
    rw [other b hb]; exact R.fr b u q n
  · by_cases hb : b = D
    · subst hb; rw [upd_same]; simp
    · rw [other b hb]; exact R.old b z
/-- the own slots as they were -/
def mixF (F F' : List (List Addr)) (vs : List Nat) : List (List Addr) := (List.range F'.length).map fun j => if j ∈ vs then fpAt F j else fpAt F' j
theorem mixF_at (hl : F.length = F'.length) (j : Nat) : fpAt (mixF F F' vs) j = if j ∈ vs then fpAt F j else fpAt F' j := by
  by_cases hj : j < F'.length
  · unfold mixF fpAt
    rw [List.getD_eq_getElem?_getD, List.getElem?_map, List.getElem?_range hj]
    rfl
  · rw [fp_beyond (by simp [mixF]; omega), fp_beyond (F := F) (by omega), fp_beyond (F := F') (by omega)]
    simp
/-- the block is left: R1 the state ahead of it, R the state at its end (M: what the own slots held) -/
theorem ER.back {D : Addr} {en : Env} (R1 : ER C O F1 H1 σ env1) (hb : ∀ p ∈ C.B, p.1 ∉ vs) (R : ER C (D :: (heldF F1 vs ++ O)) F H (L2.wipe σ vs) (wipeE en vs)) (hl : env1.length = en.length) (st : Step (cutF F1 vs) H1 F H) (hD : H1 D = none) :
    ER C ([D] ++ O) (mixF F1 F vs) H σ (restE env1 en vs) ∧ Step F1 H1 (mixF F1 F vs) H := by
  have Rw := R1.wipe hb
  have lF : F1.length = F.length := by
    have q := R.lenF
    rw [wipeE_length] at q
    rw [R1.lenF, q, hl]
  have held : ∀ j ∈ vs, ∀ a ∈ fpAt F1 j, a ∈ D :: (heldF F1 vs ++ O) := fun j hj a ha => List.mem_cons_of_mem _ (List.mem_append_left _ (heldF_mem.mpr ⟨j, hj, ha⟩))
  have sub : ∀ a, Nn ([D] ++ O) (mixF F1 F vs) a → Nn (D :: (heldF F1 vs ++ O)) F a := fun a z => by
    rcases z with z | z
    · rcases List.mem_cons.mp z with q | q
      · exact .inl (by rw [q]; simp)
      · exact .inl (List.mem_cons_of_mem _ (List.mem_append_right _ q))
    · obtain ⟨j, hj⟩ := flat_mem.mp z
      rw [mixF_at lF] at hj
      split at hj
      · rename_i hv; exact .inl (held j hv a hj)
      · exact .inr (flat_mem.mpr ⟨j, hj⟩)
  have l : Less H (Nn (D :: (heldF F1 vs ++ O)) F) (Nn ([D] ++ O) (mixF F1 F vs)) := fun b z => .inl (sub b z)
  -- what the own slots held stands as it did
  have k1 : Kept (Nn (heldF F1 vs ++ O) (cutF F1 vs)) H1 H := Rw.kept st
  have less1 : Less H1 (Nn (heldF F1 vs ++ O) (cutF F1 vs)) (Nn ([D] ++ O) (mixF F1 F vs)) := fun b z => by
    rcases sub b z with q | q
    · rcases List.mem_cons.mp q with w | w
      · exact .inr (by rw [w]; exact hD)
      · exact .inl (.inl w)
    · rcases st.new b q with w | w
      · exact .inl (.inr w)
      · exact .inr w
  have notcut : ∀ j ∈ vs, ∀ a ∈ fpAt F1 j, a ∉ (cutF F1 vs).flatten := fun j hj a ha => Rw.dis a (List.mem_append_left _ (heldF_mem.mpr ⟨j, hj, ha⟩))
  have eN : Nn (heldF F1 vs ++ O) (cutF F1 vs) = Nn O F1 := by
    funext a
    refine propext ⟨?_, ?_⟩
    · rintro (z | z)
      · rcases List.mem_append.mp z with q | q
        · obtain ⟨i, _, hi⟩ := heldF_mem.mp q
          exact .inr (flat_mem.mpr ⟨i, hi⟩)
        · exact .inl q
      · obtain ⟨j, hj⟩ := flat_mem.mp z
        rw [cutF_at] at hj
        split at hj
        · simp at hj
        · exact .inr (flat_mem.mpr ⟨j, hj⟩)
    · rintro (z | z)
      · exact .inl (List.mem_append_right _ z)
      · obtain ⟨j, hj⟩ := flat_mem.mp z
        by_cases q : j ∈ vs
        · exact .inl (List.mem_append_left _ (heldF_mem.mpr ⟨j, q, hj⟩))
        · exact .inr (flat_mem.mpr ⟨j, by rw [cutF_at, if_neg q]; exact hj⟩)
  refine ⟨⟨by rw [restE_length, ← hl]; exact R1.lenσ, by simp [mixF, restE_length, ← hl, ← R1.lenF, lF], fun j v e => ?_, fun j h => ?_, flat_nd.mpr ⟨fun j => ?_, fun i j a ne hi hj => ?_⟩, fun a ha z => ?_, fun a z => R.mt a (sub a z), R.fr, fun a z => ?_, R.old, fun p hp => R1.bor p hp⟩, ⟨fun b o e n => ?_, fun a z => ?_, st.alive⟩⟩
  · rw [restE_at _ _ hl] at e
    rw [mixF_at lF]
    by_cases hv : j ∈ vs
    · rw [if_pos hv] at e ⊢
      obtain ⟨x, e1, s⟩ := R1.slot j v e
      refine ⟨x, e1, ?_⟩
      rw [← eN] at s
      exact SR.mono k1 less1 (fun a ha o q => st.keep a o q (notcut j hv a ha)) s
    · rw [if_neg hv] at e ⊢
      obtain ⟨x, e1, s⟩ := R.slot j v (by rw [wipeE_at, if_neg hv]; exact e)
      rw [wipe_at σ j vs hv] at e1
      exact ⟨x, e1, SR.mono Kept.rfl' l (fun _ _ _ q => q) s⟩
  · rw [mixF_at lF]
    by_cases hv : j ∈ vs
    · rw [if_pos hv]
      refine R1.emp j fun m e => h m ?_
      rw [restE_at _ _ hl, if_pos hv]; exact e
    · rw [if_neg hv]
      refine R.emp j fun m e => h m ?_
      rw [wipeE_at, if_neg hv] at e
      rw [restE_at _ _ hl, if_neg hv]; exact e
  · rw [mixF_at lF]
    split
    · exact R1.apart.1 j
    · exact R.apart.1 j
  · rw [mixF_at lF] at hi hj
    split at hi
    · rename_i hv
      split at hj
      · exact R1.apart.2 i j a ne hi hj
      · exact R.dis a (held i hv a hi) (flat_mem.mpr ⟨j, hj⟩)
    · split at hj
      · rename_i hv
        exact R.dis a (held j hv a hj) (flat_mem.mpr ⟨i, hi⟩)
      · exact R.apart.2 i j a ne hi hj
  · obtain ⟨j, hj⟩ := flat_mem.mp z
    rw [mixF_at lF] at hj
    split at hj
    · rename_i hv
      rcases List.mem_cons.mp ha with q | q
      · obtain ⟨o, e, _⟩ := R1.mt a (.inr (flat_mem.mpr ⟨j, hj⟩))
        rw [q, hD] at e; cases e
      · exact R1.dis a q (flat_mem.mpr ⟨j, hj⟩)
    · refine R.dis a ?_ (flat_mem.mpr ⟨j, hj⟩)
      rcases List.mem_cons.mp ha with q | q
      · rw [q]; simp
      · exact List.mem_cons_of_mem _ (List.mem_append_right _ q)
  · obtain ⟨j, hj⟩ := flat_mem.mp z
    rw [mixF_at lF] at hj
    split at hj
    · exact R1.new a (flat_mem.mpr ⟨j, hj⟩)
    · exact R.new a (flat_mem.mpr ⟨j, hj⟩)
  · refine st.keep b o e fun z => n ?_
    obtain ⟨j, hj⟩ := flat_mem.mp z
    rw [cutF_at] at hj
    split at hj
    · simp at hj
    · exact flat_mem.mpr ⟨j, hj⟩
  · obtain ⟨j, hj⟩ := flat_mem.mp z
    rw [mixF_at lF] at hj
    split at hj
    · exact .inl (flat_mem.mpr ⟨j, hj⟩)
    · rcases st.new a (flat_mem.mpr ⟨j, hj⟩) with q | q
      · obtain ⟨k, hk⟩ := flat_mem.mp q
        rw [cutF_at] at hk
        split at hk
        · simp at hk
        · exact .inl (flat_mem.mpr ⟨k, hk⟩)
      · exact .inr q
end
end Pv

/-! PvT: the rule for comprehensions. -/
set_option linter.all false
set_option maxRecDepth 100000
set_option maxHeartbeats 2000000
namespace Pv
open PySem PySem.Spec L2

abbrev EX0 : EXT := fun _ _ _ _ => False
/-- a turn -/
def oneK (bor own : List Nat) (t : Tgt) (mC : Env → Res Bool) (mE : Env → Res Val) (d : PyData) (en : Env) : Res (Option PyData) := match bindT bor t d (wipeE en own) with
  | none => .no
  | some en1 => match mC en1 with
    | .ok false en2 => .ok none en2
    | .ok true en2 => match mE en2 with
      | .ok v en3 => match v.share with
        | some y => .ok (some y) en3
        | none => .no
      | _ => .no
    | _ => .no
def compK (bor own : List Nat) (t : Tgt) (mC : Env → Res Bool) (mE : Env → Res Val) (ds : List PyData) (env1 : Env) : Res Val :=
  if ds.length ≤ most then
    match turns (oneK bor own t mC mE) ds [] env1 with
    | .ok ys en => .ok (.ow (.lst ys)) (restE env1 en own)
    | _ => .no
  else .no
theorem wipe_eq {σ σ2 : St} {vs ns : List Nat} (hl : σ2.length = σ.length) (hn : ∀ j ∈ ns, j ∈ vs) (h : ∀ j, j ∉ ns → σ2[j]? = (L2.wipe σ vs)[j]?) : L2.wipe σ2 vs = L2.wipe σ vs := by
  refine List.ext_getElem? fun j => ?_
  by_cases hj : j ∈ vs
  · by_cases q : j < σ.length
    · rw [wipe_in σ2 j vs hj (by rw [hl]; exact q), wipe_in σ j vs hj q]
    · rw [List.getElem?_eq_none (by rw [wipe_length]; omega), List.getElem?_eq_none (by rw [wipe_length]; omega)]
  · rw [wipe_at σ2 j vs hj, h j fun z => hj (hn j z)]
mutual
theorem bindT_length {bor : List Nat} : ∀ (t : Tgt) (d : PyData) (e e' : Env), bindT bor t d e = some e' → e'.length = e.length
  | .name i, d, e, e', h => by
    unfold bindT at h
    split at h
    · cases h; exact List.length_set
    · cases h
  | .tup ts, .tuple ds, e, e', h => by
    unfold bindT at h
    exact bindTs_length ts ds e e' h
  | .tup ts, .none, e, e', h => by unfold bindT at h; cases h
  | .tup ts, .bool _, e, e', h => by unfold bindT at h; cases h
  | .tup ts, .int _, e, e', h => by unfold bindT at h; cases h
  | .tup ts, .str _, e, e', h => by unfold bindT at h; cases h
  | .tup ts, .list _, e, e', h => by unfold bindT at h; cases h
  | .tup ts, .dict _, e, e', h => by unfold bindT at h; cases h
theorem bindTs_length {bor : List Nat} : ∀ (ts : List Tgt) (ds : List PyData) (e e' : Env), bindTs bor ts ds e = some e' → e'.length = e.length
  | [], [], e, e', h => by unfold bindTs at h; cases h; rfl
  | [], _ :: _, e, e', h => by unfold bindTs at h; cases h
  | _ :: _, [], e, e', h => by unfold bindTs at h; cases h
  | t :: ts, d :: ds, e, e', h => by
    unfold bindTs at h
    cases q : bindT bor t d e with
    | none => rw [q] at h; cases h
    | some e1 =>
      rw [q] at h
      rw [bindTs_length ts ds e1 e' h, bindT_length t d e e1 q]
end
section
variable {X : Cx} {C : Cf} {EX : EXT} {bor vs : List Nat} {t : Tgt} {mi : Env → Res (List PyData)} {mC : Env → Res Bool} {mE : Env → Res Val}
theorem lc_tail (hb : ∀ p ∈ C.B, p.1 ∉ vs) (hn : ∀ j ∈ t.ns, j ∈ vs) {σ : St} {H H1 : Hp} {O : List Addr} {F F1 : List (List Addr)} {ds : List PyData} {env1 : Env} {J : It} {Q : VK} (q : Fin C EX (PV C) O F H σ Q (compK bor vs t mC mE ds env1))
    (R1 : ER C O F1 H1 σ env1) (s1 : Step F H F1 H1) (wk : Wk C.K (Nn O F1) H1 t.isT ds J) : tLc (fun _ _ R => R J H1) (GB C bor t) (TB C EX0 mC) (TV C EX0 mE) vs σ H Q := by
    intro D hD
    unfold compK at q
    split at q
    case isFalse => exact q.elim
    case isTrue hz =>
    generalize et : turns (oneK bor vs t mC mE) ds [] env1 = r at q
    cases r with
    | ex x e => exact q.elim
    | no => exact q.elim
    | ok yf enf =>
    replace q : Fin C EX (PV C) O F H σ Q (.ok (.ow (.lst yf)) (restE env1 enf vs)) := q
    have Rw := R1.wipe hb
    have kD : ∀ b o, H1 b = some o → upd H1 D (.lst []) b = some o := fun b o e => by rw [upd_ne (ne_of_none e hD)]; exact e
    obtain ⟨R0, s0⟩ := Rw.grow (fp := [D]) kD fun a ha => by
      cases List.mem_singleton.mp ha
      exact ⟨hD, _, upd_same, trivial⟩
    have h0D : C.H0 D = none := by
      cases e : C.H0 D with
      | none => rfl
      | some o => exact absurd hD (R1.old D (by rw [e]; simp))
    have hDH : H D = none := by
      cases e : H D with
      | none => rfl
      | some o => exact absurd hD (s1.alive D (by rw [e]; simp))
    have eN : Nn (heldF F1 vs ++ O) (cutF F1 vs) = Nn O F1 := by
      funext a
      refine propext ⟨?_, ?_⟩
      · rintro (z | z)
        · rcases List.mem_append.mp z with w | w
          · obtain ⟨i, _, hi⟩ := heldF_mem.mp w
            exact .inr (flat_mem.mpr ⟨i, hi⟩)
          · exact .inl w
        · obtain ⟨j, hj⟩ := flat_mem.mp z
          rw [cutF_at] at hj
          split at hj
          · simp at hj
          · exact .inr (flat_mem.mpr ⟨j, hj⟩)
      · rintro (z | z)
        · exact .inl (List.mem_append_right _ z)
        · obtain ⟨j, hj⟩ := flat_mem.mp z
          by_cases w : j ∈ vs
          · exact .inl (List.mem_append_left _ (heldF_mem.mpr ⟨j, w, hj⟩))
          · exact .inr (flat_mem.mpr ⟨j, by rw [cutF_at, if_neg w]; exact hj⟩)
    refine ⟨fun i m H' => m = ds.length - i ∧ i ≤ ds.length ∧ ∃ en Fi acc ys, ER C (D :: (heldF F1 vs ++ O)) Fi H' (L2.wipe σ vs) (wipeE en vs) ∧ Step (cutF F1 vs) H1 Fi H' ∧ H' D = some (.lst acc) ∧ DnAll C.K H' (Nn (D :: (heldF F1 vs ++ O)) Fi) acc ys ∧ ys.length ≤ i ∧
      turns (oneK bor vs t mC mE) (ds.drop i) ys en = .ok yf enf, ⟨ds.length, rfl, Nat.zero_le _, env1, cutF F1 vs, [], [], R0, s0, upd_same, .nil, Nat.le_refl _, et⟩, ?_⟩
    rintro i m H2 ⟨rfl, hi, en, Fi, acc, ys, R2, s2, hacc, dacc, hys, e2⟩
    have kp : Kept (Nn O F1) H1 H2 := by rw [← eN]; exact Rw.kept s2
    have ls : Less H1 (Nn O F1) (Nn (D :: (heldF F1 vs ++ O)) Fi) := fun b z => by
      rw [← eN]
      rcases z with z | z
      · rcases List.mem_cons.mp z with w | w
        · exact .inr (by rw [w]; exact hD)
        · exact .inl (.inl w)
      · rcases s2.new b z with w | w
        · exact .inl (.inr w)
        · exact .inr w
    by_cases hlt : i < ds.length
    · refine .inr ⟨wk.go i H2 hlt kp, fun H' => ∃ en Fi acc ys, ER C (D :: (heldF F1 vs ++ O)) Fi H' (L2.wipe σ vs) (wipeE en vs) ∧ Step (cutF F1 vs) H1 Fi H' ∧ H' D = some (.lst acc) ∧ DnAll C.K H' (Nn (D :: (heldF F1 vs ++ O)) Fi) acc ys ∧ ys.length ≤ i + 1 ∧
        turns (oneK bor vs t mC mE) (ds.drop (i + 1)) ys en = .ok yf enf, fun H' h => ⟨ds.length - (i + 1), by omega, rfl, hlt, h⟩, fun x H3 y => ?_⟩
      obtain ⟨d, ed, gr, dn⟩ := wk.yld i H2 _ x H3 hlt kp ls y
      obtain ⟨R3, s3⟩ := R2.grow (fp := []) gr fun a ha => by simp at ha
      have ecut : ds.drop i = d :: ds.drop (i + 1) := by
        rw [List.drop_eq_getElem_cons hlt]
        congr 1
        rw [List.getElem?_eq_getElem hlt] at ed
        exact Option.some.inj ed
      rw [ecut] at e2
      unfold turns at e2
      cases eo : oneK bor vs t mC mE d en with
      | no => rw [eo] at e2; cases e2
      | ex x' e' => rw [eo] at e2; cases e2
      | ok oy en' =>
      rw [eo] at e2
      unfold oneK at eo
      cases eb : bindT bor t d (wipeE en vs) with
      | none => rw [eb] at eo; cases eo
      | some en1 =>
      simp only [eb] at eo
      refine ⟨_, Fi, wipeE en vs, d, en1, R3, dn, eb, fun σ4 F4 R4 l4 n4 => ?_⟩
      have s4 : Step Fi H2 F4 H3 := ⟨s3.keep, fun a ha => .inl (l4 a ha), s3.alive⟩
      have hl4 : σ4.length = σ.length := by
        have a1 := R4.lenσ
        have a2 := R4.lenF
        have a3 := R3.lenσ
        rw [wipe_length] at a3
        have b2 := bindT_length t d _ _ eb
        omega
      have ew : L2.wipe σ4 vs = L2.wipe σ vs := wipe_eq hl4 hn n4
      refine ⟨ew, ?_⟩
      -- the list under way, in a later heap
      have carry : ∀ {F' : List (List Addr)} {H' : Hp}, Step Fi H2 F' H' → H' D = some (.lst acc) ∧ DnAll C.K H' (Nn (D :: (heldF F1 vs ++ O)) F') acc ys := fun {F' H'} t => by
        refine ⟨t.keep D _ hacc (R2.dis D (by simp)), DnAll.mono (R2.kept t) (fun b z => ?_) _ _ dacc⟩
        rcases z with z | z
        · exact .inl (.inl z)
        · exact (t.new b z).elim (fun w => .inl (.inr w)) .inr
      -- what a turn leaves: the own slots go again
      have again : ∀ {F' : List (List Addr)} {H' : Hp} {en5 : Env}, ER C (D :: (heldF F1 vs ++ O)) F' H' σ4 en5 → ER C (D :: (heldF F1 vs ++ O)) (cutF F' vs) H' (L2.wipe σ vs) (wipeE en5 vs) ∧ Step F' H' (cutF F' vs) H' ∧ ∀ a, Nn (D :: (heldF F1 vs ++ O)) (cutF F' vs) a → Nn (D :: (heldF F1 vs ++ O)) F' a := fun {F' H' en5} R' => by
        have w := R'.wipe hb
        rw [ew] at w
        have inF : ∀ a, a ∈ (cutF F' vs).flatten → a ∈ F'.flatten := fun a ha => by
          obtain ⟨j, hj⟩ := flat_mem.mp ha
          rw [cutF_at] at hj
          split at hj
          · simp at hj
          · exact flat_mem.mpr ⟨j, hj⟩
        exact ⟨w.drop fun a ha => List.mem_append_right _ ha, ⟨fun _ _ e _ => e, fun a ha => .inl (inF a ha), fun _ h => h⟩, fun a z => z.elim .inl fun u => .inr (inF a u)⟩
      refine ⟨_, F4, en1, R4, ?_⟩
      cases ec : mC en1 with
      | no => rw [ec] at eo; cases eo
      | ex x' e' => rw [ec] at eo; cases eo
      | ok kb en2 =>
      rw [ec] at eo
      rintro kb' H5 ⟨rfl, F5, R5, s5⟩
      have s45 := s4.trans s5
      cases kb' with
      | false =>
        cases eo
        rw [if_neg Bool.false_ne_true]
        obtain ⟨R6, s6, sub⟩ := again R5
        obtain ⟨c1, c2⟩ := carry s45
        exact ⟨_, cutF F5 vs, acc, ys, R6, (s2.trans s45).trans s6, c1, DnAll.mono Kept.rfl' (fun b z => .inl (sub b z)) _ _ c2, by omega, e2⟩
      | true =>
        simp only at eo
        rw [if_pos rfl]
        cases ev' : mE en2 with
        | no => rw [ev'] at eo; cases eo
        | ex x' e' => rw [ev'] at eo; cases eo
        | ok v en3 =>
        rw [ev'] at eo
        simp only at eo
        cases esh : v.share with
        | none => rw [esh] at eo; cases eo
        | some yd =>
        rw [esh] at eo
        cases eo
        refine ⟨_, F5, en2, R5, ?_⟩
        rw [ev']
        rintro yv H6 ⟨F6, P6, R6, s6, f6, r6⟩
        have s456 := s45.trans s6
        obtain ⟨c1, c2⟩ := carry s456
        have R7 : ER C (D :: (heldF F1 vs ++ O)) F6 H6 σ4 en' := R6.drop fun a ha => List.mem_append_right _ ha
        have dy := share_dn R6 (fresh_off R5 f6) (fun a h => h) r6 esh
        obtain ⟨R8, k8, o8⟩ := R7.poke (D := D) (o := .lst (acc ++ [yv])) (by simp) h0D trivial
        obtain ⟨R9, s9, sub⟩ := again R8
        have s8 : Step (cutF F1 vs) H1 F6 (upd H6 D (.lst (acc ++ [yv]))) := by
          have t := s2.trans s456
          refine ⟨fun b o e n => ?_, t.new, fun b h => ?_⟩
          · rw [o8 b (ne_of_none e hD)]; exact t.keep b o e n
          · have hbD : b ≠ D := fun z => h (by rw [z]; exact hD)
            rw [o8 b hbD]; exact t.alive b h
        refine ⟨acc, c1, ?_, en', cutF F6 vs, acc ++ [yv], ys ++ [yd], R9, s8.trans s9, upd_same, ?_, ?_, e2⟩
        · rw [c2.length, ← most_eq]; omega
        · exact DnAll.mono k8 (fun b z => .inl (sub b z)) _ _ (c2.append (.cons dy .nil))
        · rw [List.length_append]; simp; omega
    · have ei : i = ds.length := by omega
      subst ei
      refine .inl ⟨wk.stop H2 kp, ?_⟩
      rw [List.drop_length] at e2
      unfold turns at e2
      cases e2
      have hl : env1.length = enf.length := by
        have a1 := R1.lenσ
        have a2 := R2.lenσ
        rw [wipe_length, wipeE_length] at a2
        omega
      obtain ⟨R3, s3⟩ := R1.back hb R2 hl s2 hD
      refine q (.ref D) H2 ⟨_, [D], R3, s1.trans s3, fun a ha => by cases List.mem_singleton.mp ha; exact hDH, D, rfl, rfl, acc, hacc, DnAll.mono Kept.rfl' (fun b z => .inl ?_) _ _ dacc⟩
      have lF : F1.length = Fi.length := by
        have w := R2.lenF
        rw [wipeE_length] at w
        rw [R1.lenF, w, hl]
      rcases z with z | z
      · rcases List.mem_cons.mp z with w | w
        · exact .inl (by rw [w]; simp)
        · exact .inl (List.mem_cons_of_mem _ (List.mem_append_right _ w))
      · obtain ⟨j, hj⟩ := flat_mem.mp z
        rw [mixF_at lF] at hj
        split at hj
        · rename_i hv
          exact .inl (List.mem_cons_of_mem _ (List.mem_append_left _ (heldF_mem.mpr ⟨j, hv, hj⟩)))
        · exact .inr (flat_mem.mpr ⟨j, hj⟩)
theorem lc_w (hb : ∀ p ∈ C.B, p.1 ∉ vs) (hn : ∀ j ∈ t.ns, j ∈ vs) (σ : St) (H : Hp) (Q : VK) (q : TV C EX (fun env => (mi env).bind fun ds env1 => compK bor vs t mC mE ds env1) σ H Q) :
    tLc (IS C EX t.isT mi) (GB C bor t) (TB C EX0 mC) (TV C EX0 mE) vs σ H Q := by
  obtain ⟨O, F, env, R, q⟩ := rg_iff.mp q
  refine is_iff.mpr ⟨O, F, env, R, ?_⟩
  cases ei : mi env with
  | no => rw [ei] at q; exact q
  | ex x env' => rw [ei] at q; exact q
  | ok ds env1 =>
    rw [ei] at q
    exact fun J F1 H1 R1 s1 wk => lc_tail hb hn q R1 s1 wk
end
end Pv

/-! PvTk: a comprehension over the keys of a dict: the dict is locked while it runs. -/
set_option linter.all false
set_option maxRecDepth 100000
set_option maxHeartbeats 2000000
namespace Pv
open PySem PySem.Spec L2

section
variable {K : PySem.W.Frag} {H H' : Hp} {N : Addr → Prop} {d : Addr} {kvs : List (Key × V)} {v : V} {x : PyData} {a : Addr}
/-- only the dict at d has been locked, or unlocked -/
structure Lk (H H' : Hp) (d : Addr) (kvs : List (Key × V)) : Prop where
  same : ∀ b, b ≠ d → H' b = H b
  rd : L2.Rd H d (.dK kvs)
  rd' : L2.Rd H' d (.dK kvs)
theorem Lk.other (k : Lk H H' d kvs) {o : HO} (e : H a = some o) (h1 : o ≠ .dK kvs) (h2 : ∀ o', o ≠ .frz o' (.dK kvs)) : H' a = some o := by
  by_cases ha : a = d
  · subst ha
    rcases k.rd with q | ⟨o', q⟩
    · rw [q] at e; cases e; exact absurd rfl h1
    · rw [q] at e; cases e; exact absurd rfl (h2 o')
  · rw [k.same a ha]; exact e
theorem Lk.sqT (k : Lk H H' d kvs) {xs : List V} (h : SqT K H a xs) : SqT K H' a xs := by
  rcases h with (h | ⟨o, h⟩) | h
  · exact .inl (.inl (k.other h (fun z => nomatch z) (fun _ z => nomatch z)))
  · exact .inl (.inr ⟨o, k.other h (fun z => nomatch z) (fun _ z => nomatch z)⟩)
  · exact .inr h
theorem Lk.nd (k : Lk H H' d kvs) (h : Nd K H a) : Nd K H' a := by
  rcases h with ⟨o, u, e, q⟩ | h
  · exact .inl ⟨o, u, k.other e (fun z => nomatch z) (fun _ z => nomatch z), q⟩
  · exact .inr h
theorem Lk.rdK (k : Lk H H' d kvs) {kvs' : List (Key × V)} (h : L2.Rd H a (.dK kvs')) : L2.Rd H' a (.dK kvs') := by
  by_cases ha : a = d
  · subst ha
    have e : kvs' = kvs := by
      rcases h with h | ⟨o, h⟩ <;> rcases k.rd with q | ⟨o', q⟩ <;> (rw [q] at h; cases h) <;> rfl
    subst e
    exact k.rd'
  · unfold L2.Rd
    rw [k.same a ha]
    exact h
mutual
theorem Lk.dn (k : Lk H H' d kvs) : ∀ (x : PyData) (v : V), Dn K H N v x → Dn K H' N v x
  | .none, _, .non => .non
  | .bool b, _, .bl _ => .bl b
  | .int i, _, .int _ => .int i
  | .str x, _, .str _ => .str x
  | .tuple ds, _, .tup h1 h2 => .tup ⟨k.sqT h1.sq, k.nd h1.nd⟩ (Lk.dnA k ds _ h2)
  | .list ds, _, .lst h0 h1 h2 => .lst h0 (k.other h1 (fun z => nomatch z) (fun _ z => nomatch z)) (Lk.dnA k ds _ h2)
  | .dict ps, _, .dic h0 h1 h2 => .dic h0 (k.rdK h1) (Lk.dnK k ps _ h2)
theorem Lk.dnA (k : Lk H H' d kvs) : ∀ (xs : List PyData) (vs : List V), DnAll K H N vs xs → DnAll K H' N vs xs
  | [], _, .nil => .nil
  | x :: xs, _, .cons h1 h2 => .cons (Lk.dn k x _ h1) (Lk.dnA k xs _ h2)
theorem Lk.dnK (k : Lk H H' d kvs) : ∀ (ps : List (PyData × PyData)) (vs : List (Key × V)), DnKv K H N vs ps → DnKv K H' N vs ps
  | [], _, .nil => .nil
  | (_, x) :: ps, _, .cons h1 h2 => .cons (Lk.dn k x _ h1) (Lk.dnK k ps _ h2)
end
theorem Lk.dol (k : Lk H H' d kvs) : ∀ {as : List Addr} {vs : List (Key × V)} {ps : List (PyData × List PyData)}, DolKv K H N as vs ps → DolKv K H' N as vs ps
  | _, _, _, .nil => .nil
  | _, _, _, .cons h1 h2 t => .cons (k.other h1 (fun z => nomatch z) (fun _ z => nomatch z)) (k.dnA _ _ h2) (Lk.dol k t)
theorem Lk.sr (k : Lk H H' d kvs) {fp : List Addr} (hf : d ∉ fp) {w : Val} (h : SR K H N fp v w) : SR K H' N fp v w := by
  cases w with
  | sh x => exact ⟨h.1, k.dn _ _ h.2⟩
  | ow m =>
    obtain ⟨a, e, h⟩ := h
    refine ⟨a, e, ?_⟩
    cases m with
    | lst ds =>
      obtain ⟨q, xs, h1, h2⟩ := h
      exact ⟨q, xs, k.other h1 (fun z => nomatch z) (fun _ z => nomatch z), k.dnA _ _ h2⟩
    | dic ps =>
      obtain ⟨q, xs, h1, h2⟩ := h
      exact ⟨q, xs, by rw [k.same a fun z => hf (by rw [q, z]; simp)]; exact h1, k.dnK _ _ h2⟩
    | dol ps =>
      obtain ⟨as, vs, q, nd, h1, nk, h2⟩ := h
      exact ⟨as, vs, q, nd, by rw [k.same a fun z => hf (by rw [q, z]; simp)]; exact h1, nk, k.dol h2⟩
  | scr ns =>
    obtain ⟨h0, a, e, h1⟩ := h
    refine ⟨h0, a, e, ?_⟩
    rcases h1 with ⟨o, h1⟩ | h1
    · exact .inl ⟨o, k.other h1 (fun z => nomatch z) (fun _ z => nomatch z)⟩
    · exact .inr h1
end
def Cf.at (C : Cf) (h : Hp) : Cf := { C with H0 := h }
section
variable {C : Cf} {O P : List Addr} {F : List (List Addr)} {H H' : Hp} {σ : St} {env : Env} {d : Addr} {kvs : List (Key × V)}
theorem Nn.un (hd : ¬ Nn O F d) {i : Nat} : d ∉ fpAt F i := fun z => hd (.inr (fpAt_mem z))
theorem ER.lk (R : ER C O F H σ env) (k : Lk H H' d kvs) (hd : ¬ Nn O F d) {h : Hp} (e1 : ∀ b, b ≠ d → h b = C.H0 b) (e2 : h d = none ↔ C.H0 d = none) (e3 : ∀ o, h d = some o → d ∉ C.bA → H' d = some o) : ER (C.at h) O F H' σ env where
  lenσ := R.lenσ
  lenF := R.lenF
  slot := fun i v e => by
    obtain ⟨x, q1, q2⟩ := R.slot i v e
    exact ⟨x, q1, k.sr (Nn.un hd) q2⟩
  emp := R.emp
  nd := R.nd
  dis := R.dis
  mt := fun a z => by
    rw [k.same a fun w => hd (by rw [← w]; exact z)]
    exact R.mt a z
  fr := fun b o e n => by
    by_cases hb : b = d
    · subst hb; exact e3 o e n
    · rw [k.same b hb]
      exact R.fr b o (by rw [← e1 b hb]; exact e) n
  new := fun a z => by
    have ha : a ≠ d := fun w => hd (by rw [← w]; exact .inr z)
    rcases R.new a z with q | q
    · exact .inl q
    · exact .inr (by show h a = none; rw [e1 a ha]; exact q)
  old := fun b z => by
    by_cases hb : b = d
    · subst hb; exact rd_some k.rd'
    · rw [k.same b hb]
      exact R.old b (by rw [← e1 b hb]; exact z)
  bor := R.bor
end
section
variable {X : Cx} {e : Expr}
theorem _root_.L2.pe_ex {ι : Type} {t : ι → TE} (h : ∀ i, PE X e (t i)) : PE X e (fun σ H Q => ∃ i, t i σ H Q) := ⟨fun pins s σ H Q I ⟨i, q⟩ => (h i).run pins s σ H Q I q⟩
theorem _root_.L2.pe_either {t t' : TE} (h : PE X e t) (h' : PE X e t') : PE X e (fun σ H Q => t σ H Q ∨ t' σ H Q) := ⟨fun pins s σ H Q I q => q.elim (h.run pins s σ H Q I) (h'.run pins s σ H Q I)⟩
end
theorem DnKv.keys {K : PySem.W.Frag} {H : Hp} {N : Addr → Prop} : ∀ {kvs : List (Key × V)} {ps : List (PyData × PyData)} {i : Nat} {k : Key} {v : V}, DnKv K H N kvs ps → kvs[i]? = some (k, v) → (ps.map Prod.fst)[i]? = some (keyP k)
  | _, _, _, _, _, .nil, e => by simp at e
  | _, _, 0, _, _, .cons h t, e => by simp at e; obtain ⟨rfl, rfl⟩ := e; rfl
  | _, _, i + 1, _, _, .cons h t, e => by
    have q := DnKv.keys (i := i) t (by simpa using e)
    simpa using q
theorem Wk.keys {K : PySem.W.Frag} {H : Hp} {N : Addr → Prop} {w : Bool} {d : Addr} {o : Obj} {kvs : List (Key × V)} {ps : List (PyData × PyData)} (h : H d = some (.frz o (.dK kvs))) (dn : DnKv K H N kvs ps) : Wk K N H w (ps.map Prod.fst) (Itk d o kvs) where
  go := fun i H' hi k => ⟨k _ _ h (.inr fun z => z), by rw [dn.length]; simpa using hi⟩
  yld := fun i H' N' x H'' hi k l y => by
    obtain ⟨rfl, kk, v, e1, rfl⟩ := y
    refine ⟨keyP kk, dn.keys e1, fun _ _ e => e, .inl ?_⟩
    cases kk with
    | inl i => exact .int i
    | inr z => exact .str z
  stop := fun H' k => ⟨k _ _ h (.inr fun z => z), by rw [dn.length]; simp⟩
section
variable {X : Cx} {C : Cf} {EX : EXT} {bor vs : List Nat} {t : Tgt} {mC : Env → Res Bool} {mE : Env → Res Val} {i : Nat}
theorem compK_ex {ds : List PyData} {env env' : Env} {x : Exn} : compK bor vs t mC mE ds env ≠ .ex x env' := by
  unfold compK
  split
  · split <;> exact fun z => nomatch z
  · exact fun z => nomatch z
/-- the reading of a comprehension over the keys in slot i -/
def tKeys (C : Cf) (bor vs : List Nat) (t : Tgt) (mC : Env → Res Bool) (mE : Env → Res Val) (i : Nat) : TE := fun σ H Q => ∃ h0 : Hp, tLc (iKeys (tVar i)) (GB (C.at h0) bor t) (TB (C.at h0) EX0 mC) (TV (C.at h0) EX0 mE) vs σ H Q
theorem comk_w (hb : ∀ p ∈ C.B, p.1 ∉ vs) (hn : ∀ j ∈ t.ns, j ∈ vs) (σ : St) (H : Hp) (Q : VK) (q : TV C EX (fun env => (keysAt i env).bind fun ds env1 => compK bor vs t mC mE ds env1) σ H Q) :
    tLockE (tKeys C bor vs t mC mE i) σ H Q ∨ tKeys C bor vs t mC mE i σ H Q := by
  obtain ⟨O, F, env, R, q⟩ := rg_iff.mp q
  have go : ∃ ps F1 env1 x, ER C O F1 H σ env1 ∧ Step F H F1 H ∧ σ[i]? = some (some x) ∧ Dn C.K H (Nn O F1) x (.dict ps) ∧ Fin C EX (PV C) O F H σ Q (compK bor vs t mC mE (ps.map Prod.fst) env1) := by
    unfold keysAt at q
    cases e : env.at i with
    | none => rw [e] at q; exact q.elim
    | some v =>
      rw [e] at q
      cases v with
      | sh x =>
        cases x with
        | dict ps =>
          obtain ⟨x, e1, r⟩ := R.slot i _ e
          exact ⟨ps, F, env, x, R, Step.refl, e1, r.2, q⟩
        | _ => exact q.elim
      | ow m =>
        cases m with
        | dic ps =>
          obtain ⟨R1, x, e1, r⟩ := R.freeze e
          exact ⟨ps, F.set i [], _, x, R1, Step.less R (fun a h => by simp at h), e1, r, q⟩
        | _ => exact q.elim
      | scr ns => exact q.elim
  obtain ⟨ps, F1, env1, x, R1, s1, e1, dn, q⟩ := go
  cases dn with
  | @dic d kvs _ h0 h1 h2 =>
  rcases h1 with e | ⟨od, e⟩
  · refine .inl ⟨d, .dK kvs, e, trivial, fun od => ?_⟩
    have k : Lk H (upd H d (.frz od (.dK kvs))) d kvs := ⟨fun b hb => upd_ne hb, .inl e, .inr ⟨od, upd_same⟩⟩
    obtain ⟨hf, h0', hn', R2⟩ : ∃ hf : Hp, (∀ b, b ≠ d → hf b = C.H0 b) ∧ (hf d = none ↔ C.H0 d = none) ∧ ER (C.at hf) O F1 (upd H d (.frz od (.dK kvs))) σ env1 := by
      have a1 : ∀ b, b ≠ d → (fun b => if b = d then (C.H0 d).map (fun _ => HO.frz od (.dK kvs)) else C.H0 b) b = C.H0 b := fun b hb => if_neg hb
      have a2 : (fun b => if b = d then (C.H0 d).map (fun _ => HO.frz od (.dK kvs)) else C.H0 b) d = none ↔ C.H0 d = none := by
        show (if d = d then (C.H0 d).map (fun _ => HO.frz od (.dK kvs)) else C.H0 d) = none ↔ _
        rw [if_pos rfl]; simp
      refine ⟨_, a1, a2, R1.lk k h0 a1 a2 fun o q _ => ?_⟩
      replace q : (if d = d then (C.H0 d).map (fun _ => HO.frz od (.dK kvs)) else C.H0 d) = some o := q
      rw [if_pos rfl] at q
      rw [upd_same]
      cases w : C.H0 d with
      | none => rw [w] at q; cases q
      | some u => rw [w] at q; exact q
    refine ⟨hf, .ref d, e1, d, od, rfl, .inl ⟨kvs, upd_same, ?_⟩⟩
    refine show tLc (fun _ _ R => R (Itk d od kvs) (upd H d (.frz od (.dK kvs)))) (GB (C.at hf) bor t) (TB (C.at hf) EX0 mC) (TV (C.at hf) EX0 mE) vs σ (upd H d (.frz od (.dK kvs))) (fun v H' => H' d = some (HO.frz od (HO.dK kvs)) ∧ Q v (upd H' d (HO.dK kvs))) from lc_tail (C := C.at hf) (EX := EX) hb hn (F := F1) (H := upd H d (.frz od (.dK kvs))) (ds := ps.map Prod.fst) (env1 := env1) ?_ R2 Step.refl (Wk.keys upd_same (k.dnK _ _ h2))
    cases ec : compK bor vs t mC mE (ps.map Prod.fst) env1 with
    | no => rw [ec] at q; exact q
    | ex x env' => exact absurd ec compK_ex
    | ok v env' =>
      rw [ec] at q
      intro y H2 ⟨F2, P, R3, s3, f3, r3⟩
      have hd2 : H2 d = some (.frz od (.dK kvs)) := s3.keep d _ upd_same fun z => h0 (.inr z)
      have k2 : Lk H2 (upd H2 d (.dK kvs)) d kvs := ⟨fun b hb => upd_ne hb, .inr ⟨od, hd2⟩, .inl upd_same⟩
      have nd : ¬ Nn (P ++ O) F2 d := fun z => by
        obtain ⟨o, w, mu⟩ := R3.mt d z
        rw [hd2] at w; cases w
        exact mu
      refine ⟨hd2, q y _ ⟨F2, P, ?_, ⟨fun b o w n => ?_, fun a z => ?_, fun b w => ?_⟩, fun a ha => ?_, k2.sr (fun z => nd (.inl (List.mem_append_left _ z))) r3⟩⟩
      · refine ER.lk (C := C.at hf) (h := C.H0) R3 k2 nd (fun b hb => (h0' b hb).symm) hn'.symm fun o w n => ?_
        have w2 := R1.fr d o w n
        rw [e] at w2; cases w2
        exact upd_same
      · by_cases hbd : b = d
        · subst hbd
          rw [e] at w; cases w
          exact upd_same
        · rw [upd_ne hbd]
          rcases Classical.em (b ∈ F1.flatten) with z | z
          · rcases s1.new b z with u | u
            · exact absurd u n
            · rw [u] at w; cases w
          · exact s3.keep b o (by rw [upd_ne hbd]; exact w) z
      · rcases s3.new a z with u | u
        · exact s1.new a u
        · refine .inr ?_
          by_cases hbd : a = d
          · subst hbd; rw [upd_same] at u; cases u
          · rw [upd_ne hbd] at u; exact u
      · by_cases hbd : b = d
        · subst hbd; rw [upd_same]; simp
        · rw [upd_ne hbd]
          exact s3.alive b (by rw [upd_ne hbd]; exact w)
      · have u := f3 a ha
        by_cases hbd : a = d
        · subst hbd; rw [upd_same] at u; cases u
        · rw [upd_ne hbd] at u; exact u
  · refine .inr ⟨C.H0, .ref d, e1, d, od, rfl, .inl ⟨kvs, e, ?_⟩⟩
    exact lc_tail (C := C.at C.H0) (EX := EX) hb hn q R1 s1 (Wk.keys e h2)
end
end Pv

/-! PvU: what a def promises; a def's body keeps it; calls. -/
set_option linter.all false
set_option maxRecDepth 100000
set_option maxHeartbeats 2000000
namespace Pv
open PySem PySem.Spec L2

abbrev XR := Hp → Value → Option Addr → Exn → Prop
/-- the arguments as they come -/
structure Entry (K : PySem.W.Frag) (H : Hp) (O : List Addr) (fps : List (List Addr)) (args : List Val) (vs : List V) : Prop where
  lv : vs.length = args.length
  lf : fps.length = args.length
  slot : ∀ i v, args[i]? = some v → ∃ x, vs[i]? = some x ∧ SR K H (Nn O fps) (fpAt fps i) x v
  emp : ∀ i, (∀ m, args[i]? ≠ some (.ow m)) → fpAt fps i = []
  nd : fps.flatten.Nodup
  dis : ∀ a ∈ O, a ∉ fps.flatten
  mt : ∀ a, Nn O fps a → ∃ o, H a = some o ∧ Mu o
  one : ∀ (i : Nat) (m : MO), args[i]? = some (.ow m) → m.one = true
/-- the lent objects behind the call -/
def LentR (K : PySem.W.Frag) (H : Hp) (N : Addr → Prop) : List Val → List V → List MO → Prop
  | [], _, [] => True
  | .ow _ :: as, x :: xs, m :: ms => (∃ a, x = .ref a ∧ MR K H N [a] a m) ∧ LentR K H N as xs ms
  | .sh _ :: as, _ :: xs, ms => LentR K H N as xs ms
  | .scr _ :: as, _ :: xs, ms => LentR K H N as xs ms
  | _, _, _ => False
/-- behind a call; P: what the result owns -/
structure Exit (K : PySem.W.Frag) (H : Hp) (O : List Addr) (fps : List (List Addr)) (args : List Val) (vs : List V) (outs : List MO) (P : List Addr) (H' : Hp) : Prop where
  keep : ∀ b o, H b = some o → b ∉ fps.flatten → H' b = some o
  alive : ∀ b, H b ≠ none → H' b ≠ none
  new : ∀ a ∈ P, H a = none
  mt : ∀ a, a ∈ P ∨ a ∈ fps.flatten → ∃ o, H' a = some o ∧ Mu o
  lent : LentR K H' (Nn (P ++ O) fps) args vs outs
def spF (K : PySem.W.Frag) (xr : XR) (Φf : List Val → CR) : Sp := fun vs H Q E => ∃ O fps args, Entry K H O fps args vs ∧ match Φf args with
  | .ok v outs => ∀ x P H', Exit K H O fps args vs outs P H' → SR K H' (Nn (P ++ O) fps) P x v → Q x H'
  | .ex e outs => ∀ cls d H', xr H' cls d e → Exit K H O fps args vs outs [] H' → E cls d H'
  | .no => False
/-- a def that keeps its promise, where no guard stands around -/
structure FnG (P : Program) (w : World) (K : PySem.W.Frag) (mg : Str → Option Value) (base : Heap) (k : Nat) (f : Addr) (fd : FuncData) (ps : List Str) (sp : Sp) : Prop where
  len : ∀ vs H Q E, sp vs H Q E → vs.length = ps.length
  run : ∀ (A : Around) (outer : List PySem.Env) (s : Shared) (H : Hp) (args : Args) (us : List Value) (vs : List V) (Q : VK) (E : XK), Room k A → A.guards = some [] → Env0 P w K mg base A outer s H → BindsTo s fd args (ps.zip us) → Vals vs us → sp vs H Q E →
    codeAny (model P w) A (.call (.ref f) args) (L2.CR (L2.CX P w) outer P w H s Q E) s
theorem FnG.imp {P : Program} {w : World} {K : PySem.W.Frag} {mg : Str → Option Value} {base : Heap} {k : Nat} {f : Addr} {fd : FuncData} {ps : List Str} {sp sp' : Sp} (F : FnG P w K mg base k f fd ps sp) (h : ∀ vs H Q E, sp' vs H Q E → sp vs H Q E) : FnG P w K mg base k f fd ps sp' :=
  ⟨fun vs H Q E q => F.len _ _ _ _ (h _ _ _ _ q), fun A outer s H args us vs Q E r g e b v q => F.run A outer s H args us vs Q E r g e b v (h _ _ _ _ q)⟩
section
variable {P : Program} {w : World} {K : PySem.W.Frag} {mg : Str → Option Value} {base : Heap} {k : Nat} {x qual : Str} {params : Arguments} {body : List Stmt} {scope : Scope} {dvs : List V} {kws : List (Str × V)} {f : Addr} {fd : FuncData}
/-- a def by its body, no guard around -/
theorem fnG_of {N ps : List Str} {sp : Sp} (F : FunD K x qual params body scope dvs kws f fd) (S : FnScope N ps scope) (len : ∀ vs H Q E, sp vs H Q E → vs.length = ps.length)
    (hbody : ∀ (cdv : Value) (A : Around) (outer : List PySem.Env) (s : Shared) (H : Hp) (vs : List V) (Q : VK) (E : XK), Room k (A.deeper (PyProof.Rows.envOfC qual scope s.heap.objs.size f cdv)) → A.guards = some [] → sp vs H Q E →
      ∃ t, PSs (cxOf (L2.CX P w) P w K mg base N qual scope f cdv A outer s H E) body t ∧ t { nx := fun _ H' => Q .non H', rt := Q } (L2.start N vs) H) : FnG P w K mg base (k + 1) f fd ps sp := by
  obtain ⟨oc, od, dV, kV, doc, pm, an, cdv, ct, osl, rfl, lk, hcd, _, _⟩ := F.ex
  refine ⟨len, ?_⟩
  intro A outer s H args us vs Q E room hg e0 bnd rv hsp
  have inK : K.In s.heap := e0.mod.kin.keeps fun b o e => (e0.bs b o e).1
  have slack : s.heap.NoLimit := e0.mod.nolimit.keeps fun b o e => (e0.bs b o e).1
  have kinds : ∀ y ∈ ps.zip us, scope.names.lookup y.1 = some .local ∨ (scope.names.lookup y.1 = some .cell ∧ ((cellsFrom (s.heap.objs.size + 1) scope.names []).lookup y.1).isSome = true) := by
    rintro ⟨n, v⟩ hy
    exact (S.par n (List.of_mem_zip hy).1).imp id fun q => ⟨q, PySem.W.cellsFrom_some _ _ _ (.inl q)⟩
  refine codeAny_call_function room.depth (inK _ _ lk) rfl S.co S.gen rfl (PySem.W.codeRec_of inK hcd) (bnd _ _ _ _ (wpAny_newFunctionEnv_cells S.kind kinds ?_))
  intro env he s1 ic
  subst he
  obtain ⟨t, ht, q⟩ := hbody cdv A outer s H vs Q E (room.deeper _) hg hsp
  have I := inv_start (CX := L2.CX P w) (mg := mg) (base := base) (E := E) S room.hd e0 (len _ _ _ _ hsp) rv ic
  refine ⟨slack.keeps ic.toInCall.keep, codeAny_func (wpAny_mono (ht.run [] s1 (L2.start N vs) H _ I q) ?_ fun _ _ h => h)⟩
  intro fl s' hs
  cases fl with
  | ret u =>
    obtain ⟨v, σ', H', J, rv', q'⟩ := hs
    exact ⟨v, H', J.os, J.bare, J.base, J.hok, rv', q'⟩
  | next =>
    obtain ⟨σ', H', J, q'⟩ := hs
    exact ⟨.non, H', J.os, J.bare, J.base, J.hok, rfl, q'⟩
  | brk =>
    obtain ⟨σ', H', J, q'⟩ := hs
    exact q'.elim
  | cont =>
    obtain ⟨σ', H', J, q'⟩ := hs
    exact q'.elim
end
/-! ### the entry -/
theorem fp_app {F : List (List Addr)} {n i : Nat} : fpAt (F ++ List.replicate n []) i = fpAt F i := by
  unfold fpAt
  rw [List.getD_eq_getElem?_getD, List.getD_eq_getElem?_getD]
  by_cases h : i < F.length
  · rw [List.getElem?_append_left h]
  · rw [List.getElem?_append_right (by omega), List.getElem?_eq_none (l := F) (by omega), List.getElem?_replicate]
    split <;> rfl
theorem flat_app {F : List (List Addr)} {n : Nat} : (F ++ List.replicate n []).flatten = F.flatten := by
  rw [List.flatten_append]
  simp
theorem start_at (f : Fn) (args : List Val) (i : Nat) : Env.at (f.start args) i = args[i]? := by
  unfold Env.at Fn.start
  by_cases h : i < args.length
  · rw [List.getElem?_append_left (by simpa using h), List.getElem?_map]
    cases args[i]? <;> rfl
  · rw [List.getElem?_append_right (by simpa using h), List.getElem?_eq_none (l := args) (by omega), List.getElem?_replicate]
    split <;> rfl
/-- the lent ones: places and addresses -/
def lentB : Nat → List Val → List V → List (Nat × Addr)
  | i, .ow _ :: as, .ref a :: xs => (i, a) :: lentB (i + 1) as xs
  | i, _ :: as, _ :: xs => lentB (i + 1) as xs
  | _, _, _ => []
theorem lentB_mem {p : Nat × Addr} : ∀ {i : Nat} {as : List Val} {xs : List V}, p ∈ lentB i as xs → i ≤ p.1 ∧ xs[p.1 - i]? = some (.ref p.2) ∧ ∃ m, as[p.1 - i]? = some (.ow m)
  | i, [], xs, h => by cases xs <;> simp [lentB] at h
  | i, v :: as, [], h => by cases v <;> simp [lentB] at h
  | i, v :: as, x :: xs, h => by
    have tail : p ∈ lentB (i + 1) as xs → i ≤ p.1 ∧ (x :: xs)[p.1 - i]? = some (.ref p.2) ∧ ∃ m, (v :: as)[p.1 - i]? = some (.ow m) := fun h => by
      obtain ⟨h1, h2, m, h3⟩ := lentB_mem h
      have e : p.1 - i = (p.1 - (i + 1)) + 1 := by omega
      rw [e]
      exact ⟨by omega, by simpa using h2, m, by simpa using h3⟩
    cases v with
    | sh d => exact tail (by simpa [lentB] using h)
    | scr d => exact tail (by simpa [lentB] using h)
    | ow m =>
      cases x with
      | ref a =>
        rw [lentB, List.mem_cons] at h
        rcases h with h | h
        · subst h
          simp
        · exact tail h
      | _ => exact tail (by simpa [lentB] using h)
def cfOf (K : PySem.W.Frag) (xr : XR) (H : Hp) (fps : List (List Addr)) (args : List Val) (vs : List V) : Cf := ⟨K, H, lentB 0 args vs, fps.flatten, xr⟩
theorem Entry.er {K : PySem.W.Frag} {xr : XR} {H : Hp} {O : List Addr} {fps : List (List Addr)} {args : List Val} {vs : List V} {N : List Str} {f : Fn} (E : Entry K H O fps args vs) (hN : N.length = f.slots) (hl : args.length ≤ f.slots) :
    ER (cfOf K xr H fps args vs) O (fps ++ List.replicate (f.slots - args.length) []) H (L2.start N vs) (f.start args) := by
  have lst : (f.start args).length = f.slots := by unfold Fn.start; simp; omega
  have at_ : ∀ i x, vs[i]? = some x → (L2.start N vs)[i]? = some (some x) := fun i x e => by
    have hi : i < vs.length := (List.getElem?_eq_some_iff.mp e).1
    unfold L2.start
    rw [List.getElem?_append_left (by simpa using hi), List.getElem?_map, e]
    rfl
  have eN : Nn O (fps ++ List.replicate (f.slots - args.length) []) = Nn O fps := by
    funext a
    unfold Nn
    rw [flat_app]
  refine ⟨?_, ?_, fun i v e => ?_, fun i h => ?_, by rw [flat_app]; exact E.nd, by rw [flat_app]; exact E.dis, by rw [eN]; exact E.mt, fun b o e _ => e, fun a h => .inl (by rw [flat_app] at h; exact h), fun b h => h, fun p hp => ?_⟩
  · rw [lst]
    unfold L2.start
    simp
    have := E.lv
    omega
  · rw [lst]
    simp
    have := E.lf
    omega
  · rw [start_at] at e
    obtain ⟨x, e1, s⟩ := E.slot i v e
    rw [eN, fp_app]
    exact ⟨x, at_ i x e1, s⟩
  · rw [fp_app]
    refine E.emp i fun m e => h m ?_
    rw [start_at]; exact e
  · obtain ⟨_, h2, _⟩ := lentB_mem hp
    exact at_ _ _ (by simpa using h2)
/-- lent slots at the end of the body -/
theorem lent_end {K : PySem.W.Frag} {H' : Hp} {O P : List Addr} {F : List (List Addr)} {σ : St} {env : Env} {N' : Addr → Prop} (slot : ∀ i v, Env.at env i = some v → ∃ x, σ[i]? = some (some x) ∧ SR K H' (Nn (P ++ O) F) (fpAt F i) x v)
    (hN : Less H' (Nn (P ++ O) F) N') : ∀ {i : Nat} {args : List Val} {vs : List V} {outs : List MO}, args.length = vs.length → (∀ p ∈ lentB i args vs, σ[p.1]? = some (some (.ref p.2))) → (∀ (j : Nat) (m : MO), args[j]? = some (Val.ow m) → ∃ a, vs[j]? = some (V.ref a)) →
    lentAll env (owPos i args) = some outs → LentR K H' N' args vs outs ∧ ∀ p ∈ lentB i args vs, p.2 ∈ F.flatten
  | i, [], vs, outs, _, _, _, e => by
    cases e
    cases vs <;> exact ⟨trivial, fun p hp => by simp [lentB] at hp⟩
  | i, v :: args, [], outs, hl, _, _, _ => by cases hl
  | i, v :: args, x :: vs, outs, hl, hb, hr, e => by
    have hl' : args.length = vs.length := Nat.succ.inj hl
    have hr' : ∀ (j : Nat) (m : MO), args[j]? = some (Val.ow m) → ∃ a, vs[j]? = some (V.ref a) := fun j m h => by
      obtain ⟨a, q⟩ := hr (j + 1) m (by simpa using h)
      exact ⟨a, by simpa using q⟩
    cases v with
    | sh d =>
      obtain ⟨q1, q2⟩ := lent_end slot hN (i := i + 1) hl' (by simpa [lentB] using hb) hr' e
      exact ⟨q1, by simpa [lentB] using q2⟩
    | scr d =>
      obtain ⟨q1, q2⟩ := lent_end slot hN (i := i + 1) hl' (by simpa [lentB] using hb) hr' e
      exact ⟨q1, by simpa [lentB] using q2⟩
    | ow m =>
      obtain ⟨a, q⟩ := hr 0 m rfl
      have ex : x = .ref a := by simpa using q
      subst ex
      have e' : (match lendOf env i, lentAll env (owPos (i + 1) args) with
        | some m, some ms => some (m :: ms)
        | _, _ => none) = some outs := e
      split at e'
      · rename_i m' ms e1' e2
        cases e'
        obtain ⟨e1, ho⟩ := lendOf_ok e1'
        have hb' : ∀ p ∈ lentB (i + 1) args vs, σ[p.1]? = some (some (.ref p.2)) := fun p hp => hb p (by simp [lentB, hp])
        obtain ⟨q1, q2⟩ := lent_end slot hN (i := i + 1) hl' hb' hr' e2
        obtain ⟨y, e3, b, e4, hm⟩ := slot i _ e1
        have e5 := hb (i, a) (by simp [lentB])
        rw [show σ[(i, a).1]? = σ[i]? from rfl, e3] at e5
        cases e5
        cases e4
        have hf := MR.fp hm ho
        refine ⟨⟨⟨_, rfl, ?_⟩, q1⟩, fun p hp => ?_⟩
        · rw [← hf]
          exact MR.mono Kept.rfl' hN (fun _ _ _ h => h) hm
        · rw [lentB, List.mem_cons] at hp
          rcases hp with hp | hp
          · subst hp
            exact flat_mem.mpr ⟨i, by rw [hf]; simp⟩
          · exact q2 p hp
      · cases e'
end Pv

/-! PvV: a body keeps its promise; a call, from the caller's side. -/
set_option linter.all false
set_option maxRecDepth 100000
set_option maxHeartbeats 2000000
namespace Pv
open PySem PySem.Spec L2

/-! ### the callee -/
/-- what a body may let out: what the caller wishes -/
def exOf (xr : XR) (E : XK) : EXT := fun e _ _ H' => ∀ cls d, xr H' cls d e → E cls d H'
theorem lentB_has : ∀ {i j : Nat} {args : List Val} {vs : List V} {m : MO} {a : Addr}, args[j]? = some (.ow m) → vs[j]? = some (.ref a) → (i + j, a) ∈ lentB i args vs
  | i, j, [], vs, m, a, h, _ => by simp at h
  | i, j, v :: args, [], m, a, _, h => by simp at h
  | i, 0, v :: args, x :: vs, m, a, h1, h2 => by
    simp at h1 h2
    subst h1 h2
    simp [lentB]
  | i, j + 1, v :: args, x :: vs, m, a, h1, h2 => by
    have q := lentB_has (i := i + 1) (j := j) (args := args) (vs := vs) (by simpa using h1) (by simpa using h2)
    have e : i + 1 + j = i + (j + 1) := by omega
    rw [e] at q
    cases v with
    | ow m' => cases x <;> simp [lentB, q]
    | sh d => simp [lentB, q]
    | scr d => simp [lentB, q]
theorem Entry.refs {K : PySem.W.Frag} {H : Hp} {O : List Addr} {fps : List (List Addr)} {args : List Val} {vs : List V} (E : Entry K H O fps args vs) (j : Nat) (m : MO) (h : args[j]? = some (.ow m)) : ∃ a, vs[j]? = some (.ref a) ∧ fpAt fps j = [a] := by
  obtain ⟨x, e1, a, rfl, hm⟩ := E.slot j _ h
  exact ⟨a, e1, MR.fp hm (E.one j m h)⟩
theorem Entry.flat {K : PySem.W.Frag} {H : Hp} {O : List Addr} {fps : List (List Addr)} {args : List Val} {vs : List V} (E : Entry K H O fps args vs) {a : Addr} (h : a ∈ fps.flatten) : ∃ p ∈ lentB 0 args vs, p.2 = a := by
  obtain ⟨j, hj⟩ := flat_mem.mp h
  by_cases q : ∃ m, args[j]? = some (.ow m)
  · obtain ⟨m, q⟩ := q
    obtain ⟨b, e1, e2⟩ := E.refs j m q
    rw [e2] at hj
    have hb : a = b := by simpa using hj
    subst hb
    exact ⟨_, lentB_has (i := 0) q e1, rfl⟩
  · rw [E.emp j fun m e => q ⟨m, e⟩] at hj
    simp at hj
theorem Entry.exit {K : PySem.W.Frag} {xr : XR} {H H' : Hp} {O P : List Addr} {fps F' : List (List Addr)} {args : List Val} {vs : List V} {outs : List MO} {σ' : St} {env' : Env} (E : Entry K H O fps args vs) (R : ER (cfOf K xr H fps args vs) (P ++ O) F' H' σ' env') (hP : ∀ a ∈ P, a ∈ fps.flatten ∨ H a = none)
    (e : lentAll env' (owPos 0 args) = some outs) : Exit K H O fps args vs outs P H' ∧ Less H' (Nn (P ++ O) F') (Nn (P ++ O) fps) := by
  have bor : ∀ p ∈ lentB 0 args vs, σ'[p.1]? = some (some (.ref p.2)) := R.bor
  have refs : ∀ (j : Nat) (m : MO), args[j]? = some (.ow m) → ∃ a, vs[j]? = some (V.ref a) := fun j m h => by
    obtain ⟨a, q, _⟩ := E.refs j m h
    exact ⟨a, q⟩
  obtain ⟨_, inF⟩ := lent_end (N' := fun _ => False) R.slot (fun b z => z.elim) E.lv.symm bor refs e
  have sub : ∀ a ∈ fps.flatten, a ∈ F'.flatten := fun a ha => by
    obtain ⟨p, hp, rfl⟩ := E.flat ha
    exact inF p hp
  have ls : Less H' (Nn (P ++ O) F') (Nn (P ++ O) fps) := fun b z => .inl (z.elim .inl fun y => .inr (sub b y))
  obtain ⟨lr, _⟩ := lent_end R.slot ls E.lv.symm bor refs e
  refine ⟨⟨fun b o q n => R.fr b o q n, R.old, fun a ha => ?_, fun a ha => ?_, lr⟩, ls⟩
  · rcases hP a ha with z | z
    · exact absurd (sub a z) (R.dis a (List.mem_append_left _ ha))
    · exact z
  · rcases ha with z | z
    · exact R.mt a (.inl (List.mem_append_left _ z))
    · exact R.mt a (.inr (sub a z))
theorem body_tx {K : PySem.W.Frag} {xr : XR} {H : Hp} {O : List Addr} {fps : List (List Addr)} {args : List Val} {vs : List V} {N : List Str} {f : Fn} {Φ : Nat → List Val → CR} {Q : VK} {E' : XK} (E : Entry K H O fps args vs) (hN : N.length = f.slots)
    (h : match f.run Φ args with
      | .ok v outs => ∀ x P H', Exit K H O fps args vs outs P H' → SR K H' (Nn (P ++ O) fps) P x v → Q x H'
      | .ex e outs => ∀ cls d H', xr H' cls d e → Exit K H O fps args vs outs [] H' → E' cls d H'
      | .no => False) :
    TX (cfOf K xr H fps args vs) (exOf xr E') (execs Φ f.bor f.body) { nx := fun _ H' => Q .non H', rt := Q } (L2.start N vs) H := by
  unfold Fn.run at h
  by_cases hok : f.argsOk args = true
  case neg => rw [if_neg hok] at h; exact h.elim
  rw [if_pos hok] at h
  have hle : args.length ≤ f.slots := by
    unfold Fn.argsOk at hok
    simp only [Bool.and_eq_true, decide_eq_true_eq] at hok
    omega
  refine tx_iff.mpr ⟨O, _, _, E.er hN hle, ?_⟩
  cases er : execs Φ f.bor f.body (f.start args) with
  | no => rw [er] at h; exact h
  | ex e env' =>
    rw [er] at h
    intro σ' F' H' R s cls d hx
    simp only at h
    cases e1 : lentAll env' (owPos 0 args) with
    | none => rw [e1] at h; exact h.elim
    | some outs =>
      rw [e1] at h
      exact h cls d H' hx (E.exit (P := []) R (fun a ha => by simp at ha) e1).1
  | ok fl env' =>
    rw [er] at h
    cases fl with
    | cont => exact h.elim
    | brk => exact h.elim
    | next =>
      intro σ' F' H' R s
      simp only at h
      cases e1 : lentAll env' (owPos 0 args) with
      | none => rw [e1] at h; exact h.elim
      | some outs =>
        rw [e1] at h
        exact h .non [] H' (E.exit (P := []) R (fun a ha => by simp at ha) e1).1 ⟨rfl, .non⟩
    | ret v =>
      rintro x H' ⟨σ', F', P, R, s, hP, sr⟩
      simp only at h
      cases e1 : lentAll env' (owPos 0 args) with
      | none => rw [e1] at h; exact h.elim
      | some outs =>
        rw [e1] at h
        obtain ⟨ex, ls⟩ := E.exit R (fun a ha => by rw [flat_app] at hP; exact hP a ha) e1
        exact h x P H' ex (SR.mono Kept.rfl' ls (fun _ _ _ e => e) sr)
/-! ### the caller -/
/-- an operand as it lies; its address, if a slot is lent -/
def OP (K : PySem.W.Frag) (H : Hp) (N : Addr → Prop) (σ : St) (P : List Addr) : Od → V → Prop
  | .vl v, x => ∃ fp, (∀ a ∈ fp, a ∈ P) ∧ SR K H N fp x v
  | .pk i, x => σ[i]? = some (some x)
inductive OPs (K : PySem.W.Frag) (H : Hp) (N : Addr → Prop) (σ : St) (P : List Addr) : List Od → List V → Prop
  | nil : OPs K H N σ P [] []
  | cons {o : Od} {x : V} {os : List Od} {xs : List V} : OP K H N σ P o x → OPs K H N σ P os xs → OPs K H N σ P (o :: os) (x :: xs)
section
variable {K : PySem.W.Frag} {H : Hp} {N : Addr → Prop} {σ : St} {P : List Addr}
theorem OPs.more {Q : List Addr} (h : ∀ a ∈ P, a ∈ Q) : ∀ {os : List Od} {xs : List V}, OPs K H N σ P os xs → OPs K H N σ Q os xs
  | _, _, .nil => .nil
  | .vl v :: _, _, .cons ⟨fp, h1, h2⟩ t => .cons ⟨fp, fun a ha => h a (h1 a ha), h2⟩ (t.more h)
  | .pk i :: _, _, .cons o t => .cons o (t.more h)
theorem OR.ops : ∀ {P : List Addr} {os : List Od} {xs : List V}, OR K H N σ P os xs → OPs K H N σ P os xs
  | _, _, _, .nil => .nil
  | _, _, _, .vl s t => .cons ⟨_, fun a ha => List.mem_append_left _ ha, s⟩ ((OR.ops t).more fun a ha => List.mem_append_right _ ha)
  | _, _, _, .pk s t => .cons s (OR.ops t)
theorem OPs.get {j : Nat} {o : Od} : ∀ {os : List Od} {xs : List V}, OPs K H N σ P os xs → os[j]? = some o → ∃ x, xs[j]? = some x ∧ OP K H N σ P o x := by
  induction j with
  | zero =>
    intro os xs h e
    cases h with
    | nil => simp at e
    | cons a b => simp at e; subst e; exact ⟨_, rfl, a⟩
  | succ j ih =>
    intro os xs h e
    cases h with
    | nil => simp at e
    | cons a b =>
      obtain ⟨x, e1, e2⟩ := ih b (by simpa using e)
      exact ⟨x, by simpa using e1, e2⟩
def permL {α : Type} (perm : List Nat) (l : List α) : List α := perm.filterMap (l[·]?)
theorem OPs.perm {os : List Od} {xs : List V} (h : OPs K H N σ P os xs) : ∀ {perm : List Nat} {os' : List Od}, permO os perm = some os' → OPs K H N σ P os' (permL perm xs)
  | [], os', e => by cases e; exact .nil
  | j :: r, os', e => by
    unfold permO at e
    split at e
    · rename_i o q e1 e2
      cases e
      obtain ⟨x, e3, e4⟩ := h.get e1
      unfold permL
      rw [List.filterMap_cons, e3]
      exact .cons e4 (h.perm e2)
    · cases e
end
/-- the lent addresses, argument by argument -/
def fpsOf (F : List (List Addr)) : List Od → List (List Addr)
  | [] => []
  | .vl _ :: r => [] :: fpsOf F r
  | .pk i :: r => fpAt F i :: fpsOf F r
theorem fpsOf_flat {F : List (List Addr)} {a : Addr} : ∀ {os : List Od}, a ∈ (fpsOf F os).flatten ↔ ∃ i ∈ lents os, a ∈ fpAt F i
  | [] => by simp [fpsOf, lents]
  | .vl v :: r => by
    rw [fpsOf, List.flatten_cons, List.nil_append, fpsOf_flat (os := r)]
    rfl
  | .pk i :: r => by
    rw [fpsOf, List.flatten_cons, List.mem_append, fpsOf_flat (os := r), lents]
    simp
theorem fpsOf_nd {F : List (List Addr)} (A : Apart F) : ∀ {os : List Od}, (lents os).Nodup → (fpsOf F os).flatten.Nodup
  | [], _ => List.nodup_nil
  | .vl v :: r, h => by
    rw [fpsOf, List.flatten_cons, List.nil_append]
    exact fpsOf_nd A h
  | .pk i :: r, h => by
    rw [lents, List.nodup_cons] at h
    rw [fpsOf, List.flatten_cons, List.nodup_append]
    refine ⟨A.1 i, fpsOf_nd A h.2, fun a ha b hb e => ?_⟩
    subst e
    obtain ⟨j, hj, hb⟩ := fpsOf_flat.mp hb
    exact A.2 i j a (fun z => h.1 (by rw [z]; exact hj)) ha hb
section
variable {C : Cf} {O P : List Addr} {F : List (List Addr)} {H : Hp} {σ : St} {env : Env}
/-- what the caller owns apart from what it lends -/
def restO (O : List Addr) (F : List (List Addr)) (os : List Od) : List Addr := O ++ (cutF F (lents os)).flatten
theorem rest_iff {os : List Od} (a : Addr) : Nn (restO O F os) (fpsOf F os) a ↔ Nn O F a := by
  unfold restO Nn
  rw [List.mem_append, fpsOf_flat, flat_mem, flat_mem]
  constructor
  · rintro ((z | ⟨j, z⟩) | ⟨i, _, z⟩)
    · exact .inl z
    · rw [cutF_at] at z
      split at z
      · simp at z
      · exact .inr ⟨j, z⟩
    · exact .inr ⟨i, z⟩
  · rintro (z | ⟨j, z⟩)
    · exact .inl (.inl z)
    · by_cases q : j ∈ lents os
      · exact .inr ⟨j, q, z⟩
      · exact .inl (.inr ⟨j, by rw [cutF_at, if_neg q]; exact z⟩)
theorem rest_eq {os : List Od} : Nn (restO O F os) (fpsOf F os) = Nn O F := funext fun a => propext (rest_iff a)
/-- the arguments, as the callee takes them -/
theorem args_at (R : ER C (P ++ O) F H σ env) (hP : ∀ a ∈ P, a ∉ O) : ∀ {os : List Od} {xs : List V} {vals : List Val}, OPs C.K H (Nn (P ++ O) F) σ P os xs → argVals env os = some vals →
    xs.length = vals.length ∧ (fpsOf F os).length = vals.length ∧ (∀ i v, vals[i]? = some v → ∃ x, xs[i]? = some x ∧ SR C.K H (Nn O F) (fpAt (fpsOf F os) i) x v) ∧ ∀ i, (∀ m, vals[i]? ≠ some (.ow m)) → fpAt (fpsOf F os) i = []
  | [], _, vals, .nil, e => by
    cases e
    exact ⟨rfl, rfl, fun i v h => by simp at h, fun i _ => fp_nil⟩
  | o :: os, x :: xs, vals, .cons h t, e => by
    have key : ∃ v vs fp, vals = v :: vs ∧ argVals env os = some vs ∧ fpsOf F (o :: os) = fp :: fpsOf F os ∧ SR C.K H (Nn O F) fp x v ∧ ((∀ m, v ≠ .ow m) → fp = []) := by
      cases o with
      | vl w =>
        obtain ⟨fp, h1, h2⟩ := h
        have shr : ∀ d, w.share = some d → SR C.K H (Nn O F) [] x (.sh d) := fun d q => ⟨rfl, share_dn R hP h1 h2 q⟩
        unfold argVals at e
        split at e
        · cases e
          exact ⟨_, _, [], rfl, by assumption, rfl, ⟨rfl, h2.2⟩, fun _ => rfl⟩
        · cases e
          exact ⟨_, _, [], rfl, by assumption, rfl, shr _ rfl, fun _ => rfl⟩
        · cases e
          exact ⟨_, _, [], rfl, by assumption, rfl, shr _ rfl, fun _ => rfl⟩
        · cases e
          exact ⟨_, _, [], rfl, by assumption, rfl, shr _ rfl, fun _ => rfl⟩
        · cases e
      | pk i =>
        unfold argVals at e
        split at e
        · rename_i m vs e1 e2
          cases e
          obtain ⟨y, e3, s⟩ := R.slot i _ (lendOf_ok e1).1
          have h' : σ[i]? = some (some x) := h
          rw [e3] at h'
          cases h'
          exact ⟨_, _, _, rfl, e2, rfl, SR.mono Kept.rfl' Nn.cut (fun _ _ _ z => z) s, fun z => absurd rfl (z m)⟩
        · cases e
    obtain ⟨v, vs, fp, rfl, e1, e2, s, em⟩ := key
    obtain ⟨t1, t2, t3, t4⟩ := args_at R hP t e1
    rw [e2]
    refine ⟨by simp [t1], by simp [t2], fun i w q => ?_, fun i q => ?_⟩
    · cases i with
      | zero =>
        simp at q
        subst q
        exact ⟨x, rfl, s⟩
      | succ i =>
        obtain ⟨y, e3, s'⟩ := t3 i w (by simpa using q)
        exact ⟨y, by simpa using e3, s'⟩
    · cases i with
      | zero => exact em fun m z => q m (by rw [z]; rfl)
      | succ i => exact t4 i fun m z => q m (by simpa using z)
theorem args_one : ∀ {os : List Od} {vals : List Val}, argVals env os = some vals → ∀ (i : Nat) (m : MO), vals[i]? = some (.ow m) → m.one = true
  | [], vals, e, i, m, q => by cases e; simp at q
  | o :: os, vals, e, i, m, q => by
    have key : ∃ v vs, vals = v :: vs ∧ argVals env os = some vs ∧ ∀ m, v = .ow m → m.one = true := by
      cases o with
      | vl w =>
        unfold argVals at e
        split at e <;> first | (cases e; exact ⟨_, _, rfl, by assumption, fun m z => by cases z⟩) | cases e
      | pk i =>
        unfold argVals at e
        split at e
        · rename_i m vs e1 e2
          cases e
          exact ⟨_, _, rfl, e2, fun m' z => by cases z; exact (lendOf_ok e1).2⟩
        · cases e
    obtain ⟨v, vs, rfl, e1, hv⟩ := key
    cases i with
    | zero =>
      simp at q
      exact hv m q
    | succ i => exact args_one e1 i m (by simpa using q)
theorem call_entry (R : ER C (P ++ O) F H σ env) (hP : ∀ a ∈ P, a ∉ O) {os : List Od} {xs : List V} {vals : List Val} (h : OPs C.K H (Nn (P ++ O) F) σ P os xs) (e : argVals env os = some vals) (nd : (lents os).Nodup) :
    Entry C.K H (restO O F os) (fpsOf F os) vals xs := by
  obtain ⟨t1, t2, t3, t4⟩ := args_at R hP h e
  refine ⟨t1, t2, fun i v q => ?_, t4, fpsOf_nd R.apart nd, fun a ha z => ?_, fun a z => R.mt a ?_, args_one e⟩
  · rw [rest_eq]; exact t3 i v q
  · obtain ⟨i, hi, hz⟩ := fpsOf_flat.mp z
    rcases List.mem_append.mp ha with q | q
    · exact R.dis a (List.mem_append_right _ q) (flat_mem.mpr ⟨i, hz⟩)
    · obtain ⟨j, hj⟩ := flat_mem.mp q
      rw [cutF_at] at hj
      split at hj
      · simp at hj
      · rename_i hn
        exact R.apart.2 i j a (fun w => hn (by rw [← w]; exact hi)) hz hj
  · exact ((rest_iff a).mp z).elim (fun y => .inl (List.mem_append_right _ y)) .inr
end
end Pv

/-! PvW: behind a call; the rule for calls. -/
set_option linter.all false
set_option maxRecDepth 100000
set_option maxHeartbeats 2000000
namespace Pv
open PySem PySem.Spec L2

section
variable {C : Cf} {O P : List Addr} {F : List (List Addr)} {H H2 : Hp} {σ : St} {env : Env}
theorem backAll_at {env : Env} {i : Nat} : ∀ {ls : List Nat} {ms : List MO}, i ∉ ls → Env.at (backAll env ls ms) i = Env.at env i
  | [], _, _ => by unfold backAll; rfl
  | j :: r, [], _ => by unfold backAll; rfl
  | j :: r, m :: ms, h => by
    unfold backAll
    rw [at_set_ne fun e => h (by rw [e]; simp), backAll_at fun z => h (List.mem_cons_of_mem _ z)]
theorem backAll_length {env : Env} : ∀ {ls : List Nat} {ms : List MO}, (backAll env ls ms).length = env.length
  | [], _ => by unfold backAll; rfl
  | j :: r, [] => by unfold backAll; rfl
  | j :: r, m :: ms => by unfold backAll; rw [List.length_set, backAll_length]
/-- a lent slot behind the call -/
theorem back_slot {K : PySem.W.Frag} {N N' : Addr → Prop} (len : ∀ i ∈ ([] : List Nat), True) : ∀ {os : List Od} {xs : List V} {vals : List Val} {outs : List MO} {i : Nat}, OPs K H N σ P os xs → argVals env os = some vals → (lents os).Nodup → LentR K H2 N' vals xs outs → i ∈ lents os → i < env.length →
    outs.length = (lents os).length → ∃ m a, Env.at (backAll env (lents os) outs) i = some (.ow m) ∧ σ[i]? = some (some (.ref a)) ∧ MR K H2 N' [a] a m
  | [], _, _, _, i, _, _, _, _, h, _, _ => by simp [lents] at h
  | .vl v :: os, x :: xs, vals, outs, i, .cons h t, e, nd, lr, hi, hl, hz => by
    have key : ∃ w vs, vals = w :: vs ∧ argVals env os = some vs ∧ (∀ m, w ≠ .ow m) := by
      unfold argVals at e
      split at e <;> first | (cases e; exact ⟨_, _, rfl, by assumption, fun m z => by cases z⟩) | cases e
    obtain ⟨w, vs, rfl, e1, hw⟩ := key
    have lr' : LentR K H2 N' vs xs outs := by
      cases w with
      | ow m => exact absurd rfl (hw m)
      | sh d => exact lr
      | scr d => exact lr
    exact back_slot (os := os) len t e1 nd lr' hi hl hz
  | .pk j :: os, x :: xs, vals, outs, i, .cons h t, e, nd, lr, hi, hl, hz => by
    unfold argVals at e
    split at e
    · rename_i m vs e1 e2
      cases e
      rw [lents, List.nodup_cons] at nd
      cases outs with
      | nil => simp [lents] at hz
      | cons m' ms =>
        obtain ⟨⟨a, ex, hm⟩, lr'⟩ := lr
        subst ex
        by_cases q : j = i
        · subst q
          refine ⟨m', a, ?_, h, hm⟩
          show Env.at ((backAll env (lents os) ms).set j (some (.ow m'))) j = _
          exact at_set_same (by rw [backAll_length]; exact hl)
        · have hi' : i ∈ lents os := by
            rw [lents, List.mem_cons] at hi
            exact hi.elim (fun z => absurd z.symm q) id
          obtain ⟨m2, b, e3, e4, e5⟩ := back_slot len t e2 nd.2 lr' hi' hl (by simpa [lents] using hz)
          refine ⟨m2, b, ?_, e4, e5⟩
          show Env.at ((backAll env (lents os) ms).set j (some (.ow m'))) i = _
          rw [at_set_ne q]; exact e3
    · cases e
theorem lent_own {i : Nat} : ∀ {os : List Od} {vals : List Val}, argVals env os = some vals → i ∈ lents os → ∃ m0, Env.at env i = some (.ow m0) ∧ m0.one = true
  | [], _, _, h => by simp [lents] at h
  | .vl v :: os, vals, e, h => by
    have key : ∃ vs, argVals env os = some vs := by
      unfold argVals at e
      split at e <;> first | exact ⟨_, by assumption⟩ | cases e
    obtain ⟨vs, e1⟩ := key
    exact lent_own (os := os) e1 h
  | .pk j :: os, vals, e, h => by
    unfold argVals at e
    split at e
    · rename_i m vs q1 q2
      rw [lents, List.mem_cons] at h
      rcases h with h | h
      · subst h; exact ⟨_, lendOf_ok q1⟩
      · exact lent_own q2 h
    · cases e
theorem OR.length {K : PySem.W.Frag} {N : Addr → Prop} : ∀ {P : List Addr} {os : List Od} {xs : List V}, OR K H N σ P os xs → xs.length = os.length
  | _, _, _, .nil => rfl
  | _, _, _, .vl _ t => by rw [List.length_cons, List.length_cons, OR.length t]
  | _, _, _, .pk _ t => by rw [List.length_cons, List.length_cons, OR.length t]
/-- behind the call -/
theorem call_after {os : List Od} {xs : List V} {vals : List Val} {outs : List MO} {P2 : List Addr} (R : ER C (P ++ O) F H σ env) (h : OPs C.K H (Nn (P ++ O) F) σ P os xs) (e : argVals env os = some vals) (nd : (lents os).Nodup)
    (hz : outs.length = (lents os).length) (X : Exit C.K H (restO O F os) (fpsOf F os) vals xs outs P2 H2) :
    ER C (P2 ++ O) F H2 σ (backAll env (lents os) outs) ∧ Step F H F H2 ∧ Nn (P2 ++ restO O F os) (fpsOf F os) = Nn (P2 ++ O) F := by
  have eN : Nn (P2 ++ restO O F os) (fpsOf F os) = Nn (P2 ++ O) F := by
    funext a
    refine propext ⟨?_, ?_⟩
    · rintro (z | z)
      · rcases List.mem_append.mp z with q | q
        · exact .inl (List.mem_append_left _ q)
        · exact ((rest_iff (os := os) a).mp (.inl q)).elim (fun w => .inl (List.mem_append_right _ w)) .inr
      · exact ((rest_iff (os := os) a).mp (.inr z)).elim (fun w => .inl (List.mem_append_right _ w)) .inr
    · rintro (z | z)
      · rcases List.mem_append.mp z with q | q
        · exact .inl (List.mem_append_left _ q)
        · exact ((rest_iff (os := os) a).mpr (.inl q)).elim (fun w => .inl (List.mem_append_right _ w)) .inr
      · exact ((rest_iff (os := os) a).mpr (.inr z)).elim (fun w => .inl (List.mem_append_right _ w)) .inr
  have inF : ∀ a ∈ (fpsOf F os).flatten, a ∈ F.flatten := fun a ha => by
    obtain ⟨i, _, hi⟩ := fpsOf_flat.mp ha
    exact flat_mem.mpr ⟨i, hi⟩
  have kp : Kept (Nn (P ++ O) F) H H2 := fun b o q z => by
    refine X.keep b o q fun w => ?_
    rcases z with z | z
    · exact z (.inr (inF b w))
    · obtain ⟨u, e1, m⟩ := R.mt b (.inr (inF b w))
      rw [q] at e1; cases e1
      exact z m
  have ls : Less H (Nn (P ++ O) F) (Nn (P2 ++ O) F) := fun b z => by
    rcases z with z | z
    · rcases List.mem_append.mp z with q | q
      · exact .inr (X.new b q)
      · exact .inl (.inl (List.mem_append_right _ q))
    · exact .inl (.inr z)
  have lr := X.lent
  rw [eN] at lr
  refine ⟨⟨by rw [backAll_length]; exact R.lenσ, by rw [backAll_length]; exact R.lenF, fun i v q => ?_, fun i q => ?_, R.nd, fun a ha z => ?_, fun a z => ?_, fun b o q n => ?_, R.new, fun b q => X.alive b (R.old b q), R.bor⟩,
    ⟨fun b o q n => X.keep b o q fun w => n (inF b w), fun a z => .inl z, X.alive⟩, eN⟩
  · by_cases hi : i ∈ lents os
    · have hlt : i < env.length := by rw [← backAll_length (ls := lents os) (ms := outs)]; exact at_lt q
      obtain ⟨m, a, e1, e2, e3⟩ := back_slot (fun _ _ => trivial) h e nd lr hi hlt hz
      rw [e1] at q
      cases q
      -- the slot's address is as it was
      have own : ∃ m0, Env.at env i = some (.ow m0) ∧ m0.one = true := lent_own e hi
      obtain ⟨m0, e4, ho⟩ := own
      obtain ⟨y, e5, b, e6, hm⟩ := R.slot i _ e4
      rw [e2] at e5
      cases e5
      cases e6
      rw [MR.fp hm ho]
      exact ⟨_, e2, a, rfl, e3⟩
    · rw [backAll_at hi] at q
      obtain ⟨x, e1, s⟩ := R.slot i v q
      refine ⟨x, e1, SR.mono kp ls (fun a ha o q2 => X.keep a o q2 fun w => ?_) s⟩
      obtain ⟨j, hj, hw⟩ := fpsOf_flat.mp w
      exact R.apart.2 i j a (fun z => hi (by rw [z]; exact hj)) ha hw
  · by_cases hi : i ∈ lents os
    · by_cases hlt : i < env.length
      · obtain ⟨m, a, e1, _, _⟩ := back_slot (fun _ _ => trivial) h e nd lr hi hlt hz
        exact absurd e1 (q m)
      · exact fp_beyond (by rw [R.lenF]; omega)
    · exact R.emp i fun m w => q m (by rw [backAll_at hi]; exact w)
  · rcases List.mem_append.mp ha with q | q
    · obtain ⟨o, e1, _⟩ := R.mt a (.inr z)
      rw [X.new a q] at e1; cases e1
    · exact R.dis a (List.mem_append_right _ q) z
  · rcases z with z | z
    · rcases List.mem_append.mp z with q | q
      · exact X.mt a (.inl q)
      · obtain ⟨o, e1, m⟩ := R.mt a (.inl (List.mem_append_right _ q))
        exact ⟨o, X.keep a o e1 fun w => R.dis a (List.mem_append_right _ q) (inF a w), m⟩
    · by_cases q : a ∈ (fpsOf F os).flatten
      · exact X.mt a (.inr q)
      · obtain ⟨o, e1, m⟩ := R.mt a (.inr z)
        exact ⟨o, X.keep a o e1 q, m⟩
  · refine X.keep b o (R.fr b o q n) fun w => ?_
    rcases R.new b (inF b w) with z | z
    · exact n z
    · rw [q] at z; cases z
end
theorem PVs.app {C : Cf} {O : List Addr} {F F1 : List (List Addr)} {H H1 H2 : Hp} {σ : St} {env1 env2 : Env} : ∀ {P1 : List Addr} {os : List Od} {xs : List V} {os2 : List Od} {zs : List V}, ER C (P1 ++ O) F1 H1 σ env1 → Step F H F1 H1 → (∀ a ∈ P1, H a = none) → OR C.K H1 (Nn (P1 ++ O) F1) σ P1 os xs →
    PVs C (P1 ++ O) F1 H1 σ env2 os2 zs H2 → PVs C O F H σ env2 (os ++ os2) (xs ++ zs) H2 := by
  intro P1 os xs os2 zs R1 s1 f1 r1 ⟨F2, P2, R2, s2, f2, r2⟩
  have f2' : ∀ a ∈ P2, H a = none := fun a ha => by
    cases e : H a with
    | none => rfl
    | some u => exact absurd (f2 a ha) (s1.alive a (by rw [e]; simp))
  have hp : ∀ a, a ∈ (P1 ++ P2) ++ O ↔ a ∈ P2 ++ (P1 ++ O) := fun a => by
    simp only [List.mem_append]
    constructor
    · rintro ((h | h) | h)
      · exact .inr (.inl h)
      · exact .inl h
      · exact .inr (.inr h)
    · rintro (h | h | h)
      · exact .inl (.inr h)
      · exact .inl (.inl h)
      · exact .inr h
  have r1' : OR C.K H2 (Nn (P2 ++ (P1 ++ O)) F2) σ P1 os xs := OR.mono (R1.kept s2) (R1.less s2 f2) r1 fun a ha u e => s2.keep a u e (R1.dis a (List.mem_append_left _ ha))
  refine ⟨F2, P1 ++ P2, R2.perm hp, s1.trans s2, fun a ha => (List.mem_append.mp ha).elim (f1 a) (f2' a), ?_⟩
  rw [Nn.eq hp]
  generalize Nn (P2 ++ (P1 ++ O)) F2 = N at r1' r2
  clear R1 f1 r1 R2 f2 s2 f2' hp s1
  induction r1' with
  | nil => exact r2
  | vl s t ih =>
    rw [List.append_assoc]
    exact .vl s ih
  | pk s t ih => exact .pk s ih
/-! ### the rule -/
section
variable {X : Cx} {C : Cf} {EX : EXT} {Φ : Nat → List Val → CR} {e : Expr} {es : List Expr} {pos p1 : Pos} {ms ms2 : Env → Res (List Od)}
/-- what this body wishes of an exception, at one state -/
def Tk (X : Cx) (C : Cf) (EX : EXT) : Prop := L2.Takes X fun cls d σ H => ∃ e env, C.xr H cls d e ∧ EX e env σ H
/-- the promise at the operands -/
theorem sp_at {i : Nat} {perm : List Nat} {O P : List Addr} {F F1 : List (List Addr)} {H H1 : Hp} {σ : St} {env1 : Env} {Q : VK} {os : List Od} {xs : List V} (R0 : ∀ a ∈ P, a ∉ O) (R1 : ER C (P ++ O) F1 H1 σ env1) (s1 : Step F H F1 H1) (f1 : ∀ a ∈ P, H a = none) (r1 : OR C.K H1 (Nn (P ++ O) F1) σ P os xs)
    (k : Fin C EX (PV C) O F H σ Q (callR Φ i perm os env1)) : spF C.K C.xr (Φ i) (permL perm xs) H1 Q (fun cls d H' => ∃ e env, C.xr H' cls d e ∧ EX e env σ H') := by
  unfold callR at k
  cases e1 : permO os perm with
  | none => rw [e1] at k; exact k.elim
  | some os' =>
    simp only [e1] at k
    by_cases hz : perm.Nodup ∧ perm.length = os.length
    case neg => rw [if_neg hz] at k; exact k.elim
    rw [if_pos hz] at k
    have h' := (OR.ops r1).perm e1
    unfold callO at k
    cases e2 : argVals env1 os' with
    | none => rw [e2] at k; exact k.elim
    | some vals =>
      simp only [e2] at k
      by_cases nd : (lents os').Nodup
      case neg => rw [if_neg nd] at k; exact k.elim
      rw [if_pos nd] at k
      refine ⟨_, _, vals, call_entry R1 R0 h' e2 nd, ?_⟩
      cases e3 : Φ i vals with
      | no => rw [e3] at k; exact k.elim
      | ok v outs =>
        simp only [e3] at k
        by_cases hl : outs.length = (lents os').length
        case neg => rw [if_neg hl] at k; exact k.elim
        rw [if_pos hl] at k
        intro x P2 H2 ex s
        obtain ⟨R2, s2, eN⟩ := call_after R1 h' e2 nd hl ex
        rw [eN] at s
        refine k x H2 ⟨F1, P2, R2, s1.trans s2, fun a ha => ?_, s⟩
        cases q : H a with
        | none => rfl
        | some o => exact absurd (ex.new a ha) (s1.alive a (by rw [q]; simp))
      | ex x outs =>
        simp only [e3] at k
        by_cases hl : outs.length = (lents os').length
        case neg => rw [if_neg hl] at k; exact k.elim
        rw [if_pos hl] at k
        intro cls d H2 hx ex
        obtain ⟨R2, s2, eN⟩ := call_after R1 h' e2 nd hl ex
        exact ⟨x, _, hx, k F1 H2 R2 (s1.trans s2)⟩
/-- the callee runs -/
theorem run_g {k : Nat} {f : Addr} {fd : FuncData} {ps : List Str} {sp : Sp} {pins : List (Addr × Obj)} {σ : St} {H : Hp} {s : Shared} {Q : VK} {args : Args} {us : List Value} {vs : List V} {W : L2.WX} (F : FnG X.prog X.w X.K X.mg X.base k f fd ps sp) (hr : Room k X.A) (hg : X.A.guards = some []) (tk : L2.Takes X W) (I : Inv X pins σ H s)
    (hb : BindsTo s fd args (ps.zip us)) (r : Vals vs us) (h : sp vs H Q fun cls d H' => W cls d σ H') : codeAny (model X.prog X.w) X.A (.call (.ref f) args) (fun r s' => match r with
      | .ok (.ret u) => EP X pins σ Q u s'
      | .ok _ => False
      | .error e => X.xe e s') s := by
  refine codeAny_mono (F.run X.A X.stack s H args us vs Q _ hr hg I.env0 hb r h) fun r s' hq => ?_
  cases r with
  | error e => exact tk e s' (XE.of_call I (fun _ _ _ z => z) hq)
  | ok fl =>
    cases fl with
    | ret u => exact I.after hq
    | next => exact hq
    | brk => exact hq
    | cont => exact hq
theorem permL_range {α : Type} (l : List α) : permL (List.range l.length) l = l := by
  unfold permL
  refine List.ext_getElem? fun i => ?_
  have key : ∀ (n : Nat), n ≤ l.length → (List.range n).filterMap (l[·]?) = l.take n := fun n => by
    induction n with
    | zero => intro _; rfl
    | succ n ih =>
      intro h
      rw [List.range_succ, List.filterMap_append, ih (by omega), List.take_succ]
      congr 1
  rw [key l.length (Nat.le_refl _), List.take_length]
/-- f(e, ..) -/
theorem r_call {k i : Nat} {f : Addr} {fd : FuncData} {ps : List Str} {x : Str} {perm : List Nat} (hK : C.K = X.K) (F : FnG X.prog X.w X.K X.mg X.base k f fd ps (spF C.K C.xr (Φ i))) (hr : Room k X.A) (hgd : X.A.guards = some []) (tk : Tk X C EX) (hg : Gl X x) (hm : X.mg x = some (.ref f))
    (hk : PySem.W.keepIn X.K (.ref f) = true) (hb : Binds X.K fd ps []) (hp : perm = List.range ps.length) (ha : PA X (e :: es) (TAs C EX ms)) (hdb : (x == ("__debug__" : Str)) = false) (he : starEach (e :: es) X.env = (false, eval e X.env) :: starEach es X.env) (hpl : (backTo pos (starEach es X.env)).any (·.1) = false) :
    PE X (.Call (.Name x p1) (e :: es) [] pos) (TV C EX fun env => (ms env).bind fun os env1 => if os.length = ps.length then callR Φ i perm os env1 else .no) := by
  refine ⟨fun pins s σ H Q I q => ?_⟩
  obtain ⟨O, F', env, R, q⟩ := rg_iff.mp q
  have go : TAs C EX ms σ H fun xs H1 => xs.length = ps.length ∧ spF C.K C.xr (Φ i) xs H1 Q (fun cls d H' => ∃ e env, C.xr H' cls d e ∧ EX e env σ H') := by
    refine argsN R q fun os env1 F1 P xs H1 R1 s1 f1 r1 kk => ?_
    by_cases hl : os.length = ps.length
    case neg => rw [if_neg hl] at kk; exact kk.elim
    rw [if_pos hl] at kk
    have hx : xs.length = os.length := OR.length r1
    have q' := sp_at (fresh_off R f1) R1 s1 f1 r1 kk
    rw [hp, ← hl, ← hx, permL_range] at q'
    exact ⟨by omega, q'⟩
  refine wpAny_Call_Name_kw (ld_glob I hg hm ?_ hdb)
  refine PySem.W.callWith_K (h₀ := X.base) I.ok.mod.kin hk (thn (ha.run pos pins s σ H _ I go) fun us s1 ⟨vs, H1, I1, r, hl, q⟩ => ⟨I1.kIn, ?_⟩) he hpl
  have bd : BindsTo s1 fd ⟨us, []⟩ (ps.zip us) := by
    have z := hb s1 us I1.kIn (by rw [List.append_nil, ← r.length, hl])
    rwa [List.append_nil] at z
  refine wpAny_call (codeAny_mono (run_g F hr hgd tk I1 bd r q) fun r s' hq => ?_)
  cases r with
  | error e => exact hq
  | ok fl =>
    cases fl with
    | ret u => exact hq
    | next => exact hq.elim
    | brk => exact hq.elim
    | cont => exact hq.elim
/-- f(e, .., k = v, ..) -/
theorem r_callN {k i n : Nat} {f : Addr} {fd : FuncData} {ps ks : List Str} {x : Str} {perm : List Nat} {kws : List Keyword} (hK : C.K = X.K) (F : FnG X.prog X.w X.K X.mg X.base k f fd ps (spF C.K C.xr (Φ i))) (hr : Room k X.A) (hgd : X.A.guards = some []) (tk : Tk X C EX) (hg : Gl X x) (hm : X.mg x = some (.ref f))
    (hk : PySem.W.keepIn X.K (.ref f) = true) (hb : KBn X.K fd ps n ks (fun us ws => permL perm (us ++ ws)) (fun vs zs => permL perm (vs ++ zs))) (ha : PA X (e :: es) (TAs C EX ms)) (hkw : PK X kws (TAs C EX ms2)) (hdb : (x == ("__debug__" : Str)) = false) (he : starEach (e :: es) X.env = (false, eval e X.env) :: starEach es X.env)
    (hall : (backToKw pos (keywordEach kws X.env)).all (·.1.isSome) = true) (hks : (backToKw pos (keywordEach kws X.env)).filterMap (·.1) = ks)
    (hpl : ((backTo pos (starEach (e :: es) X.env)).any (·.1) || (backToKw pos (keywordEach kws X.env)).any (·.1.isNone)) = false) :
    PE X (.Call (.Name x p1) (e :: es) kws pos) (TV C EX fun env => (ms env).bind fun os env1 => (ms2 env1).bind fun os2 env2 => if os.length = n ∧ os2.length = ks.length then callR Φ i perm (os ++ os2) env2 else .no) := by
  refine ⟨fun pins s σ H Q I q => ?_⟩
  obtain ⟨O, F', env, R, q⟩ := rg_iff.mp q
  have go : TAs C EX ms σ H fun xs H1 => TAs C EX ms2 σ H1 fun zs H2 => xs.length = n ∧ zs.length = ks.length ∧ spF C.K C.xr (Φ i) (permL perm (xs ++ zs)) H2 Q (fun cls d H' => ∃ e env, C.xr H' cls d e ∧ EX e env σ H') := by
    refine argsN R q fun os env1 F1 P xs H1 R1 s1 f1 r1 k1 => ?_
    refine TAs.intro R1 (fun os2 env2 e2 zs H2 p => ?_) (fun x env' e2 => ?_) (fun e2 => ?_)
    · rw [e2] at k1
      obtain ⟨F3, P3, R3, s3, f3, r3⟩ := PVs.app R1 s1 f1 r1 p
      replace k1 : Fin C EX (PV C) O F' H σ Q (if os.length = n ∧ os2.length = ks.length then callR Φ i perm (os ++ os2) env2 else .no) := k1
      by_cases hl : os.length = n ∧ os2.length = ks.length
      case neg => rw [if_neg hl] at k1; exact k1.elim
      rw [if_pos hl] at k1
      have q' := sp_at (fresh_off R f3) R3 s3 f3 r3 k1
      have l1 := OR.length r1
      have l2 := OR.length r3
      rw [List.length_append, List.length_append] at l2
      exact ⟨by omega, by omega, q'⟩
    · rw [e2] at k1
      exact Fin.ex_of s1 k1
    · rw [e2] at k1; exact k1
  refine wpAny_Call_Name_kw (ld_glob I hg hm ?_ hdb)
  refine PySem.W.callWith_KW (h₀ := X.base) I.ok.mod.kin hk hall (thn (ha.run pos pins s σ H _ I go) fun us s1 ⟨vs, H1, I1, r, q⟩ => ?_) hpl he
  refine thn (hkw.run pos pins s1 σ H1 _ I1 q) fun ws s2 ⟨zs, H2, I2, rz, l1, l2, q2⟩ => ⟨I2.kIn, ?_⟩
  rw [hks]
  refine wpAny_call (codeAny_mono (run_g F hr hgd tk I2 (hb.to s2 us ws I2.kIn (r.length.symm.trans l1) (rz.length.symm.trans l2)) (hb.rel r rz) q2) fun r s' hq => ?_)
  cases r with
  | error e => exact hq
  | ok fl =>
    cases fl with
    | ret u => exact hq
    | next => exact hq.elim
    | brk => exact hq.elim
    | cont => exact hq.elim
end
end Pv

/-! PvWr: t[::-1] of a tuple. -/
set_option linter.all false
set_option maxRecDepth 100000
set_option maxHeartbeats 2000000
namespace Pv
open PySem PySem.Spec PySem.Calls PyProof.Rows HT
section
variable {prog : Program} {w : World} {A : Around} {E : Value → Shared → Prop} {s : Shared}
theorem back_adjust (n : Nat) : Builtin.Slice.sliceAdjust none none (-1) (n : Int) = ((n : Int) - 1, -1) := by
  simp [Builtin.Slice.sliceAdjust]
theorem back_places (n : Nat) : Builtin.Slice.slicePlaces ((n : Int) - 1) (-1) (-1) = n := by
  unfold Builtin.Slice.slicePlaces
  have h : ¬ ((-1 : Int) > 0) := by decide
  rw [if_neg h]
  by_cases hn : (n : Int) - 1 > -1
  · rw [if_pos hn, show (- -1 : Int) = 1 by decide, Int.ediv_one]; omega
  · rw [if_neg hn]; omega
theorem back_applied {sl : Addr} {vk : Value} {n : Nat} {Q : Int × Int × Nat → Shared → Prop} (hs : s.heap.IsSliceOf sl .none .none vk) (pk : IsPart vk (some (-1))) (h : Q ((n : Int) - 1, -1, n) s) :
    wpAny (model prog w) A (Builtin.Slice.sliceApplied (.ref sl) (pure (n : Int))) Q E s := by
  obtain ⟨ob, e1, _, e2⟩ := id hs
  unfold Builtin.Slice.sliceApplied Builtin.Slice.sliceFields
  refine wpAny_bind (wpAny_bind (wpAny_field e1 e2 (x := .none) rfl ?_))
  refine wpAny_bind (wpAny_field e1 e2 (x := .none) rfl ?_)
  refine wpAny_bind (wpAny_field e1 e2 (x := vk) rfl (wpAny_pure ?_))
  refine wpAny_bind (slicePart_ pk ?_)
  show wpAny _ _ (if ((-1 : Int) == 0) = true then _ else _) _ _ s
  rw [if_neg (by decide)]
  refine wpAny_bind (slicePart_none (wpAny_bind (slicePart_none (wpAny_bind (wpAny_pure ?_)))))
  show wpAny _ _ (match Builtin.Slice.sliceAdjust none none (-1) (n : Int) with | (lo, hi) => pure (lo, (-1 : Int), Builtin.Slice.slicePlaces lo hi (-1))) _ _ s
  rw [back_adjust]
  show wpAny _ _ (pure ((n : Int) - 1, (-1 : Int), Builtin.Slice.slicePlaces ((n : Int) - 1) (-1) (-1))) _ _ s
  rw [back_places]
  exact wpAny_pure h
theorem back_pick (xs : Array Value) : ((List.range xs.size).filterMap fun (m : Nat) => xs[((xs.size : Int) - 1 + (m : Int) * (-1)).toNat]?).toArray = xs.toList.reverse.toArray := by
  congr 1
  refine List.ext_getElem? fun i => ?_
  have e : (List.range xs.size).filterMap (fun (m : Nat) => xs[((xs.size : Int) - 1 + (m : Int) * (-1)).toNat]?) = (List.range xs.size).map fun m => xs.getD (xs.size - 1 - m) default := by
    rw [← List.filterMap_eq_map]
    have key : ∀ l : List Nat, (∀ m ∈ l, m < xs.size) → l.filterMap (fun (m : Nat) => xs[((xs.size : Int) - 1 + (m : Int) * (-1)).toNat]?) = l.filterMap (some ∘ fun m => xs.getD (xs.size - 1 - m) default) := fun l => by
      induction l with
      | nil => intro _; rfl
      | cons m l ih =>
        intro hl
        have hm : m < xs.size := hl m List.mem_cons_self
        have q : ((xs.size : Int) - 1 + (m : Int) * (-1)).toNat = xs.size - 1 - m := by omega
        have g : xs[xs.size - 1 - m]? = some (xs.getD (xs.size - 1 - m) default) := by
          simp [Array.getD, show xs.size - 1 - m < xs.size by omega]
        rw [List.filterMap_cons, List.filterMap_cons, q, g, ih fun a ha => hl a (List.mem_cons_of_mem _ ha)]
        rfl
    exact key _ fun m hm => List.mem_range.mp hm
  rw [e]
  by_cases hi : i < xs.size
  · rw [List.getElem?_map, List.getElem?_range hi, List.getElem?_reverse (by simpa using hi)]
    simp [Array.getD, show xs.size - 1 - i < xs.size by omega]
  · rw [List.getElem?_eq_none (by simp; omega), List.getElem?_eq_none (by simp; omega)]
theorem back_item {t sl : Addr} {items : Array Value} {vk : Value} {Q : Value → Shared → Prop} (ht : IsTup s.heap t items) (hs : s.heap.IsSliceOf sl .none .none vk) (pk : IsPart vk (some (-1))) (hz : items.size ≤ sizeLine)
    (h : Q (.ref s.heap.objs.size) { s with heap := s.heap.push { cls := .type "tuple", data := .seq items.toList.reverse.toArray } }) : wpAny (model prog w) A (getItem (.ref t) (.ref sl)) Q E s := by
  have fits : sizeOk (.seq items.toList.reverse.toArray) := by
    show items.toList.reverse.toArray.size ≤ sizeLine
    simpa using hz
  obtain ⟨ob, e1, e0, e2⟩ := id hs
  have ty : s.TypeIs (.ref sl) "slice" := ⟨ob, e1, e0⟩
  unfold getItem
  try with_reducible refine wpAny_holding ?_
  first | refine wpAny_bind (wpAny_pure ?_) | skip
  refine wpAny_bind (wpAny_sequenceKey ht.typeIs (by decide) (wpAny_bind ?_))
  refine wpAny_callSpecial?_slot (name := "__getitem__") ht.typeIs slot_tuple_getitem ?_
  refine wpAny_call_entry slot_tuple_getitem ht.typeIs entry_tuple_getitem ?_ (args_tuple_getitem _ _)
  show wpAny _ _ (Builtin.Tuple.tupleItemsOf (.ref t) >>= _) _ _ s
  refine wpAny_bind (tupleItemsOf_ ht (wpAny_bind (wpAny_typeOf ty ?_)))
  rw [if_pos (by decide)]
  refine wpAny_bind (back_applied hs pk ?_)
  have off : ¬ ((((items.size : Int) - 1) == 0 && (-1 : Int) == 1 && items.size == items.size) = true) := by simp
  show wpAny _ _ (if (((items.size : Int) - 1) == 0 && (-1 : Int) == 1 && items.size == items.size) = true then _ else _) _ _ s
  rw [if_neg off, back_pick]
  first
    | exact wpAny_bind (m := Builtin.Tuple.tupleExact _) (wpAny_newObj_type (wpAny_pure ⟨_, rfl, wpAny_pure h⟩) fits)
    | exact wpAny_bind (m := Builtin.Tuple.tupleExact _) (wpAny_newObj_type (wpAny_bind (wpAny_pure (wpAny_pure ⟨_, rfl, wpAny_pure h⟩))) fits)
    | exact wpAny_bind (wpAny_bind (m := Builtin.Tuple.tupleExact _) (wpAny_newObj_type (wpAny_pure (wpAny_pure ⟨_, rfl, wpAny_pure h⟩)) fits))
    | exact wpAny_bind (wpAny_bind (m := Builtin.Tuple.tupleExact _) (wpAny_newObj_type (wpAny_pure ⟨_, rfl, wpAny_pure h⟩) fits))
end
end Pv

/-! PvWs: t[::-1] of a tuple, the rule. -/
set_option linter.all false
set_option maxRecDepth 100000
set_option maxHeartbeats 2000000
namespace Pv
open PySem PySem.Spec L2
theorem DnAll.reverse {K : PySem.W.Frag} {H : Hp} {N : Addr → Prop} : ∀ {vs : List V} {ds : List PyData}, DnAll K H N vs ds → DnAll K H N vs.reverse ds.reverse
  | _, _, .nil => .nil
  | _, _, .cons h t => by
    rw [List.reverse_cons, List.reverse_cons]
    exact (DnAll.reverse t).append (.cons h .nil)
section
variable {X : Cx} {C : Cf} {EX : EXT} {a : Expr} {ma : Env → Res Od} {pos p2 p3 p4 : Pos} {j : Nat}
theorem pe_m1 : PE X (.UnaryOp .USub (.Constant (.int 1) j p4) p3) (tC (.int (-1))) := (pe_un un_neg pe_int).weak fun σ H Q q => ⟨1, rfl, q⟩
theorem r_rev (hK : C.K = X.K) (ha : PE X a (TO C EX ma)) : PE X (.Subscript a (.Slice none none (some (.UnaryOp .USub (.Constant (.int 1) j p4) p3)) p2) pos) (TV C EX fun env => (ma env).bind fun x env1 => match x.data env1 with
    | some (.tuple ds) => .ok (.sh (.tuple ds.reverse)) env1
    | _ => .no) := by
  refine ⟨fun pins s σ H Q I q => ?_⟩
  obtain ⟨O, F, env, R, q⟩ := rg_iff.mp q
  have go := op1 (G := fun x H1 => ∃ b xs, x = .ref b ∧ SqT X.K H1 b xs ∧ ∀ p o, H1 p = none → o.dict = none → Q (.ref p) (upd H1 p (.frz o (.tup xs.reverse)))) R q fun o env1 F1 P x H1 R1 s1 f1 r1 k => by
    split at k
    · rename_i ds e1
      have d := OR.data1 R1 r1 e1
      rw [hK] at d
      cases (show Dn X.K H1 _ x (.tuple ds) from d) with
      | @tup b xs _ h1 h2 => exact ⟨b, xs, rfl, h1.sq, fun p o hp ho => fin_new R1 s1 f1 k _ _ (New.tup hp ho (by rw [hK]; exact h2.reverse))⟩
    · exact k.elim
  refine PyProof.Rows.Subscript_ (thn (ha.run pins s σ H _ I go) fun v s1 ⟨x, H1, I1, r1, b, xs, ex, hx, q1⟩ => ?_)
  subst ex
  cases r1
  refine wpAny_Slice ?_
  rw [evalPart_none]
  refine wpAny_pure (wpAny_pure ?_)
  refine thn ((po_some (pe_m1 (X := X) (j := j) (p3 := p3) (p4 := p4))).run pins s1 σ H1 (fun o H' => o = some (-1) ∧ H' = H1) I1 ⟨-1, rfl, rfl, rfl⟩) fun vk s2 ⟨o, H2, I2, pk, eo, eH⟩ => ?_
  subst eo eH
  have I4 : L2.Inv X pins σ H2 { s2 with heap := s2.heap.push { cls := .type "slice", data := .fields #[.none, .none, vk] } } := I2.kept (t' := s2.toks) fun b ob q => Heap.get?_push_of_some _ q
  obtain ⟨its, rv, ht, hz⟩ := I4.tuple hx
  refine PyProof.Rows.tail_any (ops := [.ref b, .ref s2.heap.objs.size]) ht.typeIs PyProof.Rows.slot_tuple_getitem.lookup (back_item ht (Heap.IsSliceOf.new ..) pk (by simpa [← rv.length] using hz) ?_) (by with_unfolding_all rfl)
  have fr := I4.hok.fresh (Nat.le_refl _)
  refine ⟨.ref _, _, I4.laid (t' := s2.toks) (o := .frz { cls := .type "tuple", data := .seq its.reverse.toArray } (.tup xs.reverse)) (fun b ob q => Heap.get?_push_of_some _ q) (Nat.le_refl _) ?_, rfl, q1 _ _ fr rfl⟩
  exact ⟨by first | exact Heap.get?_push_size _ rfl | (simp; exact Heap.get?_push_size _ rfl), by simpa using hz, _, rv.reverse, PyProof.Rows.IsTup.new _ _⟩
end
end Pv

/-! PvX: from the written text to the by-value code. -/
set_option linter.all false
set_option maxRecDepth 100000
set_option maxHeartbeats 2000000
namespace Pv
open PySem PySem.Spec L2

/-- what is known of a def that may be called -/
structure FnE where
  ix : Nat
  ps : List Str
  bor : List Nat
  modes : List (Nat × List Str)
/-- what is known of the names -/
structure Gam where
  N : List Str
  nm : List (Str × NameKind)
  bor : List Nat
  fns : List (Str × FnE)
  cst : List (Str × PyData)
  blt : List Str
  dic : List Nat

def mapO {α β : Type} (f : α → Option β) : List α → Option (List β)
  | [] => some []
  | a :: r => match f a, mapO f r with
    | some b, some bs => some (b :: bs)
    | _, _ => none
def ixOf (x : Str) : List Str → Option Nat
  | [] => none
  | y :: r => if y = x then some 0 else (ixOf x r).map (· + 1)
theorem ixOf_ok {x : Str} : ∀ {N : List Str} {i : Nat}, ixOf x N = some i → N[i]? = some x
  | y :: r, i, h => by
    unfold ixOf at h
    split at h
    · rename_i e
      cases h
      subst e
      rfl
    · cases q : ixOf x r with
      | none => rw [q] at h; cases h
      | some j =>
        rw [q] at h
        cases h
        simpa using ixOf_ok q
def bopOf : Operator → Option Bop
  | .Add => some .add
  | .Sub => some .sub
  | .Mult => some .mul
  | .Mod => some .mod
  | .FloorDiv => some .fdiv
  | .Pow => some .pow
  | _ => none
theorem bopOf_ok {op : Operator} {b : Bop} (h : bopOf op = some b) : op = bopO b := by
  cases op <;> cases h <;> rfl
def copOf : CmpOp → Cop
  | .Eq => .eq
  | .NotEq => .ne
  | .Lt => .lt
  | .LtE => .le
  | .Gt => .gt
  | .GtE => .ge
  | .Is => .isN
  | .IsNot => .notN
  | .In => .inn
  | .NotIn => .nin
theorem copOf_ok (op : CmpOp) : op = copO (copOf op) := by cases op <;> rfl
def seenAs (nm : List (Str × NameKind)) (x : Str) : Bool := match nm.lookup x with
  | some .local => true
  | some .cell => true
  | some .free => true
  | _ => false
def global (nm : List (Str × NameKind)) (x : Str) : Bool := match nm.lookup x with
  | some .globalImplicit => true
  | _ => false
def plainName (x : Str) : Bool := x != ("__debug__" : Str) && x != ("__classdict__" : Str) && x != ("__name__" : Str)
/-- a test that is looked at as one -/
def tst : Nat → Expr → Bool
  | 0, _ => false
  | n + 1, .IfExp _ _ _ _ => false
  | n + 1, .UnaryOp .Not a _ => tst n a
  | n + 1, .BoolOp _ es _ => es.all (tst n)
  | _ + 1, _ => true
def prTab : List (Str × Nat × Pr) := [("len", 1, .len), ("tuple", 1, .tuple), ("list", 1, .list), ("sorted", 1, .sorted), ("all", 1, .all), ("any", 1, .any), ("sum", 1, .sum), ("abs", 1, .abs), ("min", 2, .min2), ("max", 2, .max2), ("int", 1, .int), ("str", 1, .str), ("repr", 1, .repr), ("dict", 1, .dict)]
def tyTab : List (Str × Ty) := [("str", .str), ("int", .int), ("bool", .bool), ("tuple", .tuple), ("list", .list), ("dict", .dict)]
def mtTab : List (Str × Mt) := [("upper", .upper), ("join", .join)]
def free (Γ : Gam) (x : Str) : Bool := global Γ.nm x && decide (x ∈ Γ.blt) && plainName x
/-- the written order against the parameters' -/
def permOf (ps : List Str) (n : Nat) (ks : List Str) : Option (List Nat) :=
  mapO (fun j => if j < n then some j else match ps[j]? with
    | some p => (ixOf p ks).map (n + ·)
    | none => none) (List.range ps.length)
def kwNames : List Keyword → Option (List Str)
  | [] => some []
  | ⟨some k, _, _⟩ :: r => (kwNames r).map (k :: ·)
  | ⟨none, _, _⟩ :: _ => none
def isCall : Expr → Bool
  | .Call _ [] [] _ => true
  | _ => false
/-- values in a comprehension's own slots -/
def ownOf (N : List Str) : List (Str × NameKind) → Option (List (Str × Nat))
  | [] => some []
  | (x, k) :: r => match k with
    | .local => if x = (".0" : Str) then ownOf N r else match ixOf x N, ownOf N r with
      | some i, some q => some ((x, i) :: q)
      | _, _ => none
    | .cell => match ixOf x N, ownOf N r with
      | some i, some q => some ((x, i) :: q)
      | _, _ => none
    | _ => ownOf N r
def compT (Γ : Gam) : Nat → Expr → Option Tgt
  | 0, _ => none
  | n + 1, .Name x _ => match Γ.nm.lookup x with
    | some .local => if plainName x then (ixOf x Γ.N).map .name else none
    | some .cell => if plainName x then (ixOf x Γ.N).map .name else none
    | _ => none
  | n + 1, .Tuple es _ _ => (mapO (compT Γ n) es).map .tup
  | _ + 1, _ => none
/-- an argument: by value, or lent -/
def agOf (rec : Expr → Option Ex) (lent : Bool) (e : Expr) : Option Ag := match rec e with
  | some (.var i) => some (if lent then .lend i else .val (.var i))
  | some c => if lent then none else some (.val c)
  | none => none
def agsAt (rec : Expr → Option Ex) (lents : List Bool) : List Expr → Option (List Ag)
  | [] => some []
  | e :: r => match agOf rec (lents.headD false) e, agsAt rec lents.tail r with
    | some a, some as => some (a :: as)
    | _, _ => none
/-- for each written argument, whether it is lent: perm gives each parameter's place -/
def lentFlags (perm bor : List Nat) (m : Nat) : List Bool := (List.range m).map fun w => match perm.idxOf? w with
  | some j => decide (j ∈ bor)
  | none => false
def compCall (Γ : Gam) (rec : Expr → Option Ex) (x : Str) (args : List Expr) (kws : List Keyword) : Option Ex :=
  if plainName x && global Γ.nm x then
    match Γ.fns.lookup x with
    | some fe => match kwNames kws with
      | some ks =>
        if ks.isEmpty then
          (if args.isEmpty then none else if args.length = fe.ps.length then (agsAt rec (lentFlags (List.range fe.ps.length) fe.bor args.length) args).map (Ex.call fe.ix (List.range fe.ps.length)) else none)
        else if (args.length, ks) ∈ fe.modes then
          match permOf fe.ps args.length ks with
          | some perm => (agsAt rec (lentFlags perm fe.bor (args.length + ks.length)) (args ++ kws.map (·.value))).map (Ex.call fe.ix perm)
          | none => none
        else none
      | none => none
    | none => if kws.isEmpty && decide (x ∈ Γ.blt) then
        match args with
        | [a, .Name T _] => if x = ("isinstance" : Str) then (if free Γ T then (match tyTab.lookup T, rec a with
            | some t, some c => some (.prim (.isi t) [c])
            | _, _ => none) else none) else match prTab.find? (fun t => decide (t.1 = x) && decide (t.2.1 = 2)), mapO rec args with
              | some t, some cs => some (.prim t.2.2 cs)
              | _, _ => none
        | _ => match prTab.find? (fun t => decide (t.1 = x) && decide (t.2.1 = args.length)), mapO rec args with
          | some t, some cs => if args.isEmpty then none else some (.prim t.2.2 cs)
          | _, _ => none
      else none
  else none
def compSrc (Γ : Gam) (rec : Expr → Option Ex) (tg iter : Expr) : Option Sr := match iter with
  | .Call (.Name x p) args [] pos =>
    if free Γ x && (x = ("range" : Str) || x = ("zip" : Str) || x = ("enumerate" : Str)) then
      match args with
      | [a] => if x = ("range" : Str) then (rec a).map .rng else if x = ("enumerate" : Str) then (match tg with
          | .Tuple _ _ _ => (rec a).map .enum
          | _ => none) else none
      | [a, b] => if x = ("range" : Str) then (match rec a, rec b with
          | some c, some d => some (.rng2 c d)
          | _, _ => none) else if x = ("zip" : Str) then (match tg, rec a, rec b with
            | .Tuple _ _ _, some c, some d => some (.zip c d)
            | _, _, _ => none) else none
      | _ => none
    else (rec (.Call (.Name x p) args [] pos)).map .it
  | e => (rec e).map .it
def isSet : Expr → Bool
  | .Set _ _ _ => true
  | _ => false
def lcOk (Γ : Gam) (n : Nat) (own : List (Str × Nat)) (scope : Scope) (ifs : List Expr) (iter : Expr) : Bool :=
  (match scope.kind with | .function => true | _ => false) && (scope.names.all fun y => decide (scope.names.lookup y.1 = some y.2)) && (own.all fun p => decide (Γ.N[p.2]? = some p.1)) && (scope.names.all fun y => match y.2 with
          | .free => (match Γ.nm.lookup y.1 with | some .cell => true | some .free => true | _ => false)
          | .local => decide (y.1 ∈ own.map (·.1)) || decide (y.1 ∉ Γ.N)
          | .cell => decide (y.1 ∈ own.map (·.1)) || decide (y.1 ∉ Γ.N)
          | _ => true) && (own.all fun p => decide (p.2 ∉ Γ.bor)) && ifs.all (tst n) && decide (ifs.length ≤ 1) && !isSet iter
/-- a slot that holds a dict, walked by its keys -/
def keyIx (Γ : Gam) : Expr → Option Nat
  | .Name x _ => if plainName x && seenAs Γ.nm x then (match ixOf x Γ.N with
      | some i => if i ∈ Γ.dic then some i else none
      | none => none) else none
  | _ => none
def mkC (k : Option Nat) (own : List Nat) (s : Sr) (t : Tgt) (cs : List Ex) (e : Ex) : Ex := match k with
  | some i => .comk own i t cs e
  | none => .comp own s t cs e
def isComp : Ex → Bool
  | .comk _ _ _ _ _ => false
  | _ => true
def compOne (Γ : Gam) (n : Nat) (rec : Gam → Expr → Option Ex) : Expr → Option Ex
  | .Constant .none _ _ => some (.cst .none)
  | .Constant (.bool b) _ _ => some (.cst (.bool b))
  | .Constant (.int i) _ _ => some (.cst (.int i))
  | .Constant (.str x) _ _ => some (.cst (.str x))
  | .Name x _ => if plainName x then (if seenAs Γ.nm x then (ixOf x Γ.N).map .var else if global Γ.nm x then (Γ.cst.lookup x).map .glo else none) else none
  | .Tuple es _ _ => (mapO (rec Γ) es).map .tup
  | .List es _ => (mapO (rec Γ) es).map .lst
  | .BinOp a op b _ => match bopOf op, rec Γ a, rec Γ b with
    | some o, some c, some d => some (.bin o c d)
    | _, _, _ => none
  | .UnaryOp .USub a _ => (rec Γ a).map .neg
  | .UnaryOp .Not a _ => (rec Γ a).map .not
  | .BoolOp .And es _ => if es.isEmpty then none else (mapO (rec Γ) es).map .and
  | .BoolOp .Or es _ => if es.isEmpty then none else (mapO (rec Γ) es).map .or
  | .Compare a [op] [b] _ => match rec Γ a, rec Γ b with
    | some c, some d => some (.cmp (copOf op) c d)
    | _, _ => none
  | .Compare a [op, op'] [b, c] _ => match rec Γ a, rec Γ b, rec Γ c with
    | some x, some y, some z => some (.chain (copOf op) (copOf op') x y z)
    | _, _, _ => none
  | .IfExp t a b _ => if tst n t then match rec Γ t, rec Γ a, rec Γ b with
      | some x, some y, some z => some (.ife x y z)
      | _, _, _ => none
    else none
  | .Subscript a (.Slice lo hi none _) _ => match rec Γ a, (match lo with | some e => (rec Γ e).map some | none => some none), (match hi with | some e => (rec Γ e).map some | none => some none) with
    | some c, some l, some h => some (.slc c l h)
    | _, _, _ => none
  | .Subscript a (.Slice none none (some (.UnaryOp .USub (.Constant (.int 1) _ _) _)) _) _ => (rec Γ a).map .rev
  | .Subscript a b _ => match rec Γ a, rec Γ b with
    | some c, some d => some (.idx c d)
    | _, _ => none
  | .Call (.Name x _) [.Call (.Name y py) [b] [] pb] [] _ => if x = ("len" : Str) ∧ y = ("set" : Str) then (if free Γ x && free Γ y then (rec Γ b).map .lenSet else none) else compCall Γ (rec Γ) x [.Call (.Name y py) [b] [] pb] []
  | .Call (.Name x _) args kws _ => compCall Γ (rec Γ) x args kws
  | .Call (.Attribute o m apos) args [] cpos => if (apos.endLine == cpos.line) && !isCall o then
      (match mtTab.find? (fun t => decide (t.1 = m)) with
      | some t => if args.length < 29 then match rec Γ o, mapO (rec Γ) args with
        | some c, some cs => some (.meth t.2 c cs)
        | _, _ => none
        else none
      | none => if m = ("get" : Str) then (match args with
          | [a] => (match rec Γ o, rec Γ a with
            | some c, some d => some (.dget c d)
            | _, _ => none)
          | _ => none) else match o, args with
        | .Name x _, [] => if m = ("pop" : Str) && plainName x && seenAs Γ.nm x then (ixOf x Γ.N).map .pop else none
        | .Name x _, [a] => if m = ("pop" : Str) && plainName x && seenAs Γ.nm x then (match ixOf x Γ.N, rec Γ a with
          | some i, some c => some (if i ∈ Γ.dic then .dpop i c else .popAt i c)
          | _, _ => none) else none
        | _, _ => none)
    else none
  | .ListComp elt [⟨tg, iter, ifs, 0⟩] scope _ =>
    match ownOf Γ.N scope.names with
    | some own =>
      if lcOk Γ n own scope ifs iter then
        match compT { Γ with nm := scope.names } n tg, compSrc Γ (rec Γ) tg iter, mapO (rec { Γ with nm := scope.names }) ifs, rec { Γ with nm := scope.names } elt with
        | some t, some s, some cs, some e => if t.ns.all (fun j => decide (j ∈ own.map (·.2))) then some (mkC (keyIx Γ iter) (own.map (·.2)) s t cs e) else none
        | _, _, _, _ => none
      else none
    | none => none
  | .Dict [] [] _ => some .dict0
  | _ => none
def comp : Nat → Gam → Expr → Option Ex
  | 0, _, _ => none
  | n + 1, Γ, e => compOne Γ n (comp n) e

/-! ### what follows from the shape -/
/-- not starred -/
def NoStar (e : Expr) : Prop := ∀ (es : List Expr) (env : PySem.Env), starEach (e :: es) env = (false, eval e env) :: starEach es env
theorem noStar_of {Γ : Gam} {n : Nat} {rec : Gam → Expr → Option Ex} {e : Expr} {c : Ex} (h : compOne Γ n rec e = some c) : NoStar e := by
  intro es env
  cases e <;> first | rfl | (unfold compOne at h; cases h)
theorem comp_noStar {Γ : Gam} {n : Nat} {e : Expr} {c : Ex} (h : comp n Γ e = some c) : NoStar e := by
  cases n with
  | zero => cases h
  | succ n => exact noStar_of h
theorem star_any {es : List Expr} {env : PySem.Env} {pos : Pos} (h : ∀ e ∈ es, NoStar e) : (backTo pos (starEach es env)).any (·.1) = false ∧ (backTo pos (starEach es env)).all (fun x => !x.1) = true := by
  induction es with
  | nil => exact ⟨rfl, rfl⟩
  | cons e es ih =>
    obtain ⟨h1, h2⟩ := ih fun a ha => h a (List.mem_cons_of_mem _ ha)
    rw [h e List.mem_cons_self es env]
    exact ⟨h1, h2⟩
theorem kw_ok {env : PySem.Env} {pos : Pos} : ∀ {kws : List Keyword} {ks : List Str}, kwNames kws = some ks → (backToKw pos (keywordEach kws env)).all (·.1.isSome) = true ∧ (backToKw pos (keywordEach kws env)).filterMap (·.1) = ks ∧ (backToKw pos (keywordEach kws env)).any (·.1.isNone) = false
  | [], ks, h => by cases h; exact ⟨rfl, rfl, rfl⟩
  | ⟨some k, v, p⟩ :: r, ks, h => by
    unfold kwNames at h
    cases q : kwNames r with
    | none => rw [q] at h; cases h
    | some q' =>
      rw [q] at h
      cases h
      obtain ⟨h1, h2, h3⟩ := kw_ok (env := env) (pos := pos) q
      refine ⟨?_, ?_, ?_⟩
      · exact h1
      · show k :: (backToKw pos (keywordEach r env)).filterMap (·.1) = _
        rw [h2]
      · exact h3
  | ⟨none, v, p⟩ :: r, ks, h => by cases h
theorem mapO_mem {α β : Type} {f : α → Option β} : ∀ {l : List α} {m : List β}, mapO f l = some m → ∀ a ∈ l, ∃ b, f a = some b
  | [], _, _, a, h => by cases h
  | x :: l, m, h, a, ha => by
    unfold mapO at h
    split at h
    · rename_i b bs e1 e2
      rcases List.mem_cons.mp ha with q | q
      · rw [q]; exact ⟨b, e1⟩
      · exact mapO_mem e2 a q
    · cases h
theorem base_of {o : Expr} {m : Str} {env : PySem.Env} (h : isCall o = false) : attributeBase o m env (eval o env) = eval o env := by
  cases o with
  | Call f args kws p =>
    cases args with
    | nil =>
      cases kws with
      | nil => cases h
      | cons _ _ => cases f <;> rfl
    | cons _ _ => cases f <;> rfl
  | _ => rfl
end Pv

/-! PvY: the text does what the code says: what is to be known, lists of expressions. -/
set_option linter.all false
set_option maxRecDepth 100000
set_option maxHeartbeats 2000000
namespace Pv
open PySem PySem.Spec L2

/-- what is known of a def that is called from X -/
def FnC (X : Cx) (C : Cf) (Φ : Nat → List Val → CR) (x : Str) (e : FnE) : Prop := ∃ (k : Nat) (f : Addr) (fd : FuncData), X.mg x = some (.ref f) ∧ PySem.W.keepIn X.K (.ref f) = true ∧ Room k X.A ∧
  FnG X.prog X.w X.K X.mg X.base k f fd e.ps (spF C.K C.xr (Φ e.ix)) ∧ Binds X.K fd e.ps [] ∧
  ∀ n ks perm, (n, ks) ∈ e.modes → permOf e.ps n ks = some perm → KBn X.K fd e.ps n ks (fun us ws => permL perm (us ++ ws)) (fun vs zs => permL perm (vs ++ zs))
structure Fit (Γ : Gam) (X : Cx) (C : Cf) (Φ : Nat → List Val → CR) (EX : EXT) : Prop where
  nm : ∀ x k, Γ.nm.lookup x = some k → X.env.scope.names.lookup x = some k ∨ (k = .free ∧ X.env.scope.names.lookup x = some .cell)
  fnc : ∀ x, Γ.nm.lookup x = some .cell → X.fn x = true
  N : X.N = Γ.N
  nd : Γ.N.Nodup
  calm : X.calm = true
  K : C.K = X.K
  units : X.A.units + 200 < cLine
  guards : X.A.guards = some []
  sys : SysOk X
  takes : Tk X C EX
  bor : ∀ p ∈ C.B, p.1 ∈ Γ.bor
  cst : ∀ x d, Γ.cst.lookup x = some d → ∃ u v, X.mg x = some u ∧ RelV v u ∧ ∀ H N, Dn C.K H N v d
  blt : ∀ x ∈ Γ.blt, X.mg x = none
  fns : ∀ x e, Γ.fns.lookup x = some e → FnC X C Φ x e
section
variable {Γ : Gam} {X : Cx} {C : Cf} {Φ : Nat → List Val → CR} {EX : EXT} {bor : List Nat}
theorem evO_eq (c : Ex) (h : ∀ i, c ≠ .var i) : evO Φ bor c = fun env => (ev Φ bor c env).bind fun v env1 => .ok (.vl v) env1 := by
  funext env
  cases c with
  | var i => exact absurd rfl (h i)
  | _ => rw [evO]; exact fun i z => nomatch z
theorem plain_of {x : Str} (h : plainName x = true) : (x == ("__debug__" : Str)) = false ∧ (x == ("__classdict__" : Str)) = false ∧ x ≠ "__name__" := by
  unfold plainName at h
  simp only [Bool.and_eq_true, bne_iff_ne] at h
  exact ⟨beq_eq_false_iff_ne.mpr h.1.1, beq_eq_false_iff_ne.mpr h.1.2, h.2⟩
theorem Fit.vis (f : Fit Γ X C Φ EX) {x : Str} (h : seenAs Γ.nm x = true) : Vis X.env.scope x := by
  unfold seenAs at h
  split at h
  · rename_i e
    rcases f.nm x _ e with q | ⟨q, _⟩
    · exact .inl q
    · cases q
  · rename_i e
    rcases f.nm x _ e with q | ⟨q, _⟩
    · exact .inr (.inl q)
    · cases q
  · rename_i e
    rcases f.nm x _ e with q | ⟨_, q⟩
    · exact .inr (.inr q)
    · exact .inr (.inl q)
  · cases h
theorem Fit.gl (f : Fit Γ X C Φ EX) {x : Str} (h : global Γ.nm x = true) : Gl X x := by
  unfold global at h
  split at h
  · rename_i e
    rcases f.nm x _ e with q | ⟨q, _⟩
    · exact q
    · cases q
  · cases h
theorem free_of (f : Fit Γ X C Φ EX) {x : Str} (h : free Γ x = true) : Gl X x ∧ X.mg x = none ∧ (x == ("__debug__" : Str)) = false ∧ x ≠ "__name__" := by
  unfold free at h
  simp only [Bool.and_eq_true, decide_eq_true_eq] at h
  obtain ⟨h1, _, h3⟩ := plain_of h.2
  exact ⟨f.gl h.1.1, f.blt x h.1.2, h1, h3⟩
theorem Fit.var (f : Fit Γ X C Φ EX) {x : Str} {i : Nat} {pos : Pos} (hp : plainName x = true) (hs : seenAs Γ.nm x = true) (hi : ixOf x Γ.N = some i) : PE X (.Name x pos) (tVar i) := by
  obtain ⟨h1, h2, _⟩ := plain_of hp
  exact pe_var (by rw [f.N]; exact ixOf_ok hi) (f.vis hs) h1 h2
/-! ### lists of expressions -/
theorem tas_cons {ma : Env → Res Od} {ms : Env → Res (List Od)} (σ : St) (H : Hp) (Q : List V → Hp → Prop) (q : TAs C EX (fun env => (ma env).bind fun o env1 => (ms env1).bind fun os env2 => .ok (o :: os) env2) σ H Q) : tCons (TO C EX ma) (TAs C EX ms) σ H Q := by
  obtain ⟨O, F, env, R, q⟩ := rg_iff.mp q
  exact op1A (k := fun o os env2 => .ok (o :: os) env2) R q fun o p env2 F2 P x y H2 R2 s2 f2 r2 k => k _ H2 ⟨F2, P, R2, s2, f2, r2⟩
theorem tas_nil (σ : St) (H : Hp) (Q : List V → Hp → Prop) (q : TAs C EX (fun env => .ok [] env) σ H Q) : tNil σ H Q := by
  obtain ⟨O, F, env, R, q⟩ := rg_iff.mp q
  exact q [] H ⟨F, [], R, Step.refl, fun a ha => by simp at ha, .nil⟩
theorem pa_ops {rec : Expr → Option Ex} (ih : ∀ e c, rec e = some c → NoStar e ∧ PE X e (TO C EX (evO Φ bor c))) : ∀ {es : List Expr} {cs : List Ex}, mapO rec es = some cs → PA X es (TAs C EX (evOs Φ bor cs))
  | [], cs, h => by
    cases h
    have e : evOs Φ bor [] = fun env => .ok [] env := by funext env; rw [evOs]
    rw [e]
    exact pa_nil.weak tas_nil
  | e :: es, cs, h => by
    unfold mapO at h
    split at h
    · rename_i b bs e1 e2
      cases h
      have eq : evOs Φ bor (b :: bs) = fun env => (evO Φ bor b env).bind fun o env1 => (evOs Φ bor bs env1).bind fun os env2 => .ok (o :: os) env2 := by funext env; rw [evOs]
      rw [eq]
      exact (pa_cons (ih e b e1).2 (pa_ops ih e2) ((ih e b e1).1 es X.env)).weak tas_cons
    · cases h
theorem vls_shape (r : Res Val) (g : Env → Res (List Val)) : ((r.bind fun v e1 => (g e1).bind fun vs e2 => Res.ok (v :: vs) e2).bind fun vs e => Res.ok (vs.map Od.vl) e) =
    (r.bind fun v e1 => Res.ok (Od.vl v) e1).bind fun o e1 => ((g e1).bind fun vs e => Res.ok (vs.map Od.vl) e).bind fun os e2 => .ok (o :: os) e2 := by
  cases r with
  | ok v e =>
    simp only [Res.bind]
    cases g e <;> rfl
  | ex x e => rfl
  | no => rfl
theorem pa_vals {rec : Expr → Option Ex} (ih : ∀ e c, rec e = some c → NoStar e ∧ PE X e (TV C EX (ev Φ bor c))) : ∀ {es : List Expr} {cs : List Ex}, mapO rec es = some cs → PA X es (TAs C EX (vls (evs Φ bor cs)))
  | [], cs, h => by
    cases h
    have e : vls (evs Φ bor []) = fun env => .ok [] env := by funext env; unfold vls; rw [evs]; try rfl
    rw [e]
    exact pa_nil.weak tas_nil
  | e :: es, cs, h => by
    unfold mapO at h
    split at h
    · rename_i b bs e1 e2
      cases h
      have eq : vls (evs Φ bor (b :: bs)) = fun env => ((fun env => (ev Φ bor b env).bind fun v env1 => (Res.ok (Od.vl v) env1)) env).bind fun o env1 => (vls (evs Φ bor bs) env1).bind fun os env2 => .ok (o :: os) env2 := by
        funext env
        unfold vls
        rw [evs]
        exact vls_shape _ _
      rw [eq]
      exact (pa_cons (r_vl (ih e b e1).2) (pa_vals ih e2) ((ih e b e1).1 es X.env)).weak tas_cons
    · cases h
theorem lend_eq {i : Nat} {as : List Ag} : evAs Φ bor (.lend i :: as) = fun env => ((fun env : Env => match lendOf env i with | some _ => Res.ok (Od.pk i) env | none => .no) env).bind fun o env1 => (evAs Φ bor as env1).bind fun os env2 => .ok (o :: os) env2 := by
  funext env
  rw [evAs]
  show _ = Res.bind (match lendOf env i with | some _ => Res.ok (Od.pk i) env | none => .no) _
  cases e : lendOf env i with
  | none => rfl
  | some v => rfl
theorem val_eq {c : Ex} {as : List Ag} : evAs Φ bor (.val c :: as) = fun env => ((fun env => (ev Φ bor c env).bind fun v env1 => (Res.ok (Od.vl v) env1)) env).bind fun o env1 => (evAs Φ bor as env1).bind fun os env2 => .ok (o :: os) env2 := by
  funext env
  rw [evAs]
  show _ = Res.bind (Res.bind (ev Φ bor c env) _) _
  cases ev Φ bor c env <;> rfl
theorem r_lend {e : Expr} {i : Nat} (h : PE X e (TO C EX (evO Φ bor (.var i)))) : PE X e (TO C EX fun env => match lendOf env i with | some _ => Res.ok (Od.pk i) env | none => .no) := h.weak fun σ H Q q => by
  obtain ⟨O, F, env, R, q⟩ := rg_iff.mp q
  refine rg_iff.mpr ⟨O, F, env, R, ?_⟩
  rw [evO]
  cases e : lendOf env i with
  | none => rw [e] at q; exact q.elim
  | some m =>
    rw [e] at q
    obtain ⟨e1, e2⟩ := lendOf_ok e
    rw [e1]
    cases m with
    | lst ds => exact q
    | dic ds => exact q
    | dol ds => cases e2
theorem ag_ok {rec : Expr → Option Ex} (ih : ∀ e c, rec e = some c → NoStar e ∧ PE X e (TV C EX (ev Φ bor c)) ∧ PE X e (TO C EX (evO Φ bor c))) {l : Bool} {e : Expr} {a : Ag} (h : agOf rec l e = some a) :
    NoStar e ∧ ∃ ma, PE X e (TO C EX ma) ∧ ∀ as, evAs Φ bor (a :: as) = fun env => (ma env).bind fun o env1 => (evAs Φ bor as env1).bind fun os env2 => .ok (o :: os) env2 := by
  unfold agOf at h
  cases e1 : rec e with
  | none => rw [e1] at h; cases h
  | some c =>
    rw [e1] at h
    obtain ⟨h1, h2, h3⟩ := ih e c e1
    refine ⟨h1, ?_⟩
    have byval : a = .val c → ∃ ma, PE X e (TO C EX ma) ∧ ∀ as, evAs Φ bor (a :: as) = fun env => (ma env).bind fun o env1 => (evAs Φ bor as env1).bind fun os env2 => .ok (o :: os) env2 := fun z => by
      subst z
      exact ⟨_, r_vl h2, fun as => val_eq⟩
    cases c with
    | var i =>
      cases l with
      | true =>
        simp only [if_true] at h
        cases h
        exact ⟨_, r_lend h3, fun as => lend_eq⟩
      | false => cases h; exact byval rfl
    | _ =>
      cases l with
      | true => simp at h
      | false => simp at h; exact byval h.symm
theorem pa_ags {rec : Expr → Option Ex} (ih : ∀ e c, rec e = some c → NoStar e ∧ PE X e (TV C EX (ev Φ bor c)) ∧ PE X e (TO C EX (evO Φ bor c))) : ∀ {es : List Expr} {ls : List Bool} {as : List Ag}, agsAt rec ls es = some as → PA X es (TAs C EX (evAs Φ bor as)) ∧ ∀ e ∈ es, NoStar e
  | [], ls, as, h => by
    cases h
    have e : evAs Φ bor [] = fun env => .ok [] env := by funext env; rw [evAs]
    rw [e]
    exact ⟨pa_nil.weak tas_nil, fun e h => by cases h⟩
  | e :: es, ls, as, h => by
    unfold agsAt at h
    split at h
    · rename_i a as' e1 e2
      cases h
      obtain ⟨h1, ma, h2, h3⟩ := ag_ok ih e1
      obtain ⟨t1, t2⟩ := pa_ags ih e2
      rw [h3]
      exact ⟨(pa_cons h2 t1 (h1 es X.env)).weak tas_cons, fun b hb => (List.mem_cons.mp hb).elim (fun z => by rw [z]; exact h1) (t2 b)⟩
    · cases h
theorem _root_.L2.PK.weak {kws : List Keyword} {t t' : TA} (h : PK X kws t) (w : ∀ σ H Q, t' σ H Q → t σ H Q) : PK X kws t' := ⟨fun ps p s σ H Q I q => h.run ps p s σ H Q I (w σ H Q q)⟩
/-- positional arguments, then keywords -/
theorem pak_ags {rec : Expr → Option Ex} (ih : ∀ e c, rec e = some c → NoStar e ∧ PE X e (TV C EX (ev Φ bor c)) ∧ PE X e (TO C EX (evO Φ bor c))) {kws : List Keyword} : ∀ {es : List Expr} {ls : List Bool} {as : List Ag}, agsAt rec ls (es ++ kws.map (·.value)) = some as →
    ∃ as1 as2, as = as1 ++ as2 ∧ PA X es (TAs C EX (evAs Φ bor as1)) ∧ PK X kws (TAs C EX (evAs Φ bor as2)) ∧ (∀ e ∈ es, NoStar e) ∧ as1.length = es.length ∧ as2.length = kws.length
  | [], ls, as, h => by
    have nil : evAs Φ bor [] = fun env => .ok [] env := by funext env; rw [evAs]
    refine ⟨[], as, rfl, by rw [nil]; exact pa_nil.weak tas_nil, ?_, (fun e h => by cases h), rfl, ?_⟩
    · rw [List.nil_append] at h
      clear nil
      induction kws generalizing ls as with
      | nil =>
        cases h
        have nil : evAs Φ bor [] = fun env => .ok [] env := by funext env; rw [evAs]
        rw [nil]
        exact pk_nil.weak tas_nil
      | cons k r ihk =>
        obtain ⟨nmk, v, p⟩ := k
        rw [List.map_cons] at h
        unfold agsAt at h
        split at h
        · rename_i a as' e1 e2
          cases h
          obtain ⟨h1, ma, h2, h3⟩ := ag_ok ih e1
          rw [h3]
          exact (pk_cons h2 (ihk _ _ e2)).weak tas_cons
        · cases h
    · rw [List.nil_append] at h
      clear nil
      induction kws generalizing ls as with
      | nil => cases h; rfl
      | cons k r ihk =>
        rw [List.map_cons] at h
        unfold agsAt at h
        split at h
        · rename_i a as' e1 e2
          cases h
          rw [List.length_cons, List.length_cons, ihk _ _ e2]
        · cases h
  | e :: es, ls, as, h => by
    rw [List.cons_append] at h
    unfold agsAt at h
    split at h
    · rename_i a as' e1 e2
      cases h
      obtain ⟨h1, ma, h2, h3⟩ := ag_ok ih e1
      obtain ⟨as1, as2, rfl, t1, t2, t3, t4, t5⟩ := pak_ags ih e2
      refine ⟨a :: as1, as2, rfl, ?_, t2, fun b hb => (List.mem_cons.mp hb).elim (fun z => by rw [z]; exact h1) (t3 b), by rw [List.length_cons, List.length_cons, t4], t5⟩
      rw [h3]
      exact (pa_cons h2 t1 (h1 es X.env)).weak tas_cons
    · cases h
theorem evAs_app : ∀ (as1 as2 : List Ag) (env : Env), evAs Φ bor (as1 ++ as2) env = (evAs Φ bor as1 env).bind fun os env1 => (evAs Φ bor as2 env1).bind fun os2 env2 => .ok (os ++ os2) env2
  | [], as2, env => by
    rw [List.nil_append, evAs]
    simp only [Res.bind, List.nil_append]
    cases evAs Φ bor as2 env <;> rfl
  | a :: as1, as2, env => by
    rw [List.cons_append]
    cases a with
    | val c =>
      rw [evAs, evAs]
      cases ev Φ bor c env with
      | ok v env1 =>
        simp only [Res.bind]
        rw [evAs_app as1 as2 env1]
        cases evAs Φ bor as1 env1 with
        | ok os env2 =>
          simp only [Res.bind]
          cases evAs Φ bor as2 env2 <;> rfl
        | ex x e => rfl
        | no => rfl
      | ex x e => rfl
      | no => rfl
    | lend i =>
      rw [evAs, evAs]
      split
      · rw [evAs_app as1 as2 env]
        cases evAs Φ bor as1 env with
        | ok os env2 =>
          simp only [Res.bind]
          cases evAs Φ bor as2 env2 <;> rfl
        | ex x e => rfl
        | no => rfl
      · rfl
theorem evAs_len : ∀ (as : List Ag) (env env' : Env) (os : List Od), evAs Φ bor as env = .ok os env' → os.length = as.length
  | [], env, env', os, h => by rw [evAs] at h; cases h; rfl
  | a :: as, env, env', os, h => by
    cases a with
    | val c =>
      rw [evAs] at h
      cases e1 : ev Φ bor c env with
      | ok v env1 =>
        rw [e1] at h
        simp only [Res.bind] at h
        cases e2 : evAs Φ bor as env1 with
        | ok os' env2 =>
          rw [e2] at h
          cases h
          rw [List.length_cons, List.length_cons, evAs_len as _ _ _ e2]
        | ex x e => rw [e2] at h; cases h
        | no => rw [e2] at h; cases h
      | ex x e => rw [e1] at h; cases h
      | no => rw [e1] at h; cases h
    | lend i =>
      rw [evAs] at h
      split at h
      · cases e2 : evAs Φ bor as env with
        | ok os' env2 =>
          rw [e2] at h
          cases h
          rw [List.length_cons, List.length_cons, evAs_len as _ _ _ e2]
        | ex x e => rw [e2] at h; cases h
        | no => rw [e2] at h; cases h
      · cases h
end
end Pv

/-! PvZ: targets, sources, comprehensions, calls: the text does what the code says. -/
set_option linter.all false
set_option maxRecDepth 100000
set_option maxHeartbeats 2000000
namespace Pv
open PySem PySem.Spec L2

section
variable {Γ : Gam} {X : Cx} {C : Cf} {Φ : Nat → List Val → CR} {EX : EXT} {bor : List Nat}
/-! ### targets -/
theorem compT_shape {n : Nat} {e : Expr} {t : Tgt} (h : compT Γ n e = some t) : ∀ (es : List Expr) (env : PySem.Env), assignEach (e :: es) env = (false, assign e env) :: assignEach es env := by
  intro es env
  cases n with
  | zero => cases h
  | succ n => cases e <;> first | rfl | (unfold compT at h; cases h)
theorem compTs_shape {n : Nat} : ∀ {es : List Expr} {ts : List Tgt}, mapO (compT Γ n) es = some ts → ∀ env : PySem.Env, (assignEach es env).length = ts.length ∧ (assignEach es env).findIdx? (·.1) = none
  | [], ts, h, env => by cases h; exact ⟨rfl, rfl⟩
  | e :: es, ts, h, env => by
    unfold mapO at h
    split at h
    · rename_i t ts' e1 e2
      cases h
      obtain ⟨h1, h2⟩ := compTs_shape e2 env
      rw [compT_shape e1 es env]
      refine ⟨by rw [List.length_cons, List.length_cons, h1], ?_⟩
      rw [List.findIdx?_cons, h2]
      rfl
    · cases h
theorem Fit.loc (f : Fit Γ X C Φ EX) {x : Str} {k : NameKind} (e : Γ.nm.lookup x = some k) (hk : k = .local ∨ k = .cell) : Loc X.env.scope x ∧ (X.fn x = true ∨ X.env.scope.names.lookup x = some .local) := by
  rcases hk with rfl | rfl
  · rcases f.nm x _ e with q | ⟨q, _⟩
    · exact ⟨.inl q, .inr q⟩
    · cases q
  · rcases f.nm x _ e with q | ⟨q, _⟩
    · exact ⟨.inr q, .inl (f.fnc x e)⟩
    · cases q
theorem Fit.gname (f : Fit Γ X C Φ EX) {x : Str} {k : NameKind} {i : Nat} {pos : Pos} (e : Γ.nm.lookup x = some k) (hk : k = .local ∨ k = .cell) (hi : ixOf x Γ.N = some i) : PG X (.Name x pos) (gName i) := by
  obtain ⟨h1, h2⟩ := f.loc e hk
  exact pg_name (by rw [f.N]; exact f.nd) (by rw [f.N]; exact ixOf_ok hi) h1 h2
theorem tgs_ok {n : Nat} (ih : ∀ e t, compT Γ n e = some t → PG X e (GB C Γ.bor t)) : ∀ {es : List Expr} {ts : List Tgt}, mapO (compT Γ n) es = some ts → PGs X es (GBs C Γ.bor ts)
  | [], ts, h => by cases h; exact r_gnil
  | e :: es, ts, h => by
    unfold mapO at h
    split at h
    · rename_i t ts' e1 e2
      cases h
      exact r_gcons (ih e t e1) (tgs_ok ih e2) (by rw [compT_shape e1 es X.env]; rfl)
    · cases h
theorem compT_ok (f : Fit Γ X C Φ EX) : ∀ (n : Nat) (e : Expr) (t : Tgt), compT Γ n e = some t → PG X e (GB C Γ.bor t)
  | 0, _, _, h => by cases h
  | n + 1, e, t, h => by
    unfold compT at h
    split at h
    · cases h
    · split at h
      · rename_i e1
        split at h
        · cases q : ixOf _ Γ.N with
          | none => rw [q] at h; cases h
          | some i =>
            rw [q] at h
            cases h
            exact r_gname f.bor (f.gname e1 (.inl rfl) q)
        · cases h
      · rename_i e1
        split at h
        · cases q : ixOf _ Γ.N with
          | none => rw [q] at h; cases h
          | some i =>
            rw [q] at h
            cases h
            exact r_gname f.bor (f.gname e1 (.inr rfl) q)
        · cases h
      · cases h
    · rename_i n' es k p heq
      cases heq
      cases q : mapO (compT Γ n) es with
      | none => rw [q] at h; cases h
      | some ts =>
        rw [q] at h
        cases h
        obtain ⟨h1, h2⟩ := compTs_shape q X.env
        exact r_gtup f.calm f.K (tgs_ok (fun e t => compT_ok f n e t) q) h1 h2
    · cases h
/-! ### calls without a first argument -/
theorem r_callN0 {k i : Nat} {f : Addr} {fd : FuncData} {ps ks : List Str} {x : Str} {perm : List Nat} {kws : List Keyword} {pos p1 : Pos} {ms2 : Env → Res (List Od)} (F : FnG X.prog X.w X.K X.mg X.base k f fd ps (spF C.K C.xr (Φ i))) (hr : Room k X.A) (hgd : X.A.guards = some []) (tk : Tk X C EX) (hg : Gl X x) (hm : X.mg x = some (.ref f))
    (hk : PySem.W.keepIn X.K (.ref f) = true) (hb : KBn X.K fd ps 0 ks (fun us ws => permL perm (us ++ ws)) (fun vs zs => permL perm (vs ++ zs))) (hkw : PK X kws (TAs C EX ms2)) (hdb : (x == ("__debug__" : Str)) = false)
    (hall : (backToKw pos (keywordEach kws X.env)).all (·.1.isSome) = true) (hks : (backToKw pos (keywordEach kws X.env)).filterMap (·.1) = ks)
    (hpl : ((backTo pos (starEach [] X.env)).any (·.1) || (backToKw pos (keywordEach kws X.env)).any (·.1.isNone)) = false) :
    PE X (.Call (.Name x p1) [] kws pos) (TV C EX fun env => (ms2 env).bind fun os2 env2 => if os2.length = ks.length then callR Φ i perm os2 env2 else .no) := by
  refine ⟨fun pins s σ H Q I q => ?_⟩
  obtain ⟨O, F', env, R, q⟩ := rg_iff.mp q
  have go : TAs C EX ms2 σ H fun zs H2 => zs.length = ks.length ∧ spF C.K C.xr (Φ i) (permL perm ([] ++ zs)) H2 Q (fun cls d H' => ∃ e env, C.xr H' cls d e ∧ EX e env σ H') := by
    refine argsN R q fun os env1 F1 P xs H1 R1 s1 f1 r1 k1 => ?_
    by_cases hl : os.length = ks.length
    case neg => rw [if_neg hl] at k1; exact k1.elim
    rw [if_pos hl] at k1
    have l1 := OR.length r1
    exact ⟨by omega, sp_at (fresh_off R f1) R1 s1 f1 r1 k1⟩
  refine wpAny_Call_Name_kw (ld_glob I hg hm ?_ hdb)
  refine PySem.W.callWith_KW0 (h₀ := X.base) I.ok.mod.kin hk hall (thn (hkw.run pos pins s σ H _ I go) fun ws s2 ⟨zs, H2, I2, rz, l2, q2⟩ => ⟨I2.kIn, ?_⟩) hpl
  rw [hks]
  refine wpAny_call (codeAny_mono (run_g F hr hgd tk I2 (hb.to s2 [] ws I2.kIn rfl (rz.length.symm.trans l2)) (hb.rel .nil rz) q2) fun r s' hq => ?_)
  cases r with
  | error e => exact hq
  | ok fl =>
    cases fl with
    | ret u => exact hq
    | next => exact hq.elim
    | brk => exact hq.elim
    | cont => exact hq.elim
theorem bind_len {α : Type} {m : Env → Res (List Od)} {n : Nat} (h : ∀ env env' os, m env = .ok os env' → os.length = n) (k : List Od → Env → Res α) (env : Env) : (m env).bind k = (m env).bind fun os env1 => if os.length = n then k os env1 else .no := by
  cases e : m env with
  | ok os env1 =>
    show k os env1 = if os.length = n then k os env1 else .no
    rw [if_pos (h _ _ _ e)]
  | ex x e => rfl
  | no => rfl
theorem kwNames_len : ∀ {kws : List Keyword} {ks : List Str}, kwNames kws = some ks → ks.length = kws.length
  | [], ks, h => by cases h; rfl
  | ⟨some k, v, p⟩ :: r, ks, h => by
    unfold kwNames at h
    cases q : kwNames r with
    | none => rw [q] at h; cases h
    | some q' =>
      rw [q] at h
      cases h
      rw [List.length_cons, List.length_cons, kwNames_len q]
  | ⟨none, v, p⟩ :: r, ks, h => by cases h
/-! ### the built-ins by name -/
theorem prTab_ok : ∀ t ∈ prTab, bootBuiltins t.1 = some (prV t.2.2) ∧ isIsi t.2.2 = false ∧ ((∃ id, prV t.2.2 = .builtin id) ∨ ∃ T, prV t.2.2 = .type T) ∧ t.2.1 ≠ 0 := by
  intro t ht
  unfold prTab at ht
  simp only [List.mem_cons, List.mem_nil_iff, or_false] at ht
  rcases ht with rfl | rfl | rfl | rfl | rfl | rfl | rfl | rfl | rfl | rfl | rfl | rfl | rfl | rfl
  · exact ⟨by decide +kernel, rfl, .inl ⟨_, rfl⟩, by decide⟩
  · exact ⟨by decide +kernel, rfl, .inr ⟨_, rfl⟩, by decide⟩
  · exact ⟨by decide +kernel, rfl, .inr ⟨_, rfl⟩, by decide⟩
  · exact ⟨by decide +kernel, rfl, .inl ⟨_, rfl⟩, by decide⟩
  · exact ⟨by decide +kernel, rfl, .inl ⟨_, rfl⟩, by decide⟩
  · exact ⟨by decide +kernel, rfl, .inl ⟨_, rfl⟩, by decide⟩
  · exact ⟨by decide +kernel, rfl, .inl ⟨_, rfl⟩, by decide⟩
  · exact ⟨by decide +kernel, rfl, .inl ⟨_, rfl⟩, by decide⟩
  · exact ⟨by decide +kernel, rfl, .inl ⟨_, rfl⟩, by decide⟩
  · exact ⟨by decide +kernel, rfl, .inl ⟨_, rfl⟩, by decide⟩
  · exact ⟨by decide +kernel, rfl, .inr ⟨_, rfl⟩, by decide⟩
  · exact ⟨by decide +kernel, rfl, .inr ⟨_, rfl⟩, by decide⟩
  · exact ⟨by decide +kernel, rfl, .inl ⟨_, rfl⟩, by decide⟩
  · exact ⟨by decide +kernel, rfl, .inr ⟨_, rfl⟩, by decide⟩
theorem tyTab_ok : ∀ t ∈ tyTab, bootBuiltins t.1 = some (.type (tyN t.2)) := by
  intro t ht
  unfold tyTab at ht
  simp only [List.mem_cons, List.mem_nil_iff, or_false] at ht
  rcases ht with rfl | rfl | rfl | rfl | rfl | rfl <;> decide +kernel
theorem boot_isi : bootBuiltins "isinstance" = some (.builtin "isinstance") := by decide +kernel
theorem r_isi {a : Expr} {ma : Env → Res Od} {T : Str} {t : Ty} {p1 p2 pos : Pos} (f : Fit Γ X C Φ EX) (hg : Gl X "isinstance") (hm : X.mg "isinstance" = none) (hT : free Γ T = true) (ht : bootBuiltins T = some (.type (tyN t))) (hs : NoStar a) (ha : PE X a (TO C EX ma)) :
    PE X (.Call (.Name "isinstance" p1) [a, .Name T p2] [] pos) (TV C EX fun env => (ma env).bind fun x env1 => match x.data env1 with
    | some d => Res.opt (primD (.isi t) [d]) env1
    | none => .no) := by
  obtain ⟨g1, g2, g3, g4⟩ := free_of f hT
  have hn : PE X (.Name T p2) (tC (.ty (tyN t))) := pe_bltn g1 g2 ht rfl g4 g3
  refine (pe_callB (isi_ok t) hg hm boot_isi (pa_cons ha (pa_cons hn pa_nil rfl) (hs _ _)) (by decide) (by decide) (hs _ _) rfl).weak fun σ H Q q => ?_
  obtain ⟨O, F, env, R, q⟩ := rg_iff.mp q
  refine op1 R q fun o env1 F1 P x H1 R1 s1 f1 r1 k => ?_
  split at k
  · rename_i d e1
    have dq := OR.data1 R1 r1 e1
    rw [f.K] at dq
    exact ⟨_, d, x, rfl, dq, fin_new R1 s1 f1 k _ _ (New.same (.bl _))⟩
  · exact k.elim
theorem lookup_mem {α : Type} {x : Str} {v : α} : ∀ {l : List (Str × α)}, l.lookup x = some v → (x, v) ∈ l := fun h => PySem.mem_of_lookup h
end
end Pv

/-! PwA: calls, sources, comprehensions: the text does what the code says. -/
set_option linter.all false
set_option maxRecDepth 100000
set_option maxHeartbeats 2000000
namespace Pv
open PySem PySem.Spec L2

section
variable {Γ : Gam} {X : Cx} {C : Cf} {Φ : Nat → List Val → CR} {EX : EXT}
/-- what the parts give -/
def Parts (X : Cx) (C : Cf) (Φ : Nat → List Val → CR) (EX : EXT) (bor : List Nat) (rec : Expr → Option Ex) : Prop := ∀ e c, rec e = some c → NoStar e ∧ PE X e (TV C EX (ev Φ bor c)) ∧ PE X e (TO C EX (evO Φ bor c))
theorem tv_congr {m m' : Env → Res Val} {e : Expr} (h : PE X e (TV C EX m)) (he : ∀ env, m' env = m env) : PE X e (TV C EX m') := by
  have q : m' = m := funext he
  rw [q]; exact h
theorem mapO_len {α β : Type} {f : α → Option β} : ∀ {l : List α} {m : List β}, mapO f l = some m → m.length = l.length
  | [], m, h => by cases h; rfl
  | a :: l, m, h => by
    unfold mapO at h
    split at h
    · rename_i b bs e1 e2
      cases h
      rw [List.length_cons, List.length_cons, mapO_len e2]
    · cases h
theorem agsAt_len {rec : Expr → Option Ex} : ∀ {es : List Expr} {ls : List Bool} {as : List Ag}, agsAt rec ls es = some as → as.length = es.length
  | [], ls, as, h => by cases h; rfl
  | e :: es, ls, as, h => by
    unfold agsAt at h
    split at h
    · rename_i a as' e1 e2
      cases h
      rw [List.length_cons, List.length_cons, agsAt_len e2]
    · cases h
theorem prim_ok (f : Fit Γ X C Φ EX) {rec : Expr → Option Ex} (ih : Parts X C Φ EX Γ.bor rec) {x : Str} {args : List Expr} {p1 pos : Pos} {t : Str × Nat × Pr} {cs : List Ex} {n : Nat} (hne : args ≠ []) (hx : plainName x = true) (hg : global Γ.nm x = true) (hb : x ∈ Γ.blt)
    (ht : prTab.find? (fun t => decide (t.1 = x) && decide (t.2.1 = n)) = some t) (hc : mapO rec args = some cs) : PE X (.Call (.Name x p1) args [] pos) (TV C EX (ev Φ Γ.bor (.prim t.2.2 cs))) := by
  have hm := List.mem_of_find?_eq_some ht
  have hp := List.find?_some ht
  simp only [Bool.and_eq_true, decide_eq_true_eq] at hp
  obtain ⟨h1, h2, h3, _⟩ := prTab_ok t hm
  rw [hp.1] at h1
  obtain ⟨g1, _, g3⟩ := plain_of hx
  cases args with
  | nil => exact absurd rfl hne
  | cons a es =>
    obtain ⟨c, e1⟩ := mapO_mem hc a List.mem_cons_self
    have ns : ∀ e ∈ es, NoStar e := fun e he => by
      obtain ⟨c, q⟩ := mapO_mem hc e (List.mem_cons_of_mem _ he)
      exact (ih e c q).1
    refine tv_congr (r_prim f.K (pr_ok t.2.2 h2 f.calm f.units f.guards f.sys) (f.gl hg) (f.blt x hb) h1 g3 g1 h3 ((ih a c e1).1 es X.env) (star_any ns).1 (pa_ops (fun e c q => ⟨(ih e c q).1, (ih e c q).2.2⟩) hc)) fun env => ?_
    rw [ev]
    try rfl
theorem call_ok (f : Fit Γ X C Φ EX) {rec : Expr → Option Ex} (ih : Parts X C Φ EX Γ.bor rec) {x : Str} {args : List Expr} {kws : List Keyword} {p1 pos : Pos} {c : Ex} (h : compCall Γ rec x args kws = some c) :
    PE X (.Call (.Name x p1) args kws pos) (TV C EX (ev Φ Γ.bor c)) ∧ (∀ i, c ≠ .var i) ∧ evT Φ Γ.bor c = fun env => (evO Φ Γ.bor c env).bind fun x env1 => match x.data env1 with | some d => Res.opt (truD d) env1 | none => .no := by
  have pT : ∀ p cs, evT Φ Γ.bor (.prim p cs) = fun env => (evO Φ Γ.bor (.prim p cs) env).bind fun x env1 => match x.data env1 with | some d => Res.opt (truD d) env1 | none => .no := fun p cs => by funext env; rw [evT] <;> first | rfl | (intros; contradiction)
  have cT : ∀ i p cs, evT Φ Γ.bor (.call i p cs) = fun env => (evO Φ Γ.bor (.call i p cs) env).bind fun x env1 => match x.data env1 with | some d => Res.opt (truD d) env1 | none => .no := fun i p cs => by funext env; rw [evT] <;> first | rfl | (intros; contradiction)
  unfold compCall at h
  by_cases hx : (plainName x && global Γ.nm x) = true
  case neg => rw [if_neg hx] at h; cases h
  rw [if_pos hx] at h
  rw [Bool.and_eq_true] at hx
  obtain ⟨g1, _, g3⟩ := plain_of hx.1
  have hg := f.gl hx.2
  cases e1 : Γ.fns.lookup x with
  | some fe =>
    simp only [e1] at h
    obtain ⟨k, fa, fd, hm, hk, hr, F, hb, hkb⟩ := f.fns x fe e1
    cases e2 : kwNames kws with
    | none => rw [e2] at h; cases h
    | some ks =>
      simp only [e2] at h
      by_cases hke : ks.isEmpty = true
      · rw [if_pos hke] at h
        have ek : kws = [] := by
          have q := kwNames_len e2
          rw [List.isEmpty_iff.mp hke] at q
          exact List.length_eq_zero_iff.mp q.symm
        subst ek
        by_cases hae : args.isEmpty = true
        · rw [if_pos hae] at h; cases h
        rw [if_neg hae] at h
        by_cases hl : args.length = fe.ps.length
        case neg => rw [if_neg hl] at h; cases h
        rw [if_pos hl] at h
        cases e3 : agsAt rec (lentFlags (List.range fe.ps.length) fe.bor args.length) args with
        | none => rw [e3] at h; cases h
        | some as =>
          rw [e3] at h
          cases h
          refine ⟨?_, (fun i z => nomatch z), cT _ _ _⟩
          cases args with
          | nil => simp at hae
          | cons a es =>
            obtain ⟨t1, t2⟩ := pa_ags ih e3
            refine tv_congr (r_call f.K F hr f.guards f.takes hg hm hk hb rfl t1 g1 (t2 a List.mem_cons_self es X.env) (star_any fun e he => t2 e (List.mem_cons_of_mem _ he)).1) fun env => ?_
            rw [ev]
            exact bind_len (fun env env' os q => by rw [evAs_len _ _ _ _ q, agsAt_len e3, hl]) _ env
      · rw [if_neg hke] at h
        by_cases hmd : (args.length, ks) ∈ fe.modes
        case neg => rw [if_neg hmd] at h; cases h
        rw [if_pos hmd] at h
        cases e4 : permOf fe.ps args.length ks with
        | none => rw [e4] at h; cases h
        | some perm =>
          simp only [e4] at h
          cases e3 : agsAt rec (lentFlags perm fe.bor (args.length + ks.length)) (args ++ kws.map (·.value)) with
          | none => rw [e3] at h; cases h
          | some as =>
            rw [e3] at h
            cases h
            refine ⟨?_, (fun i z => nomatch z), cT _ _ _⟩
            obtain ⟨as1, as2, rfl, t1, t2, t3, t4, t5⟩ := pak_ags ih e3
            obtain ⟨k1, k2, k3⟩ := kw_ok (env := X.env) (pos := pos) e2
            have kl := kwNames_len e2
            have kb := hkb args.length ks perm hmd e4
            cases args with
            | nil =>
              have z1 : as1 = [] := List.length_eq_zero_iff.mp (by simpa using t4)
              subst z1
              refine tv_congr (r_callN0 F hr f.guards f.takes hg hm hk kb t2 g1 k1 k2 (by rw [k3]; rfl)) fun env => ?_
              rw [ev, List.nil_append]
              exact bind_len (fun env env' os q => by rw [evAs_len _ _ _ _ q, t5, kl]) _ env
            | cons a es =>
              have sa := t3 a List.mem_cons_self
              refine tv_congr (r_callN f.K F hr f.guards f.takes hg hm hk kb t1 t2 g1 (sa es X.env) k1 k2 (by rw [k3, (star_any t3).1]; rfl)) fun env => ?_
              rw [ev, evAs_app]
              cases q1 : evAs Φ Γ.bor as1 env with
              | ok os env1 =>
                simp only [Res.bind]
                cases q2 : evAs Φ Γ.bor as2 env1 with
                | ok os2 env2 =>
                  simp only
                  rw [if_pos ⟨by rw [evAs_len _ _ _ _ q1, t4], by rw [evAs_len _ _ _ _ q2, t5, kl]⟩]
                | ex x e => rfl
                | no => rfl
              | ex x e => rfl
              | no => rfl
  | none =>
    simp only [e1] at h
    by_cases hkb : (kws.isEmpty && decide (x ∈ Γ.blt)) = true
    case neg => rw [if_neg hkb] at h; cases h
    rw [if_pos hkb] at h
    simp only [Bool.and_eq_true, decide_eq_true_eq, List.isEmpty_iff] at hkb
    obtain ⟨rfl, hbl⟩ := hkb
    split at h
    · rename_i a T p2
      by_cases hi : x = ("isinstance" : Str)
      · rw [if_pos hi] at h
        subst hi
        by_cases hf : free Γ T = true
        case neg => rw [if_neg hf] at h; cases h
        rw [if_pos hf] at h
        split at h
        · rename_i t c' q1 q2
          cases h
          refine ⟨?_, (fun i z => nomatch z), pT _ _⟩
          refine tv_congr (r_isi f hg (f.blt _ hbl) hf (tyTab_ok _ (lookup_mem q1)) (ih a c' q2).1 (ih a c' q2).2.2) fun env => ?_
          rw [ev]
          simp only [evOs]
          cases evO Φ Γ.bor c' env with
          | ok o env1 =>
            simp only [Res.bind, opdata]
            cases o.data env1 <;> rfl
          | ex x e => rfl
          | no => rfl
        · cases h
      · rw [if_neg hi] at h
        split at h
        · rename_i t cs q1 q2
          cases h
          exact ⟨prim_ok f ih (by simp) hx.1 hx.2 hbl q1 q2, (fun i z => nomatch z), pT _ _⟩
        · cases h
    · split at h
      · rename_i t cs q1 q2
        by_cases hae : args.isEmpty = true
        · rw [if_pos hae] at h; cases h
        rw [if_neg hae] at h
        cases h
        exact ⟨prim_ok f ih (by simpa [List.isEmpty_iff] using hae) hx.1 hx.2 hbl q1 q2, (fun i z => nomatch z), pT _ _⟩
      · cases h
/-- a target that takes apart -/
def tgT : Expr → Bool
  | .Tuple _ _ _ => true
  | _ => false
theorem tgT_ok : ∀ {n : Nat} {e : Expr} {t : Tgt}, compT Γ n e = some t → t.isT = tgT e
  | 0, _, _, h => by cases h
  | n + 1, e, t, h => by
    unfold compT at h
    split at h
    · cases h
    · split at h
      · split at h
        · cases q : ixOf _ Γ.N with
          | none => rw [q] at h; cases h
          | some i => rw [q] at h; cases h; rfl
        · cases h
      · split at h
        · cases q : ixOf _ Γ.N with
          | none => rw [q] at h; cases h
          | some i => rw [q] at h; cases h; rfl
        · cases h
      · cases h
    · rename_i n' es k p heq
      cases q : mapO (compT Γ n') es with
      | none => rw [q] at h; cases h
      | some ts => rw [q] at h; cases h; rfl
    · cases h
theorem src_ok (f : Fit Γ X C Φ EX) {rec : Expr → Option Ex} (ih : Parts X C Φ EX Γ.bor rec) {tg iter : Expr} {s : Sr} (h : compSrc Γ rec tg iter = some s) : PI X tg iter (IS C EX (tgT tg) (evS Φ Γ.bor s)) := by
  have byIt : ∀ e, (rec e).map Sr.it = some s → PI X tg e (IS C EX (tgT tg) (evS Φ Γ.bor s)) := fun e q => by
    cases e1 : rec e with
    | none => rw [e1] at q; cases q
    | some c =>
      rw [e1] at q
      cases q
      have eq : evS Φ Γ.bor (.it c) = fun env => (ev Φ Γ.bor c env).bind fun v env1 => Res.opt (itemsD v.data) env1 := by funext env; rw [evS]
      rw [eq]
      exact r_it f.K (ih e c e1).2.1
  unfold compSrc at h
  split at h
  · rename_i x p args pos
    by_cases hx : (free Γ x && (x = ("range" : Str) || x = ("zip" : Str) || x = ("enumerate" : Str))) = true
    case neg => rw [if_neg hx] at h; exact byIt _ h
    rw [if_pos hx] at h
    rw [Bool.and_eq_true] at hx
    obtain ⟨hg, hm, _, _⟩ := free_of f hx.1
    split at h
    · rename_i a
      by_cases h1 : x = ("range" : Str)
      · rw [if_pos h1] at h
        subst h1
        cases e1 : rec a with
        | none => rw [e1] at h; cases h
        | some c =>
          rw [e1] at h
          cases h
          have eq : evS Φ Γ.bor (.rng c) = fun env => (evO Φ Γ.bor c env).bind fun x env1 => match x.data env1 with | some (.int j) => Res.opt (range2 0 j) env1 | _ => .no := by funext env; rw [evS]; try rfl
          rw [eq]
          exact r_rng hg hm (ih a c e1).2.2 ((ih a c e1).1 _ _)
      · rw [if_neg h1] at h
        by_cases h2 : x = ("enumerate" : Str)
        · rw [if_pos h2] at h
          subst h2
          split at h
          · cases e1 : rec a with
            | none => rw [e1] at h; cases h
            | some c =>
              rw [e1] at h
              cases h
              have eq : evS Φ Γ.bor (.enum c) = fun env => (ev Φ Γ.bor c env).bind fun v env1 => match v.data with | .list xs => .ok (xs.zipIdx.map fun p => .tuple [.int p.2, p.1]) env1 | _ => .no := by funext env; rw [evS]; try rfl
              rw [eq]
              exact r_enum f.K hg hm (ih a c e1).2.1 ((ih a c e1).1 _ _)
          · cases h
        · rw [if_neg h2] at h; cases h
    · rename_i a b
      by_cases h1 : x = ("range" : Str)
      · rw [if_pos h1] at h
        subst h1
        split at h
        · rename_i c d e1 e2
          cases h
          have eq : evS Φ Γ.bor (.rng2 c d) = fun env => (evO Φ Γ.bor c env).bind fun x env1 => (evO Φ Γ.bor d env1).bind fun y env2 => match x.data env2, y.data env2 with | some (.int i), some (.int j) => Res.opt (range2 i j) env2 | _, _ => .no := by funext env; rw [evS]; try rfl
          rw [eq]
          exact r_rng2 hg hm (ih a c e1).2.2 (ih b d e2).2.2 ((ih a c e1).1 _ _) ((ih b d e2).1 _ _)
        · cases h
      · rw [if_neg h1] at h
        by_cases h2 : x = ("zip" : Str)
        · rw [if_pos h2] at h
          subst h2
          split at h
          · rename_i c d e1 e2
            cases h
            have eq : evS Φ Γ.bor (.zip c d) = fun env => (ev Φ Γ.bor c env).bind fun v env1 => (ev Φ Γ.bor d env1).bind fun w env2 => match v.data, w.data with
                | .list xs, .list ys => .ok ((xs.zip ys).map fun p => .tuple [p.1, p.2]) env2
                | .tuple xs, .tuple ys => .ok ((xs.zip ys).map fun p => .tuple [p.1, p.2]) env2
                | _, _ => .no := by funext env; rw [evS]; try rfl
            rw [eq]
            exact r_zip f.K hg hm (ih a c e1).2.1 (ih b d e2).2.1 ((ih a c e1).1 _ _) ((ih b d e2).1 _ _) (star_any fun e he => by cases List.mem_singleton.mp he; exact (ih b d e2).1).1
          · cases h
        · rw [if_neg h2] at h; cases h
    · cases h
  · exact byIt _ h
end
end Pv

/-! PwB: every expression of the text does what its code says. -/
set_option linter.all false
set_option maxRecDepth 100000
set_option maxHeartbeats 4000000
namespace Pv
open PySem PySem.Spec L2

section
variable {Γ : Gam} {X : Cx} {C : Cf} {Φ : Nat → List Val → CR} {EX : EXT}
theorem free_kept {env : PySem.Env} : ∀ {names : List (Str × NameKind)} {x : Str}, names.lookup x = some .free →
    (names.map fun (n, k) => if (k == NameKind.free && env.scope.kind == .function && env.kindOf n == some .cell) then (n, NameKind.cell) else (n, k)).lookup x = some .free ∨
    (names.map fun (n, k) => if (k == NameKind.free && env.scope.kind == .function && env.kindOf n == some .cell) then (n, NameKind.cell) else (n, k)).lookup x = some .cell
  | [], x, h => by cases h
  | (n, k) :: r, x, h => by
    rw [List.map_cons]
    by_cases hx : (x == n) = true
    · rw [List.lookup_cons] at h
      simp only [hx] at h
      cases h
      simp only
      split
      · exact .inr (by rw [List.lookup_cons]; simp only [hx])
      · exact .inl (by rw [List.lookup_cons]; simp only [hx])
    · have hx' : (x == n) = false := by simpa using hx
      rw [List.lookup_cons] at h
      simp only [hx'] at h
      have q := free_kept (env := env) h
      simp only
      split <;> (simp only [List.lookup_cons, hx']; exact q)
theorem other_kept {env : PySem.Env} {k0 : NameKind} (h0 : k0 ≠ .free) : ∀ {names : List (Str × NameKind)} {x : Str}, names.lookup x = some k0 →
    (names.map fun (n, k) => if (k == NameKind.free && env.scope.kind == .function && env.kindOf n == some .cell) then (n, NameKind.cell) else (n, k)).lookup x = some k0
  | [], x, h => by cases h
  | (n, k) :: r, x, h => by
    rw [List.map_cons]
    by_cases hx : (x == n) = true
    · rw [List.lookup_cons] at h
      simp only [hx] at h
      cases h
      have hf := beq_eq_false_iff_ne.mpr h0
      simp only [hf, Bool.false_and, Bool.false_eq_true, if_false]
      rw [List.lookup_cons]
      simp only [hx]
    · have hx' : (x == n) = false := by simpa using hx
      rw [List.lookup_cons] at h
      simp only [hx'] at h
      have q := other_kept (env := env) h0 h
      simp only
      split <;> (rw [List.lookup_cons]; simp only [hx']; exact q)
/-- in a comprehension's block -/
theorem Fit.blk (f : Fit Γ X C Φ EX) (s : Shared) (H : Hp) (scope : Scope) (cl : List (Str × Addr)) (D : Addr) (fp : List Addr) : Fit { Γ with nm := scope.names } (X.blk s H scope (compEnvC scope cl D X.env) fp) C Φ EX0 where
  nm := fun x k e => by
    by_cases h : k = .free
    · subst h
      rcases free_kept (env := X.env) e with q | q
      · exact .inl q
      · exact .inr ⟨rfl, q⟩
    · exact .inl (other_kept h e)
  fnc := fun x e => by
    show (scope.names.lookup x == some NameKind.cell) = true
    rw [show scope.names.lookup x = some .cell from e]
    rfl
  N := f.N
  nd := f.nd
  calm := f.calm
  K := f.K
  units := f.units
  guards := f.guards
  sys := f.sys
  takes := fun u s' ⟨a, B, sI, pins, σ, H, cls, d, h1, h2, h3, h4, h5, h6, h7, h8, e, env, hx, hz⟩ => hz.elim
  bor := f.bor
  cst := f.cst
  blt := f.blt
  fns := f.fns
/-- how a comprehension was taken apart -/
structure LcD (Γ : Gam) (n : Nat) (rec : Gam → Expr → Option Ex) (elt tg iter : Expr) (ifs : List Expr) (scope : Scope) (own : List (Str × Nat)) (t : Tgt) (s : Sr) (cs : List Ex) (e : Ex) : Prop where
  kind : scope.kind = .function
  uniq : ∀ y ∈ scope.names, scope.names.lookup y.1 = some y.2
  ix : ∀ p ∈ own, Γ.N[p.2]? = some p.1
  free : ∀ y ∈ scope.names, y.2 = .free → Γ.nm.lookup y.1 = some .cell ∨ Γ.nm.lookup y.1 = some .free
  mine : ∀ y ∈ scope.names, y.2 = .local ∨ y.2 = .cell → y.1 ∈ own.map (·.1) ∨ y.1 ∉ Γ.N
  bor : ∀ p ∈ own, p.2 ∉ Γ.bor
  tst : ifs.all (tst n) = true
  one : ifs.length ≤ 1
  set : isSet iter = false
  ct : compT { Γ with nm := scope.names } n tg = some t
  cs_ : compSrc Γ (rec Γ) tg iter = some s
  ci : mapO (rec { Γ with nm := scope.names }) ifs = some cs
  ce : rec { Γ with nm := scope.names } elt = some e
  sub : ∀ j ∈ t.ns, j ∈ own.map (·.2)
theorem lc_parts {n : Nat} {rec : Gam → Expr → Option Ex} {elt tg iter : Expr} {ifs : List Expr} {scope : Scope} {pos : Pos} {c : Ex} (h : compOne Γ n rec (.ListComp elt [⟨tg, iter, ifs, 0⟩] scope pos) = some c) :
    ∃ own t s cs e, c = mkC (keyIx Γ iter) (own.map (·.2)) s t cs e ∧ LcD Γ n rec elt tg iter ifs scope own t s cs e := by
  unfold compOne at h
  simp only at h
  split at h
  · rename_i own e0
    split at h
    · rename_i hc
      unfold lcOk at hc
      simp only [Bool.and_eq_true, List.all_eq_true, decide_eq_true_eq, Bool.not_eq_true'] at hc
      obtain ⟨⟨⟨⟨⟨⟨⟨h1, h2⟩, h3⟩, h4⟩, h5⟩, h6⟩, h7⟩, h8⟩ := hc
      split at h
      · rename_i t s cs e e1 e2 e3 e4
        split at h
        · rename_i h9
          cases h
          simp only [List.all_eq_true, decide_eq_true_eq] at h9
          refine ⟨own, t, s, cs, e, rfl, ?_, h2, h3, fun y hy ey => ?_, fun y hy ey => ?_, h5, by simpa using h6, h7, h8, e1, e2, e3, e4, h9⟩
          · split at h1
            · assumption
            · cases h1
          · have q := h4 y hy
            simp only [ey] at q
            split at q
            · exact .inl (by assumption)
            · exact .inr (by assumption)
            · cases q
          · have q := h4 y hy
            rcases ey with ey | ey <;> (simp only [ey, Bool.or_eq_true, decide_eq_true_eq] at q; exact q)
        · cases h
      · cases h
    · cases h
  · cases h
/-- what the induction gives -/
def IH (Φ : Nat → List Val → CR) (n : Nat) : Prop := ∀ {Γ : Gam} {X : Cx} {C : Cf} {EX : EXT}, Fit Γ X C Φ EX → ∀ e c, comp n Γ e = some c → PE X e (TV C EX (ev Φ Γ.bor c)) ∧ PE X e (TO C EX (evO Φ Γ.bor c)) ∧ (tst n e = true → PT X e (TB C EX (evT Φ Γ.bor c)))
theorem IH.parts {n : Nat} (ih : IH Φ n) (f : Fit Γ X C Φ EX) : Parts X C Φ EX Γ.bor (comp n Γ) := fun e c h => ⟨comp_noStar h, (ih f e c h).1, (ih f e c h).2.1⟩
theorem lc_ev {own : List Nat} {s : Sr} {t : Tgt} {cs : List Ex} {e : Ex} {bor : List Nat} : ev Φ bor (.comp own s t cs e) = fun env => (evS Φ bor s env).bind fun ds env1 => compK bor own t (evCs Φ bor cs) (ev Φ bor e) ds env1 := by
  funext env
  rw [ev]
  try rfl
theorem comk_ev {own : List Nat} {i : Nat} {t : Tgt} {cs : List Ex} {e : Ex} {bor : List Nat} : ev Φ bor (.comk own i t cs e) = fun env => (keysAt i env).bind fun ds env1 => compK bor own t (evCs Φ bor cs) (ev Φ bor e) ds env1 := by
  funext env
  rw [ev]
  try rfl
theorem keyIx_ok (f : Fit Γ X C Φ EX) {e : Expr} {i : Nat} (h : keyIx Γ e = some i) : PE X e (tVar i) := by
  unfold keyIx at h
  split at h
  · rename_i x p
    split at h
    · rename_i hc
      rw [Bool.and_eq_true] at hc
      split at h
      · rename_i j q
        split at h
        · cases h; exact f.var hc.1 hc.2 q
        · cases h
      · cases h
    · cases h
  · cases h
theorem Fit.at (f : Fit Γ X C Φ EX) (h : Hp) : Fit Γ X (C.at h) Φ EX := ⟨f.nm, f.fnc, f.N, f.nd, f.calm, f.K, f.units, f.guards, f.sys, f.takes, f.bor, f.cst, f.blt, f.fns⟩
/-- the pieces of a comprehension's rule -/
theorem lc_rule {n : Nat} (ih : IH Φ n) (f : Fit Γ X C Φ EX) {elt tg iter : Expr} {ifs : List Expr} {scope : Scope} {own : List (Str × Nat)} {t : Tgt} {s : Sr} {cs : List Ex} {e : Ex} (d : LcD Γ n (comp n) elt tg iter ifs scope own t s cs e) :
    PI X tg iter (IS C EX t.isT (evS Φ Γ.bor s)) ∧ BlkOk X.N X.env.scope scope own ∧
    (∀ (s : Shared) (H : Hp) (D : Addr) (cl : List (Str × Addr)) (fp : List Addr), PG (X.blk s H scope (compEnvC scope cl D X.env) fp) tg (GB C Γ.bor t)) ∧
    (∀ (s : Shared) (H : Hp) (D : Addr) (cl : List (Str × Addr)) (fp : List Addr), PTs (X.blk s H scope (compEnvC scope cl D X.env) fp) ifs (TB C EX0 (evCs Φ Γ.bor cs))) ∧
    (∀ (s : Shared) (H : Hp) (D : Addr) (cl : List (Str × Addr)) (fp : List Addr), PE (X.blk s H scope (compEnvC scope cl D X.env) fp) elt (TV C EX0 (ev Φ Γ.bor e))) ∧
    (∀ x, foldedSetIterable iter X.env x = pure x) := by
  refine ⟨tgT_ok d.ct ▸ src_ok f (ih.parts f) d.cs_, ⟨d.kind, d.uniq, fun p hp => by rw [f.N]; exact d.ix p hp, fun y hy ey => ?_, fun y hy ey => by rw [f.N]; exact d.mine y hy ey⟩, fun s H D cl fp => compT_ok (f.blk s H scope cl D fp) n tg t d.ct, fun s H D cl fp => ?_, fun s H D cl fp => (ih (f.blk s H scope cl D fp) elt e d.ce).1, fun x => ?_⟩
  · rcases d.free y hy ey with q | q
    · rcases f.nm _ _ q with z | ⟨z, _⟩
      · exact .inl z
      · cases z
    · rcases f.nm _ _ q with z | ⟨_, z⟩
      · exact .inr z
      · exact .inl z
  · have ci := d.ci
    have one := d.one
    have ts := d.tst
    match ifs, cs, ci with
    | [], cs, ci =>
      cases ci
      have eq : evCs Φ Γ.bor [] = fun env => .ok true env := by funext env; rw [evCs]
      rw [eq]
      refine ⟨fun p s σ H Q I q => pts_nil.run p s σ H Q I ?_⟩
      obtain ⟨O, F, env, R, q⟩ := rg_iff.mp q
      exact q true H ⟨rfl, F, R, Step.refl⟩
    | [c0], cs, ci =>
      unfold mapO at ci
      split at ci
      · rename_i b bs e1 e2
        cases ci
        cases e2
        have eq : evCs Φ Γ.bor [b] = evT Φ Γ.bor b := by funext env; rw [evCs]
        rw [eq]
        exact pts_one ((ih (f.blk s H scope cl D fp) c0 b e1).2.2 (by simpa using ts))
      · cases ci
    | _ :: _ :: _, cs, ci => simp at one
  · have st := d.set
    cases iter <;> first | rfl | (unfold isSet at st; cases st)
end
end Pv

/-! PwC: every expression of the text does what its code says. -/
set_option linter.all false
set_option maxRecDepth 100000
set_option maxHeartbeats 4000000
namespace Pv
open PySem PySem.Spec L2

section
variable {Γ : Gam} {X : Cx} {C : Cf} {Φ : Nat → List Val → CR} {EX : EXT}
abbrev Trip (X : Cx) (C : Cf) (Φ : Nat → List Val → CR) (EX : EXT) (bor : List Nat) (n : Nat) (e : Expr) (c : Ex) : Prop := PE X e (TV C EX (ev Φ bor c)) ∧ PE X e (TO C EX (evO Φ bor c)) ∧ (tst n e = true → PT X e (TB C EX (evT Φ bor c)))
noncomputable def truK (Φ : Nat → List Val → CR) (bor : List Nat) (c : Ex) : Env → Res Bool := fun env => (evO Φ bor c env).bind fun x env1 => match x.data env1 with
  | some d => Res.opt (truD d) env1
  | none => .no
/-- where the test is the value's truth -/
theorem trip_of (hK : C.K = X.K) {bor : List Nat} {n : Nat} {e : Expr} {c : Ex} (hv : ∀ i, c ≠ .var i) (hT : evT Φ bor c = truK Φ bor c) (he : ∀ whole, isTrue e X.env whole = (do let v ← whole; standAt e.pos; holding [v] (truthy v))) (h : PE X e (TV C EX (ev Φ bor c))) : Trip X C Φ EX bor n e c := by
  have h2 : PE X e (TO C EX (evO Φ bor c)) := by rw [evO_eq c hv]; exact r_vl h
  refine ⟨h, h2, fun _ => ?_⟩
  rw [hT]
  exact r_tru hK h2 he
theorem and_ok {rec : Expr → Option Ex} (ih : ∀ e c, rec e = some c → PE X e (TV C EX (ev Φ Γ.bor c))) {pos : Pos} : ∀ {es : List Expr} {cs : List Ex}, mapO rec es = some cs → es ≠ [] → PE X (.BoolOp .And es pos) (TV C EX (evAnd Φ Γ.bor cs))
  | [], cs, h, hn => absurd rfl hn
  | [a], cs, h, _ => by
    unfold mapO at h
    split at h
    · rename_i b bs e1 e2
      cases h
      cases e2
      have eq : evAnd Φ Γ.bor [b] = ev Φ Γ.bor b := by funext env; rw [evAnd]
      rw [eq]
      exact pe_one (ih a b e1)
    · cases h
  | a :: a' :: rest, cs, h, _ => by
    unfold mapO at h
    split at h
    · rename_i b bs e1 e2
      cases h
      have t := and_ok ih (pos := pos) e2 (by simp)
      have l := mapO_len e2
      cases bs with
      | nil => simp at l
      | cons b' bs' =>
        refine tv_congr (r_and (ih a b e1) t) fun env => ?_
        rw [evAnd] <;> first | rfl | simp
    · cases h
theorem or_ok {rec : Expr → Option Ex} (ih : ∀ e c, rec e = some c → PE X e (TV C EX (ev Φ Γ.bor c))) {pos : Pos} : ∀ {es : List Expr} {cs : List Ex}, mapO rec es = some cs → es ≠ [] → PE X (.BoolOp .Or es pos) (TV C EX (evOr Φ Γ.bor cs))
  | [], cs, h, hn => absurd rfl hn
  | [a], cs, h, _ => by
    unfold mapO at h
    split at h
    · rename_i b bs e1 e2
      cases h
      cases e2
      have eq : evOr Φ Γ.bor [b] = ev Φ Γ.bor b := by funext env; rw [evOr]
      rw [eq]
      exact pe_one (ih a b e1)
    · cases h
  | a :: a' :: rest, cs, h, _ => by
    unfold mapO at h
    split at h
    · rename_i b bs e1 e2
      cases h
      have t := or_ok ih (pos := pos) e2 (by simp)
      have l := mapO_len e2
      cases bs with
      | nil => simp at l
      | cons b' bs' =>
        refine tv_congr (r_or (ih a b e1) t) fun env => ?_
        rw [evOr] <;> first | rfl | simp
    · cases h
theorem pw_congr {m m' : Env → Res Bool} {e : Expr} (h : PW X e (TB C EX m)) (he : ∀ env, m' env = m env) : PW X e (TB C EX m') := by
  have q : m' = m := funext he
  rw [q]; exact h
theorem pt_congr {m m' : Env → Res Bool} {e : Expr} (h : PT X e (TB C EX m)) (he : ∀ env, m' env = m env) : PT X e (TB C EX m') := by
  have q : m' = m := funext he
  rw [q]; exact h
theorem andT_ok {rec : Expr → Option Ex} {pos : Pos} : ∀ {es : List Expr} {cs : List Ex}, (∀ e ∈ es, ∀ c, rec e = some c → PT X e (TB C EX (evT Φ Γ.bor c))) → mapO rec es = some cs → es ≠ [] → PW X (.BoolOp .And es pos) (TB C EX (evTA Φ Γ.bor cs))
  | [], cs, ih, h, hn => absurd rfl hn
  | [a], cs, ih, h, _ => by
    unfold mapO at h
    split at h
    · rename_i b bs e1 e2
      cases h
      cases e2
      refine pw_congr (r_and1 (ih a List.mem_cons_self b e1)) fun env => ?_
      rw [evTA]
      simp only [evTA]
      cases evT Φ Γ.bor b env with
      | ok k env1 => cases k <;> rfl
      | ex x e => rfl
      | no => rfl
    · cases h
  | a :: a' :: rest, cs, ih, h, _ => by
    unfold mapO at h
    split at h
    · rename_i b bs e1 e2
      cases h
      have t := andT_ok (pos := pos) (fun e he => ih e (List.mem_cons_of_mem _ he)) e2 (by simp)
      refine pw_congr (r_andT (ih a List.mem_cons_self b e1) t) fun env => ?_
      rw [evTA]
      try rfl
    · cases h
theorem orT_ok {rec : Expr → Option Ex} {pos : Pos} : ∀ {es : List Expr} {cs : List Ex}, (∀ e ∈ es, ∀ c, rec e = some c → PT X e (TB C EX (evT Φ Γ.bor c))) → mapO rec es = some cs → es ≠ [] → PW X (.BoolOp .Or es pos) (TB C EX (evTO Φ Γ.bor cs))
  | [], cs, ih, h, hn => absurd rfl hn
  | [a], cs, ih, h, _ => by
    unfold mapO at h
    split at h
    · rename_i b bs e1 e2
      cases h
      cases e2
      refine pw_congr (pw_or1 (ih a List.mem_cons_self b e1)) fun env => ?_
      rw [evTO]
      simp only [evTO]
      cases evT Φ Γ.bor b env with
      | ok k env1 => cases k <;> rfl
      | ex x e => rfl
      | no => rfl
    · cases h
  | a :: a' :: rest, cs, ih, h, _ => by
    unfold mapO at h
    split at h
    · rename_i b bs e1 e2
      cases h
      have t := orT_ok (pos := pos) (fun e he => ih e (List.mem_cons_of_mem _ he)) e2 (by simp)
      refine pw_congr (r_orT (ih a List.mem_cons_self b e1) t) fun env => ?_
      rw [evTO]
      try rfl
    · cases h
/-- a comparison's value is a bool -/
theorem opt_bool (o : Option Bool) (env : Env) : ((((Res.opt (o.map fun k => Val.sh (.bool k)) env).bind fun v env1 => Res.ok (Od.vl v) env1).bind fun x env1 => match x.data env1 with | some d => Res.opt (truD d) env1 | none => .no) : Res Bool) = Res.opt o env := by
  cases o <;> rfl
end
end Pv

/-! PwD1: dicts: d.get(k), d.pop(k), d[k] = v. -/
set_option linter.all false
set_option maxRecDepth 100000
set_option maxHeartbeats 4000000
namespace Pv
open PySem PySem.Spec L2

section
variable {X : Cx} {C : Cf} {EX : EXT} {a b c e o : Expr} {pos apos cpos p1 : Pos} {ma mb : Env → Res Od} {mv : Env → Res Val}
theorem Dq.key {K : PySem.W.Frag} {H : Hp} {N : Addr → Prop} {x : V} {d : PyData} {k : Key} (h : Dq K H N x d) (e : keyD d = some k) : x = kV k := by
  cases keyD_of e
  cases k with
  | inl i => exact Dn.key (k := .inl i) (show Dn K H N x (.int i) from h) rfl
  | inr z => exact Dn.key (k := .inr z) (show Dn K H N x (.str z) from h) rfl
theorem own_dict {O : List Addr} {F : List (List Addr)} {H : Hp} {σ : St} {env : Env} {i : Nat} {ps : List (PyData × PyData)} {y : V} (R : ER C O F H σ env) (e : Env.at env i = some (.ow (.dic ps))) (ey : σ[i]? = some (some y)) :
    ∃ l kvs, y = .ref l ∧ H l = some (.dK kvs) ∧ DnKv C.K H (Nn O F) kvs ps ∧ l ∉ O ∧ fpAt F i = [l] := by
  obtain ⟨x, e1, l, e2, hf, xs, h1, h2⟩ := R.slot i _ e
  rw [e1] at ey; cases ey
  exact ⟨l, xs, e2, h1, h2, fun z => R.dis l z (flat_mem.mpr ⟨i, by rw [hf]; simp⟩), hf⟩
theorem dict_up {O P : List Addr} {F : List (List Addr)} {H : Hp} {σ : St} {env : Env} {i : Nat} {ps ps' : List (PyData × PyData)} {l : Addr} {xs xs' : List (Key × V)} (R : ER C (P ++ O) F H σ env) (e : Env.at env i = some (.ow (.dic ps))) (ey : σ[i]? = some (some (.ref l))) (hl : H l = some (.dK xs)) (d : DnKv C.K H (Nn O F) xs' ps') :
    ER C O F (upd H l (.dK xs')) σ (env.set i (some (.ow (.dic ps')))) ∧ Step F H F (upd H l (.dK xs')) ∧ Kept (Nn O F) H (upd H l (.dK xs')) := by
  obtain ⟨l', _, e1, _, _, _, hf⟩ := own_dict R e ey
  cases e1
  have hfl : l ∈ F.flatten := flat_mem.mpr ⟨i, by rw [hf]; simp⟩
  obtain ⟨kp, ls⟩ := upd_dn (H := H) (O := O) (O1 := O) (o := .dK xs') hfl (fun _ h => h) (fun u e => by rw [hl] at e; cases e; trivial)
  obtain ⟨R2, s2⟩ := R.turn rfl (fun _ h => List.mem_append_right _ h) e ey (by rw [hl]; simp) (o := .dK xs') trivial (m' := .dic ps') ⟨rfl, _, upd_same, DnKv.mono kp ls _ _ d⟩
  exact ⟨R2, s2, kp⟩
theorem set_dict (hu : X.A.units + 1 < cLine) : PSet X fun o i v H Q => ∃ a H', o = .ref a ∧ DPut H a i v H' ∧ Q H' := by
  intro pins s σ H o i v ov iv u Q I ro ri rv h
  obtain ⟨a, H', rfl, g, q⟩ := h
  cases ro
  exact d_setItem hu I g ri rv fun s' I' => ⟨H', I', q⟩
/-- x[k] = e, x a dict -/
theorem r_dset {x : Str} {i : Nat} (hK : C.K = X.K) (hu : X.A.units + 1 < cLine) (hx : PE X (.Name x p1) (tVar i)) (he : PE X e (TV C EX mv)) (hk : PE X a (TO C EX ma)) (hsw : swapsWithSole [.Subscript (.Name x p1) a cpos] e pos.line X.env = pure false)
    (hw : swappedStores [.Subscript (.Name x p1) a cpos] e X.env = pure none) (h1 : (assignEach [.Subscript (.Name x p1) a cpos] X.env).map (·.2) = [assign (.Subscript (.Name x p1) a cpos) X.env])
    (ha : ∀ v, assign (.Subscript (.Name x p1) a cpos) X.env v = (do
      let ov ← holding [v] (eval (.Name x p1) X.env)
      let iv ← holding [v, ov] (eval a X.env)
      standAt cpos
      holding [v, ov, iv] (setItem ov iv v)
      release [v, ov, iv] [])) :
    PS X (.Assign [.Subscript (.Name x p1) a cpos] e pos) (TX C EX fun env => (mv env).bind fun v env1 => match v.share, env1.at i with
    | some d, some (.ow (.dic _)) => (ma env1).bind fun y env2 => match env2.at i, y.data env2 with
      | some (.ow (.dic ps)), some kd => match keyD kd with
        | some kk => if ps.length < most then .ok .next (env2.set i (some (.ow (.dic (putD ps kk d))))) else .no
        | none => .no
      | _, _ => .no
    | _, _ => .no) := (ps_asg he (pg_sub hx hk (set_dict hu) ha) hsw hw h1).weak fun D σ H q => by
  obtain ⟨O, F, env, R, q⟩ := tx_iff.mp q
  refine sopV R q fun v env1 F1 P z H1 R1 s1 f1 r1 k => ?_
  split at k
  · rename_i d ds0 e2 e0
    obtain ⟨y0, ey, _⟩ := R1.slot i _ e0
    obtain ⟨l, xs0, rfl, _⟩ := own_dict R1 e0 ey
    refine ⟨.ref l, ey, TO.intro R1 (fun o env2 e3 F2 P2 y H2 R2 s2 f2 r2 => ?_) (fun ex env' e3 F' H' R' t => ?_) (fun e3 => ?_)⟩
    · rw [e3] at k
      replace k : FinS C EX O F H D (match env2.at i, o.data env2 with | some (.ow (.dic ps)), some kd => (match keyD kd with | some kk => if ps.length < most then .ok .next (env2.set i (some (.ow (.dic (putD ps kk d))))) else .no | none => .no) | _, _ => .no) := k
      split at k
      · rename_i ps kd e4 e5
        split at k
        · rename_i kk e6
          split at k
          · rename_i hz
            obtain ⟨l', xs, e7, h1, h2, _⟩ := own_dict R2 e4 ey
            cases e7
            have dq := OR.data1 R2 r2 e5
            have R3 : ER C (P ++ O) F2 H2 σ env2 := R2.drop fun a ha => List.mem_append_right _ ha
            have dn := share_later R R1 f1 r1 s2 R3 e2
            have h3 : DnKv C.K H2 (Nn O F2) xs ps := DnKv.mono Kept.rfl' Nn.cut _ _ (DnKv.mono Kept.rfl' Nn.cut _ _ h2)
            obtain ⟨R4, s4, _⟩ := dict_up R3 e4 ey h1 (h3.put (k := kk) dn)
            have ek : y = kV kk := Dq.key dq e6
            subst ek
            exact ⟨l, _, rfl, DPut.k h1 (by rw [h2.length, ← most_eq]; exact hz), k σ F2 _ R4 ((s1.trans s2).trans s4)⟩
          · exact k.elim
        · exact k.elim
      · exact k.elim
    · rw [e3] at k
      exact k σ F' H' (R'.drop fun a ha => List.mem_append_right _ ha) (s1.trans t)
    · rw [e3] at k; exact k
  · exact k.elim
theorem m1_of {m : Str} (hbase : attributeBase o m X.env (eval o X.env) = eval o X.env) (hline : (apos.endLine == cpos.line) = true) (hs : NoStar e) : M1 X o m apos e cpos :=
  ⟨hbase, by rw [hs [] X.env]; rfl, hline, by rw [hs [] X.env]; rfl⟩
/-- d.get(k) -/
theorem r_dget (hK : C.K = X.K) (hu : X.A.units + 1 < cLine) (ho : PE X o (TO C EX ma)) (ha : PE X e (TO C EX mb)) (m : M1 X o "get" apos e cpos) :
    PE X (.Call (.Attribute o "get" apos) [e] [] cpos) (TV C EX fun env => (ma env).bind fun x env1 => match x.data env1 with
    | some (.dict _) => (mb env1).bind fun y env2 => match x.data env2, y.data env2 with
      | some (.dict ps), some d => Res.opt ((keyD d).map fun k => .sh ((lookD ps k).getD .none)) env2
      | _, _ => .no
    | _ => .no) := (pe_dget1 hu ho ha m).weak fun σ H Q q => by
  obtain ⟨O, F, env, R, q⟩ := rg_iff.mp q
  refine op1 R q fun o env1 F1 P1 x H1 R1 s1 f1 r1 h1 => ?_
  split at h1
  · rename_i ps0 e1
    have d0 := OR.data1 R1 r1 e1
    obtain ⟨b, rfl, hb⟩ : ∃ b, x = .ref b ∧ IsD H1 b := by
      obtain ⟨b, kvs, rfl, g1, _⟩ := d0
      exact ⟨b, rfl, .inl ⟨kvs, g1⟩⟩
    refine ⟨b, rfl, hb, TO.intro R1 (fun p env2 e2 F2 P2 y H2 R2 s2 f2 r2 => ?_) (fun e env' e2 => ?_) (fun e2 => ?_)⟩
    · rw [e2] at h1
      obtain ⟨F', P, R', s', f', r'⟩ := PVs.cons R1 s1 f1 r1 ⟨F2, P2, R2, s2, f2, r2⟩
      replace h1 : Fin C EX (PV C) O F H σ Q (match o.data env2, p.data env2 with | some (.dict ps), some d => Res.opt ((keyD d).map fun k => .sh ((lookD ps k).getD .none)) env2 | _, _ => .no) := h1
      split at h1
      · rename_i ps d e3 e4
        obtain ⟨d1, d2⟩ := OR.data2 R' r' e3 e4
        cases ek : keyD d with
        | none => rw [ek] at h1; exact h1.elim
        | some k =>
          rw [ek] at h1
          have ey : y = kV k := Dq.key d2 ek
          subst ey
          obtain ⟨b', kvs, eb, g1, g2⟩ := d1
          cases eb
          · refine ⟨valV kvs k, .inl ⟨_, _, g1, rfl, rfl⟩, ?_⟩
            have dz : Dn C.K H2 (Nn (P ++ O) F') ((valV kvs k).getD .non) ((lookD ps k).getD .none) := by
              rcases look_of k g2 with ⟨q1, q2⟩ | ⟨v, w, q1, q2, q3⟩
              · rw [q1, q2]; exact .non
              · rw [q1, q2]; exact q3
            exact fin_new R' s' f' h1 _ _ (New.same dz)
      · exact h1.elim
    · rw [e2] at h1
      exact Fin.ex_of s1 h1
    · rw [e2] at h1; exact h1
  · exact h1.elim
/-- d.pop(k) -/
theorem r_dpop {x : Str} {i : Nat} (hx : PE X (.Name x p1) (tVar i)) (ha : PE X a (TO C EX ma)) (m : M1 X (.Name x p1) "pop" apos a cpos) :
    PE X (.Call (.Attribute (.Name x p1) "pop" apos) [a] [] cpos) (TV C EX fun env => match env.at i with
    | some (.ow (.dic _)) => (ma env).bind fun y env1 => match env1.at i, y.data env1 with
      | some (.ow (.dic ps)), some kd => match keyD kd with
        | some k => match lookD ps k with
          | some d => .ok (.sh d) (env1.set i (some (.ow (.dic (dropD ps k)))))
          | none => .no
        | none => .no
      | _, _ => .no
    | _ => .no) := (pe_dpop1 hx ha m).weak fun σ H Q q => by
  obtain ⟨O, F, env, R, q⟩ := rg_iff.mp q
  split at q
  · rename_i ps0 e0
    obtain ⟨y, ey, _⟩ := R.slot i _ e0
    obtain ⟨l, xs0, rfl, h0, _⟩ := own_dict R e0 ey
    refine ⟨.ref l, ey, l, rfl, .inl ⟨xs0, .inl h0⟩, op1 R q fun o env1 F1 P z H1 R1 s1 f1 r1 k => ?_⟩
    split at k
    · rename_i ps kd e1 e2
      split at k
      · rename_i kk e3
        split at k
        · rename_i d e4
          obtain ⟨l', xs, e5, h1, h2, _⟩ := own_dict R1 e1 ey
          cases e5
          have dq := OR.data1 R1 r1 e2
          have ez : z = kV kk := Dq.key dq e3
          subst ez
          have R2 : ER C ([] ++ O) F1 H1 σ env1 := R1.drop fun a ha => List.mem_append_right _ ha
          have h3 : DnKv C.K H1 (Nn O F1) xs ps := DnKv.mono Kept.rfl' (Nn.cut (P := P) (O := O) (F := F1) (H := H1)) _ _ h2
          obtain ⟨R3, s3, kp⟩ := dict_up R2 e1 ey h1 (h3.drop (k := kk))
          rcases look_of kk h3 with ⟨q1, q2⟩ | ⟨v, w, q1, q2, q3⟩
          · rw [q2] at e4; cases e4
          · rw [q2] at e4
            cases e4
            refine ⟨xs, kk, v, h1, rfl, q1, ?_⟩
            exact k v _ ⟨F1, [], R3, s1.trans s3, fun a ha => by simp at ha, rfl, Dn.mono kp (fun b z => .inl z) _ _ q3⟩
        · exact k.elim
      · exact k.elim
    · exact k.elim
  · exact q.elim
end
end Pv

/-! PwD2: len(set(..)), d.setdefault(k, []).append(e), what is never reached. -/
set_option linter.all false
set_option maxRecDepth 100000
set_option maxHeartbeats 4000000
namespace Pv
open PySem PySem.Spec L2

/-! ### len(set(..)) of whole numbers -/
theorem range_getD : ∀ ns : List Int, (List.range ns.length).map (fun i => ns.getD i 0) = ns := by
  intro ns
  refine List.ext_getElem? fun i => ?_
  rw [List.getElem?_map]
  by_cases h : i < ns.length
  · rw [List.getElem?_range h]
    simp [h]
  · rw [List.getElem?_eq_none (by simp; omega), List.getElem?_eq_none (by omega)]
    rfl
theorem first_nub (ns : List Int) : PyProof.Rows.firstMet (fun i => ns.getD i 0) ns.length = nubI ns := by
  unfold PyProof.Rows.firstMet nubI
  rw [range_getD]
  congr 1
  funext σ v
  unfold PyProof.Rows.step_dedup
  by_cases h : v ∈ σ
  · rw [if_pos h, if_pos (List.any_eq_true.mpr ⟨v, h, by simp⟩)]
  · rw [if_neg h, if_neg fun z => h ?_]
    obtain ⟨w, hw, e⟩ := List.any_eq_true.mp z
    rwa [← beq_iff_eq.mp e]
theorem nub_len (ns : List Int) : (nubI ns).length ≤ ns.length := by
  rw [← first_nub]
  exact PyProof.Rows.firstMet_length_le _ _
theorem nums_of : ∀ {ns : List Int} {us : List Value}, Vals (ns.map V.int) us → PyProof.Rows.IntsAre us ns
  | [], _, .nil => .nil
  | m :: r, _, .cons q t => by
    obtain ⟨k, e⟩ := q
    rw [e]
    exact .cons m k (nums_of t)
def tLenN (K : PySem.W.Frag) (ta : TE) : TE := fun σ H Q => ta σ H fun x H1 => ∃ (l : Addr) (ns : List Int), x = .ref l ∧ SqL K H1 l (ns.map V.int) ∧ ns.length ≤ 4000 ∧ Q (.int ((nubI ns).length : Nat)) H1
theorem pe_lenN {X : Cx} {e : Expr} {te : TE} {p1 p2 p3 p4 : Pos} (gl : Gl X "len") (ml : X.mg "len" = none) (gs : Gl X "set") (ms : X.mg "set" = none) (ce : PE X e te) (cm : X.calm = true) (st : NoStar e) :
    PE X (.Call (.Name "len" p1) [.Call (.Name "set" p2) [e] [] p3] [] p4) (tLenN X.K te) := ⟨fun ps0 s0 τ G R J w => by
  refine PyProof.Rows.Call_ (ld_blt J gl ml boot_len (PyProof.Rows.callWith_builtin1 (PyProof.Rows.args_cons ?_ rfl) rfl rfl))
  refine PyProof.Rows.Call_ (ld_blt J gs ms PyProof.Rows.boot_set (PyProof.Rows.callWith_type1 (PyProof.Rows.args_cons (thn (ce.run ps0 s0 τ G _ J w) fun v s1 ⟨x, G1, J1, rx, w1⟩ => PyProof.Rows.args_nil ?_) (st _ _)) (st _ _) rfl))
  obtain ⟨l, ns, ex, sq, few, w1⟩ := w1
  subst ex
  cases rx
  obtain ⟨its, rel, pl, _⟩ := J1.list sq
  have size : its.toArray.size = ns.length := by rw [List.size_toArray, ← rel.length, List.length_map]
  refine PySem.call_set_list (J1.ok.hd cm) pl.isList (by simpa using nums_of rel) (by rw [size]; unfold scanBound; omega) fun h2 t2 laid kept => PyProof.Rows.args_nil ?_
  rw [size, first_nub] at laid
  obtain ⟨o, es, ep, t, ho, hex, hd, _, _, _, hf, hn⟩ := laid
  have J2 : Inv X ps0 τ G1 { s1 with heap := h2, toks := t2 } := J1.kept fun b o q => kept b o (Heap.lt_size q) q
  have le := nub_len ns
  exact PySem.call_len_set ho hex hd hf (by rw [hn]; omega) ⟨.int (nubI ns).length, G1, J2.tok _, ⟨_, by rw [hn]⟩, w1⟩⟩
section
variable {X : Cx} {C : Cf} {EX : EXT} {a k e o : Expr} {pos apos cpos apos2 cpos2 p1 p2 p3 lp : Pos} {ma mk : Env → Res Od} {mv : Env → Res Val} {bor : List Nat}
theorem r_lenSet (hK : C.K = X.K) (gl : Gl X "len") (ml : X.mg "len" = none) (gs : Gl X "set") (ms : X.mg "set" = none) (ha : PE X a (TO C EX ma)) (cm : X.calm = true) (st : NoStar a) :
    PE X (.Call (.Name "len" p1) [.Call (.Name "set" p2) [a] [] p3] [] pos) (TV C EX fun env => (ma env).bind fun x env1 => match x.data env1 with
    | some (.list ds) => match intsD ds with
      | some ns => if ns.length ≤ 4000 then .ok (.sh (.int (nubI ns).length)) env1 else .no
      | none => .no
    | _ => .no) := (pe_lenN gl ml gs ms ha cm st).weak fun σ H Q q => by
  obtain ⟨O, F, env, R, q⟩ := rg_iff.mp q
  refine op1 R q fun o env1 F1 P x H1 R1 s1 f1 r1 w => ?_
  split at w
  · rename_i ds e1
    split at w
    · rename_i ns e2
      split at w
      · rename_i few
        obtain ⟨l, xs, ex, sq, dn⟩ := OR.data1 R1 r1 e1
        rw [intsD_of e2] at dn
        rw [dn.ofInts] at sq
        rw [← hK]
        exact ⟨l, ns, ex, sq, few, fin_new R1 s1 f1 w _ _ (New.same (.int _))⟩
      · exact w.elim
    · exact w.elim
  · exact w.elim
theorem r_never {st : Stmt} : PS X st (TX C EX fun _ => .no) := ps_never.weak fun D σ H q => by
  obtain ⟨O, F, env, R, q⟩ := tx_iff.mp q
  exact q.elim
end
/-! ### a dict of lists -/
section
variable {K : PySem.W.Frag} {H H' : Hp} {N N' : Addr → Prop}
theorem DolKv.keys : ∀ {as : List Addr} {kvs : List (Key × V)} {ps : List (PyData × List PyData)}, DolKv K H N as kvs ps → ps.map (·.1) = kvs.map fun p => keyP p.1
  | _, _, _, .nil => rfl
  | _, _, _, .cons _ _ t => by rw [List.map_cons, List.map_cons, DolKv.keys t]
theorem DolKv.length : ∀ {as : List Addr} {kvs : List (Key × V)} {ps : List (PyData × List PyData)}, DolKv K H N as kvs ps → kvs.length = ps.length
  | _, _, _, .nil => rfl
  | _, _, _, .cons _ _ t => by rw [List.length_cons, List.length_cons, DolKv.length t]
theorem DolKv.any {k : Key} : ∀ {as : List Addr} {kvs : List (Key × V)} {ps : List (PyData × List PyData)}, DolKv K H N as kvs ps → (ps.any fun p => decide (keyD p.1 = some k)) = (valV kvs k).isSome
  | _, _, _, .nil => rfl
  | _, _, _, .cons (k := k') (l := l) (r := r) _ _ t => by
    rw [List.any_cons, DolKv.any t, keyD_P]
    by_cases h : k' = k
    · rw [valV_pos (p := (k', V.ref l)) h]
      simp [h]
    · rw [valV_neg (p := (k', V.ref l)) h]
      simp [h]
/-- the list at a key -/
theorem DolKv.find {k : Key} {v : V} : ∀ {as : List Addr} {kvs : List (Key × V)} {ps : List (PyData × List PyData)}, DolKv K H N as kvs ps → valV kvs k = some v → ∃ l xs ds, v = .ref l ∧ l ∈ as ∧ H l = some (.lst xs) ∧ DnAll K H N xs ds ∧ ∃ q, (q, ds) ∈ ps
  | _, _, _, .nil, e => by cases e
  | _, _, _, .cons (k := k') (l := l) (r := r) h1 h2 t, e => by
    by_cases h : k' = k
    · rw [valV_pos (p := (k', V.ref l)) h] at e
      cases e
      exact ⟨l, _, _, rfl, List.mem_cons_self, h1, h2, _, List.mem_cons_self⟩
    · rw [valV_neg (p := (k', V.ref l)) h] at e
      obtain ⟨l2, xs, ds, g1, g2, g3, g4, q, g5⟩ := DolKv.find t e
      exact ⟨l2, xs, ds, g1, List.mem_cons_of_mem _ g2, g3, g4, q, List.mem_cons_of_mem _ g5⟩
/-- one more at a key that stands -/
theorem DolKv.more {k : Key} {l : Addr} {xs : List V} {z : V} {d : PyData} (kp : ∀ b o, b ≠ l → H b = some o → H' b = some o) (dn : ∀ ys es, DnAll K H N ys es → DnAll K H' N' ys es) (hl : H l = some (.lst xs)) (hl' : H' l = some (.lst (xs ++ [z]))) (hz : Dn K H' N' z d) :
    ∀ {as : List Addr} {kvs : List (Key × V)} {ps : List (PyData × List PyData)}, DolKv K H N as kvs ps → as.Nodup → (kvs.map (·.1)).Nodup → valV kvs k = some (.ref l) → DolKv K H' N' as kvs (ps.map fun p => if keyD p.1 = some k then (p.1, p.2 ++ [d]) else p)
  | _, _, _, .nil, _, _, e => by cases e
  | _, _, _, .cons (k := k') (l := l') (xs := ys) (ds := ds) (as := as) (r := r) (ps := ps) h1 h2 t, na, nk, e => by
    rw [List.nodup_cons] at na
    rw [List.map_cons, List.nodup_cons] at nk
    by_cases h : k' = k
    · subst h
      rw [valV_pos (p := (k', V.ref l')) rfl] at e
      cases e
      rw [hl] at h1
      cases h1
      rw [List.map_cons, if_pos (keyD_P _)]
      refine .cons hl' ((dn _ _ h2).append (.cons hz .nil)) ?_
      have rest : ∀ {as : List Addr} {r : List (Key × V)} {ps : List (PyData × List PyData)}, DolKv K H N as r ps → l ∉ as → k' ∉ r.map (·.1) → DolKv K H' N' as r (ps.map fun p => if keyD p.1 = some k' then (p.1, p.2 ++ [d]) else p) := by
        intro as r ps t
        induction t with
        | nil => intro _ _; exact .nil
        | @cons k2 l2 ys2 ds2 as2 r2 ps2 g1 g2 g3 ih =>
          intro n1 n2
          rw [List.mem_cons, not_or] at n1
          rw [List.map_cons, List.mem_cons, not_or] at n2
          rw [List.map_cons, if_neg (by rw [keyD_P]; exact fun z => n2.1 (Option.some.inj z).symm)]
          exact .cons (kp _ _ (fun z => n1.1 z.symm) g1) (dn _ _ g2) (ih n1.2 n2.2)
      exact rest t na.1 nk.1
    · rw [valV_neg (p := (k', V.ref l')) h] at e
      obtain ⟨l2, _, _, g1, g2, _⟩ := DolKv.find t e
      cases g1
      rw [List.map_cons, if_neg (by rw [keyD_P]; exact fun z => h (Option.some.inj z))]
      exact .cons (kp _ _ (fun z => na.1 (z ▸ g2)) h1) (dn _ _ h2) (DolKv.more kp dn hl hl' hz t na.2 nk.2 e)
theorem DolKv.snoc {k : Key} {l : Addr} {xs : List V} {es : List PyData} (h1 : H l = some (.lst xs)) (h2 : DnAll K H N xs es) : ∀ {as : List Addr} {kvs : List (Key × V)} {ps : List (PyData × List PyData)}, DolKv K H N as kvs ps → DolKv K H N (as ++ [l]) (kvs ++ [(k, .ref l)]) (ps ++ [(keyP k, es)])
  | _, _, _, .nil => .cons h1 h2 .nil
  | _, _, _, .cons g1 g2 t => .cons g1 g2 (DolKv.snoc h1 h2 t)
end
end Pv

/-! PwD3: d.setdefault(k, []).append(e): the rule. -/
set_option linter.all false
set_option maxRecDepth 100000
set_option maxHeartbeats 4000000
namespace Pv
open PySem PySem.Spec L2

section
variable {C : Cf} {O : List Addr} {F F' : List (List Addr)} {H H' : Hp} {σ : St} {env : Env} {i : Nat}
theorem own_dol {ps : List (PyData × List PyData)} (R : ER C O F H σ env) (e : (Env.at env i).bind Val.dolOf = some ps) :
    ∃ m a as kvs, Env.at env i = some (.ow m) ∧ σ[i]? = some (some (.ref a)) ∧ fpAt F i = a :: as ∧ (a :: as).Nodup ∧ H a = some (.dK kvs) ∧ (kvs.map (·.1)).Nodup ∧ DolKv C.K H (Nn O F) as kvs ps := by
  cases q : Env.at env i with
  | none => rw [q] at e; cases e
  | some v =>
    rw [q] at e
    obtain ⟨x, e1, s⟩ := R.slot i v q
    have e' : v.dolOf = some ps := e
    unfold Val.dolOf at e'
    split at e'
    · cases e'
      obtain ⟨a, rfl, h1, kvs, h2, h3⟩ := s
      cases h3
      exact ⟨_, a, [], [], rfl, e1, h1, by simp, h2, by simp, .nil⟩
    · cases e'
      obtain ⟨a, rfl, as, kvs, h1, h2, h3, h4, h5⟩ := s
      exact ⟨_, a, as, kvs, rfl, e1, h1, by rw [← h1]; exact h2, h3, h4, h5⟩
    · cases e'
/-- an object that is looked after apart changes -/
theorem ER.prod {l : Addr} {o : HO} (R : ER C O F H σ env) (hl : l ∈ O) (nw : l ∈ C.bA ∨ C.H0 l = none) (mo : Mu o) : ER C O F (upd H l o) σ env := by
  obtain ⟨u, hu, mu⟩ := R.mt l (.inl hl)
  have kp : Kept (Nn O F) H (upd H l o) := fun b w q z => by
    by_cases hb : b = l
    · subst hb
      rcases z with z | z
      · exact absurd (.inl hl) z
      · rw [hu] at q; cases q
        exact absurd mu z
    · rw [upd_ne hb]; exact q
  refine ⟨R.lenσ, R.lenF, fun j v q => ?_, R.emp, R.nd, R.dis, fun b z => ?_, fun b w q n => ?_, R.new, fun b z => ?_, R.bor⟩
  · obtain ⟨x, e1, s⟩ := R.slot j v q
    refine ⟨x, e1, SR.mono kp (fun b z => .inl z) (fun b hb w q2 => ?_) s⟩
    have : b ≠ l := fun z => R.dis l hl (flat_mem.mpr ⟨j, by rw [← z]; exact hb⟩)
    rw [upd_ne this]; exact q2
  · by_cases hb : b = l
    · subst hb; exact ⟨o, upd_same, mo⟩
    · rw [upd_ne hb]; exact R.mt b z
  · have hb : b ≠ l := fun z => by
      subst z
      rcases nw with y | y
      · exact n y
      · rw [q] at y; cases y
    rw [upd_ne hb]; exact R.fr b w q n
  · by_cases hb : b = l
    · subst hb; rw [upd_same]; simp
    · rw [upd_ne hb]; exact R.old b z
theorem less_back {fp : List Addr} (hi : i < F.length) : Less H (Nn (fp ++ O) F) (Nn O (F.set i fp)) := fun b z => .inl (by
  rcases z with z | z
  · exact .inl (List.mem_append_right _ z)
  · obtain ⟨j, hj⟩ := flat_mem.mp z
    by_cases q : i = j
    · subst q
      rw [fp_set_same hi] at hj
      exact .inl (List.mem_append_left _ hj)
    · rw [fp_set_ne q] at hj
      exact .inr (flat_mem.mpr ⟨j, hj⟩))
/-- back into its slot -/
theorem dol_back {fp : List Addr} {a : Addr} {mo : MO} (R : ER C (fp ++ O) F H σ env) (e : σ[i]? = some (some (.ref a))) (nf : fp.Nodup) (off : ∀ b ∈ fp, b ∉ O) (nw : ∀ b ∈ fp, b ∈ C.bA ∨ C.H0 b = none) (bo : ∀ p ∈ C.B, p.1 ≠ i)
    (m : MR C.K H (Nn O (F.set i fp)) fp a mo) : ER C O (F.set i fp) H σ (env.set i (some (.ow mo))) := by
  have hi : i < env.length := by rw [← R.lenσ]; exact (List.getElem?_eq_some_iff.mp e).1
  have q := R.into (x := .ref a) (v := .ow mo) (fp := fp) (O := O) hi (fun _ h => List.mem_append_right _ h) (fun b hb => ⟨off b hb, .inl (List.mem_append_left _ hb)⟩) nf nw (fun h => absurd rfl (h mo)) (fun p hp z => absurd z (bo p hp)) ⟨a, rfl, m⟩
  have e3 : σ.set i (some (.ref a)) = σ := by
    refine List.ext_getElem? fun j => ?_
    by_cases q : i = j
    · subst q
      rw [List.getElem?_set_self (by rw [R.lenσ]; exact hi), e]
    · rw [List.getElem?_set_ne q]
  rwa [e3] at q
/-- the whole step -/
theorem dol_step {F1 F3 : List (List Addr)} {H1 H2 H3 H4 : Hp} {fp fp' : List Addr} (hi : i < F3.length) (hF : fpAt F i = fp) (s1 : Step (F.set i []) H F1 H1) (k2 : ∀ b o, b ∉ fp → H1 b = some o → H2 b = some o) (a2 : ∀ b, H1 b ≠ none → H2 b ≠ none)
    (s3 : Step F1 H2 F3 H3) (k4 : ∀ b o, b ∉ fp' → H3 b = some o → H4 b = some o) (a4 : ∀ b, H3 b ≠ none → H4 b ≠ none) (hp : ∀ b ∈ fp', b ∈ fp ∨ H b = none) : Step F H (F3.set i fp') H4 := by
  have sub : ∀ b ∈ (F.set i []).flatten, b ∈ F.flatten := fun b hb => by
    obtain ⟨j, hj⟩ := flat_mem.mp hb
    by_cases q : i = j
    · subst q
      by_cases hl : i < F.length
      · rw [fp_set_same hl] at hj
        simp at hj
      · rw [List.set_eq_of_length_le (by omega)] at hj
        exact flat_mem.mpr ⟨i, hj⟩
    · rw [fp_set_ne q] at hj
      exact flat_mem.mpr ⟨j, hj⟩
  have inF : ∀ b ∈ fp, b ∈ F.flatten := fun b hb => flat_mem.mpr ⟨i, by rw [hF]; exact hb⟩
  have none2 : ∀ b, H2 b = none → H b = none := fun b h => by
    cases q : H b with
    | none => rfl
    | some o => exact absurd h (a2 b (s1.alive b (by rw [q]; simp)))
  refine ⟨fun b o q n => ?_, fun b z => ?_, fun b z => a4 b (s3.alive b (a2 b (s1.alive b z)))⟩
  · have q1 := s1.keep b o q fun z => n (sub b z)
    have q2 := k2 b o (fun z => n (inF b z)) q1
    have q3 := s3.keep b o q2 fun z => (s1.new b z).elim (fun y => n (sub b y)) fun y => by rw [q] at y; cases y
    exact k4 b o (fun z => (hp b z).elim (fun y => n (inF b y)) fun y => by rw [q] at y; cases y) q3
  · obtain ⟨j, hj⟩ := flat_mem.mp z
    by_cases q : i = j
    · subst q
      rw [fp_set_same hi] at hj
      exact (hp b hj).imp (inF b) id
    · rw [fp_set_ne q] at hj
      rcases s3.new b (flat_mem.mpr ⟨j, hj⟩) with y | y
      · exact (s1.new b y).imp (sub b) id
      · exact .inr (none2 b y)
end
theorem putK_new {kvs : List (Key × V)} {k : Key} {v : V} (h : valV kvs k = none) : putK kvs k v = kvs ++ [(k, v)] := by
  unfold putK
  rw [valV_any, h]
  rfl
theorem valV_in {k : Key} : ∀ {kvs : List (Key × V)}, valV kvs k = none → k ∉ kvs.map (·.1)
  | [], _ => by simp
  | p :: r, h => by
    by_cases e : p.1 = k
    · rw [valV_pos e] at h; cases h
    · rw [valV_neg e] at h
      rw [List.map_cons, List.mem_cons, not_or]
      exact ⟨fun z => e z.symm, valV_in h⟩
section
variable {X : Cx} {C : Cf} {EX : EXT} {k e : Expr} {pos apos cpos apos2 cpos2 p1 lp : Pos} {mk : Env → Res Od} {mv : Env → Res Val} {bor : List Nat}
/-- d.setdefault(k, []).append(e) -/
theorem r_dsa {x : Str} {i : Nat} (hK : C.K = X.K) (hb : ∀ p ∈ C.B, p.1 ∈ bor) (hx : PE X (.Name x p1) (tVar i)) (hk : PE X k (TO C EX mk)) (he : PE X e (TV C EX mv)) (m2 : M2 X (.Name x p1) "setdefault" apos k (.List [] lp) cpos)
    (hline : (apos2.endLine == cpos2.line) = true) (hfew : ((backTo cpos2 (starEach [e] X.env)).all (fun x => !x.1) && (backToKw cpos2 (keywordEach [] X.env)).all (fun x => x.1.isSome) && decide ([e].length + ([] : List Keyword).length + (if ([] : List Keyword).isEmpty then 0 else 1) < 30)) = true) (hs : NoStar e)
    (hplain : (backTo cpos2 (starEach [] X.env)).any (·.1) = false) (hsw : swapsWith (.Call (.Attribute (.Call (.Attribute (.Name x p1) "setdefault" apos) [k, .List [] lp] [] cpos) "append" apos2) [e] [] cpos2) none pos.line X.env = pure false) :
    PS X (.Expr (.Call (.Attribute (.Call (.Attribute (.Name x p1) "setdefault" apos) [k, .List [] lp] [] cpos) "append" apos2) [e] [] cpos2) pos) (TX C EX fun env => if i ∈ bor then .no else match (env.at i).bind Val.dolOf with
    | some ps => (mk (env.set i none)).bind fun y env1 => match (y.data env1).bind keyD with
      | some kk => if ps.length < most ∧ (ps.all fun p => decide (p.2.length < most)) = true then (mv env1).bind fun v env2 => match v.share with
          | some d => .ok .next (env2.set i (some (.ow (.dol (putL ps kk d)))))
          | none => .no
        else .no
      | none => .no
    | none => .no) := (ps_expr (pe_bm F.plainAttrs_list F.slot_list_append F.type_list_append mt_append (pe_dsetd hx hk (pe_lst pa_nil) m2) (pa_cons he pa_nil (hs _ _)) (base_of rfl) hfew hline (hs _ _) hplain) hsw).weak fun D σ H q => by
  obtain ⟨O, F, env, R, q⟩ := tx_iff.mp q
  by_cases ib : i ∈ bor
  · rw [if_pos ib] at q; exact q.elim
  rw [if_neg ib] at q
  have bo : ∀ p ∈ C.B, p.1 ≠ i := fun p hp z => ib (z ▸ hb p hp)
  split at q
  case h_2 => exact q.elim
  rename_i ps e0
  obtain ⟨mo, a, as, kvs, em, ey, hf, nda, ha, nk, dl⟩ := own_dol R e0
  have hiF : i < F.length := by rw [R.lenF]; exact at_lt em
  have R0 : ER C ((a :: as) ++ O) (F.set i []) H σ (env.set i none) := by rw [← hf]; exact R.move (i := i)
  have inF : ∀ b ∈ a :: as, b ∈ F.flatten := fun b hb => flat_mem.mpr ⟨i, by rw [hf]; exact hb⟩
  have nw : ∀ b ∈ a :: as, b ∈ C.bA ∨ C.H0 b = none := fun b hb => R.new b (inF b hb)
  have offO : ∀ b ∈ a :: as, b ∉ O := fun b hb z => R.dis b z (inF b hb)
  have dl0 : DolKv C.K H (Nn ((a :: as) ++ O) (F.set i [])) as kvs ps := DolKv.mono Kept.rfl' (fun b z => .inl (by
    rcases z with z | z
    · rcases List.mem_append.mp z with y | y
      · exact .inr (inF b y)
      · exact .inl y
    · obtain ⟨j, hj⟩ := flat_mem.mp z
      by_cases w : i = j
      · subst w
        rw [fp_set_same hiF] at hj
        simp at hj
      · rw [fp_set_ne w] at hj
        exact .inr (flat_mem.mpr ⟨j, hj⟩))) (fun _ _ _ h => h) dl
  have s00 : Step F H (F.set i []) H := Step.less R fun b h => by simp at h
  have dropO : ∀ {F' : List (List Addr)} {H' : Hp} {σ' : St} {env' : Env}, ER C ((a :: as) ++ O) F' H' σ' env' → ER C O F' H' σ' env' := fun R' => R'.drop fun b hb => List.mem_append_right _ hb
  refine ⟨.ref a, ey, a, rfl, .inl ⟨kvs, .inl ha⟩, TO.intro R0 (fun o env1 e1 F1 P1 y H1 R1 s1 f1 r1 => ?_) (fun ex env' e1 F' H' R' t => ?_) (fun e1 => ?_)⟩
  case refine_2 =>
    rw [e1] at q
    exact q σ F' H' (dropO R') (s00.trans t)
  case refine_3 => rw [e1] at q; exact q
  rw [e1] at q
  replace q : FinS C EX O F H D (match (o.data env1).bind keyD with
      | some kk => if ps.length < most ∧ (ps.all fun p => decide (p.2.length < most)) = true then (mv env1).bind fun v env2 => match v.share with
          | some d => .ok .next (env2.set i (some (.ow (.dol (putL ps kk d)))))
          | none => .no
        else .no
      | none => .no) := q
  split at q
  case h_2 => exact q.elim
  rename_i kk ek
  by_cases hz : ps.length < most ∧ (ps.all fun p => decide (p.2.length < most)) = true
  case neg => rw [if_neg hz] at q; exact q.elim
  rw [if_pos hz] at q
  obtain ⟨kd, ek1, ek2⟩ : ∃ kd, o.data env1 = some kd ∧ keyD kd = some kk := by
    cases w : o.data env1 with
    | none => rw [w] at ek; cases ek
    | some kd => rw [w] at ek; exact ⟨kd, rfl, ek⟩
  have ekey : y = kV kk := Dq.key (OR.data1 R1 r1 ek1) ek2
  subst ekey
  have R1' : ER C ((a :: as) ++ O) F1 H1 σ env1 := R1.drop fun b hb => List.mem_append_right _ hb
  have keep1 : ∀ b ∈ a :: as, ∀ u, H b = some u → H1 b = some u := fun b hb u z => s1.keep b u z (R0.dis b (List.mem_append_left _ hb))
  have ha1 : H1 a = some (.dK kvs) := keep1 a List.mem_cons_self _ ha
  have dl1 : DolKv C.K H1 (Nn ((a :: as) ++ O) F1) as kvs ps := DolKv.mono (R0.kept s1) (fun b z => (R0.less (P := []) s1 (fun b hb => by simp at hb)) b z) (fun b hb u z => keep1 b (List.mem_cons_of_mem _ hb) u z) dl0
  refine ⟨by simp, fun p hp => ?_⟩
  have gk : ∀ b u, H1 b = some u → upd H1 p (.lst []) b = some u := fun b u z => by rw [upd_ne (ne_of_none z hp)]; exact z
  have hpH : H p = none := by
    cases w : H p with
    | none => rfl
    | some u => exact absurd hp (s1.alive p (by rw [w]; simp))
  have pa : p ∉ a :: as := fun z => by
    obtain ⟨u, w, _⟩ := R0.mt p (.inl (List.mem_append_left _ z))
    rw [hpH] at w; cases w
  obtain ⟨R2, g2⟩ := R1'.grow (H' := upd H1 p (.lst [])) gk (fp := [p]) fun b hb => by
    have e : b = p := by simpa using hb
    subst e
    exact ⟨hp, _, upd_same, trivial⟩
  have dl2 : DolKv C.K (upd H1 p (.lst [])) (Nn ([p] ++ ((a :: as) ++ O)) F1) as kvs ps := DolKv.mono (fun b u z _ => gk b u z) (fun b z => by
    rcases z with z | z
    · rcases List.mem_append.mp z with y | y
      · have e : b = p := by simpa using y
        subst e
        exact .inr hp
      · exact .inl (.inl y)
    · exact .inl (.inr z)) (fun b _ u z => gk b u z) dl1
  have ha2 : upd H1 p (.lst []) a = some (.dK kvs) := gk a _ ha1
  have exq : ∀ {ex : Exn} {env' : Env} {F' : List (List Addr)} {H' : Hp} {H2 : Hp}, mv env1 = .ex ex env' → ER C ([p] ++ ((a :: as) ++ O)) F' H' σ env' → (∀ b u, b ∉ a :: as → H1 b = some u → H2 b = some u) → (∀ b, H1 b ≠ none → H2 b ≠ none) → Step F1 H2 F' H' → EX ex env' σ H' := fun {ex env' F' H' H2} e2 R' k2 a2 t => by
    rw [e2] at q
    have R'' : ER C O F' H' σ env' := R'.drop fun b hb => List.mem_append_right _ (List.mem_append_right _ hb)
    have lenF' : i < F'.length := by rw [R''.lenF, ← R''.lenσ]; exact (List.getElem?_eq_some_iff.mp ey).1
    refine q σ F' H' R'' ⟨fun b u z n => ?_, fun b z => ?_, fun b z => t.alive b (a2 b (s1.alive b z))⟩
    · have q1 := s1.keep b u z fun w => n (by
        obtain ⟨j, hj⟩ := flat_mem.mp w
        by_cases v : i = j
        · subst v
          rw [fp_set_same hiF] at hj
          simp at hj
        · rw [fp_set_ne v] at hj
          exact flat_mem.mpr ⟨j, hj⟩)
      have q2 := k2 b u (fun w => n (inF b w)) q1
      refine t.keep b u q2 fun w => ?_
      rcases (s00.trans s1).new b w with y | y
      · exact n y
      · rw [z] at y; cases y
    · rcases t.new b z with y | y
      · exact (s00.trans s1).new b y
      · refine .inr ?_
        cases w : H b with
        | none => rfl
        | some u => exact absurd y (a2 b (s1.alive b (by rw [w]; simp)))
  have ap : a ≠ p := fun z => pa (by rw [← z]; exact List.mem_cons_self)
  have ana : a ∉ as := (List.nodup_cons.mp nda).1
  refine ⟨kvs, kk, ha2, rfl, ?_, fun v hv => ?_, fun hv => ?_⟩
  · rw [dl.length, ← most_eq]; exact hz.1
  · obtain ⟨l, xs, ds, rfl, hl, hl2, _, q0, hq0⟩ := dl2.find hv
    have al : a ≠ l := fun z => ana (by rw [z]; exact hl)
    refine ⟨.inl ⟨rfl, xs, SqL.of hl2⟩, TV.intro R2 (fun v env2 e2 F3 P3 z H3 R3 s3 f3 r3 => ?_) (fun ex env' e2 F' H' R' t => exq e2 R' (fun b u _ w => gk b u w) g2.alive t) (fun e2 => by rw [e2] at q; exact q)⟩
    rw [e2] at q
    replace q : FinS C EX O F H D (match v.share with
          | some d => .ok .next (env2.set i (some (.ow (.dol (putL ps kk d)))))
          | none => .no) := q
    split at q
    case h_2 => exact q.elim
    rename_i d e3
    have dnz : Dn C.K H3 (Nn ([p] ++ ((a :: as) ++ O)) F3) z d := share_dn R3 (fresh_off R2 f3) (fun b h => h) r3 e3
    have R3' : ER C ((a :: as) ++ O) F3 H3 σ env2 := R3.drop fun b hb => List.mem_append_right _ (List.mem_append_right _ hb)
    have keep3 : ∀ b ∈ a :: as, ∀ u, upd H1 p (.lst []) b = some u → H3 b = some u := fun b hb u w => s3.keep b u w (R2.dis b (List.mem_append_right _ (List.mem_append_left _ hb)))
    have dl3 : DolKv C.K H3 (Nn ([p] ++ ((a :: as) ++ O)) F3) as kvs ps := DolKv.mono (R2.kept s3) (fun b w => (R2.less (P := []) s3 (fun b hb => by simp at hb)) b w) (fun b hb u w => keep3 b (List.mem_cons_of_mem _ hb) u w) dl2
    have hl3 : H3 l = some (.lst xs) := keep3 l (List.mem_cons_of_mem _ hl) _ hl2
    have hlen : xs.length < sizeLine := by
      obtain ⟨l', xs', ds', g1, _, g3, g4, q1, g5⟩ := dl2.find hv
      cases g1
      rw [hl2] at g3
      cases g3
      rw [g4.length, ← most_eq]
      simpa using List.all_eq_true.mp hz.2 _ g5
    refine ⟨l, xs, z, rfl, rfl, hl3, hlen, ?_⟩
    have hi3 : i < F3.length := by rw [R3'.lenF, ← R3'.lenσ]; exact (List.getElem?_eq_some_iff.mp ey).1
    have R4 := R3'.prod (l := l) (o := .lst (xs ++ [z])) (List.mem_append_left _ (List.mem_cons_of_mem _ hl)) (nw l (List.mem_cons_of_mem _ hl)) trivial
    have kp : Kept (Nn ([p] ++ ((a :: as) ++ O)) F3) H3 (upd H3 l (.lst (xs ++ [z]))) := fun b u w h => by
      by_cases hbl : b = l
      · subst hbl
        rcases h with h | h
        · exact absurd (.inl (List.mem_append_right _ (List.mem_append_left _ (List.mem_cons_of_mem _ hl)))) h
        · rw [hl3] at w; cases w
          exact absurd trivial h
      · rw [upd_ne hbl]; exact w
    have ls : Less H3 (Nn ([p] ++ ((a :: as) ++ O)) F3) (Nn O (F3.set i (a :: as))) := fun b w => by
      rcases less_back (H := H3) hi3 b w with y | y
      · exact .inl (y.elim (fun y => .inl (List.mem_append_right _ y)) .inr)
      · exact .inr y
    have dl4 := DolKv.more (k := kk) (d := d) (fun b o hbl w => by rw [upd_ne hbl]; exact w) (fun ys es w => DnAll.mono kp ls _ _ w) hl3 upd_same (Dn.mono kp ls _ _ dnz) dl3 (List.nodup_cons.mp nda).2 nk hv
    have ha4 : upd H3 l (.lst (xs ++ [z])) a = some (.dK kvs) := by rw [upd_ne al]; exact keep3 a List.mem_cons_self _ ha2
    have eput : putL ps kk d = ps.map fun p => if keyD p.1 = some kk then (p.1, p.2 ++ [d]) else p := by
      unfold putL
      rw [if_pos (by rw [dl.any, hv]; rfl)]
    refine q σ (F3.set i (a :: as)) _ (dol_back R4 ey nda offO nw bo ⟨as, kvs, rfl, nda, ha4, nk, by rw [eput]; exact dl4⟩) (dol_step hi3 hf s1 (fun b u _ w => gk b u w) g2.alive s3 (fun b u n w => ?_) (fun b w => ?_) fun b w => .inl w)
    · rw [upd_ne fun y => n (by rw [y]; exact List.mem_cons_of_mem _ hl)]; exact w
    · by_cases hbl : b = l
      · subst hbl; rw [upd_same]; simp
      · rw [upd_ne hbl]; exact w
  · rw [putK_new hv]
    have pO : p ∉ O := fun z => by
      obtain ⟨u, w, _⟩ := R.mt p (.inl z)
      rw [hpH] at w; cases w
    have R2' := R2.prod (l := a) (o := .dK (kvs ++ [(kk, V.ref p)])) (List.mem_append_right _ (List.mem_append_left _ List.mem_cons_self)) (nw a List.mem_cons_self) trivial
    have hp2 : upd (upd H1 p (.lst [])) a (.dK (kvs ++ [(kk, V.ref p)])) p = some (.lst []) := by rw [upd_ne ap.symm, upd_same]
    have kp2 : ∀ b u, b ∉ a :: as → H1 b = some u → upd (upd H1 p (.lst [])) a (.dK (kvs ++ [(kk, V.ref p)])) b = some u := fun b u n w => by
      rw [upd_ne fun y => n (by rw [y]; exact List.mem_cons_self)]
      exact gk b u w
    have al2 : ∀ b, H1 b ≠ none → upd (upd H1 p (.lst [])) a (.dK (kvs ++ [(kk, V.ref p)])) b ≠ none := fun b w => by
      by_cases hba : b = a
      · subst hba; rw [upd_same]; simp
      · rw [upd_ne hba]; exact g2.alive b w
    have dl2' : DolKv C.K (upd (upd H1 p (.lst [])) a (.dK (kvs ++ [(kk, V.ref p)]))) (Nn ([p] ++ ((a :: as) ++ O)) F1) (as ++ [p]) (kvs ++ [(kk, .ref p)]) (ps ++ [(keyP kk, [])]) := DolKv.snoc hp2 .nil (DolKv.mono (fun b u w h => by
      by_cases hba : b = a
      · subst hba
        rcases h with h | h
        · exact absurd (.inl (List.mem_append_right _ (List.mem_append_left _ List.mem_cons_self))) h
        · rw [ha2] at w; cases w
          exact absurd trivial h
      · rw [upd_ne hba]; exact w) (fun b w => .inl w) (fun b hb u w => by rw [upd_ne fun y => ana (by rw [← y]; exact hb)]; exact w) dl2)
    refine ⟨.inl ⟨rfl, [], SqL.of hp2⟩, TV.intro R2' (fun v env2 e2 F3 P3 z H3 R3 s3 f3 r3 => ?_) (fun ex env' e2 F' H' R' t => exq e2 R' kp2 al2 t) (fun e2 => by rw [e2] at q; exact q)⟩
    rw [e2] at q
    replace q : FinS C EX O F H D (match v.share with
          | some d => .ok .next (env2.set i (some (.ow (.dol (putL ps kk d)))))
          | none => .no) := q
    split at q
    case h_2 => exact q.elim
    rename_i d e3
    have dnz : Dn C.K H3 (Nn ([p] ++ ((a :: as) ++ O)) F3) z d := share_dn R3 (fresh_off R2' f3) (fun b h => h) r3 e3
    have mem3 : ∀ b, b ∈ (a :: (as ++ [p])) ++ O ↔ b ∈ [p] ++ ((a :: as) ++ O) := fun b => by
      simp only [List.mem_append, List.mem_cons, List.mem_nil_iff, or_false]
      constructor
      · rintro ((h | h | h) | h)
        · exact .inr (.inl (.inl h))
        · exact .inr (.inl (.inr h))
        · exact .inl h
        · exact .inr (.inr h)
      · rintro (h | (h | h) | h)
        · exact .inl (.inr (.inr h))
        · exact .inl (.inl h)
        · exact .inl (.inr (.inl h))
        · exact .inr h
    have R3' : ER C ((a :: (as ++ [p])) ++ O) F3 H3 σ env2 := (R3.drop fun b hb => List.mem_append_right _ hb).perm mem3
    have inNew : ∀ b ∈ a :: (as ++ [p]), b ∈ [p] ++ ((a :: as) ++ O) := fun b hb => (mem3 b).mp (List.mem_append_left _ hb)
    have keep3 : ∀ b ∈ a :: (as ++ [p]), ∀ u, upd (upd H1 p (.lst [])) a (.dK (kvs ++ [(kk, V.ref p)])) b = some u → H3 b = some u := fun b hb u w => s3.keep b u w (R2'.dis b (inNew b hb))
    have dl3 : DolKv C.K H3 (Nn ([p] ++ ((a :: as) ++ O)) F3) (as ++ [p]) (kvs ++ [(kk, .ref p)]) (ps ++ [(keyP kk, [])]) := DolKv.mono (R2'.kept s3) (fun b w => (R2'.less (P := []) s3 (fun b hb => by simp at hb)) b w) (fun b hb u w => keep3 b (List.mem_cons_of_mem _ hb) u w) dl2'
    have pin : p ∈ a :: (as ++ [p]) := by simp
    have hp3 : H3 p = some (.lst []) := keep3 p pin _ hp2
    refine ⟨p, [], z, rfl, rfl, hp3, by rw [← most_eq]; decide, ?_⟩
    have hi3 : i < F3.length := by rw [R3'.lenF, ← R3'.lenσ]; exact (List.getElem?_eq_some_iff.mp ey).1
    have nwp : p ∈ C.bA ∨ C.H0 p = none := .inr (by
      cases w : C.H0 p with
      | none => rfl
      | some u => exact absurd hpH (R.old p (by rw [w]; simp)))
    have R4 := R3'.prod (l := p) (o := .lst ([] ++ [z])) (List.mem_append_left _ pin) nwp trivial
    have kp : Kept (Nn ([p] ++ ((a :: as) ++ O)) F3) H3 (upd H3 p (.lst ([] ++ [z]))) := fun b u w h => by
      by_cases hbl : b = p
      · subst hbl
        rcases h with h | h
        · exact absurd (.inl (List.mem_append_left _ (by simp))) h
        · rw [hp3] at w; cases w
          exact absurd trivial h
      · rw [upd_ne hbl]; exact w
    have ls : Less H3 (Nn ([p] ++ ((a :: as) ++ O)) F3) (Nn O (F3.set i (a :: (as ++ [p])))) := fun b w => by
      rcases less_back (H := H3) hi3 b w with y | y
      · exact .inl (y.elim (fun y => .inl ((mem3 b).mp y)) .inr)
      · exact .inr y
    have nda' : (a :: (as ++ [p])).Nodup := by
      rw [List.nodup_cons] at nda ⊢
      refine ⟨fun w => ?_, ?_⟩
      · rcases List.mem_append.mp w with w | w
        · exact nda.1 w
        · exact ap (by simpa using w)
      · rw [List.nodup_append]
        exact ⟨nda.2, by simp, fun b hb c hc e => pa (by
          have : c = p := by simpa using hc
          rw [← this, ← e]
          exact List.mem_cons_of_mem _ hb)⟩
    have nk' : ((kvs ++ [(kk, V.ref p)]).map (·.1)).Nodup := by
      rw [List.map_append, List.nodup_append]
      refine ⟨nk, by simp, fun b hb c hc e => valV_in hv ?_⟩
      have : c = kk := by simpa using hc
      rw [← this, ← e]
      exact hb
    have hv' : valV (kvs ++ [(kk, V.ref p)]) kk = some (.ref p) := by
      have key : ∀ r : List (Key × V), valV r kk = none → valV (r ++ [(kk, V.ref p)]) kk = some (.ref p) := by
        intro r
        induction r with
        | nil => intro _; exact valV_pos (p := (kk, V.ref p)) rfl
        | cons w r ih =>
          intro h
          by_cases e : w.1 = kk
          · rw [valV_pos e] at h; cases h
          · rw [valV_neg e] at h
            rw [List.cons_append, valV_neg e]
            exact ih h
      exact key kvs hv
    have dl4 := DolKv.more (k := kk) (d := d) (fun b o hbl w => by rw [upd_ne hbl]; exact w) (fun ys es w => DnAll.mono kp ls _ _ w) hp3 upd_same (Dn.mono kp ls _ _ dnz) dl3 (List.nodup_cons.mp nda').2 nk' hv'
    have ha4 : upd H3 p (.lst ([] ++ [z])) a = some (.dK (kvs ++ [(kk, V.ref p)])) := by rw [upd_ne ap]; exact keep3 a List.mem_cons_self _ upd_same
    have eput : putL ps kk d = (ps ++ [(keyP kk, [])]).map fun (p : PyData × List PyData) => if keyD p.1 = some kk then (p.1, p.2 ++ [d]) else p := by
      have no : (ps.any fun p => decide (keyD p.1 = some kk)) = false := by rw [dl.any, hv]; rfl
      unfold putL
      rw [if_neg (by rw [no]; simp), List.map_append]
      congr 1
      · have idm : (ps.map fun (p : PyData × List PyData) => if keyD p.1 = some kk then (p.1, p.2 ++ [d]) else p) = ps.map id := List.map_congr_left fun w hw => if_neg fun y => by
          rw [List.any_eq_false] at no
          exact no w hw (decide_eq_true y)
        rw [idm, List.map_id]
      · rw [List.map_cons, if_pos (keyD_P _)]
        rfl
    refine q σ (F3.set i (a :: (as ++ [p]))) _ (dol_back R4 ey nda' (fun b hb w => ?_) (fun b hb => ?_) bo ⟨as ++ [p], _, rfl, nda', ha4, nk', by rw [eput]; exact dl4⟩) (dol_step hi3 hf s1 kp2 al2 s3 (fun b u n w => ?_) (fun b w => ?_) fun b w => ?_)
    · rcases List.mem_cons.mp hb with y | y
      · exact offO b (by rw [y]; exact List.mem_cons_self) w
      · rcases List.mem_append.mp y with y | y
        · exact offO b (List.mem_cons_of_mem _ y) w
        · have : b = p := by simpa using y
          exact pO (this ▸ w)
    · rcases List.mem_cons.mp hb with y | y
      · exact nw b (by rw [y]; exact List.mem_cons_self)
      · rcases List.mem_append.mp y with y | y
        · exact nw b (List.mem_cons_of_mem _ y)
        · have : b = p := by simpa using y
          rw [this]; exact nwp
    · rw [upd_ne fun y => n (by rw [y]; exact pin)]; exact w
    · by_cases hbl : b = p
      · subst hbl; rw [upd_same]; simp
      · rw [upd_ne hbl]; exact w
    · rcases List.mem_cons.mp w with y | y
      · exact .inl (by rw [y]; exact List.mem_cons_self)
      · rcases List.mem_append.mp y with y | y
        · exact .inl (List.mem_cons_of_mem _ y)
        · have : b = p := by simpa using y
          exact .inr (by rw [this]; exact hpH)
end
end Pv

/-! PwD: every expression of the text does what its code says. -/
set_option linter.all false
set_option maxRecDepth 100000
set_option maxHeartbeats 4000000
namespace Pv
open PySem PySem.Spec L2

section
variable {Γ : Gam} {X : Cx} {C : Cf} {Φ : Nat → List Val → CR} {EX : EXT}
def plainT : Ex → Bool
  | .not _ => false
  | .and _ => false
  | .or _ => false
  | .ife _ _ _ => false
  | _ => true
theorem evT_eq {bor : List Nat} (c : Ex) (h : plainT c = true) : evT Φ bor c = truK Φ bor c := by
  funext env
  unfold truK
  cases c with
  | not a => cases h
  | and a => cases h
  | or a => cases h
  | ife a b c => cases h
  | _ => rw [evT] <;> first | rfl | (intros; contradiction)
theorem DnAll.eraseIdx {K : PySem.W.Frag} {H : Hp} {N : Addr → Prop} : ∀ {vs : List V} {ds : List PyData} (j : Nat), DnAll K H N vs ds → DnAll K H N (vs.eraseIdx j) (ds.eraseIdx j)
  | _, _, _, .nil => .nil
  | _, _, 0, .cons _ t => t
  | _, _, j + 1, .cons h t => .cons h (DnAll.eraseIdx j t)
/-- x.pop(e) -/
theorem r_popAt {x : Str} {i : Nat} {a : Expr} {ma : Env → Res Od} {p1 apos cpos : Pos} (hx : PE X (.Name x p1) (tVar i)) (ha : PE X a (TO C EX ma)) (hbase : attributeBase (.Name x p1) "pop" X.env (eval (.Name x p1) X.env) = eval (.Name x p1) X.env) (hline : (apos.endLine == cpos.line) = true)
    (hs : NoStar a) : PE X (.Call (.Attribute (.Name x p1) "pop" apos) [a] [] cpos) (TV C EX fun env => match env.at i with
    | some (.ow (.lst _)) => (ma env).bind fun y env1 => match env1.at i, y.data env1 with
      | some (.ow (.lst ds)), some (.int n) => if ds.length ≤ most then match L2.ixN ds.length n with
        | some j => match ds[j]? with
          | some d => .ok (.sh d) (env1.set i (some (.ow (.lst (ds.eraseIdx j)))))
          | none => .no
        | none => .no
        else .no
      | _, _ => .no
    | _ => .no) :=
  (pe_bm F.plainAttrs_list F.slot_list_pop F.type_list_pop mt_popAt hx (pa_cons ha pa_nil (hs _ _)) hbase (by rw [hs [] X.env]; rfl) hline (hs _ _) rfl).weak fun σ H Q q => by
  obtain ⟨O, F, env, R, q⟩ := rg_iff.mp q
  split at q
  · rename_i ds0 e0
    obtain ⟨y, ey, _⟩ := R.slot i _ e0
    obtain ⟨l, xs0, rfl, h0, _⟩ := own_list R e0 ey
    refine ⟨.ref l, ey, .inl ⟨rfl, xs0, SqL.of h0⟩, op1 R q fun o env1 F1 P z H1 R1 s1 f1 r1 k => ?_⟩
    split at k
    · rename_i ds n e1 e2
      by_cases hz : ds.length ≤ most
      case neg => rw [if_neg hz] at k; exact k.elim
      rw [if_pos hz] at k
      split at k
      · rename_i j e3
        split at k
        · rename_i d e4
          obtain ⟨l', xs, e5, h1, h2, _⟩ := own_list R1 e1 ey
          cases e5
          have dq := OR.data1 R1 r1 e2
          cases (show Dn C.K H1 _ z (.int n) from dq)
          obtain ⟨w, e6, dw⟩ := h2.getD e4
          obtain ⟨q1, q2, q3, q4⟩ := ixN_seq e3
          have hm : most = 16777216 := rfl
          have R2 : ER C ([] ++ O) F1 H1 σ env1 := R1.drop fun a ha => List.mem_append_right _ ha
          have h3 := DnAll.mono Kept.rfl' (Nn.cut (P := P) (O := O) (F := F1) (H := H1)) _ _ h2
          obtain ⟨R3, s3, kp⟩ := list_up R2 e1 ey h1 (h3.eraseIdx j)
          refine ⟨l, xs, n, j, w, rfl, rfl, h1, by omega, by omega, by rw [h2.length]; exact q1, e6, ?_⟩
          exact k w _ ⟨F1, [], R3, s1.trans s3, fun a ha => by simp at ha, rfl, Dn.mono kp (fun b z => .inl z) _ _ (Dn.mono Kept.rfl' (Nn.cut (P := P) (O := O) (F := F1) (H := H1)) _ _ dw)⟩
        · exact k.elim
      · exact k.elim
    · exact k.elim
  · exact q.elim
theorem comp_noSet {n : Nat} {e : Expr} {c : Ex} {op : CmpOp} (h : comp n Γ e = some c) : behindInMarks op e = false := by
  cases n with
  | zero => cases h
  | succ n =>
    cases e <;> first | rfl | (change compOne Γ n (comp n) _ = some c at h; unfold compOne at h; cases h)
theorem cmpT_eq {bor : List Nat} {op : Cop} {a b : Ex} : evT Φ bor (.cmp op a b) = fun env => (evO Φ bor a env).bind fun x env1 => (evO Φ bor b env1).bind fun y env2 => match x.data env2, y.data env2 with
    | some d, some e => Res.opt (cmpD op d e) env2
    | _, _ => .no := by
  rw [evT_eq _ rfl]
  unfold truK
  rw [evO_eq (.cmp op a b) (by intro i z; cases z)]
  funext env
  have e0 : ev Φ bor (.cmp op a b) env = (evO Φ bor a env).bind fun x env1 => (evO Φ bor b env1).bind fun y env2 => match x.data env2, y.data env2 with
      | some d, some e => Res.opt ((cmpD op d e).map fun k => .sh (.bool k)) env2
      | _, _ => .no := by rw [ev]; try rfl
  show ((ev Φ bor (.cmp op a b) env).bind (fun v env1 => Res.ok (Od.vl v) env1)).bind _ = _
  rw [e0]
  cases evO Φ bor a env with
  | ex x e => rfl
  | no => rfl
  | ok x env1 =>
    simp only [Res.bind]
    cases evO Φ bor b env1 with
    | ex x e => rfl
    | no => rfl
    | ok y env2 =>
      simp only
      cases x.data env2 with
      | none => cases y.data env2 <;> rfl
      | some d =>
        cases y.data env2 with
        | none => rfl
        | some e => exact opt_bool _ _
theorem chain_bool {op op' : Cop} {mc : Env → Res Od} {x y : Od} {env2 env' : Env} {v : Val} (h : chainK op op' mc x y env2 = .ok v env') : ∃ k, v = .sh (.bool k) := by
  unfold chainK at h
  split at h
  · split at h
    · cases h; exact ⟨_, rfl⟩
    · cases q : mc env2 with
      | ok z env3 =>
        rw [q] at h
        simp only [Res.bind] at h
        split at h
        · rename_i d g _ _
          cases e : cmpD op' d g with
          | none => rw [e] at h; cases h
          | some k => rw [e] at h; cases h; exact ⟨_, rfl⟩
        · cases h
      | ex a b => rw [q] at h; cases h
      | no => rw [q] at h; cases h
    · cases h
  · cases h
theorem chain_ev {bor : List Nat} {op op' : Cop} {a b c : Ex} : ev Φ bor (.chain op op' a b c) = fun env => (evO Φ bor a env).bind fun x env1 => (evO Φ bor b env1).bind fun y env2 => chainK op op' (evO Φ bor c) x y env2 := by
  funext env
  rw [ev]
  try rfl
theorem chainT_eq {bor : List Nat} {op op' : Cop} {a b c : Ex} : evT Φ bor (.chain op op' a b c) = fun env => ((evO Φ bor a env).bind fun x env1 => (evO Φ bor b env1).bind fun y env2 => chainK op op' (evO Φ bor c) x y env2).bind fun v env1 => match v with
    | .sh d => Res.opt (match d with | .bool k => some k | _ => none) env1
    | _ => .no := by
  rw [evT_eq _ rfl]
  unfold truK
  rw [evO_eq (.chain op op' a b c) (by intro i z; cases z), chain_ev]
  funext env
  have key : ∀ v env', ((evO Φ bor a env).bind fun x env1 => (evO Φ bor b env1).bind fun y env2 => chainK op op' (evO Φ bor c) x y env2) = .ok v env' → ∃ k, v = .sh (.bool k) := fun v env' h => by
    cases q1 : evO Φ bor a env with
    | ex a b => rw [q1] at h; cases h
    | no => rw [q1] at h; cases h
    | ok x env1 =>
      rw [q1] at h
      simp only [Res.bind] at h
      cases q2 : evO Φ bor b env1 with
      | ex a b => rw [q2] at h; cases h
      | no => rw [q2] at h; cases h
      | ok y env2 =>
        rw [q2] at h
        exact chain_bool h
  simp only
  generalize ((evO Φ bor a env).bind fun x env1 => (evO Φ bor b env1).bind fun y env2 => chainK op op' (evO Φ bor c) x y env2) = r at key
  cases r with
  | ok v env' =>
    obtain ⟨k, rfl⟩ := key v env' rfl
    rfl
  | ex a b => rfl
  | no => rfl
theorem tp_congr {m m' : Env → Res (Option Int)} {e : Option Expr} (h : L2.PO X e (TP C EX m)) (he : ∀ env, m' env = m env) : L2.PO X e (TP C EX m') := by
  have q : m' = m := funext he
  rw [q]; exact h
theorem part_ok {n : Nat} (P : Parts X C Φ EX Γ.bor (comp n Γ)) {lo : Option Expr} {l : Option Ex} (h : (match lo with | some e => (comp n Γ e).map some | none => some none) = some l) : L2.PO X lo (TP C EX (evP Φ Γ.bor l)) := by
  cases lo with
  | none =>
    cases h
    exact tp_congr r_p0 fun env => by rw [evP]
  | some e =>
    simp only at h
    cases e1 : comp n Γ e with
    | none => rw [e1] at h; cases h
    | some c =>
      rw [e1] at h
      cases h
      exact tp_congr (r_p1 (P e c e1).2.2) fun env => by rw [evP]; try rfl
theorem r_dict0 {pos : Pos} : PE X (.Dict [] [] pos) (TV C EX fun env => .ok (.ow (.dic [])) env) := pe_dnewK.weak fun σ H Q q => by
  obtain ⟨O, F, env, R, q⟩ := rg_iff.mp q
  exact fun p hp => fin_new (P := []) R Step.refl (fun a ha => by simp at ha) q _ _ (New.dic hp .nil)
end
end Pv

/-! PwE: every expression of the text does what its code says. -/
set_option linter.all false
set_option maxRecDepth 100000
set_option maxHeartbeats 4000000
namespace Pv
open PySem PySem.Spec L2

section
variable {Φ : Nat → List Val → CR}
theorem comp_step {n : Nat} (ih : IH Φ n) {Γ : Gam} {X : Cx} {C : Cf} {EX : EXT} (f : Fit Γ X C Φ EX) (e : Expr) (c : Ex) (h0 : compOne Γ n (comp n) e = some c) : Trip X C Φ EX Γ.bor (n + 1) e c := by
  have P := ih.parts f
  have PE' : ∀ e c, comp n Γ e = some c → NoStar e ∧ PE X e (TO C EX (evO Φ Γ.bor c)) := fun e c h => ⟨(P e c h).1, (P e c h).2.2⟩
  have PV' : ∀ e c, comp n Γ e = some c → NoStar e ∧ PE X e (TV C EX (ev Φ Γ.bor c)) := fun e c h => ⟨(P e c h).1, (P e c h).2.1⟩
  have hu : X.A.units + 191 < cLine := by have := f.units; omega
  have h := h0
  unfold compOne at h
  split at h
  · cases h
    exact trip_of f.K (by intro i z; cases z) (evT_eq _ rfl) (fun _ => rfl) (tv_congr (r_cst ⟨.non, pe_non, fun H N => .non⟩) fun env => by rw [ev])
  · cases h
    exact trip_of f.K (by intro i z; cases z) (evT_eq _ rfl) (fun _ => rfl) (tv_congr (r_cst ⟨.bl _, pe_bl, fun H N => .bl _⟩) fun env => by rw [ev])
  · cases h
    exact trip_of f.K (by intro i z; cases z) (evT_eq _ rfl) (fun _ => rfl) (tv_congr (r_cst ⟨.int _, pe_int, fun H N => .int _⟩) fun env => by rw [ev])
  · cases h
    exact trip_of f.K (by intro i z; cases z) (evT_eq _ rfl) (fun _ => rfl) (tv_congr (r_cst ⟨.str _, pe_str, fun H N => .str _⟩) fun env => by rw [ev])
  · -- a name
    rename_i x pos
    by_cases hp : plainName x = true
    case neg => rw [if_neg hp] at h; cases h
    rw [if_pos hp] at h
    by_cases hs : seenAs Γ.nm x = true
    · rw [if_pos hs] at h
      cases q : ixOf x Γ.N with
      | none => rw [q] at h; cases h
      | some i =>
        rw [q] at h
        cases h
        have v := f.var (pos := pos) hp hs q
        have h2 : PE X (.Name x pos) (TO C EX (evO Φ Γ.bor (.var i))) := by
          have eq : evO Φ Γ.bor (.var i) = fun env => match env.at i with | some (.ow (.dol kvs)) => .ok (.pk i) (env.set i (some (.sh (MO.dol kvs).data))) | some _ => .ok (.pk i) env | none => .no := by funext env; rw [evO]; try rfl
          rw [eq]
          exact r_pk v
        refine ⟨tv_congr (r_var v) fun env => by rw [ev]; try rfl, h2, fun _ => ?_⟩
        rw [evT_eq _ rfl]
        exact r_tru f.K h2 fun _ => rfl
    · rw [if_neg hs] at h
      by_cases hg : global Γ.nm x = true
      case neg => rw [if_neg hg] at h; cases h
      rw [if_pos hg] at h
      cases q : Γ.cst.lookup x with
      | none => rw [q] at h; cases h
      | some d =>
        rw [q] at h
        cases h
        obtain ⟨u, v, hm, r, dn⟩ := f.cst x d q
        exact trip_of f.K (by intro i z; cases z) (evT_eq _ rfl) (fun _ => rfl) (tv_congr (r_cst ⟨v, pe_glob (f.gl hg) hm r (plain_of hp).1, dn⟩) fun env => by rw [ev])
  · rename_i es k pos
    cases q : mapO (comp n Γ) es with
    | none => rw [q] at h; cases h
    | some cs =>
      rw [q] at h
      cases h
      exact trip_of f.K (by intro i z; cases z) (evT_eq _ rfl) (fun _ => rfl) (tv_congr (r_tup (pa_vals PV' q)) fun env => by rw [ev]; try rfl)
  · rename_i es pos
    cases q : mapO (comp n Γ) es with
    | none => rw [q] at h; cases h
    | some cs =>
      rw [q] at h
      cases h
      exact trip_of f.K (by intro i z; cases z) (evT_eq _ rfl) (fun _ => rfl) (tv_congr (r_lst (pa_vals PV' q)) fun env => by rw [ev]; try rfl)
  · rename_i a op b pos
    split at h
    · rename_i o x y q1 q2 q3
      cases h
      rw [bopOf_ok q1]
      exact trip_of f.K (by intro i z; cases z) (evT_eq _ rfl) (fun _ => rfl) (tv_congr (r_bin f.K (P a x q2).2.2 (P b y q3).2.2) fun env => by rw [ev]; try rfl)
    · cases h
  · rename_i a pos
    cases q : comp n Γ a with
    | none => rw [q] at h; cases h
    | some x =>
      rw [q] at h
      cases h
      exact trip_of f.K (by intro i z; cases z) (evT_eq _ rfl) (fun _ => rfl) (tv_congr (r_neg f.K (P a x q).2.2) fun env => by rw [ev]; try rfl)
  · rename_i a pos
    cases q : comp n Γ a with
    | none => rw [q] at h; cases h
    | some x =>
      rw [q] at h
      cases h
      have h1 : PE X (.UnaryOp .Not a pos) (TV C EX (ev Φ Γ.bor (.not x))) := tv_congr (r_not f.K (P a x q).2.2) fun env => by rw [ev]; try rfl
      refine ⟨h1, by rw [evO_eq (.not x) (by intro i z; cases z)]; exact r_vl h1, fun ht => ?_⟩
      exact pt_congr (r_notT ((ih f a x q).2.2 (by unfold tst at ht; exact ht))) fun env => by rw [evT]
  · rename_i es pos
    by_cases he : es.isEmpty = true
    · rw [if_pos he] at h; cases h
    rw [if_neg he] at h
    have hne : es ≠ [] := by simpa [List.isEmpty_iff] using he
    cases q : mapO (comp n Γ) es with
    | none => rw [q] at h; cases h
    | some cs =>
      rw [q] at h
      cases h
      have h1 : PE X (.BoolOp .And es pos) (TV C EX (ev Φ Γ.bor (.and cs))) := tv_congr (and_ok (fun e c h => (P e c h).2.1) q hne) fun env => by rw [ev]
      refine ⟨h1, by rw [evO_eq (.and cs) (by intro i z; cases z)]; exact r_vl h1, fun ht => ?_⟩
      have ht' : es.all (tst n) = true := by unfold tst at ht; exact ht
      rw [List.all_eq_true] at ht'
      exact pt_congr (andT_ok (fun e he c hc => (ih f e c hc).2.2 (ht' e he)) q hne).pt fun env => by rw [evT]
  · rename_i es pos
    by_cases he : es.isEmpty = true
    · rw [if_pos he] at h; cases h
    rw [if_neg he] at h
    have hne : es ≠ [] := by simpa [List.isEmpty_iff] using he
    cases q : mapO (comp n Γ) es with
    | none => rw [q] at h; cases h
    | some cs =>
      rw [q] at h
      cases h
      have h1 : PE X (.BoolOp .Or es pos) (TV C EX (ev Φ Γ.bor (.or cs))) := tv_congr (or_ok (fun e c h => (P e c h).2.1) q hne) fun env => by rw [ev]
      refine ⟨h1, by rw [evO_eq (.or cs) (by intro i z; cases z)]; exact r_vl h1, fun ht => ?_⟩
      have ht' : es.all (tst n) = true := by unfold tst at ht; exact ht
      rw [List.all_eq_true] at ht'
      exact pt_congr (orT_ok (fun e he c hc => (ih f e c hc).2.2 (ht' e he)) q hne).pt fun env => by rw [evT]
  · rename_i a op b pos
    split at h
    · rename_i x y q1 q2
      cases h
      have ho := copOf_ok op
      generalize copOf op = o at ho
      subst ho
      have h1 : PE X (.Compare a [copO o] [b] pos) (TV C EX (ev Φ Γ.bor (.cmp o x y))) := tv_congr (r_cmp f.K hu (comp_noSet q2) (P a x q1).2.2 (P b y q2).2.2) fun env => by rw [ev]; try rfl
      refine ⟨h1, by rw [evO_eq (.cmp o x y) (by intro i z; cases z)]; exact r_vl h1, fun _ => ?_⟩
      rw [cmpT_eq]
      exact r_cmpT f.K hu (comp_noSet q2) (P a x q1).2.2 (P b y q2).2.2
    · cases h
  · rename_i a op op' b c' pos
    split at h
    · rename_i x y z q1 q2 q3
      cases h
      have ho := copOf_ok op
      have ho' := copOf_ok op'
      generalize copOf op = o at ho
      generalize copOf op' = o' at ho'
      subst ho ho'
      have hm : lastMarks [copO o, copO o'] [b, c'] = false := comp_noSet q3
      have h1 : PE X (.Compare a [copO o, copO o'] [b, c'] pos) (TV C EX (ev Φ Γ.bor (.chain o o' x y z))) := by
        rw [chain_ev]
        exact r_chain f.K hu hm (P a x q1).2.2 (P b y q2).2.2 (P c' z q3).2.2
      refine ⟨h1, by rw [evO_eq (.chain o o' x y z) (by intro i w; cases w)]; exact r_vl h1, fun _ => ?_⟩
      rw [chainT_eq]
      exact r_chainT f.K hu hm (P a x q1).2.2 (P b y q2).2.2 (P c' z q3).2.2
    · cases h
  · rename_i t a b pos
    by_cases ht : tst n t = true
    case neg => rw [if_neg ht] at h; cases h
    rw [if_pos ht] at h
    split at h
    · rename_i x y z q1 q2 q3
      cases h
      have h1 : PE X (.IfExp t a b pos) (TV C EX (ev Φ Γ.bor (.ife x y z))) := tv_congr (r_ife ((ih f t x q1).2.2 ht) (P a y q2).2.1 (P b z q3).2.1) fun env => by rw [ev]; try rfl
      exact ⟨h1, by rw [evO_eq (.ife x y z) (by intro i w; cases w)]; exact r_vl h1, fun w => by unfold tst at w; cases w⟩
    · cases h
  · rename_i a lo hi p2 pos
    split at h
    · rename_i x l r q1 q2 q3
      cases h
      exact trip_of f.K (by intro i z; cases z) (evT_eq _ rfl) (fun _ => rfl) (tv_congr (r_slc f.K (P a x q1).2.2 (part_ok P q2) (part_ok P q3)) fun env => by rw [ev]; try rfl)
    · cases h
  · rename_i a j p4 p3 p2 pos
    cases q : comp n Γ a with
    | none => rw [q] at h; cases h
    | some x =>
      rw [q] at h
      cases h
      exact trip_of f.K (by intro i z; cases z) (evT_eq _ rfl) (fun _ => rfl) (tv_congr (r_rev f.K (P a x q).2.2) fun env => by rw [ev]; try rfl)
  · rename_i a b pos _ _
    split at h
    · rename_i x y q1 q2
      cases h
      have hix : PlainIx b := by
        intro o i
        cases n with
        | zero => cases q2
        | succ n =>
          cases b <;> first | rfl | (change compOne Γ n (comp n) _ = some y at q2; unfold compOne at q2; cases q2)
      exact trip_of f.K (by intro i z; cases z) (evT_eq _ rfl) (fun _ => rfl) (tv_congr (r_idx f.K (by omega) hix (P a x q1).2.2 (P b y q2).2.2) fun env => by rw [ev]; try rfl)
    · cases h
  · rename_i x p1 y p2 b p3 p4
    by_cases hxy : x = ("len" : Str) ∧ y = ("set" : Str)
    · rw [if_pos hxy] at h
      obtain ⟨rfl, rfl⟩ := hxy
      by_cases hf : (free Γ "len" && free Γ "set") = true
      case neg => rw [if_neg hf] at h; cases h
      rw [if_pos hf] at h
      rw [Bool.and_eq_true] at hf
      obtain ⟨g1, g2, _, _⟩ := free_of f hf.1
      obtain ⟨g3, g4, _, _⟩ := free_of f hf.2
      cases q : comp n Γ b with
      | none => rw [q] at h; cases h
      | some z =>
        rw [q] at h
        cases h
        exact trip_of f.K (by intro i z; cases z) (evT_eq _ rfl) (fun _ => rfl) (tv_congr (r_lenSet f.K g1 g2 g3 g4 (P b z q).2.2 f.calm (P b z q).1) fun env => by rw [ev]; try rfl)
    · rw [if_neg hxy] at h
      obtain ⟨h1, h2, h3⟩ := call_ok f P h
      exact trip_of f.K h2 h3 (fun _ => rfl) (h1)
  · obtain ⟨h1, h2, h3⟩ := call_ok f P h
    exact trip_of f.K h2 h3 (fun _ => rfl) (h1)
  · -- methods
    rename_i o m apos args cpos
    by_cases hb : ((apos.endLine == cpos.line) && !isCall o) = true
    case neg => rw [if_neg hb] at h; cases h
    rw [if_pos hb] at h
    simp only [Bool.and_eq_true, Bool.not_eq_true'] at hb
    obtain ⟨hl, hcall⟩ := hb
    split at h
    · rename_i t ht
      have hm := List.find?_some ht
      simp only [decide_eq_true_eq] at hm
      have hmem := List.mem_of_find?_eq_some ht
      have hmt : m = mtN t.2 := by
        unfold mtTab at hmem
        simp only [List.mem_cons, List.mem_nil_iff, or_false] at hmem
        rcases hmem with rfl | rfl <;> exact hm.symm
      by_cases hz : args.length < 29
      case neg => rw [if_neg hz] at h; cases h
      rw [if_pos hz] at h
      split at h
      · rename_i x cs q1 q2
        cases h
        rw [hmt]
        refine trip_of f.K (by intro i z; cases z) (evT_eq _ rfl) (fun _ => rfl) ?_
        cases args with
        | nil =>
          cases q2
          exact tv_congr (r_meth0 f.K (P o x q1).2.2 (base_of hcall) hl) fun env => by rw [ev]; simp only [evOs]; try rfl
        | cons a es =>
          obtain ⟨c1, e1⟩ := mapO_mem q2 a List.mem_cons_self
          have ns : ∀ e ∈ es, NoStar e := fun e he => by
            obtain ⟨c, q⟩ := mapO_mem q2 e (List.mem_cons_of_mem _ he)
            exact (P e c q).1
          have ns' : ∀ e ∈ a :: es, NoStar e := fun e he => by
            obtain ⟨c, q⟩ := mapO_mem q2 e he
            exact (P e c q).1
          refine tv_congr (r_methN f.K (P o x q1).2.2 (pa_ops PE' q2) (base_of hcall) hl ?_ ((P a c1 e1).1 es X.env) (star_any ns).1) fun env => by rw [ev]; try rfl
          rw [Bool.and_eq_true, Bool.and_eq_true]
          refine ⟨⟨(star_any ns').2, rfl⟩, decide_eq_true ?_⟩
          show (a :: es).length + 0 + 0 < 30
          omega
      · cases h
    · by_cases hget : m = ("get" : Str)
      · rw [if_pos hget] at h
        subst hget
        split at h
        · rename_i a
          split at h
          · rename_i c d q1 q2
            cases h
            exact trip_of f.K (by intro i z; cases z) (evT_eq _ rfl) (fun _ => rfl) (tv_congr (r_dget f.K (by omega) (P o c q1).2.2 (P a d q2).2.2 (m1_of (base_of hcall) hl (P a d q2).1)) fun env => by rw [ev]; try rfl)
          · cases h
        · cases h
      rw [if_neg hget] at h
      split at h
      · rename_i x p
        by_cases hc : (m = ("pop" : Str) && plainName x && seenAs Γ.nm x) = true
        case neg => rw [if_neg hc] at h; cases h
        rw [if_pos hc] at h
        simp only [Bool.and_eq_true, decide_eq_true_eq] at hc
        obtain ⟨⟨rfl, hp⟩, hs⟩ := hc
        cases q : ixOf x Γ.N with
        | none => rw [q] at h; cases h
        | some i =>
          rw [q] at h
          cases h
          exact trip_of f.K (by intro i z; cases z) (evT_eq _ rfl) (fun _ => rfl) (tv_congr (r_pop f.K (f.var hp hs q) (base_of rfl) hl) fun env => by rw [ev]; try rfl)
      · rename_i x p a
        by_cases hc : (m = ("pop" : Str) && plainName x && seenAs Γ.nm x) = true
        case neg => rw [if_neg hc] at h; cases h
        rw [if_pos hc] at h
        simp only [Bool.and_eq_true, decide_eq_true_eq] at hc
        obtain ⟨⟨rfl, hp⟩, hs⟩ := hc
        split at h
        · rename_i i c' q q2
          cases h
          by_cases hdc : i ∈ Γ.dic
          · rw [if_pos hdc]
            exact trip_of f.K (by intro i z; cases z) (evT_eq _ rfl) (fun _ => rfl) (tv_congr (r_dpop (f.var hp hs q) (P a c' q2).2.2 (m1_of (base_of rfl) hl (P a c' q2).1)) fun env => by rw [ev]; try rfl)
          rw [if_neg hdc]
          exact trip_of f.K (by intro i z; cases z) (evT_eq _ rfl) (fun _ => rfl) (tv_congr (r_popAt (f.var hp hs q) (P a c' q2).2.2 (base_of rfl) hl (P a c' q2).1) fun env => by rw [ev]; try rfl)
        · cases h
      · cases h
  · -- comprehensions
    rename_i elt tg iter ifs scope pos
    obtain ⟨own, t, s, cs, e', rfl, d⟩ := lc_parts h0
    obtain ⟨hi, ok, hg, ht, he, hs⟩ := lc_rule ih f d
    have hb : ∀ p ∈ C.B, p.1 ∉ own.map (·.2) := fun p hp z => by
      obtain ⟨q, hq, e1⟩ := List.mem_map.mp z
      exact d.bor q hq (by rw [e1]; exact f.bor p hp)
    cases hk : keyIx Γ iter with
    | some i =>
      refine trip_of f.K (by intro i z; cases z) (evT_eq _ rfl) (fun _ => rfl) ?_
      show PE X _ (TV C EX (ev Φ Γ.bor (.comk (own.map (·.2)) i t cs e')))
      rw [comk_ev]
      have rule : PE X (.ListComp elt [⟨tg, iter, ifs, 0⟩] scope pos) (tKeys C Γ.bor (own.map (·.2)) t (evCs Φ Γ.bor cs) (ev Φ Γ.bor e') i) := pe_ex fun h0 => by
        obtain ⟨_, ok, hg, ht, he, hs⟩ := lc_rule ih (f.at h0) d
        exact pe_lc f.calm (by rw [f.N]; exact f.nd) (pi_keys (keyIx_ok f hk)) ok hg ht he hs
      exact (pe_either (pe_lock rule) rule).weak (comk_w hb d.sub)
    | none =>
    refine trip_of f.K (by intro i z; cases z) (evT_eq _ rfl) (fun _ => rfl) ?_
    show PE X _ (TV C EX (ev Φ Γ.bor (.comp (own.map (·.2)) s t cs e')))
    rw [lc_ev]
    exact (pe_lc f.calm (by rw [f.N]; exact f.nd) hi ok hg ht he hs).weak (lc_w hb d.sub)
  · cases h
    exact trip_of f.K (by intro i z; cases z) (evT_eq _ rfl) (fun _ => rfl) (tv_congr r_dict0 fun env => by rw [ev])
  · cases h
theorem comp_ok : ∀ n : Nat, IH Φ n
  | 0 => fun f e c h => by cases h
  | n + 1 => fun f e c h => comp_step (comp_ok n) f e c h
end
end Pv

/-! PwF: statements: from the text to the code. -/
set_option linter.all false
set_option maxRecDepth 100000
set_option maxHeartbeats 4000000
namespace Pv
open PySem PySem.Spec L2

/-- no comprehension -/
def noComp : Expr → Bool
  | .ListComp _ _ _ _ => false
  | .SetComp _ _ _ _ => false
  | .DictComp _ _ _ _ _ => false
  | _ => true
def isLocal (nm : List (Str × NameKind)) (x : Str) : Bool := match nm.lookup x with
  | some .local => true
  | _ => false
def notSlice : Expr → Bool
  | .Slice _ _ _ _ => false
  | _ => true
/-- the fuel of expressions -/
def fuelE : Nat := 60
def isVar : Expr → Bool
  | .Name _ _ => true
  | _ => false
/-- x.m(e) in place, as a statement -/
def inPlace (Γ : Gam) (x m : Str) (a : Expr) : Option Sx :=
  if plainName x && seenAs Γ.nm x then
    match ixOf x Γ.N, comp fuelE Γ a with
    | some i, some c => if m = ("append" : Str) then some (.append i c) else if m = ("extend" : Str) then some (.extend i c) else none
    | _, _ => none
  else none
def nmIx (Γ : Gam) : Expr → Option Nat
  | .Name x _ => if plainName x then (match Γ.nm.lookup x with
    | some .local => ixOf x Γ.N
    | some .cell => ixOf x Γ.N
    | _ => none) else none
  | _ => none
def compUnp (Γ : Gam) (ts vs : List Expr) : Option Sx := match mapO (nmIx Γ) ts, mapO (comp fuelE Γ) vs with
  | some is, some cs => if is.Nodup ∧ is.length < 30 then some (.unp is cs) else none
  | _, _ => none
def ownsD (Γ : Gam) (x : Str) : Bool := match ixOf x Γ.N with
  | some i => decide (i ∈ Γ.dic)
  | none => false
def compAsg (Γ : Gam) (tg e : Expr) (line : Nat) : Option Sx := match tg with
  | .Name x px => if plainName x then (match Γ.nm.lookup x with
      | some .local => (match ixOf x Γ.N, comp fuelE Γ e with
        | some i, some c => (match e with
          | .ListComp elt gs scope pos => if isComp c && (px.line == pos.line) && !(scope.names.any fun (n, k) => n == x && (k == .local || k == .cell)) then some (.asg (.name i) c) else none
          | _ => some (.asg (.name i) c))
        | _, _ => none)
      | some .cell => (match ixOf x Γ.N, comp fuelE Γ e with
        | some i, some c => some (.asg (.name i) c)
        | _, _ => none)
      | _ => none) else none
  | .Subscript (.Name x _) k _ => if plainName x && seenAs Γ.nm x && noComp e && notSlice k then (match ixOf x Γ.N, comp fuelE Γ k, comp fuelE Γ e with
      | some i, some ck, some ce => some (if i ∈ Γ.dic then .dset i ck ce else .seti i ck ce)
      | _, _, _ => none) else none
  | .Tuple ts _ pt => (match e with
      | .Tuple vs _ _ =>
        if vs.all (foldedForSure 8) then (match compT Γ fuelE tg, comp fuelE Γ e with
          | some t, some c => some (.asg t c)
          | _, _ => none)
        else (match ts, vs with
          | [.Name x px, .Name y py], [a, b] => if isLocal Γ.nm x && isLocal Γ.nm y && (px.line == py.line) && decide (x ≠ y) && plainName x && plainName y && !(([a, b] : List Expr).all (constantsAlone 8)) then (match ixOf x Γ.N, ixOf y Γ.N, comp fuelE Γ a, comp fuelE Γ b with
              | some i, some j, some c, some d => some (.par i j c d)
              | _, _, _, _ => none) else if !(isLocal Γ.nm x && isLocal Γ.nm y) then (if ownsD Γ x || ownsD Γ y then compUnp Γ [.Name x px, .Name y py] [a, b] else match compT Γ fuelE tg, comp fuelE Γ e with
              | some t, some c => some (.asg t c)
              | _, _ => none) else none
          | [.Name x px, .Name y py, .Name z pz], [a, b, c] => if isLocal Γ.nm x && isLocal Γ.nm y && isLocal Γ.nm z then (if (px.line == py.line) && (px.line == pz.line) && !(([a, b, c] : List Expr).all (constantsAlone 8)) then compUnp Γ [.Name x px, .Name y py, .Name z pz] [a, b, c] else none) else compUnp Γ [.Name x px, .Name y py, .Name z pz] [a, b, c]
          | _, _ => none)
      | e => if noComp e then (match compT Γ fuelE tg, comp fuelE Γ e with
          | some t, some c => some (.asg t c)
          | _, _ => none) else none)
  | _ => none
def compSo (Γ : Gam) (rec : Stmt → Option Sx) : Stmt → Option Sx
  | .Pass _ => some .pass
  | .Break _ => some .brk
  | .Continue _ => some .cont
  | .Return none _ => some .retN
  | .Return (some (.Name x p)) _ => if plainName x && seenAs Γ.nm x then (ixOf x Γ.N).map .retV else (comp fuelE Γ (.Name x p)).map .ret
  | .Return (some e) _ => (comp fuelE Γ e).map .ret
  | .Expr (.Call (.Attribute (.Call (.Attribute (.Name x _) m1 apos) [k, .List [] _] [] cpos) m2 apos2) [e] [] cpos2) _ =>
    if m1 = ("setdefault" : Str) ∧ m2 = ("append" : Str) ∧ (plainName x && seenAs Γ.nm x) = true ∧ (apos.endLine == cpos.line) = true ∧ (apos2.endLine == cpos2.line) = true then (match ixOf x Γ.N, comp fuelE Γ k, comp fuelE Γ e with
      | some i, some ck, some ce => some (.dsa i ck ce)
      | _, _, _ => none) else none
  | .Raise _ _ _ => some .never
  | .Expr (.Call (.Attribute (.Name x p) m apos) [a] [] cpos) pos => match inPlace Γ x m a with
    | some s => if apos.endLine == cpos.line then some s else none
    | none => (comp fuelE Γ (.Call (.Attribute (.Name x p) m apos) [a] [] cpos)).map .expr
  | .Expr e _ => if noComp e then (comp fuelE Γ e).map .expr else none
  | .If c a b _ => if tst fuelE c then match comp fuelE Γ c, mapO rec a, mapO rec b with
      | some x, some y, some z => some (.ifs x y z)
      | _, _, _ => none
    else none
  | .While c a [] _ => if tst fuelE c then match comp fuelE Γ c, mapO rec a with
      | some x, some y => some (.whl x y)
      | _, _ => none
    else none
  | .For tg iter a [] _ => if isSet iter then none else match compT Γ fuelE tg, compSrc Γ (comp fuelE Γ) tg iter, mapO rec a with
      | some t, some s, some y => some (.loop s t y)
      | _, _, _ => none
  | .Assign [tg] e pos => compAsg Γ tg e pos.line
  | .AugAssign (.Name x _) op e _ => if plainName x then (match Γ.nm.lookup x with
      | some .local => (match ixOf x Γ.N, bopOf op, comp fuelE Γ e with
        | some i, some o, some c => some (.aug i o c)
        | _, _, _ => none)
      | _ => none) else none
  | _ => none
def compS (Γ : Gam) : Nat → Stmt → Option Sx
  | 0, _ => none
  | n + 1, st => compSo Γ (compS Γ n) st
/-- what a def's body must bring besides -/
structure FitS (Γ : Gam) (X : Cx) (C : Cf) (Φ : Nat → List Val → CR) (EX : EXT) : Prop extends Fit Γ X C Φ EX where
  eqv : ∀ x, X.env.scope.names.lookup x = Γ.nm.lookup x
  kind : X.env.scope.kind = .function
  passes : PassesOwn (model X.prog X.w) X.A X.env X.xe
section
variable {Γ : Gam} {X : Cx} {C : Cf} {Φ : Nat → List Val → CR} {EX : EXT}
theorem no_swap {e : Expr} (h : noComp e = true) (t : Option Expr) (l : Nat) (env : PySem.Env) : swapsWith e t l env = pure false := by
  cases e <;> first | rfl | cases h
theorem FitS.block (f : FitS Γ X C Φ EX) : X.env.blockKind = .function := by
  unfold PySem.Env.blockKind
  rw [f.kind]
  rfl
theorem folded_none {ts vs : List Expr} {k k2 : Nat} {p p2 : Pos} {env : PySem.Env} (h : vs.all (foldedForSure 8) = true) : swappedStores [.Tuple ts k p] (.Tuple vs k2 p2) env = pure none := by
  unfold swappedStores
  simp only [pure_bind]
  repeat' split
  all_goals first | rfl | contradiction
theorem ps_congr {m m' : Env → Res Fl} {s : Stmt} (h : PS X s (TX C EX m)) (he : ∀ env, m' env = m env) : PS X s (TX C EX m') := by
  have q : m' = m := funext he
  rw [q]; exact h
end
end Pv

/-! PwG: every statement of the text does what its code says. -/
set_option linter.all false
set_option maxRecDepth 100000
set_option maxHeartbeats 4000000
namespace Pv
open PySem PySem.Spec L2

section
variable {Γ : Gam} {X : Cx} {C : Cf} {Φ : Nat → List Val → CR} {EX : EXT}
theorem comp_noComp {n : Nat} {e : Expr} {c : Ex} (h : comp n Γ e = some c) (hl : ∀ a b s p, e ≠ .ListComp a b s p) : noComp e = true := by
  cases n with
  | zero => cases h
  | succ n =>
    cases e <;> first | rfl | exact absurd rfl (hl _ _ _ _) | (change compOne Γ n (comp n) _ = some c at h; unfold compOne at h; cases h)
theorem lc_shape {n : Nat} {rec : Gam → Expr → Option Ex} {elt : Expr} {gs : List Comprehension} {scope : Scope} {pos : Pos} {c : Ex} (h : compOne Γ n rec (.ListComp elt gs scope pos) = some c) : ∃ tg iter ifs, gs = [⟨tg, iter, ifs, 0⟩] := by
  unfold compOne at h
  split at h <;> first | contradiction | (rename_i heq; cases heq; exact ⟨_, _, _, rfl⟩) | skip
  all_goals cases h
theorem sw_cell {elt : Expr} {gs : List Comprehension} {scope : Scope} {pos py : Pos} {y : Str} {l : Nat} {env : PySem.Env} (hy : env.kindOf y = some .cell) : swapsWith (.ListComp elt gs scope pos) (some (.Name y py)) l env = pure false := by
  have q : (NameKind.cell == NameKind.local) = false := rfl
  unfold swapsWith
  simp [hy, q]
theorem asg_eq {bor : List Nat} {t : Tgt} {c : Ex} (env : Env) : exec Φ bor (.asg t c) env = (ev Φ bor c env).bind fun v env1 => match bindV bor t v env1 with
    | some env2 => .ok .next env2
    | none => .no := by
  rw [exec]
  try rfl
theorem any_star {n : Nat} : ∀ {l : List Expr} {cs : List Ex}, mapO (comp n Γ) l = some cs → (l.any fun | .Starred .. => true | _ => false) = false
  | [], _, _ => rfl
  | e :: l, cs, h => by
    unfold mapO at h
    split at h
    · rename_i b bs e1 e2
      rw [List.any_cons, any_star e2]
      cases n with
      | zero => cases e1
      | succ n => cases e <;> first | rfl | (change compOne Γ n (comp n) _ = some b at e1; unfold compOne at e1; cases e1)
    · cases h
theorem par_some {x y : Str} {px py pt pt2 : Pos} {kt k2 : Nat} {a b : Expr} {env : PySem.Env} (hb : env.blockKind = .function) (hx : env.kindOf x = some .local) (hy : env.kindOf y = some .local) (hl : (px.line == py.line) = true) (hxy : x ≠ y)
    (hs : ([a, b].any fun | .Starred .. => true | _ => false) = false)
    (h1 : ([a, b] : List Expr).all (foldedForSure 8) = false) (h2 : ([a, b] : List Expr).all (constantsAlone 8) = false) : swappedStores [.Tuple [.Name x px, .Name y py] kt pt] (.Tuple [a, b] k2 pt2) env = pure (some [x, y]) := by
  have l0 : px.line = py.line := beq_iff_eq.mp hl
  have e1 : ([Expr.Name x px, Expr.Name y py].filterMap fun
    | .Name id pos => if env.kindOf id == some .local && pos.line == (([Expr.Name x px, Expr.Name y py].head?.map (·.pos.line)).getD 0) then some id else none
    | _ => none) = [x, y] := by
    have l1 : (Option.map (fun x => x.pos.line) [Expr.Name x px, Expr.Name y py].head?).getD 0 = px.line := rfl
    rw [l1]
    simp only [List.filterMap_cons, List.filterMap_nil, hx, hy, l0, beq_self_eq_true, Bool.and_self, if_true]
  have e2 : ([x, y].eraseDups.length != [x, y].length) = false := by
    have q : (y == x) = false := beq_eq_false_iff_ne.mpr (Ne.symm hxy)
    simp [List.eraseDups_cons, q]
  unfold swappedStores
  simp only [pure_bind, hb]
  refine (if_neg (by simp)).trans ?_
  refine (if_neg (fun z => by have z' := hs.symm.trans z; cases z')).trans ?_
  refine (if_neg (fun z => ?_)).trans ?_
  · generalize hF : ([Expr.Name x px, Expr.Name y py].filterMap fun
      | .Name id pos => if env.kindOf id == some .local && pos.line == (([Expr.Name x px, Expr.Name y py].head?.map (·.pos.line)).getD 0) then some id else none
      | _ => none) = G at e1
    subst e1
    have z' : (([x, y] : List Str).length != 2 || [x, y].eraseDups.length != [x, y].length) = true := by
      rw [← hF]
      exact z
    rw [e2] at z'
    cases z'
  · refine (if_neg (fun z => by rw [h1] at z; cases z)).trans ?_
    rw [if_neg (fun z => by rw [h2] at z; cases z)]
    exact congrArg (fun z => pure (some z)) e1
theorem cell_none {x y : Str} {px py pt pt2 : Pos} {kt k2 : Nat} {a b : Expr} {env : PySem.Env} (hb : env.blockKind = .function) (hxy : ¬ (env.kindOf x = some .local ∧ env.kindOf y = some .local)) :
    swappedStores [.Tuple [.Name x px, .Name y py] kt pt] (.Tuple [a, b] k2 pt2) env = pure none := by
  have short : ∀ (l : List Str), l = ([Expr.Name x px, Expr.Name y py].filterMap fun
    | .Name id pos => if env.kindOf id == some .local && pos.line == (([Expr.Name x px, Expr.Name y py].head?.map (·.pos.line)).getD 0) then some id else none
    | _ => none) → (l.length != 2) = true := fun l hl => by
    have hle : l.length < 2 := by
      rw [hl]
      simp only [List.filterMap_cons, List.filterMap_nil]
      by_cases h1 : env.kindOf x = some .local
      · have h2 : (env.kindOf y == some NameKind.local) = false := by
          rw [beq_eq_false_iff_ne]
          exact fun z => hxy ⟨h1, z⟩
        simp only [h2, Bool.false_and, Bool.false_eq_true, if_false]
        split <;> simp
      · have h2 : (env.kindOf x == some NameKind.local) = false := beq_eq_false_iff_ne.mpr h1
        simp only [h2, Bool.false_and, Bool.false_eq_true, if_false]
        split <;> simp
    rw [bne_iff_ne]
    omega
  unfold swappedStores
  simp only [pure_bind, hb]
  refine (if_neg (by simp)).trans ?_
  split
  · rfl
  · refine if_pos ?_
    exact Bool.or_eq_true_iff.mpr (.inl (short _ rfl))
theorem par_some3 {x y w : Str} {px py pw pt pt2 : Pos} {kt k2 : Nat} {a b c : Expr} {env : PySem.Env} (hb : env.blockKind = .function) (hx : env.kindOf x = some .local) (hy : env.kindOf y = some .local) (hz : env.kindOf w = some .local) (hl : (px.line == py.line) = true) (hl2 : (px.line == pw.line) = true) (hxy : x ≠ y) (hxz : x ≠ w) (hyz : y ≠ w)
    (hs : ([a, b, c].any fun | .Starred .. => true | _ => false) = false)
    (h1 : ([a, b, c] : List Expr).all (foldedForSure 8) = false) (h2 : ([a, b, c] : List Expr).all (constantsAlone 8) = false) : swappedStores [.Tuple [.Name x px, .Name y py, .Name w pw] kt pt] (.Tuple [a, b, c] k2 pt2) env = pure (some [x, y, w]) := by
  have l0 : px.line = py.line := beq_iff_eq.mp hl
  have l0' : pw.line = py.line := (beq_iff_eq.mp hl2).symm.trans l0
  have e1 : ([Expr.Name x px, Expr.Name y py, Expr.Name w pw].filterMap fun
    | .Name id pos => if env.kindOf id == some .local && pos.line == (([Expr.Name x px, Expr.Name y py, Expr.Name w pw].head?.map (·.pos.line)).getD 0) then some id else none
    | _ => none) = [x, y, w] := by
    have l1 : (Option.map (fun x => x.pos.line) [Expr.Name x px, Expr.Name y py, Expr.Name w pw].head?).getD 0 = px.line := rfl
    rw [l1]
    simp only [List.filterMap_cons, List.filterMap_nil, hx, hy, hz, l0, l0', beq_self_eq_true, Bool.and_self, if_true]
  have e2 : ([x, y, w].eraseDups.length != [x, y, w].length) = false := by
    have q : (y == x) = false := beq_eq_false_iff_ne.mpr (Ne.symm hxy)
    have q2 : (w == x) = false := beq_eq_false_iff_ne.mpr (Ne.symm hxz)
    have q3 : (w == y) = false := beq_eq_false_iff_ne.mpr (Ne.symm hyz)
    simp [List.eraseDups_cons, q, q2, q3]
  unfold swappedStores
  simp only [pure_bind, hb]
  refine (if_neg (by simp)).trans ?_
  refine (if_neg (fun z => by have z' := hs.symm.trans z; cases z')).trans ?_
  refine (if_neg (fun z => ?_)).trans ?_
  · generalize hF : ([Expr.Name x px, Expr.Name y py, Expr.Name w pw].filterMap fun
      | .Name id pos => if env.kindOf id == some .local && pos.line == (([Expr.Name x px, Expr.Name y py, Expr.Name w pw].head?.map (·.pos.line)).getD 0) then some id else none
      | _ => none) = G at e1
    subst e1
    have z' : (([x, y, w] : List Str).length != 3 || [x, y, w].eraseDups.length != [x, y, w].length) = true := by
      rw [← hF]
      exact z
    rw [e2] at z'
    cases z'
  · refine (if_neg (fun z => by rw [h1] at z; cases z)).trans ?_
    rw [if_neg (fun z => by rw [h2] at z; cases z)]
    exact congrArg (fun z => pure (some z)) e1
theorem cell_none3 {x y w : Str} {px py pw pt pt2 : Pos} {kt k2 : Nat} {a b c : Expr} {env : PySem.Env} (hb : env.blockKind = .function) (hxy : ¬ (env.kindOf x = some .local ∧ env.kindOf y = some .local ∧ env.kindOf w = some .local)) :
    swappedStores [.Tuple [.Name x px, .Name y py, .Name w pw] kt pt] (.Tuple [a, b, c] k2 pt2) env = pure none := by
  have short : ∀ (l : List Str), l = ([Expr.Name x px, Expr.Name y py, Expr.Name w pw].filterMap fun
    | .Name id pos => if env.kindOf id == some .local && pos.line == (([Expr.Name x px, Expr.Name y py, Expr.Name w pw].head?.map (·.pos.line)).getD 0) then some id else none
    | _ => none) → (l.length != 3) = true := fun l hl => by
    have hle : l.length < 3 := by
      rw [hl]
      simp only [List.filterMap_cons, List.filterMap_nil]
      by_cases h1 : env.kindOf x = some .local
      · by_cases h2 : env.kindOf y = some .local
        · have h3 : (env.kindOf w == some NameKind.local) = false := by
            rw [beq_eq_false_iff_ne]
            exact fun z => hxy ⟨h1, h2, z⟩
          simp only [h3, Bool.false_and, Bool.false_eq_true, if_false]
          split <;> split <;> simp
        · have h3 : (env.kindOf y == some NameKind.local) = false := beq_eq_false_iff_ne.mpr h2
          simp only [h3, Bool.false_and, Bool.false_eq_true, if_false]
          split <;> split <;> simp
      · have h2 : (env.kindOf x == some NameKind.local) = false := beq_eq_false_iff_ne.mpr h1
        simp only [h2, Bool.false_and, Bool.false_eq_true, if_false]
        split <;> split <;> simp
    rw [bne_iff_ne]
    omega
  unfold swappedStores
  simp only [pure_bind, hb]
  refine (if_neg (by simp)).trans ?_
  split
  · rfl
  · refine if_pos ?_
    exact Bool.or_eq_true_iff.mpr (.inl (short _ rfl))
end
end Pv

/-! PwH: every statement of the text does what its code says. -/
set_option linter.all false
set_option maxRecDepth 100000
set_option maxHeartbeats 4000000
namespace Pv
open PySem PySem.Spec L2

section
variable {Γ : Gam} {X : Cx} {C : Cf} {Φ : Nat → List Val → CR} {EX : EXT}
theorem swS {tg e : Expr} {l : Nat} {env : PySem.Env} (h : noComp e = true) : swapsWithSole [tg] e l env = pure false := no_swap h _ _ _
theorem sw_tup {ts : List Expr} {k : Nat} {p : Pos} {e : Expr} {env : PySem.Env} (h : ∀ vs a b, e ≠ .Tuple vs a b) : swappedStores [.Tuple ts k p] e env = pure none := by
  cases e <;> first | rfl | exact absurd rfl (h _ _ _)
theorem compT_tup {n : Nat} {ts : List Expr} {k : Nat} {p : Pos} {t : Tgt} (h : compT Γ n (.Tuple ts k p) = some t) : ∀ i, t ≠ .name i := by
  intro i z
  subst z
  cases n with
  | zero => cases h
  | succ n =>
    unfold compT at h
    cases q : mapO (compT Γ n) ts with
    | none => rw [q] at h; cases h
    | some cs => rw [q] at h; cases h
theorem asg_lc (f : FitS Γ X C Φ EX) {x : Str} {i : Nat} {px pos spos : Pos} {elt : Expr} {gs : List Comprehension} {scope : Scope} {c : Ex} (hx : Γ.nm.lookup x = some .local) (hi : ixOf x Γ.N = some i) (hc : comp fuelE Γ (.ListComp elt gs scope pos) = some c)
    (hk : isComp c = true) (hl : (px.line == pos.line) = true) (ha : (scope.names.any fun (n, k) => n == x && (k == .local || k == .cell)) = false) : PS X (.Assign [.Name x px] (.ListComp elt gs scope pos) spos) (TX C EX (exec Φ Γ.bor (.asg (.name i) c))) := by
  have h0 : compOne Γ 59 (comp 59) (.ListComp elt gs scope pos) = some c := hc
  obtain ⟨tg, iter, ifs, rfl⟩ := lc_shape h0
  obtain ⟨own, t, s, cs, e', rfl, d⟩ := lc_parts h0
  cases hq : keyIx Γ iter with
  | some i => rw [hq] at hk; cases hk
  | none =>
  rw [hq] at hc
  obtain ⟨hi', ok, hg, ht, he, hs⟩ := lc_rule (comp_ok 59) f.toFit d
  have hb : ∀ p ∈ C.B, p.1 ∉ own.map (·.2) := fun p hp z => by
    obtain ⟨q, hq, e1⟩ := List.mem_map.mp z
    exact d.bor q hq (by rw [e1]; exact f.bor p hp)
  have hxl : X.env.scope.names.lookup x = some .local := by rw [f.eqv]; exact hx
  refine (ps_setLc f.calm (by rw [f.N]; exact f.nd) (by rw [f.N]; exact ixOf_ok hi) hxl (sw_true f.kind hxl hl ha) hi' ok hg ht he hs).weak fun D σ H q => ?_
  have q' : TX C EX (fun env => (ev Φ Γ.bor (.comp (own.map (·.2)) s t cs e') env).bind fun v env1 => match bindV Γ.bor (.name i) v env1 with
    | some env2 => .ok .next env2
    | none => .no) D σ H := by
    have eq : exec Φ Γ.bor (.asg (.name i) (.comp (own.map (·.2)) s t cs e')) = fun env => (ev Φ Γ.bor (.comp (own.map (·.2)) s t cs e') env).bind fun v env1 => match bindV Γ.bor (.name i) v env1 with
      | some env2 => .ok .next env2
      | none => .no := funext asg_eq
    exact eq ▸ (show TX C EX (exec Φ Γ.bor (.asg (.name i) (.comp (own.map (·.2)) s t cs e'))) D σ H from q)
  have w := set_w (x := x) f.bor D σ H q'
  rw [lc_ev] at w
  exact lc_w hb d.sub σ H _ w
theorem nmIx_ok (f : FitS Γ X C Φ EX) {e : Expr} {i : Nat} (h : nmIx Γ e = some i) : ∃ x p k, e = .Name x p ∧ Γ.nm.lookup x = some k ∧ (k = .local ∨ k = .cell) ∧ ixOf x Γ.N = some i := by
  unfold nmIx at h
  split at h
  · rename_i x p
    split at h
    · split at h
      · rename_i q; exact ⟨x, p, _, rfl, q, .inl rfl, h⟩
      · rename_i q; exact ⟨x, p, _, rfl, q, .inr rfl, h⟩
      · cases h
    · cases h
  · cases h
theorem pgs_names (f : FitS Γ X C Φ EX) : ∀ {ts : List Expr} {is : List Nat}, mapO (nmIx Γ) ts = some is → PGs X ts (gNs is) ∧ (assignEach ts X.env).length = is.length ∧ (assignEach ts X.env).findIdx? (·.1) = none
  | [], is, h => by cases h; exact ⟨pgs_nil, rfl, rfl⟩
  | e :: ts, is, h => by
    unfold mapO at h
    split at h
    · rename_i i is' e1 e2
      cases h
      obtain ⟨x, p, k, rfl, h1, h2, h3⟩ := nmIx_ok f e1
      obtain ⟨g1, g2, g3⟩ := pgs_names f e2
      refine ⟨pgs_cons (f.gname h1 h2 h3) g1 rfl, ?_, ?_⟩
      · show (((false, assign (.Name x p) X.env) :: assignEach ts X.env)).length = _
        rw [List.length_cons, List.length_cons, g2]
      · show (((false, assign (.Name x p) X.env) :: assignEach ts X.env)).findIdx? (·.1) = none
        rw [List.findIdx?_cons, if_neg (by simp), g3]
        rfl
    · cases h
theorem pa_vs {rec : Expr → Option Ex} (P : Parts X C Φ EX Γ.bor rec) : ∀ {vs : List Expr} {cs : List Ex}, mapO rec vs = some cs → PA X vs (tVs C EX Φ Γ.bor cs)
  | [], cs, h => by cases h; exact pa_nil
  | e :: vs, cs, h => by
    unfold mapO at h
    split at h
    · rename_i c cs' e1 e2
      cases h
      exact pa_cons (P e c e1).2.1 (pa_vs P e2) ((P e c e1).1 _ _)
    · cases h
theorem asg_ok (f : FitS Γ X C Φ EX) {tg e : Expr} {pos : Pos} {c : Sx} (h : compAsg Γ tg e pos.line = some c) : PS X (.Assign [tg] e pos) (TX C EX (exec Φ Γ.bor c)) := by
  have P : Parts X C Φ EX Γ.bor (comp fuelE Γ) := IH.parts (comp_ok (Φ := Φ) fuelE) f.toFit
  have plain : ∀ (x : Str) (px : Pos) (k : NameKind) (i : Nat) (ce : Ex), Γ.nm.lookup x = some k → (k = .local ∨ k = .cell) → ixOf x Γ.N = some i → comp fuelE Γ e = some ce → swapsWithSole [.Name x px] e pos.line X.env = pure false → PS X (.Assign [.Name x px] e pos) (TX C EX (exec Φ Γ.bor (.asg (.name i) ce))) :=
    fun x px k i ce h1 h2 h3 h4 h5 => ps_congr (r_set f.bor (P e ce h4).2.1 (f.gname h1 h2 h3) h5 (by cases e <;> rfl) rfl) asg_eq
  have tupA : ∀ (ts : List Expr) (k : Nat) (pt : Pos) (t : Tgt) (ce : Ex), compT Γ fuelE (.Tuple ts k pt) = some t → comp fuelE Γ e = some ce → noComp e = true → swappedStores [.Tuple ts k pt] e X.env = pure none → PS X (.Assign [.Tuple ts k pt] e pos) (TX C EX (exec Φ Γ.bor (.asg t ce))) :=
    fun ts k pt t ce h1 h2 h3 h4 => ps_congr (r_asgT (compT_tup h1) (P e ce h2).2.1 (compT_ok f.toFit fuelE _ t h1) (swS h3) h4 rfl) asg_eq
  have unpT : ∀ (ts vs : List Expr) (k k2 : Nat) (pt p2 : Pos) (c : Sx), e = .Tuple vs k2 p2 → compUnp Γ ts vs = some c → swappedStores [.Tuple ts k pt] (.Tuple vs k2 p2) X.env = pure none → PS X (.Assign [.Tuple ts k pt] e pos) (TX C EX (exec Φ Γ.bor c)) := fun ts vs k k2 pt p2 c he hU hw => by
    subst he
    unfold compUnp at hU
    split at hU
    · rename_i is cs q1 q2
      split at hU
      · rename_i hc
        cases hU
        obtain ⟨g1, g2, g3⟩ := pgs_names f q1
        exact ps_congr (r_unpT f.calm f.K f.bor hc.1 hc.2 (pa_vs P q2) g1 g2 g3 rfl hw rfl) fun env => by rw [exec]
      · cases hU
    · cases hU
  unfold compAsg at h
  split at h
  · rename_i x px
    by_cases hp : plainName x = true
    case neg => rw [if_neg hp] at h; cases h
    rw [if_pos hp] at h
    split at h
    · rename_i hl
      split at h
      · rename_i i ce q1 q2
        split at h
        · rename_i elt gs scope lpos
          split at h
          · rename_i hc
            cases h
            simp only [Bool.and_eq_true, Bool.not_eq_true'] at hc
            exact asg_lc f hl q1 q2 hc.1.1 hc.1.2 hc.2
          · cases h
        · rename_i hnl
          cases h
          exact plain x px _ i ce hl (.inl rfl) q1 q2 (swS (comp_noComp q2 fun a b s p z => hnl a b s p z))
      · cases h
    · rename_i hl
      split at h
      · rename_i i ce q1 q2
        cases h
        refine plain x px _ i ce hl (.inr rfl) q1 q2 ?_
        by_cases hn : noComp e = true
        · exact swS hn
        · cases e with
          | ListComp a b s p => exact sw_cell (l := pos.line) (by show X.env.scope.names.lookup x = _; rw [f.eqv]; exact hl)
          | _ => exact absurd (comp_noComp q2 fun a b s p z => by cases z) hn
      · cases h
    · cases h
  · rename_i x px k kp
    by_cases hc : (plainName x && seenAs Γ.nm x && noComp e && notSlice k) = true
    case neg => rw [if_neg hc] at h; cases h
    rw [if_pos hc] at h
    simp only [Bool.and_eq_true] at hc
    obtain ⟨⟨⟨hp, hs⟩, hn⟩, hk⟩ := hc
    split at h
    · rename_i i ck ce q1 q2 q3
      cases h
      by_cases hdc : i ∈ Γ.dic
      · rw [if_pos hdc]
        refine ps_congr (r_dset f.K (by have := f.units; omega) (f.var hp hs q1) (P e ce q3).2.1 (P k ck q2).2.2 (swS hn) (by cases e <;> rfl) rfl (fun v => ?_)) fun env => by rw [exec]; try rfl
        cases k <;> first | rfl | cases hk
      rw [if_neg hdc]
      refine ps_congr (r_seti f.K (f.var hp hs q1) (P e ce q3).2.1 (P k ck q2).2.2 (swS hn) (by cases e <;> rfl) rfl (fun v => ?_)) fun env => by rw [exec]; try rfl
      cases k <;> first | rfl | cases hk
    · cases h
  · rename_i ts kt pt
    split at h
    · rename_i vs k2 p2
      split at h
      · rename_i hf
        split at h
        · rename_i t ce q1 q2
          cases h
          exact tupA ts kt pt t ce q1 q2 rfl (folded_none hf)
        · cases h
      · rename_i hf
        split at h
        · rename_i x px y py a b
          split at h
          · rename_i hc
            simp only [Bool.and_eq_true, Bool.not_eq_true', decide_eq_true_eq] at hc
            obtain ⟨⟨⟨⟨⟨⟨l1, l2⟩, l3⟩, l4⟩, l5⟩, l6⟩, l7⟩ := hc
            split at h
            · rename_i i j ca cb q1 q2 q3 q4
              cases h
              have loc : ∀ z, isLocal Γ.nm z = true → X.env.scope.names.lookup z = some .local := fun z hz => by
                rw [f.eqv]
                unfold isLocal at hz
                split at hz
                · assumption
                · cases hz
              have hij : i ≠ j := fun z => by
                subst z
                have a1 := ixOf_ok q1
                rw [ixOf_ok q2] at a1
                exact l4 (Option.some.inj a1).symm
              have na := (P a ca q3).1
              have nb := (P b cb q4).1
              have st : ([a, b].any fun | .Starred .. => true | _ => false) = false := any_star (n := fuelE) (Γ := Γ) (cs := [ca, cb]) (by unfold mapO; rw [q3]; unfold mapO; rw [q4]; rfl)
              refine ps_congr (r_par f.calm f.bor (by rw [f.N]; exact f.nd) (by rw [f.N]; exact ixOf_ok q1) (by rw [f.N]; exact ixOf_ok q2) hij (loc x l1) (loc y l2) (P a ca q3).2.1 (P b cb q4).2.1 (na _ _) (nb _ _)
                (par_some f.block (loc x l1) (loc y l2) l3 l4 st (by simpa using hf) l7) rfl) fun env => by rw [exec]; try rfl
            · cases h
          · split at h
            · rename_i hc
              split at h
              · refine unpT _ _ _ _ _ _ _ rfl h (cell_none f.block fun ⟨z1, z2⟩ => ?_)
                have l1 : isLocal Γ.nm x = true := by
                  have z : X.env.scope.names.lookup x = some .local := z1
                  rw [f.eqv] at z
                  unfold isLocal
                  rw [z]
                have l2 : isLocal Γ.nm y = true := by
                  have z : X.env.scope.names.lookup y = some .local := z2
                  rw [f.eqv] at z
                  unfold isLocal
                  rw [z]
                rw [l1, l2] at hc
                cases hc
              split at h
              · rename_i t ce q1 q2
                cases h
                refine tupA _ kt pt t ce q1 q2 rfl (cell_none f.block fun ⟨z1, z2⟩ => ?_)
                have l1 : isLocal Γ.nm x = true := by
                  have z : X.env.scope.names.lookup x = some .local := z1
                  rw [f.eqv] at z
                  unfold isLocal
                  rw [z]
                have l2 : isLocal Γ.nm y = true := by
                  have z : X.env.scope.names.lookup y = some .local := z2
                  rw [f.eqv] at z
                  unfold isLocal
                  rw [z]
                rw [l1, l2] at hc
                cases hc
              · cases h
            · cases h
        · rename_i x px y py z pz a b c
          split at h
          · rename_i hloc
            split at h
            · rename_i hc
              simp only [Bool.and_eq_true, Bool.not_eq_true'] at hloc hc
              obtain ⟨⟨l1, l2⟩, l3⟩ := hloc
              obtain ⟨⟨g1, g2⟩, g3⟩ := hc
              unfold compUnp at h
              split at h
              · rename_i is cs q1 q2
                split at h
                · rename_i hnd
                  cases h
                  have loc : ∀ z, isLocal Γ.nm z = true → X.env.scope.names.lookup z = some .local := fun z hz => by
                    rw [f.eqv]
                    unfold isLocal at hz
                    split at hz
                    · assumption
                    · cases hz
                  have ix : ∀ {u : Str} {pu : Pos} {i : Nat}, nmIx Γ (.Name u pu) = some i → X.N[i]? = some u := fun hq => by
                    obtain ⟨u', p', k', eu, _, _, h3⟩ := nmIx_ok f hq
                    cases eu
                    rw [f.N]
                    exact ixOf_ok h3
                  unfold mapO at q1
                  split at q1
                  · rename_i i is1 m1 q1'
                    cases q1
                    unfold mapO at q1'
                    split at q1'
                    · rename_i j is2 m2 q1''
                      cases q1'
                      unfold mapO at q1''
                      split at q1''
                      · rename_i l is3 m3 q1'''
                        cases q1''
                        cases q1'''
                        have st : ([a, b, c].any fun | .Starred .. => true | _ => false) = false := any_star q2
                        have nd' := hnd.1
                        simp only [List.nodup_cons, List.mem_cons, List.not_mem_nil, or_false, not_or] at nd'
                        obtain ⟨⟨n1, n2⟩, n3, _⟩ := nd'
                        have ne : ∀ {u v : Str} {s t : Nat}, X.N[s]? = some u → X.N[t]? = some v → s ≠ t → u ≠ v := fun h1 h2 h3 z => by
                          subst z
                          exact h3 (by
                            have nd0 : X.N.Nodup := by rw [f.N]; exact f.nd
                            exact (List.getElem?_inj (List.getElem?_eq_some_iff.mp h1).1 nd0).mp (h1.trans h2.symm))
                        unfold mapO at q2
                        split at q2
                        · rename_i ca cs1 r1 q2'
                          cases q2
                          unfold mapO at q2'
                          split at q2'
                          · rename_i cb cs2 r2 q2''
                            cases q2'
                            unfold mapO at q2''
                            split at q2''
                            · rename_i cc cs3 r3 q2'''
                              cases q2''
                              cases q2'''
                              have pav : PA X [a, b, c] (tVs C EX Φ Γ.bor [ca, cb, cc]) := pa_cons (P a ca r1).2.1 (pa_cons (P b cb r2).2.1 (pa_cons (P c cc r3).2.1 pa_nil ((P c cc r3).1 _ _)) ((P b cb r2).1 _ _)) ((P a ca r1).1 _ _)
                              exact ps_congr (r_unp3 f.calm f.bor (by rw [f.N]; exact f.nd) (ix m1) (ix m2) (ix m3) hnd.1 (loc x l1) (loc y l2) (loc z l3) pav
                                (par_some3 f.block (loc x l1) (loc y l2) (loc z l3) g1 g2 (ne (ix m1) (ix m2) n1) (ne (ix m1) (ix m3) n2) (ne (ix m2) (ix m3) n3) st (by simpa using hf) g3) rfl) fun env => by rw [exec]
                            · cases q2''
                          · cases q2'
                        · cases q2
                      · cases q1''
                    · cases q1'
                  · cases q1
                · cases h
              · cases h
            · cases h
          · rename_i hloc
            refine unpT _ _ _ _ _ _ _ rfl h (cell_none3 f.block fun ⟨z1, z2, z3⟩ => hloc ?_)
            have il : ∀ {u : Str}, X.env.kindOf u = some .local → isLocal Γ.nm u = true := fun {u} zu => by
              have z : X.env.scope.names.lookup u = some .local := zu
              rw [f.eqv] at z
              unfold isLocal
              rw [z]
            rw [il z1, il z2, il z3]
            rfl
        · cases h
    · rename_i hnt
      split at h
      · rename_i hn
        split at h
        · rename_i t ce q1 q2
          cases h
          exact tupA ts kt pt t ce q1 q2 hn (sw_tup fun vs a b z => hnt vs a b z)
        · cases h
      · cases h
  · cases h
end
end Pv

/-! PwI: every statement of the text does what its code says. -/
set_option linter.all false
set_option maxRecDepth 100000
set_option maxHeartbeats 4000000
namespace Pv
open PySem PySem.Spec L2

section
variable {Γ : Gam} {X : Cx} {C : Cf} {Φ : Nat → List Val → CR} {EX : EXT}
theorem pss_congr {m m' : Env → Res Fl} {s : List Stmt} (h : PSs X s (TX C EX m)) (he : ∀ env, m' env = m env) : PSs X s (TX C EX m') := by
  have q : m' = m := funext he
  rw [q]; exact h
theorem compSs_ok {rec : Stmt → Option Sx} (ih : ∀ st c, rec st = some c → PS X st (TX C EX (exec Φ Γ.bor c))) : ∀ {sts : List Stmt} {cs : List Sx}, mapO rec sts = some cs → PSs X sts (TX C EX (execs Φ Γ.bor cs))
  | [], cs, h => by
    cases h
    exact pss_congr r_nil fun env => by rw [execs]
  | s :: sts, cs, h => by
    unfold mapO at h
    split at h
    · rename_i b bs e1 e2
      cases h
      exact pss_congr (r_seq (ih s b e1) (compSs_ok ih e2)) fun env => by rw [execs]; try rfl
    · cases h
theorem inPlace_ok (f : FitS Γ X C Φ EX) {x m : Str} {a : Expr} {p apos cpos pos : Pos} {c : Sx} (h : inPlace Γ x m a = some c) (hl : (apos.endLine == cpos.line) = true) :
    PS X (.Expr (.Call (.Attribute (.Name x p) m apos) [a] [] cpos) pos) (TX C EX (exec Φ Γ.bor c)) := by
  have P : Parts X C Φ EX Γ.bor (comp fuelE Γ) := IH.parts (comp_ok (Φ := Φ) fuelE) f.toFit
  unfold inPlace at h
  by_cases hp : (plainName x && seenAs Γ.nm x) = true
  case neg => rw [if_neg hp] at h; cases h
  rw [if_pos hp] at h
  rw [Bool.and_eq_true] at hp
  split at h
  · rename_i i ca q1 q2
    have na := (P a ca q2).1
    have few : ((backTo cpos (starEach [a] X.env)).all (fun x => !x.1) && (backToKw cpos (keywordEach [] X.env)).all (fun x => x.1.isSome) && decide ([a].length + ([] : List Keyword).length + (if ([] : List Keyword).isEmpty then 0 else 1) < 30)) = true := by
      rw [na [] X.env]; rfl
    by_cases h1 : m = ("append" : Str)
    · rw [if_pos h1] at h
      cases h
      subst h1
      exact ps_congr (r_append f.K (f.var hp.1 hp.2 q1) (P a ca q2).2.1 (base_of rfl) hl few (na _ _) rfl rfl) fun env => by rw [exec]; try rfl
    · rw [if_neg h1] at h
      by_cases h2 : m = ("extend" : Str)
      · rw [if_pos h2] at h
        cases h
        subst h2
        exact ps_congr (r_extend f.K (f.var hp.1 hp.2 q1) (P a ca q2).2.1 (base_of rfl) hl few (na _ _) rfl rfl) fun env => by rw [exec]; try rfl
      · rw [if_neg h2] at h; cases h
  · cases h
theorem compS_ok (f : FitS Γ X C Φ EX) : ∀ (n : Nat) (st : Stmt) (c : Sx), compS Γ n st = some c → PS X st (TX C EX (exec Φ Γ.bor c)) := by
  have I : IH Φ fuelE := comp_ok (Φ := Φ) fuelE
  have P : Parts X C Φ EX Γ.bor (comp fuelE Γ) := IH.parts I f.toFit
  intro n
  induction n with
  | zero => intro st c h; cases h
  | succ n ih =>
    intro st c h
    change compSo Γ (compS Γ n) st = some c at h
    unfold compSo at h
    split at h
    · cases h; exact ps_congr r_pass fun env => by rw [exec]
    · cases h; exact ps_congr r_brk fun env => by rw [exec]
    · cases h; exact ps_congr r_cont fun env => by rw [exec]
    · cases h; exact ps_congr r_retN fun env => by rw [exec]
    · rename_i x p pos
      by_cases hp : (plainName x && seenAs Γ.nm x) = true
      · rw [if_pos hp] at h
        rw [Bool.and_eq_true] at hp
        cases q : ixOf x Γ.N with
        | none => rw [q] at h; cases h
        | some i =>
          rw [q] at h
          cases h
          exact ps_congr (r_retV (f.var hp.1 hp.2 q)) fun env => by rw [exec]; try rfl
      · rw [if_neg hp] at h
        cases q : comp fuelE Γ (.Name x p) with
        | none => rw [q] at h; cases h
        | some ce =>
          rw [q] at h
          cases h
          exact ps_congr (r_ret (P _ ce q).2.1) fun env => by rw [exec]
    · rename_i e pos hne
      cases q : comp fuelE Γ e with
      | none => rw [q] at h; cases h
      | some ce =>
        rw [q] at h
        cases h
        exact ps_congr (r_ret (P _ ce q).2.1) fun env => by rw [exec]
    · rename_i x p m1 apos k lp cpos m2 apos2 e cpos2 pos
      by_cases hc : m1 = ("setdefault" : Str) ∧ m2 = ("append" : Str) ∧ (plainName x && seenAs Γ.nm x) = true ∧ (apos.endLine == cpos.line) = true ∧ (apos2.endLine == cpos2.line) = true
      case neg => rw [if_neg hc] at h; cases h
      rw [if_pos hc] at h
      obtain ⟨rfl, rfl, hp, hl1, hl2⟩ := hc
      rw [Bool.and_eq_true] at hp
      split at h
      · rename_i i ck ce q1 q2 q3
        cases h
        have nk := (P k ck q2).1
        have ne := (P e ce q3).1
        have nl : NoStar (.List [] lp) := fun _ _ => rfl
        have tr : backTo cpos (starEach [k, .List [] lp] X.env) = [(false, eval k X.env), (false, eval (.List [] lp) X.env)] := by
          rw [nk [.List [] lp] X.env, nl [] X.env]
          rfl
        exact ps_congr (r_dsa f.K (bor := Γ.bor) f.bor (f.var hp.1 hp.2 q1) (P k ck q2).2.2 (P e ce q3).2.1 ⟨base_of rfl, by rw [tr]; rfl, hl1, tr⟩ hl2 (by rw [ne [] X.env]; rfl) ne rfl (no_swap rfl _ _ _)) fun env => by rw [exec]; try rfl
      · cases h
    · cases h; exact ps_congr r_never fun env => by rw [exec]
    · rename_i x p m apos a cpos pos
      cases q : inPlace Γ x m a with
      | some s =>
        simp only [q] at h
        by_cases hl : (apos.endLine == cpos.line) = true
        · rw [if_pos hl] at h
          cases h
          exact inPlace_ok f q hl
        · rw [if_neg hl] at h; cases h
      | none =>
        simp only [q] at h
        cases q2 : comp fuelE Γ (.Call (.Attribute (.Name x p) m apos) [a] [] cpos) with
        | none => rw [q2] at h; cases h
        | some ce =>
          rw [q2] at h
          cases h
          exact ps_congr (r_expr (P _ ce q2).2.1 rfl) fun env => by rw [exec]
    · rename_i e pos _ _
      by_cases hn : noComp e = true
      case neg => rw [if_neg hn] at h; cases h
      rw [if_pos hn] at h
      cases q : comp fuelE Γ e with
      | none => rw [q] at h; cases h
      | some ce =>
        rw [q] at h
        cases h
        exact ps_congr (r_expr (P _ ce q).2.1 (no_swap hn _ _ _)) fun env => by rw [exec]
    · rename_i c0 a b pos
      by_cases ht : tst fuelE c0 = true
      case neg => rw [if_neg ht] at h; cases h
      rw [if_pos ht] at h
      split at h
      · rename_i x y z q1 q2 q3
        cases h
        exact ps_congr (r_if ((I f.toFit c0 x q1).2.2 ht) (compSs_ok ih q2) (compSs_ok ih q3)) fun env => by rw [exec]; try rfl
      · cases h
    · rename_i c0 a pos
      by_cases ht : tst fuelE c0 = true
      case neg => rw [if_neg ht] at h; cases h
      rw [if_pos ht] at h
      split at h
      · rename_i x y q1 q2
        cases h
        exact ps_congr (r_while f.passes ((I f.toFit c0 x q1).2.2 ht) (compSs_ok ih q2)) fun env => by rw [exec]
      · cases h
    · rename_i tg iter a pos
      by_cases hs : isSet iter = true
      · rw [if_pos hs] at h; cases h
      rw [if_neg hs] at h
      split at h
      · rename_i t s y q1 q2 q3
        cases h
        have hf : ∀ x, foldedSetIterable iter X.env x = pure x := fun x => by
          cases iter <;> first | rfl | exact absurd rfl hs
        exact ps_congr (r_for f.passes f.calm (tgT_ok q1 ▸ src_ok f.toFit P q2) (compT_ok f.toFit fuelE tg t q1) (compSs_ok ih q3) hf) fun env => by rw [exec]
      · cases h
    · exact asg_ok f h
    · rename_i x p op e pos
      by_cases hp : plainName x = true
      case neg => rw [if_neg hp] at h; cases h
      rw [if_pos hp] at h
      split at h
      · rename_i hl
        split at h
        · rename_i i o ce q1 q2 q3
          cases h
          have ho := bopOf_ok q2
          subst ho
          obtain ⟨g1, g2⟩ := f.toFit.loc hl (.inl rfl)
          exact ps_congr (r_aug f.bor (by rw [f.N]; exact f.nd) (by rw [f.N]; exact ixOf_ok q1) g1 (P e ce q3).2.2 g2) fun env => by rw [exec]; try rfl
        · cases h
      · cases h
    · cases h
end
end Pv

/-! PwJ: the defs of a text, level by level. -/
set_option linter.all false
set_option maxRecDepth 100000
set_option maxHeartbeats 4000000
namespace Pv
open PySem PySem.Spec L2

/-- a def of the text, as the machine bears it -/
structure DefM (K : PySem.W.Frag) (mg : Str → Option Value) where
  name : Str
  qual : Str
  params : Arguments
  body : List Stmt
  scope : Scope
  dvs : List V
  kws : List (Str × V)
  f : Addr
  fd : FuncData
  glob : mg name = some (.ref f)
  fun_ : FunD K name qual params body scope dvs kws f fd
/-- the code of a def against its text -/
structure DefC (Γ : Gam) (body : List Stmt) (scope : Scope) (ps : List Str) (fn : Fn) : Prop where
  fs : FnScope Γ.N ps scope
  nm : Γ.nm = scope.names
  code : mapO (compS Γ 60) body = some fn.body
  slots : fn.slots = Γ.N.length
  pars : fn.pars = ps.length
  bor : fn.bor = Γ.bor
/-- the ground on which all defs stand -/
structure Ground (P : Program) (w : World) (K : PySem.W.Frag) (mg : Str → Option Value) (base : Heap) (Γ : Gam) : Prop where
  sys : ∃ o, base.get? sysModules = some o ∧ o.cls = .type "dict"
  cst : ∀ x d, Γ.cst.lookup x = some d → ∃ u v, mg x = some u ∧ RelV v u ∧ ∀ H N, Dn K H N v d
  blt : ∀ x ∈ Γ.blt, mg x = none
/-- the defs that Γ names, at a level -/
def Lvl (P : Program) (w : World) (K : PySem.W.Frag) (mg : Str → Option Value) (base : Heap) (xr : XR) (Pn : List Fn) (k : Nat) (fns : List (Str × FnE)) : Prop := ∀ x e, fns.lookup x = some e → ∃ (f : Addr) (fd : FuncData), mg x = some (.ref f) ∧ PySem.W.keepIn K (.ref f) = true ∧
  FnG P w K mg base k f fd e.ps (spF K xr (callAt Pn k e.ix)) ∧ Binds K fd e.ps [] ∧ ∀ n ks perm, (n, ks) ∈ e.modes → permOf e.ps n ks = some perm → KBn K fd e.ps n ks (fun us ws => permL perm (us ++ ws)) (fun vs zs => permL perm (vs ++ zs))
section
variable {P : Program} {w : World} {K : PySem.W.Frag} {mg : Str → Option Value} {base : Heap} {xr : XR} {Pn : List Fn} {k : Nat}
theorem argsOk_len {fn : Fn} {args : List Val} (h : fn.argsOk args = true) : args.length = fn.pars ∧ ∀ i m, args[i]? = some (.ow m) → i ∈ fn.bor := by
  unfold Fn.argsOk at h
  simp only [Bool.and_eq_true, decide_eq_true_eq, List.all_eq_true] at h
  refine ⟨h.1.1, fun i m e => ?_⟩
  have hm : (Val.ow m, i) ∈ args.zipIdx := by
    rw [List.mem_zipIdx_iff_getElem?]
    exact e
  simpa using h.2 _ hm
/-- a def that no level reaches yet -/
theorem lvl0 {f : Addr} {fd : FuncData} {ps : List Str} {i : Nat} : FnG P w K mg base 0 f fd ps (spF K xr (callAt Pn 0 i)) := by
  have no : ∀ vs H Q E, ¬ spF K xr (callAt Pn 0 i) vs H Q E := fun vs H Q E ⟨O, fps, args, _, h⟩ => h
  exact ⟨fun vs H Q E h => (no _ _ _ _ h).elim, fun A outer s H args us vs Q E _ _ _ _ _ h => (no _ _ _ _ h).elim⟩
/-- one level more -/
theorem lvl_step {Γ : Gam} {x qual : Str} {params : Arguments} {body : List Stmt} {scope : Scope} {dvs : List V} {kws : List (Str × V)} {f : Addr} {fd : FuncData} {ps : List Str} {fn : Fn} {i : Nat} (F : FunD K x qual params body scope dvs kws f fd) (D : DefC Γ body scope ps fn) (G : Ground P w K mg base Γ)
    (hi : Pn[i]? = some fn) (L : Lvl P w K mg base xr Pn k Γ.fns) : FnG P w K mg base (k + 1) f fd ps (spF K xr (callAt Pn (k + 1) i)) := by
  have ecall : ∀ args, callAt Pn (k + 1) i args = fn.run (callAt Pn k) args := fun args => by
    show (match Pn[i]? with | some fn => fn.run (callAt Pn k) args | none => .no) = _
    rw [hi]
  have okOf : ∀ {args}, (match callAt Pn (k + 1) i args with | .no => False | _ => True) → fn.argsOk args = true := fun {args} h => by
    rw [ecall] at h
    unfold Fn.run at h
    by_cases z : fn.argsOk args = true
    · exact z
    · rw [if_neg z] at h; exact h.elim
  have ok' : ∀ {vs : List V} {H : Hp} {Q : VK} {E : XK} {O : List Addr} {fps : List (List Addr)} {args : List Val}, Entry K H O fps args vs → (match callAt Pn (k + 1) i args with
      | .ok v outs => ∀ x P H', Exit K H O fps args vs outs P H' → SR K H' (Nn (P ++ O) fps) P x v → Q x H'
      | .ex e outs => ∀ cls d H', xr H' cls d e → Exit K H O fps args vs outs [] H' → E cls d H'
      | .no => False) → fn.argsOk args = true := fun {vs H Q E O fps args} _ h => okOf (by
    cases q : callAt Pn (k + 1) i args with
    | no => rw [q] at h; exact h
    | ok v o => trivial
    | ex v o => trivial)
  refine fnG_of F D.fs (fun vs H Q E ⟨O, fps, args, en, h⟩ => ?_) fun cdv A outer s H vs Q E room hg ⟨O, fps, args, en, h⟩ => ?_
  · rw [en.lv, (argsOk_len (ok' (Q := Q) (E := E) en h)).1, D.pars]
  · have hok := argsOk_len (ok' (Q := Q) (E := E) en h)
    have fit : FitS Γ (cxOf (L2.CX P w) P w K mg base Γ.N qual scope f cdv A outer s H E) (cfOf K xr H fps args vs) (callAt Pn k) (exOf xr E) := {
      nm := fun y kd e => .inl (by rw [D.nm] at e; exact e)
      fnc := fun _ _ => rfl
      N := rfl
      nd := D.fs.nd
      calm := rfl
      K := rfl
      units := by have := room.un; show (A.deeper _).units + 200 < cLine; omega
      guards := hg
      sys := G.sys
      takes := L2.Takes.imp (takes_of rfl rfl rfl rfl) fun c d σ H' ⟨e, env, hx, hz⟩ => hz c d hx
      bor := fun p hp => by
        obtain ⟨_, _, m, e⟩ := lentB_mem hp
        rw [← D.bor]
        exact hok.2 _ m (by simpa using e)
      cst := G.cst
      blt := G.blt
      fns := fun y e he => by
        obtain ⟨f', fd', h1, h2, h3, h4, h5⟩ := L y e he
        exact ⟨k, f', fd', h1, h2, room, h3, h4, h5⟩
      eqv := fun y => by rw [D.nm]; rfl
      kind := D.fs.kind
      passes := passes_of rfl }
    refine ⟨TX (cfOf K xr H fps args vs) (exOf xr E) (execs (callAt Pn k) Γ.bor fn.body), compSs_ok (compS_ok fit 60) D.code, ?_⟩
    have q := body_tx (xr := xr) (N := Γ.N) (f := fn) (Φ := callAt Pn k) (Q := Q) (E' := E) en D.slots.symm (by
      have h' := h
      rw [ecall] at h'
      exact h')
    rw [D.bor] at q
    exact q
end
end Pv

/-! PwK: all levels of a text; the law's own call; what the head tells. -/
set_option linter.all false
set_option maxRecDepth 100000
set_option maxHeartbeats 4000000
namespace Pv
open PySem PySem.Spec PyProof.Rows L2

/-- the modules' table is a dict -/
def SysH (h : Heap) : Prop := ∃ o, h.get? sysModules = some o ∧ o.cls = .type "dict"
section
variable {P : Program} {w : World} {K : PySem.W.Frag} {mg : Str → Option Value} {base : Heap} {xr : XR} {Pn : List Fn} {tab : List (Str × FnE)}
/-- a def of the table, with its code -/
def RowOk (P : Program) (w : World) (K : PySem.W.Frag) (mg : Str → Option Value) (base : Heap) (Pn : List Fn) (tab : List (Str × FnE)) (x : Str) (e : FnE) : Prop :=
  ∃ (Γ : Gam) (y qual : Str) (params : Arguments) (body : List Stmt) (scope : Scope) (dvs : List V) (kws : List (Str × V)) (f : Addr) (fd : FuncData) (fn : Fn),
    mg x = some (.ref f) ∧ FunD K y qual params body scope dvs kws f fd ∧ DefC Γ body scope e.ps fn ∧ Ground P w K mg base Γ ∧ Pn[e.ix]? = some fn ∧ Γ.fns = tab ∧ Binds K fd e.ps [] ∧
      ∀ n ks perm, (n, ks) ∈ e.modes → permOf e.ps n ks = some perm → KBn K fd e.ps n ks (fun us ws => permL perm (us ++ ws)) (fun vs zs => permL perm (vs ++ zs))
theorem lvl_all (h : ∀ x e, tab.lookup x = some e → RowOk P w K mg base Pn tab x e) : ∀ k, Lvl P w K mg base xr Pn k tab
  | 0 => fun x e he => by
    obtain ⟨Γ, y, qual, params, body, scope, dvs, kws, f, fd, fn, h1, F, D, G, hi, hs, hb, hk⟩ := h x e he
    exact ⟨f, fd, h1, F.kp, lvl0, hb, hk⟩
  | k + 1 => fun x e he => by
    obtain ⟨Γ, y, qual, params, body, scope, dvs, kws, f, fd, fn, h1, F, D, G, hi, hs, hb, hk⟩ := h x e he
    refine ⟨f, fd, h1, F.kp, lvl_step F D G hi ?_, hb, hk⟩
    rw [hs]
    exact lvl_all h k
theorem lookup_has {β : Type} {x : Str} {b : β} : ∀ {l : List (Str × β)}, l.lookup x = some b → (x, b) ∈ l
  | (y, c) :: l, h => by
    rw [List.lookup_cons] at h
    split at h
    · rename_i q
      cases h
      rw [beq_iff_eq.mp q]
      exact List.mem_cons_self
    · exact List.mem_cons_of_mem _ (lookup_has h)
/-- keywords: no defaults -/
theorem vals_permL {perm : List Nat} : ∀ {vs : List V} {us : List Value}, Vals vs us → Vals (permL perm vs) (permL perm us) := by
  intro vs us h
  induction perm with
  | nil => exact .nil
  | cons j r ih =>
    unfold permL at ih ⊢
    rw [List.filterMap_cons, List.filterMap_cons]
    have key : (∃ v u, vs[j]? = some v ∧ us[j]? = some u ∧ RelV v u) ∨ (vs[j]? = none ∧ us[j]? = none) := by
      clear ih
      induction h generalizing j with
      | nil => exact .inr ⟨by simp, by simp⟩
      | cons q t ih2 =>
        cases j with
        | zero => exact .inl ⟨_, _, rfl, rfl, q⟩
        | succ j => simpa using ih2 j
    rcases key with ⟨v, u, e1, e2, q⟩ | ⟨e1, e2⟩
    · rw [e1, e2]
      exact .cons q ih
    · rw [e1, e2]
      exact ih
theorem vals_app {vs zs : List V} {us ws : List Value} (h : Vals vs us) (h2 : Vals zs ws) : Vals (vs ++ zs) (us ++ ws) := by
  induction h with
  | nil => exact h2
  | cons q t ih => exact .cons q ih
theorem kbn_of {x qual : Str} {params : Arguments} {body : List Stmt} {scope : Scope} {kws : List (Str × V)} {f : Addr} {fd : FuncData} {ps : List Str} {n : Nat} {ks : List Str} {perm : List Nat} (F : FunD K x qual params body scope [] kws f fd)
    (h : ∀ (kV doc pm : Value) (an : Option Addr) (cdv ct : Value) (us ws : List Value), us.length = n → ws.length = ks.length → bindArgs (PySem.W.fnOf x qual params body scope .none kV doc pm an cdv ct) ⟨us, ks.zip ws⟩ = pure (ps.zip (permL perm (us ++ ws)))) :
    KBn K fd ps n ks (fun us ws => permL perm (us ++ ws)) (fun vs zs => permL perm (vs ++ zs)) := by
  obtain ⟨oc, od, dV, kV, doc, pm, an, cdv, ct, osl, e, lk, hcd, hD, hK⟩ := F.ex
  rcases hD with ⟨_, q⟩ | ⟨q, _⟩
  · subst q
    subst e
    exact ⟨fun s us ws _ l1 l2 => .of_eq (h kV doc pm an cdv ct us ws l1 l2), fun r1 r2 => vals_permL (vals_app r1 r2)⟩
  · exact absurd rfl q
end

theorem funD_fd {K : PySem.W.Frag} {x qual x' qual' : Str} {params params' : Arguments} {body body' : List Stmt} {scope scope' : Scope} {dvs dvs' : List V} {kws kws' : List (Str × V)} {f : Addr} {fd fd' : FuncData} (F : FunD K x qual params body scope dvs kws f fd) (F' : FunD K x' qual' params' body' scope' dvs' kws' f fd') : fd = fd' := by
  obtain ⟨_, _, _, _, _, _, _, _, _, _, _, l1, _⟩ := F.ex
  obtain ⟨_, _, _, _, _, _, _, _, _, _, _, l2, _⟩ := F'.ex
  rw [l1] at l2
  cases l2
  rfl
/-- the law's call -/
theorem law_run {P : Program} {w : World} {K : PySem.W.Frag} {mg mb : Str → Option Value} {xr : XR} {k : Nat} {fa a : Addr} {fd : FuncData} {x : Str} {Φf : List Val → CR} {s1 : Shared} {vs : List Value} {ns : List Int}
    (inK : K.In s1.heap) (nsG : s1.heap.Ns mainGlobals mg) (nsB : s1.heap.Ns builtinsNs mb) (boot : ∀ y : Str, y ≠ "__name__" → mb y = bootBuiltins y) (lim : s1.heap.NoLimit) (gens : s1.gens = #[]) (sysH : SysH s1.heap)
    (at_ : s1.heap.get? a = some { cls := .type "list", data := .seq vs.toArray }) (intsA : IntsAre vs ns) (few : ns.length ≤ sizeLine) (room : Room k callerA)
    (F : ∀ base : Heap, K.In base → base.Ns mainGlobals mg → SysH base → FnG P w K mg base k fa fd [x] (spF K xr Φf)) (bind : BindsTo s1 fd ⟨[.ref a], []⟩ [(x, .ref a)])
    (pure_ : Φf [.scr ns] = .ok (.sh (.bool true)) []) :
    codeAny (model P w) callerA (.call (.ref fa) ⟨[.ref a], []⟩) (fun r s' => r = .ok (.ret (.bool true)) ∧ OldK s1.heap s'.heap ∧ s'.os = s1.os ∧ AllBare s'.gens) s1 := by
  have rel := vals_ints intsA
  have lenV := intsA.length
  obtain ⟨osys, hsys, csys⟩ := sysH
  have aSys : a ≠ sysModules := fun e => by
    rw [e, hsys] at at_
    cases at_
    exact absurd csys (by simp)
  have main : ∀ H : Hp, Only H → SqF K H a (ns.map V.int) → HOk P w H s1.heap → (∀ b, H b ≠ none → b = a) → (H a ≠ none → K.lookup a = none) →
      codeAny (model P w) callerA (.call (.ref fa) ⟨[.ref a], []⟩) (fun r s' => r = .ok (.ret (.bool true)) ∧ OldK s1.heap s'.heap ∧ s'.os = s1.os ∧ AllBare s'.gens) s1 := by
    intro H only sq hok hA hK
    have at_a : ∀ {b : Addr} {u : HO}, H b = some u → b = a := fun q => hA _ (by rw [q]; simp)
    have noDict : ∀ {b : Addr} {o : Obj} {es : Array DictEntry} {ep : Nat}, s1.heap.get? b = some o → o.data = .dict es ep → H b = none := fun {b o es ep} e d => by
      cases q : H b with
      | none => rfl
      | some u =>
        cases at_a q
        rw [at_] at e; cases e
        exact absurd (show Data.seq vs.toArray _ = Data.dict es ep from d) (by simp)
    have toBase : ∀ {b : Addr} {m : Str → Option Value}, s1.heap.Ns b m → (hidT s1.heap H).Ns b m := fun ⟨o, es, ep, e, d, r⟩ => ⟨o, es, ep, hidT_get e (noDict e d), d, r⟩
    have kBase : K.In (hidT s1.heap H) := fun b o e => hidT_get (inK b o e) (by
      cases q : H b with
      | none => rfl
      | some u =>
        cases at_a q
        rw [hK (by rw [q]; simp)] at e; cases e)
    have sBase : SysH (hidT s1.heap H) := ⟨osys, hidT_get hsys (by
      cases q : H sysModules with
      | none => rfl
      | some u => exact absurd (at_a q).symm aSys), csys⟩
    obtain ⟨mc, lim1, lim2⟩ := lim
    have env0 : Env0 P w K mg (hidT s1.heap H) callerA [] s1 H := {
      frames := rfl
      mod := ⟨kBase, toBase nsG, ⟨mb, toBase nsB, boot⟩, mc, toBase lim1, lim2⟩
      bs := fun b o e => of_hidT e
      bsz := Nat.le_of_eq (hidT_size _ _)
      funs := trivial
      frf := fun b hb => absurd (show b ∈ ([] : List Addr) from hb) (by simp)
      hok := hok
      bare := .of_eq gens }
    have sp : spF K xr Φf [.ref a] H (fun v _ => v = .bl true) fun _ _ _ => False := by
      refine ⟨[], [[]], [.scr ns], ⟨rfl, rfl, fun i v e => ?_, fun i _ => ?_, by simp, fun b hb => by simp at hb, fun b hb => ?_, fun i m e => by cases i with
        | zero => simp at e
        | succ i => simp at e⟩, ?_⟩
      · cases i with
        | zero =>
          simp at e
          subst e
          exact ⟨_, rfl, rfl, a, rfl, sq⟩
        | succ i => simp at e
      · cases i <;> rfl
      · unfold Nn at hb
        simp at hb
      · rw [pure_]
        intro x' P' H' _ sr
        obtain ⟨_, dn⟩ := sr
        cases dn
        rfl
    refine codeAny_mono ((F _ kBase (toBase nsG) sBase).run callerA [] s1 H ⟨[.ref a], []⟩ [.ref a] [.ref a] _ _ room rfl env0 bind (.cons rfl .nil) sp) fun r s' h => ?_
    cases r with
    | error e =>
      obtain ⟨_, _, _, _, _, _, _, _, _, _, _, _, z⟩ := h
      exact z.elim
    | ok fl =>
      cases fl with
      | next => exact False.elim h
      | brk => exact False.elim h
      | cont => exact False.elim h
      | ret u =>
        obtain ⟨v, H', os, bare, un, hok', r', q⟩ := h
        cases (show v = V.bl true from q)
        cases (show u = Value.bool true from r')
        refine ⟨rfl, OldK.of_keep fun b o e => ?_, os, bare⟩
        cases q : H b with
        | none => exact un.keep b o e q (by intro z; exact absurd (show b ∈ ([] : List Addr) from z) (by simp)) (by simp)
        | some u =>
          rcases only b with z | ⟨ob, xs, z⟩
          · rw [q] at z; cases z
          · obtain ⟨e1, _⟩ := hok b _ z
            obtain ⟨e2, _⟩ := hok' b _ (un.frzs b ob _ z)
            rw [e] at e1; cases e1
            exact e2
  cases hk : K.lookup a with
  | some o =>
    have e := inK a o hk
    rw [at_] at e
    cases e
    exact main (fun _ => none) (fun _ => .inl rfl) (.inr fun H' => .inr ⟨_, vs.toArray, _, hk, rfl, rfl, rfl, by rw [List.size_toArray, lenV]; exact few, by simpa using rel⟩) (fun b u z => by cases (show (none : Option HO) = some u from z)) (fun b z => absurd rfl z) fun z => absurd rfl z
  | none =>
    have off : ∀ {b : Addr}, b ≠ a → (fun b => if b = a then some (HO.frz { cls := .type "list", data := .seq vs.toArray } (.lst (ns.map V.int))) else none) b = none := fun h => if_neg h
    have on : (fun b => if b = a then some (HO.frz { cls := .type "list", data := .seq vs.toArray } (.lst (ns.map V.int))) else none) a = some (HO.frz { cls := .type "list", data := .seq vs.toArray } (.lst (ns.map V.int))) := if_pos rfl
    refine main (fun b => if b = a then some (.frz { cls := .type "list", data := .seq vs.toArray } (.lst (ns.map V.int))) else none) (fun b => ?_) (.inl ⟨_, on⟩) (fun b u z => ?_) (fun b z => ?_) fun _ => hk
    · by_cases hb : b = a
      · subst hb; exact .inr ⟨_, _, on⟩
      · exact .inl (off hb)
    · by_cases hb : b = a
      · subst hb
        cases on.symm.trans z
        exact ⟨at_, by rw [List.length_map]; exact few, vs, _, rel, at_⟩
      · cases (off hb).symm.trans z
    · by_cases hb : b = a
      · exact hb
      · exact absurd (off hb) z

/-! ### the head -/
/-- the datum that a value of the written part is -/
def datV (K : PySem.W.Frag) : Nat → Value → PyData → Bool
  | _ + 1, .none, .none => true
  | _ + 1, .bool b, .bool c => b == c
  | _ + 1, .int i _, .int j => decide (i = j)
  | _ + 1, .str x _, .str y => decide (x = y)
  | n + 1, .ref a, .tuple ds => match K.lookup a with
    | some ⟨.type c, dc, .seq its _, _⟩ => dc.isNone && decide (c = "tuple") && decide (its.size ≤ sizeLine) && decide (its.toList.length = ds.length) && (its.toList.zip ds).all fun p => datV K n p.1 p.2
    | _ => false
  | _, _, _ => false
theorem dat_all {K : PySem.W.Frag} {n : Nat} (ih : ∀ u d, datV K n u d = true → ∃ v, RelV v u ∧ ∀ H N, Dn K H N v d) : ∀ (us : List Value) (ds : List PyData), us.length = ds.length → ((us.zip ds).all fun p => datV K n p.1 p.2) = true → ∃ vs, Vals vs us ∧ ∀ H N, DnAll K H N vs ds
  | [], [], _, _ => ⟨[], .nil, fun _ _ => .nil⟩
  | [], _ :: _, h, _ => by cases h
  | _ :: _, [], h, _ => by cases h
  | u :: us, d :: ds, h, q => by
    rw [List.zip_cons_cons, List.all_cons, Bool.and_eq_true] at q
    obtain ⟨v, r, s⟩ := ih u d q.1
    obtain ⟨vs, r2, s2⟩ := dat_all ih us ds (Nat.succ.inj h) q.2
    exact ⟨v :: vs, .cons r r2, fun H N => .cons (s H N) (s2 H N)⟩
theorem datV_ok {K : PySem.W.Frag} : ∀ (n : Nat) (u : Value) (d : PyData), datV K n u d = true → ∃ v, RelV v u ∧ ∀ H N, Dn K H N v d := by
  intro n
  induction n with
  | zero => intro u d h; cases h
  | succ n ih =>
    intro u d h
    unfold datV at h
    split at h
    · exact ⟨.non, rfl, fun _ _ => .non⟩
    · cases (beq_iff_eq.mp h)
      exact ⟨.bl _, rfl, fun _ _ => .bl _⟩
    · cases (of_decide_eq_true h)
      exact ⟨.int _, ⟨_, rfl⟩, fun _ _ => .int _⟩
    · cases (of_decide_eq_true h)
      exact ⟨.str _, ⟨_, rfl⟩, fun _ _ => .str _⟩
    · rename_i n2 a ds en
      cases en
      split at h
      · rename_i c od its ne osl q
        simp only [Bool.and_eq_true, decide_eq_true_eq] at h
        obtain ⟨⟨⟨⟨h0, h1⟩, h2⟩, h3⟩, h4⟩ := h
        have h0' : od = none := by cases od with | none => rfl | some _ => cases h0

        obtain ⟨vs, r, s⟩ := dat_all ih its.toList ds h3 h4
        exact ⟨.ref a, rfl, fun H N => .tup ⟨.inr ⟨_, its, ne, q, congrArg Value.type h1, rfl, h2, r⟩, .inr ⟨_, q, h0'⟩⟩ (s H N)⟩
      · cases h
    · cases h
/-- a global's datum -/
def cstB (K : PySem.W.Frag) (p : Str × PyData) : Bool := match PySem.W.nsIn K mainGlobals p.1 with
  | some (some v) => datV K 9 v p.2
  | _ => false
def sysB (g : Addr → Option Obj) : Bool := match g sysModules with
  | some ⟨.type c, _, _, _⟩ => decide (c = "dict")
  | _ => false
abbrev AlV : Type := He.AlD × Bool × Bool
def obsK (fa : List He.Fa) (fn : List He.DefD) (cs : List (Str × PyData)) (K : PySem.W.Frag) (b : Bool) : AlV := (He.obsD fa fn K, cs.all (cstB K), b)
def obsV (n : Nat) (fa : List He.Fa) (fn : List He.DefD) (cs : List (Str × PyData)) (g : Addr → Option Obj) : AlV := obsK fa fn cs (He.frG g (He.asD g n)) (sysB g)
def SaysV (fa : List He.Fa) (fn : List He.DefD) (cs : List (Str × PyData)) (K : PySem.W.Frag) : Prop := He.SaysD fa fn K ∧ ∀ p ∈ cs, cstB K p = true
theorem sysB_ok {g : Addr → Option Obj} (h : sysB g = true) : ∃ o, g sysModules = some o ∧ o.cls = .type "dict" := by
  unfold sysB at h
  split at h
  · rename_i c d dt sl e
    exact ⟨_, e, congrArg Value.type (of_decide_eq_true h)⟩
  · cases h
def hookV (n : Nat) (fa : List He.Fa) (fn : List He.DefD) (cs : List (Str × PyData)) : PySem.W.Hook where
  α := AlV
  obs := fun s => obsV n fa fn cs s.heap.get?
  val := fun _ => (He.valD fn, true, true)
  says := fun _ h => (∃ K : PySem.W.Frag, K.In h ∧ SaysV fa fn cs K) ∧ SysH h
  of := fun _ s e => by
    have e1 : He.obsD fa fn (He.frG s.heap.get? (He.asD s.heap.get? n)) = He.valD fn := congrArg (fun z : AlV => z.1) e
    have e2 : (cs.all (cstB (He.frG s.heap.get? (He.asD s.heap.get? n)))) = true := congrArg (fun z : AlV => z.2.1) e
    have e3 : sysB s.heap.get? = true := congrArg (fun z : AlV => z.2.2) e
    exact ⟨⟨_, He.frG_in, e1, fun p hp => List.all_eq_true.mp e2 p hp⟩, sysB_ok e3⟩
  keeps := fun _ _ _ ⟨⟨K, inK, c⟩, o, q, z⟩ k => ⟨⟨K, inK.keeps k, c⟩, o, k _ _ q, z⟩
theorem obsV_eq {n : Nat} {fa : List He.Fa} {fn : List He.DefD} {cs : List (Str × PyData)} {g : Addr → Option Obj} {s : Shared} (h : ∀ a, g a = s.heap.get? a) : obsV n fa fn cs g = (hookV n fa fn cs).obs s := by
  have e : g = s.heap.get? := funext h
  rw [e]; rfl
section
variable {K : PySem.W.Frag} {h : Heap} {mg : Str → Option Value} {fa : List He.Fa} {fn : List He.DefD} {cs : List (Str × PyData)} {P : Program} {w : World}
theorem cst_ok (X : K.In h) (G : h.Ns mainGlobals mg) (c : SaysV fa fn cs K) {x : Str} {d : PyData} (q : cs.lookup x = some d) : ∃ u v, mg x = some u ∧ RelV v u ∧ ∀ H N, Dn K H N v d := by
  have e := c.2 _ (lookup_has q)
  unfold cstB at e
  split at e
  · rename_i u e1
    obtain ⟨v, r, s⟩ := datV_ok _ _ _ e
    exact ⟨u, v, PySem.W.mg_of X G e1, r, s⟩
  · cases e
theorem fact_mem {f : He.Fa} (c : He.SaysD fa fn K) (h : f ∈ fa) : f.ok K = true := by
  obtain ⟨i, hi⟩ := List.mem_iff_getElem?.mp h
  exact c.fact i hi
theorem ground_of (X : K.In h) (G : h.Ns mainGlobals mg) (c : SaysV fa fn cs K) {base : Heap} (sys : SysH base) {Γ : Gam} (hc : Γ.cst = cs) (hb : ∀ x ∈ Γ.blt, He.Fa.free x ∈ fa) : Ground P w K mg base Γ :=
  ⟨sys, fun x d q => cst_ok X G c (by rw [← hc]; exact q), fun x hx => He.free_ok X G (fact_mem c.1 (hb x hx))⟩
/-- a def without defaults -/
theorem row_of (X : K.In h) (G : h.Ns mainGlobals mg) (c : SaysV fa fn cs K) {base : Heap} {Pn : List Fn} {tab : List (Str × FnE)} {x : Str} {e : FnE} {st : Stmt} {f : Fn} {Γ : Gam} (j : Nat)
    (hd : fn[j]? = some ⟨(x, none), x, x, defArgs st, defBody st, defScope st, [], []⟩) (hg : He.Fa.glo x ∈ fa) (D : DefC Γ (defBody st) (defScope st) e.ps f) (Gr : Ground P w K mg base Γ) (hi : Pn[e.ix]? = some f) (ht : Γ.fns = tab)
    (hb : ∀ (kV doc pm : Value) (an : Option Addr) (cdv ct : Value) (us : List Value), us.length = e.ps.length → bindArgs (PySem.W.fnOf x x (defArgs st) (defBody st) (defScope st) .none kV doc pm an cdv ct) ⟨us, []⟩ = pure (e.ps.zip us))
    (hk : ∀ q ∈ e.modes, ∀ perm, permOf e.ps q.1 q.2 = some perm → ∀ (kV doc pm : Value) (an : Option Addr) (cdv ct : Value) (us ws : List Value), us.length = q.1 → ws.length = q.2.length → bindArgs (PySem.W.fnOf x x (defArgs st) (defBody st) (defScope st) .none kV doc pm an cdv ct) ⟨us, q.2.zip ws⟩ = pure (e.ps.zip (permL perm (us ++ ws)))) :
    RowOk P w K mg base Pn tab x e := by
  obtain ⟨fd, F⟩ := c.1.def_ j hd
  have gl := He.glo_ok X G (fact_mem c.1 hg)
  exact ⟨Γ, x, x, defArgs st, defBody st, defScope st, [], [], _, fd, f, gl, F, D, Gr, hi, ht, F.bindsN hb, fun n ks perm hm hp => kbn_of F (hk (n, ks) hm perm hp)⟩
end
open PySem.W in
/-- a law, from its run by value -/
theorem walk_ofV {l : PySem.W.OpenLaw} {n k ix : Nat} {q : Program} {loose : List Str} {XP : (Str → Option Value) → Heap → Prop} {hn : Nat} {fa : List He.Fa} {fn : List He.DefD} {cs : List (Str × PyData)} {tab : List (Str × FnE)} {Pn : List Fn} {xr : PySem.W.Frag → XR} {d : DefRec} {x : Str} {e : FnE}
    (most_ : l.most = some n) (few : n ≤ sizeLine) (dfl : d.params.defaults = []) (room : Room k callerA) (ht : tab.lookup d.name = some e) (hx : e.ps = [x]) (hix : e.ix = ix)
    (rows : ∀ (w : World) (K : PySem.W.Frag) (mg : Str → Option Value) (base : Heap), K.In base → base.Ns mainGlobals mg → SaysV fa fn cs K → SysH base → ∀ y e, tab.lookup y = some e → RowOk l.prog w K mg base Pn tab y e)
    (pure_ : ∀ ns : List Int, ns.length ≤ n → callAt Pn k ix [.scr ns] = .ok (.sh (.bool true)) []) :
    PySem.W.WalkO q loose XP (hookV hn fa fn cs).says l.row.toRowW d [] (fun f vs => PySem.call f vs) := by
  refine Att.attach_call most_ dfl fun w s0 s1 mg mb f o pm cd doc a vs ns G Y ho hd hcd hmg hobj hints hlen hg => ?_
  obtain ⟨⟨K, inK, says⟩, sys⟩ := Y
  obtain ⟨Γ, y, qual, params, body, scope, dvs, kws, f', fd, fn', h1, F, _, _, _, _, hb, _⟩ := rows w K mg _ inK G.T.g says sys d.name e ht
  have ef : f' = f := by
    rw [hmg] at h1
    cases h1
    rfl
  subst ef
  have bind := hb s1 [.ref a] inK (by rw [hx]; rfl)
  rw [hx] at bind
  refine law_run (xr := xr K) (Φf := callAt Pn k ix) (x := x) (fd := fd) inK G.T.g G.T.b G.T.builtins G.T.nolimit hg sys hobj hints (Nat.le_trans hlen few) room (fun base bK bG bS => ?_) bind (pure_ ns hlen)
  have r2 := rows w K mg base bK bG says bS
  obtain ⟨Γ2, y2, qual2, params2, body2, scope2, dvs2, kws2, f2, fd2, fn2, g1, F2, D2, G2, i2, t2, _⟩ := r2 d.name e ht
  rw [hmg] at g1
  cases g1
  cases funD_fd F F2
  have z : FnG l.prog w K mg base k f' fd e.ps (spF K (xr K) (callAt Pn k e.ix)) := by
    cases k with
    | zero => exact lvl0
    | succ k =>
      refine lvl_step F2 D2 G2 i2 ?_
      rw [t2]
      exact lvl_all r2 k
  rw [hx, hix] at z
  exact z
end Pv

set_option Elab.async false
set_option linter.all false
set_option maxRecDepth 100000
set_option maxHeartbeats 0
/-! the law law_k10_blocks_of_logs: its code, its rows, its head (printed by gencode.py) -/
namespace Lw_k10
open PySem PySem.Spec PyProof.Rows L2 Pv
def top (i : Nat) : Stmt := PySem.Challenge.pw_readorder_k10_blocks_of_logs.main.body.getD i (.Pass ⟨0, 0, 0, 0⟩)
def tab : List (Str × FnE) := ([("shared_cells", ⟨0, ["logs"], [], []⟩), ("parts_by", ⟨1, ["logs", "cell"], [], []⟩), ("splitting_cells", ⟨2, ["logs"], [], []⟩), ("is_stuck", ⟨3, ["logs"], [], []⟩), ("blocks", ⟨4, ["logs"], [], []⟩), ("_law_box", ⟨5, ["_law_script", "_law_k"], [], []⟩), ("_law_take", ⟨6, ["_law_box_here", "_law_upon"], [0], []⟩), ("_law_of", ⟨7, ["_law_box_here", "_law_some"], [0], []⟩), ("_law_cells", ⟨8, ["_law_box_here", "_law_count"], [0], []⟩), ("_law_values", ⟨9, ["_law_box_here", "_law_count"], [0], []⟩), ("_law_tree", ⟨10, ["_law_box_here", "_law_cells_here", "_law_budget"], [0], []⟩), ("_law_leaves", ⟨11, ["_law_tree_here"], [], []⟩), ("_law_loose", ⟨12, ["_law_box_here", "_law_cells_here", "_law_count"], [0], []⟩), ("_law_logs", ⟨13, ["_law_box_here", "_law_cells_here", "_law_budget"], [0], []⟩), ("_law_shared", ⟨14, ["_law_family", "_law_read"], [], []⟩), ("_law_parts", ⟨15, ["_law_family", "_law_name"], [], []⟩), ("_law_own_splitting", ⟨16, ["_law_logs_here"], [], []⟩), ("_law_own_blocks", ⟨17, ["_law_box_here", "_law_logs_here"], [0], []⟩), ("_law_drawn_logs", ⟨18, ["_law_box_here"], [0], []⟩), ("_law_right", ⟨19, ["_law_box_here", "_law_logs_here"], [0], []⟩), ("law", ⟨20, ["_law_script"], [], []⟩)] : List (Str × FnE))
def CS : List (Str × PyData) := []
def BL : List Str := ["abs", "all", "dict", "int", "len", "list", "max", "min", "range", "repr", "set", "sorted", "tuple"]
def N0 : List Str := ["logs", "others", "log", "cell", "value", "other"]
def G0 : Gam := ⟨N0, (defScope (top 1)).names, [], tab, CS, BL, []⟩
/-- shared_cells -/
def F0 : Fn := ⟨6, 1, [], [(.ifs (.cmp .eq (.var 0) (.tup [])) [(.ret (.tup []))] []), (.asg (.name 1) (.comp [2] (.it (.slc (.var 0) (some (.cst (.int (1)))) none)) (.name 2) [] (.prim .dict [(.var 2)]))), (.ret (.prim .tuple [(.comp [3, 4] (.it (.idx (.var 0) (.cst (.int (0))))) (.tup [(.name 3), (.name 4)]) [(.prim .all [(.comp [5] (.it (.var 1)) (.name 5) [] (.cmp .inn (.var 3) (.var 5)))])] (.var 3))]))]⟩
theorem C0 : mapO (compS G0 60) (defBody (top 1)) = some F0.body := by kernel_rfl
theorem D0 : DefC G0 (defBody (top 1)) (defScope (top 1)) ["logs"] F0 := ⟨⟨rfl, rfl, rfl, by decide +kernel, rfl, by decide +kernel, by decide +kernel⟩, rfl, C0, rfl, rfl, rfl⟩
def N1 : List Str := ["logs", "cell", "parts", "log", "value"]
def G1 : Gam := ⟨N1, (defScope (top 3)).names, [], tab, CS, BL, [2]⟩
/-- parts_by -/
def F1 : Fn := ⟨5, 2, [], [(.asg (.name 2) .dict0), (.loop (.it (.var 0)) (.name 3) [(.dsa 2 (.idx (.prim .dict [(.var 3)]) (.var 1)) (.var 3))]), (.ret (.comp [4] (.it (.prim .sorted [(.var 2)])) (.name 4) [] (.tup [(.var 4), (.prim .tuple [(.idx (.var 2) (.var 4))])])))]⟩
theorem C1 : mapO (compS G1 60) (defBody (top 3)) = some F1.body := by kernel_rfl
theorem D1 : DefC G1 (defBody (top 3)) (defScope (top 3)) ["logs", "cell"] F1 := ⟨⟨rfl, rfl, rfl, by decide +kernel, rfl, by decide +kernel, by decide +kernel⟩, rfl, C1, rfl, rfl, rfl⟩
def N2 : List Str := ["logs", "maps", "log", "cell", "one"]
def G2 : Gam := ⟨N2, (defScope (top 4)).names, [], tab, CS, BL, []⟩
/-- splitting_cells -/
def F2 : Fn := ⟨5, 1, [], [(.asg (.name 1) (.comp [2] (.it (.var 0)) (.name 2) [] (.prim .dict [(.var 2)]))), (.ret (.prim .tuple [(.comp [3] (.it (.call 0 [0] [(.val (.var 0))])) (.name 3) [(.cmp .gt (.lenSet (.comp [4] (.it (.var 1)) (.name 4) [] (.idx (.var 4) (.var 3)))) (.cst (.int (1))))] (.var 3))]))]⟩
theorem C2 : mapO (compS G2 60) (defBody (top 4)) = some F2.body := by kernel_rfl
theorem D2 : DefC G2 (defBody (top 4)) (defScope (top 4)) ["logs"] F2 := ⟨⟨rfl, rfl, rfl, by decide +kernel, rfl, by decide +kernel, by decide +kernel⟩, rfl, C2, rfl, rfl, rfl⟩
def N3 : List Str := ["logs"]
def G3 : Gam := ⟨N3, (defScope (top 5)).names, [], tab, CS, BL, []⟩
/-- is_stuck -/
def F3 : Fn := ⟨1, 1, [], [(.ret (.and [(.cmp .gt (.prim .len [(.var 0)]) (.cst (.int (1)))), (.cmp .eq (.call 2 [0] [(.val (.var 0))]) (.tup []))]))]⟩
theorem C3 : mapO (compS G3 60) (defBody (top 5)) = some F3.body := by kernel_rfl
theorem D3 : DefC G3 (defBody (top 5)) (defScope (top 5)) ["logs"] F3 := ⟨⟨rfl, rfl, rfl, by decide +kernel, rfl, by decide +kernel, by decide +kernel⟩, rfl, C3, rfl, rfl, rfl⟩
def N4 : List Str := ["logs", "found", "waiting", "group", "cells", "value", "part"]
def G4 : Gam := ⟨N4, (defScope (top 6)).names, [], tab, CS, BL, []⟩
/-- blocks -/
def F4 : Fn := ⟨7, 1, [], [(.par 1 2 (.lst []) (.lst [])), (.ifs (.cmp .gt (.prim .len [(.var 0)]) (.cst (.int (0)))) [(.append 2 (.var 0))] []), (.whl (.cmp .ne (.var 2) (.lst [])) [(.asg (.name 3) (.pop 2)), (.asg (.name 4) (.call 2 [0] [(.val (.var 3))])), (.ifs (.cmp .eq (.var 4) (.tup [])) [(.append 1 (.var 3))] [(.extend 2 (.comp [5, 6] (.it (.call 1 [0, 1] [(.val (.var 3)), (.val (.idx (.var 4) (.cst (.int (0)))))])) (.tup [(.name 5), (.name 6)]) [] (.var 6)))])]), (.ret (.prim .tuple [(.prim .sorted [(.var 1)])]))]⟩
theorem C4 : mapO (compS G4 60) (defBody (top 6)) = some F4.body := by kernel_rfl
theorem D4 : DefC G4 (defBody (top 6)) (defScope (top 6)) ["logs"] F4 := ⟨⟨rfl, rfl, rfl, by decide +kernel, rfl, by decide +kernel, by decide +kernel⟩, rfl, C4, rfl, rfl, rfl⟩
def N5 : List Str := ["_law_script", "_law_k", "_law_name", "_law_own"]
def G5 : Gam := ⟨N5, (defScope (top 8)).names, [], tab, CS, BL, []⟩
/-- _law_box -/
def F5 : Fn := ⟨4, 2, [], [(.asg (.name 2) (.ife (.cmp .lt (.var 1) (.prim .len [(.var 0)])) (.idx (.var 0) (.var 1)) (.bin .add (.bin .mul (.cst (.int (5))) (.var 1)) (.cst (.int (2)))))), (.asg (.name 3) (.bin .mul (.bin .mod (.prim .abs [(.var 2)]) (.bin .pow (.bin .pow (.cst (.int (10))) (.cst (.int (60)))) (.cst (.int (5))))) (.prim .int [(.cmp .ge (.prim .abs [(.var 2)]) (.bin .pow (.cst (.int (10))) (.cst (.int (18)))))]))), (.ret (.lst [(.var 3), (.bin .mod (.bin .mul (.bin .add (.bin .add (.bin .mod (.var 2) (.cst (.int (2305843009213693951)))) (.bin .mul (.bin .mul (.cst (.int (104729))) (.var 1)) (.var 1))) (.cst (.int (37)))) (.cst (.int (48271)))) (.cst (.int (2305843009213693921)))), (.cst (.int (0)))]))]⟩
theorem C5 : mapO (compS G5 60) (defBody (top 8)) = some F5.body := by kernel_rfl
theorem D5 : DefC G5 (defBody (top 8)) (defScope (top 8)) ["_law_script", "_law_k"] F5 := ⟨⟨rfl, rfl, rfl, by decide +kernel, rfl, by decide +kernel, by decide +kernel⟩, rfl, C5, rfl, rfl, rfl⟩
def N6 : List Str := ["_law_box_here", "_law_upon", "_law_prime", "_law_drawn", "_law_digit"]
def G6 : Gam := ⟨N6, (defScope (top 9)).names, [0], tab, CS, BL, []⟩
/-- _law_take -/
def F6 : Fn := ⟨5, 2, [0], [(.ifs (.cmp .gt (.idx (.var 0) (.cst (.int (0)))) (.cst (.int (0)))) [(.asg (.name 4) (.bin .mod (.idx (.var 0) (.cst (.int (0)))) (.var 1))), (.seti 0 (.cst (.int (0))) (.bin .fdiv (.idx (.var 0) (.cst (.int (0)))) (.var 1))), (.retV 4)] []), (.seti 0 (.cst (.int (2))) (.bin .add (.idx (.var 0) (.cst (.int (2)))) (.cst (.int (1))))), (.asg (.name 2) (.idx (.lst [(.cst (.int (2147483629))), (.cst (.int (2147483587))), (.cst (.int (2147483579))), (.cst (.int (2147483563))), (.cst (.int (2147483549))), (.cst (.int (2147483543))), (.cst (.int (2147483497)))]) (.bin .mod (.idx (.var 0) (.cst (.int (2)))) (.cst (.int (7)))))), (.asg (.name 3) (.bin .mod (.bin .pow (.bin .add (.idx (.var 0) (.cst (.int (1)))) (.bin .mul (.cst (.int (7919))) (.idx (.var 0) (.cst (.int (2)))))) (.cst (.int (3)))) (.var 2))), (.asg (.name 3) (.bin .mod (.bin .mul (.var 3) (.bin .add (.bin .mod (.var 3) (.cst (.int (1009)))) (.idx (.var 0) (.cst (.int (2)))))) (.var 2))), (.ifs (.cmp .gt (.var 1) (.bin .pow (.cst (.int (10))) (.cst (.int (6))))) [(.asg (.name 3) (.bin .add (.bin .mul (.var 3) (.cst (.int (1000000007)))) (.bin .mod (.bin .add (.bin .mul (.idx (.var 0) (.cst (.int (1)))) (.bin .add (.idx (.var 0) (.cst (.int (2)))) (.cst (.int (3))))) (.bin .mul (.var 3) (.var 3))) (.cst (.int (1000000007))))))] []), (.ret (.bin .mod (.bin .fdiv (.var 3) (.cst (.int (11)))) (.var 1)))]⟩
theorem C6 : mapO (compS G6 60) (defBody (top 9)) = some F6.body := by kernel_rfl
theorem D6 : DefC G6 (defBody (top 9)) (defScope (top 9)) ["_law_box_here", "_law_upon"] F6 := ⟨⟨rfl, rfl, rfl, by decide +kernel, rfl, by decide +kernel, by decide +kernel⟩, rfl, C6, rfl, rfl, rfl⟩
def N7 : List Str := ["_law_box_here", "_law_some"]
def G7 : Gam := ⟨N7, (defScope (top 10)).names, [0], tab, CS, BL, []⟩
/-- _law_of -/
def F7 : Fn := ⟨2, 2, [0], [(.ret (.idx (.var 1) (.call 6 [0, 1] [(.lend 0), (.val (.prim .len [(.var 1)]))])))]⟩
theorem C7 : mapO (compS G7 60) (defBody (top 10)) = some F7.body := by kernel_rfl
theorem D7 : DefC G7 (defBody (top 10)) (defScope (top 10)) ["_law_box_here", "_law_some"] F7 := ⟨⟨rfl, rfl, rfl, by decide +kernel, rfl, by decide +kernel, by decide +kernel⟩, rfl, C7, rfl, rfl, rfl⟩
def N8 : List Str := ["_law_box_here", "_law_count", "_law_letters", "_law_stem", "_law_cut", "_law_start", "_law_leap", "_law_turn"]
def G8 : Gam := ⟨N8, (defScope (top 11)).names, [0], tab, CS, BL, []⟩
/-- _law_cells -/
def F8 : Fn := ⟨8, 2, [0], [(.asg (.name 2) (.cst (.str "abcdefghijklmnopqrstuvwxyz"))), (.asg (.tup [(.name 5), (.name 6)]) (.tup [(.call 6 [0, 1] [(.lend 0), (.val (.cst (.int (26))))]), (.call 7 [0, 1] [(.lend 0), (.val (.lst [(.cst (.int (1))), (.cst (.int (3))), (.cst (.int (5))), (.cst (.int (7))), (.cst (.int (9))), (.cst (.int (11)))]))])])), (.asg (.name 3) (.meth .join (.cst (.str "")) [(.comp [7] (.rng (.call 7 [0, 1] [(.lend 0), (.val (.lst [(.cst (.int (0))), (.cst (.int (0))), (.cst (.int (1))), (.cst (.int (2))), (.cst (.int (4))), (.cst (.int (7)))]))])) (.name 7) [] (.call 7 [0, 1] [(.lend 0), (.val (.var 2))]))])), (.asg (.name 4) (.call 6 [0, 1] [(.lend 0), (.val (.bin .add (.prim .len [(.var 3)]) (.cst (.int (1)))))])), (.ret (.comp [7] (.rng (.var 1)) (.name 7) [] (.bin .add (.bin .add (.slc (.var 3) none (some (.var 4))) (.idx (.var 2) (.bin .mod (.bin .add (.var 5) (.bin .mul (.var 6) (.var 7))) (.cst (.int (26)))))) (.slc (.var 3) (some (.var 4)) none))))]⟩
theorem C8 : mapO (compS G8 60) (defBody (top 11)) = some F8.body := by kernel_rfl
theorem D8 : DefC G8 (defBody (top 11)) (defScope (top 11)) ["_law_box_here", "_law_count"] F8 := ⟨⟨rfl, rfl, rfl, by decide +kernel, rfl, by decide +kernel, by decide +kernel⟩, rfl, C8, rfl, rfl, rfl⟩
def N9 : List Str := ["_law_box_here", "_law_count", "_law_some", "_law_found", "_law_turn", "_law_value", "_law_spare", "_law_each"]
def G9 : Gam := ⟨N9, (defScope (top 12)).names, [0], tab, CS, BL, []⟩
/-- _law_values -/
def F9 : Fn := ⟨8, 2, [0], [(.asg (.name 2) (.lst [(.cst (.int (0))), (.cst (.int (1))), (.cst (.int (2))), (.cst (.int (3))), (.cst (.int (7))), (.bin .pow (.cst (.int (10))) (.cst (.int (9)))), (.bin .add (.cst (.int (1))) (.call 6 [0, 1] [(.lend 0), (.val (.bin .pow (.cst (.int (10))) (.cst (.int (9)))))]))])), (.asg (.name 3) (.lst [])), (.loop (.rng (.var 1)) (.name 4) [(.asg (.name 5) (.idx (.var 2) (.call 6 [0, 1] [(.lend 0), (.val (.cst (.int (7))))]))), (.asg (.name 6) (.idx (.comp [7] (.it (.tup [(.cst (.int (11))), (.cst (.int (12))), (.cst (.int (13))), (.cst (.int (14))), (.cst (.int (15)))])) (.name 7) [(.cmp .nin (.var 7) (.var 3))] (.var 7)) (.cst (.int (0))))), (.append 3 (.ife (.cmp .nin (.var 5) (.var 3)) (.var 5) (.var 6)))]), (.ret (.prim .sorted [(.var 3)]))]⟩
theorem C9 : mapO (compS G9 60) (defBody (top 12)) = some F9.body := by kernel_rfl
theorem D9 : DefC G9 (defBody (top 12)) (defScope (top 12)) ["_law_box_here", "_law_count"] F9 := ⟨⟨rfl, rfl, rfl, by decide +kernel, rfl, by decide +kernel, by decide +kernel⟩, rfl, C9, rfl, rfl, rfl⟩
def N10 : List Str := ["_law_box_here", "_law_cells_here", "_law_budget", "_law_left", "_law_name", "_law_count", "_law_branches", "_law_value"]
def G10 : Gam := ⟨N10, (defScope (top 13)).names, [0], tab, CS, BL, []⟩
/-- _law_tree -/
def F10 : Fn := ⟨8, 3, [0], [(.ifs (.or [(.cmp .eq (.var 1) (.lst [])), (.cmp .lt (.var 2) (.cst (.int (1)))), (.cmp .eq (.call 6 [0, 1] [(.lend 0), (.val (.cst (.int (5))))]) (.cst (.int (0))))]) [(.ret (.tup []))] []), (.asg (.name 3) (.prim .list [(.var 1)])), (.asg (.name 4) (.popAt 3 (.call 6 [0, 1] [(.lend 0), (.val (.prim .len [(.var 3)]))]))), (.asg (.name 5) (.bin .add (.cst (.int (1))) (.call 6 [0, 1] [(.lend 0), (.val (.prim .min2 [(.cst (.int (3))), (.var 2)]))]))), (.asg (.name 6) (.lst [])), (.loop (.it (.call 9 [0, 1] [(.lend 0), (.val (.var 5))])) (.name 7) [(.append 6 (.tup [(.var 7), (.call 10 [0, 1, 2] [(.lend 0), (.val (.var 3)), (.val (.bin .fdiv (.var 2) (.var 5)))])]))]), (.ret (.tup [(.var 4), (.prim .tuple [(.var 6)])]))]⟩
theorem C10 : mapO (compS G10 60) (defBody (top 13)) = some F10.body := by kernel_rfl
theorem D10 : DefC G10 (defBody (top 13)) (defScope (top 13)) ["_law_box_here", "_law_cells_here", "_law_budget"] F10 := ⟨⟨rfl, rfl, rfl, by decide +kernel, rfl, by decide +kernel, by decide +kernel⟩, rfl, C10, rfl, rfl, rfl⟩
def N11 : List Str := ["_law_tree_here", "_law_found", "_law_waiting", "_law_here", "_law_pairs", "_law_value", "_law_below"]
def G11 : Gam := ⟨N11, (defScope (top 14)).names, [], tab, CS, BL, []⟩
/-- _law_leaves -/
def F11 : Fn := ⟨7, 1, [], [(.par 1 2 (.lst []) (.lst [(.tup [(.var 0), (.tup [])])])), (.whl (.cmp .ne (.var 2) (.lst [])) [(.asg (.tup [(.name 3), (.name 4)]) (.pop 2)), (.ifs (.cmp .eq (.var 3) (.tup [])) [(.append 1 (.prim .tuple [(.prim .sorted [(.var 4)])]))] [(.extend 2 (.comp [5, 6] (.it (.idx (.var 3) (.cst (.int (1))))) (.tup [(.name 5), (.name 6)]) [] (.tup [(.var 6), (.bin .add (.var 4) (.tup [(.tup [(.idx (.var 3) (.cst (.int (0)))), (.var 5)])]))])))])]), (.ret (.prim .tuple [(.prim .sorted [(.var 1)])]))]⟩
theorem C11 : mapO (compS G11 60) (defBody (top 14)) = some F11.body := by kernel_rfl
theorem D11 : DefC G11 (defBody (top 14)) (defScope (top 14)) ["_law_tree_here"] F11 := ⟨⟨rfl, rfl, rfl, by decide +kernel, rfl, by decide +kernel, by decide +kernel⟩, rfl, C11, rfl, rfl, rfl⟩
def N12 : List Str := ["_law_box_here", "_law_cells_here", "_law_count", "_law_found", "_law_turn", "_law_entry", "_law_name"]
def G12 : Gam := ⟨N12, (defScope (top 15)).names, [0], tab, CS, BL, []⟩
/-- _law_loose -/
def F12 : Fn := ⟨7, 3, [0], [(.asg (.name 3) (.lst [])), (.loop (.rng (.var 2)) (.name 4) [(.asg (.name 5) (.prim .tuple [(.prim .sorted [(.comp [6] (.it (.var 1)) (.name 6) [(.cmp .gt (.call 6 [0, 1] [(.lend 0), (.val (.cst (.int (3))))]) (.cst (.int (0))))] (.tup [(.var 6), (.call 6 [0, 1] [(.lend 0), (.val (.cst (.int (3))))])]))])])), (.extend 3 (.bin .mul (.lst [(.var 5)]) (.prim .int [(.cmp .nin (.var 5) (.var 3))])))]), (.ret (.prim .tuple [(.prim .sorted [(.var 3)])]))]⟩
theorem C12 : mapO (compS G12 60) (defBody (top 15)) = some F12.body := by kernel_rfl
theorem D12 : DefC G12 (defBody (top 15)) (defScope (top 15)) ["_law_box_here", "_law_cells_here", "_law_count"] F12 := ⟨⟨rfl, rfl, rfl, by decide +kernel, rfl, by decide +kernel, by decide +kernel⟩, rfl, C12, rfl, rfl, rfl⟩
def N13 : List Str := ["_law_box_here", "_law_cells_here", "_law_budget", "_law_way", "_law_found", "_law_at", "_law_entry", "_law_spot", "_law_changed", "_law_name", "_law_value"]
def G13 : Gam := ⟨N13, (defScope (top 16)).names, [0], tab, CS, BL, []⟩
/-- _law_logs -/
def F13 : Fn := ⟨11, 3, [0], [(.asg (.name 3) (.call 6 [0, 1] [(.lend 0), (.val (.cst (.int (6))))])), (.ifs (.cmp .eq (.var 3) (.cst (.int (0)))) [(.ret (.call 12 [0, 1, 2] [(.lend 0), (.val (.var 1)), (.val (.bin .add (.cst (.int (1))) (.call 6 [0, 1] [(.lend 0), (.val (.var 2))])))]))] []), (.asg (.name 4) (.prim .list [(.call 11 [0] [(.val (.call 10 [0, 1, 2] [(.lend 0), (.val (.var 1)), (.val (.var 2))]))])])), (.ifs (.and [(.cmp .eq (.var 3) (.cst (.int (1)))), (.cmp .ne (.idx (.var 4) (.cst (.int (0)))) (.tup []))]) [(.asg (.name 5) (.call 6 [0, 1] [(.lend 0), (.val (.prim .len [(.var 4)]))])), (.asg (.name 6) (.popAt 4 (.var 5))), (.asg (.name 7) (.ife (.cmp .ne (.var 6) (.tup [])) (.call 6 [0, 1] [(.lend 0), (.val (.prim .len [(.var 6)]))]) (.cst (.int (0))))), (.asg (.name 8) (.prim .tuple [(.comp [9, 10] (.it (.slc (.var 6) (some (.var 7)) (some (.bin .add (.var 7) (.cst (.int (1))))))) (.tup [(.name 9), (.name 10)]) [] (.tup [(.var 9), (.bin .mod (.bin .add (.var 10) (.cst (.int (1)))) (.bin .pow (.cst (.int (10))) (.cst (.int (9)))))]))])), (.asg (.name 6) (.bin .add (.bin .add (.slc (.var 6) none (some (.var 7))) (.var 8)) (.slc (.var 6) (some (.bin .add (.var 7) (.cst (.int (1))))) none))), (.extend 4 (.bin .mul (.lst [(.var 6)]) (.prim .int [(.cmp .nin (.var 6) (.var 4))])))] []), (.ret (.prim .tuple [(.prim .sorted [(.var 4)])]))]⟩
theorem C13 : mapO (compS G13 60) (defBody (top 16)) = some F13.body := by kernel_rfl
theorem D13 : DefC G13 (defBody (top 16)) (defScope (top 16)) ["_law_box_here", "_law_cells_here", "_law_budget"] F13 := ⟨⟨rfl, rfl, rfl, by decide +kernel, rfl, by decide +kernel, by decide +kernel⟩, rfl, C13, rfl, rfl, rfl⟩
def N14 : List Str := ["_law_family", "_law_read", "_law_tables", "_law_each", "_law_name", "_law_value", "_law_table"]
def G14 : Gam := ⟨N14, (defScope (top 17)).names, [], tab, CS, BL, []⟩
/-- _law_shared -/
def F14 : Fn := ⟨7, 2, [], [(.asg (.name 2) (.comp [3] (.it (.var 0)) (.name 3) [] (.prim .dict [(.prim .list [(.var 3)])]))), (.ret (.comp [4, 5] (.it (.idx (.var 0) (.cst (.int (0))))) (.tup [(.name 4), (.name 5)]) [(.and [(.cmp .nin (.var 4) (.var 1)), (.prim .all [(.comp [6] (.it (.var 2)) (.name 6) [] (.cmp .inn (.var 4) (.var 6)))])])] (.var 4)))]⟩
theorem C14 : mapO (compS G14 60) (defBody (top 17)) = some F14.body := by kernel_rfl
theorem D14 : DefC G14 (defBody (top 17)) (defScope (top 17)) ["_law_family", "_law_read"] F14 := ⟨⟨rfl, rfl, rfl, by decide +kernel, rfl, by decide +kernel, by decide +kernel⟩, rfl, C14, rfl, rfl, rfl⟩
def N15 : List Str := ["_law_family", "_law_name", "_law_found", "_law_entry"]
def G15 : Gam := ⟨N15, (defScope (top 18)).names, [], tab, CS, BL, [2]⟩
/-- _law_parts -/
def F15 : Fn := ⟨4, 2, [], [(.asg (.name 2) .dict0), (.loop (.it (.var 0)) (.name 3) [(.dsa 2 (.idx (.prim .dict [(.prim .list [(.var 3)])]) (.var 1)) (.var 3))]), (.retV 2)]⟩
theorem C15 : mapO (compS G15 60) (defBody (top 18)) = some F15.body := by kernel_rfl
theorem D15 : DefC G15 (defBody (top 18)) (defScope (top 18)) ["_law_family", "_law_name"] F15 := ⟨⟨rfl, rfl, rfl, by decide +kernel, rfl, by decide +kernel, by decide +kernel⟩, rfl, C15, rfl, rfl, rfl⟩
def N16 : List Str := ["_law_logs_here", "_law_found", "_law_cell"]
def G16 : Gam := ⟨N16, (defScope (top 19)).names, [], tab, CS, BL, []⟩
/-- _law_own_splitting -/
def F16 : Fn := ⟨3, 1, [], [(.asg (.name 1) (.lst [])), (.loop (.it (.call 14 [0, 1] [(.val (.var 0)), (.val (.tup []))])) (.name 2) [(.ifs (.cmp .gt (.prim .len [(.call 15 [0, 1] [(.val (.var 0)), (.val (.var 2))])]) (.cst (.int (1)))) [(.append 1 (.var 2))] [])]), (.retV 1)]⟩
theorem C16 : mapO (compS G16 60) (defBody (top 19)) = some F16.body := by kernel_rfl
theorem D16 : DefC G16 (defBody (top 19)) (defScope (top 19)) ["_law_logs_here"] F16 := ⟨⟨rfl, rfl, rfl, by decide +kernel, rfl, by decide +kernel, by decide +kernel⟩, rfl, C16, rfl, rfl, rfl⟩
def N17 : List Str := ["_law_box_here", "_law_logs_here", "_law_found", "_law_waiting", "_law_group", "_law_cells_here", "_law_parts_here", "_law_value"]
def G17 : Gam := ⟨N17, (defScope (top 20)).names, [0], tab, CS, BL, [6]⟩
/-- _law_own_blocks -/
def F17 : Fn := ⟨8, 2, [0], [(.par 2 3 (.lst []) (.lst [(.prim .list [(.var 1)])])), (.whl (.cmp .ne (.var 3) (.lst [])) [(.asg (.name 4) (.pop 3)), (.asg (.name 5) (.call 16 [0] [(.val (.var 4))])), (.ifs (.cmp .eq (.var 5) (.lst [])) [(.append 2 (.prim .tuple [(.prim .sorted [(.var 4)])]))] [(.asg (.name 6) (.call 15 [0, 1] [(.val (.var 4)), (.val (.call 7 [0, 1] [(.lend 0), (.val (.var 5))]))])), (.extend 3 (.comk [7] 6 (.name 7) [] (.idx (.var 6) (.var 7))))])]), (.ret (.prim .tuple [(.prim .sorted [(.var 2)])]))]⟩
theorem C17 : mapO (compS G17 60) (defBody (top 20)) = some F17.body := by kernel_rfl
theorem D17 : DefC G17 (defBody (top 20)) (defScope (top 20)) ["_law_box_here", "_law_logs_here"] F17 := ⟨⟨rfl, rfl, rfl, by decide +kernel, rfl, by decide +kernel, by decide +kernel⟩, rfl, C17, rfl, rfl, rfl⟩
def N18 : List Str := ["_law_box_here"]
def G18 : Gam := ⟨N18, (defScope (top 21)).names, [0], tab, CS, BL, []⟩
/-- _law_drawn_logs -/
def F18 : Fn := ⟨1, 1, [0], [(.ret (.call 13 [0, 1, 2] [(.lend 0), (.val (.call 8 [0, 1] [(.lend 0), (.val (.bin .add (.cst (.int (1))) (.call 6 [0, 1] [(.lend 0), (.val (.cst (.int (5))))])))])), (.val (.bin .add (.cst (.int (1))) (.call 6 [0, 1] [(.lend 0), (.val (.cst (.int (8))))])))]))]⟩
theorem C18 : mapO (compS G18 60) (defBody (top 21)) = some F18.body := by kernel_rfl
theorem D18 : DefC G18 (defBody (top 21)) (defScope (top 21)) ["_law_box_here"] F18 := ⟨⟨rfl, rfl, rfl, by decide +kernel, rfl, by decide +kernel, by decide +kernel⟩, rfl, C18, rfl, rfl, rfl⟩
def N19 : List Str := ["_law_box_here", "_law_logs_here", "_law_cells_here", "_law_found", "_law_every", "_law_block"]
def G19 : Gam := ⟨N19, (defScope (top 22)).names, [0], tab, CS, BL, []⟩
/-- _law_right -/
def F19 : Fn := ⟨6, 2, [0], [(.asg (.name 2) (.call 16 [0] [(.val (.var 1))])), (.ifs (.cmp .ne (.prim .repr [(.call 2 [0] [(.val (.var 1))])]) (.prim .repr [(.prim .tuple [(.var 2)])])) [(.ret (.cst (.bool false)))] []), (.ifs (.cmp .ne (.prim .repr [(.call 3 [0] [(.val (.var 1))])]) (.prim .repr [(.and [(.cmp .gt (.prim .len [(.var 1)]) (.cst (.int (1)))), (.cmp .eq (.var 2) (.lst []))])])) [(.ret (.cst (.bool false)))] []), (.asg (.name 3) (.call 4 [0] [(.val (.var 1))])), (.ifs (.or [(.cmp .ne (.prim .repr [(.var 3)]) (.prim .repr [(.call 17 [0, 1] [(.lend 0), (.val (.var 1))])])), (.cmp .ne (.prim .repr [(.call 4 [0] [(.val (.var 1))])]) (.prim .repr [(.var 3)]))]) [(.ret (.cst (.bool false)))] []), (.asg (.name 4) (.lst [])), (.loop (.it (.var 3)) (.name 5) [(.extend 4 (.prim .list [(.var 5)]))]), (.ret (.cmp .eq (.prim .tuple [(.prim .sorted [(.var 4)])]) (.var 1)))]⟩
theorem C19 : mapO (compS G19 60) (defBody (top 22)) = some F19.body := by kernel_rfl
theorem D19 : DefC G19 (defBody (top 22)) (defScope (top 22)) ["_law_box_here", "_law_logs_here"] F19 := ⟨⟨rfl, rfl, rfl, by decide +kernel, rfl, by decide +kernel, by decide +kernel⟩, rfl, C19, rfl, rfl, rfl⟩
def N20 : List Str := ["_law_script", "_law_k", "_law_box_here", "_law_turn", "_law_logs_here", "_law_fewer", "_law_log"]
def G20 : Gam := ⟨N20, (defScope (top 23)).names, [], tab, CS, BL, []⟩
/-- law -/
def F20 : Fn := ⟨7, 1, [], [(.ifs (.cmp .ne (.prim .repr [(.lst [(.call 2 [0] [(.val (.tup []))]), (.call 3 [0] [(.val (.tup []))]), (.call 4 [0] [(.val (.tup []))])])]) (.prim .repr [(.lst [(.tup []), (.cst (.bool false)), (.tup [])])])) [(.ret (.cst (.bool false)))] []), (.loop (.rng (.prim .max2 [(.cst (.int (1))), (.prim .min2 [(.cst (.int (3))), (.prim .len [(.var 0)])])])) (.name 1) [(.asg (.name 2) (.call 5 [0, 1] [(.val (.var 0)), (.val (.var 1))])), (.loop (.rng (.cst (.int (3)))) (.name 3) [(.asg (.name 4) (.call 18 [0] [(.lend 2)])), (.asg (.name 5) (.prim .tuple [(.comp [6] (.it (.var 4)) (.name 6) [(.cmp .gt (.call 6 [0, 1] [(.lend 2), (.val (.cst (.int (3))))]) (.cst (.int (0))))] (.var 6))])), (.ifs (.or [(.not (.call 19 [0, 1] [(.lend 2), (.val (.var 4))])), (.and [(.cmp .ne (.var 5) (.tup [])), (.not (.call 19 [0, 1] [(.lend 2), (.val (.var 5))]))])]) [(.ret (.cst (.bool false)))] [])])]), (.ret (.cst (.bool true)))]⟩
theorem C20 : mapO (compS G20 60) (defBody (top 23)) = some F20.body := by kernel_rfl
theorem D20 : DefC G20 (defBody (top 23)) (defScope (top 23)) ["_law_script"] F20 := ⟨⟨rfl, rfl, rfl, by decide +kernel, rfl, by decide +kernel, by decide +kernel⟩, rfl, C20, rfl, rfl, rfl⟩
def Pn : List Fn := [F0, F1, F2, F3, F4, F5, F6, F7, F8, F9, F10, F11, F12, F13, F14, F15, F16, F17, F18, F19, F20]
def fn : List He.DefD := ([⟨("shared_cells", none), "shared_cells", "shared_cells", defArgs (top 1), defBody (top 1), defScope (top 1), [], []⟩, ⟨("parts_by", none), "parts_by", "parts_by", defArgs (top 3), defBody (top 3), defScope (top 3), [], []⟩, ⟨("splitting_cells", none), "splitting_cells", "splitting_cells", defArgs (top 4), defBody (top 4), defScope (top 4), [], []⟩, ⟨("is_stuck", none), "is_stuck", "is_stuck", defArgs (top 5), defBody (top 5), defScope (top 5), [], []⟩, ⟨("blocks", none), "blocks", "blocks", defArgs (top 6), defBody (top 6), defScope (top 6), [], []⟩, ⟨("_law_box", none), "_law_box", "_law_box", defArgs (top 8), defBody (top 8), defScope (top 8), [], []⟩, ⟨("_law_take", none), "_law_take", "_law_take", defArgs (top 9), defBody (top 9), defScope (top 9), [], []⟩, ⟨("_law_of", none), "_law_of", "_law_of", defArgs (top 10), defBody (top 10), defScope (top 10), [], []⟩, ⟨("_law_cells", none), "_law_cells", "_law_cells", defArgs (top 11), defBody (top 11), defScope (top 11), [], []⟩, ⟨("_law_values", none), "_law_values", "_law_values", defArgs (top 12), defBody (top 12), defScope (top 12), [], []⟩, ⟨("_law_tree", none), "_law_tree", "_law_tree", defArgs (top 13), defBody (top 13), defScope (top 13), [], []⟩, ⟨("_law_leaves", none), "_law_leaves", "_law_leaves", defArgs (top 14), defBody (top 14), defScope (top 14), [], []⟩, ⟨("_law_loose", none), "_law_loose", "_law_loose", defArgs (top 15), defBody (top 15), defScope (top 15), [], []⟩, ⟨("_law_logs", none), "_law_logs", "_law_logs", defArgs (top 16), defBody (top 16), defScope (top 16), [], []⟩, ⟨("_law_shared", none), "_law_shared", "_law_shared", defArgs (top 17), defBody (top 17), defScope (top 17), [], []⟩, ⟨("_law_parts", none), "_law_parts", "_law_parts", defArgs (top 18), defBody (top 18), defScope (top 18), [], []⟩, ⟨("_law_own_splitting", none), "_law_own_splitting", "_law_own_splitting", defArgs (top 19), defBody (top 19), defScope (top 19), [], []⟩, ⟨("_law_own_blocks", none), "_law_own_blocks", "_law_own_blocks", defArgs (top 20), defBody (top 20), defScope (top 20), [], []⟩, ⟨("_law_drawn_logs", none), "_law_drawn_logs", "_law_drawn_logs", defArgs (top 21), defBody (top 21), defScope (top 21), [], []⟩, ⟨("_law_right", none), "_law_right", "_law_right", defArgs (top 22), defBody (top 22), defScope (top 22), [], []⟩, ⟨("law", none), "law", "law", defArgs (top 23), defBody (top 23), defScope (top 23), [], []⟩] : List He.DefD)
def gl : List Str := (["shared_cells", "parts_by", "splitting_cells", "is_stuck", "blocks", "_law_box", "_law_take", "_law_of", "_law_cells", "_law_values", "_law_tree", "_law_leaves", "_law_loose", "_law_logs", "_law_shared", "_law_parts", "_law_own_splitting", "_law_own_blocks", "_law_drawn_logs", "_law_right", "law"] : List Str)
def fa : List He.Fa := gl.map .glo ++ BL.map .free
section
variable {P : Program} {w : World} {K : PySem.W.Frag} {mg : Str → Option Value} {base : Heap}
theorem ground (bK : K.In base) (bG : base.Ns mainGlobals mg) (c : SaysV fa fn CS K) (sys : SysH base) {Γ : Gam} (h1 : Γ.cst = CS) (h2 : Γ.blt = BL) : Ground P w K mg base Γ :=
  ground_of bK bG c sys h1 fun x hx => List.mem_append_right _ (List.mem_map_of_mem (by rw [← h2]; exact hx))
theorem glIn {x : Str} (i : Nat) (h : gl[i]? = some x) : He.Fa.glo x ∈ fa := List.mem_append_left _ (List.mem_map_of_mem (List.mem_of_getElem? h))
theorem R0 (bK : K.In base) (bG : base.Ns mainGlobals mg) (c : SaysV fa fn CS K) (sys : SysH base) : RowOk P w K mg base Pn tab "shared_cells" ⟨0, ["logs"], [], []⟩ :=
  row_of bK bG c 0 rfl (glIn 0 rfl) D0 (ground bK bG c sys rfl rfl) rfl rfl (fun _ _ _ _ _ _ us hl => match us, hl with | [_], _ => rfl) (fun q hq => absurd hq List.not_mem_nil)
theorem R1 (bK : K.In base) (bG : base.Ns mainGlobals mg) (c : SaysV fa fn CS K) (sys : SysH base) : RowOk P w K mg base Pn tab "parts_by" ⟨1, ["logs", "cell"], [], []⟩ :=
  row_of bK bG c 1 rfl (glIn 1 rfl) D1 (ground bK bG c sys rfl rfl) rfl rfl (fun _ _ _ _ _ _ us hl => match us, hl with | [_, _], _ => rfl) (fun q hq => absurd hq List.not_mem_nil)
theorem R2 (bK : K.In base) (bG : base.Ns mainGlobals mg) (c : SaysV fa fn CS K) (sys : SysH base) : RowOk P w K mg base Pn tab "splitting_cells" ⟨2, ["logs"], [], []⟩ :=
  row_of bK bG c 2 rfl (glIn 2 rfl) D2 (ground bK bG c sys rfl rfl) rfl rfl (fun _ _ _ _ _ _ us hl => match us, hl with | [_], _ => rfl) (fun q hq => absurd hq List.not_mem_nil)
theorem R3 (bK : K.In base) (bG : base.Ns mainGlobals mg) (c : SaysV fa fn CS K) (sys : SysH base) : RowOk P w K mg base Pn tab "is_stuck" ⟨3, ["logs"], [], []⟩ :=
  row_of bK bG c 3 rfl (glIn 3 rfl) D3 (ground bK bG c sys rfl rfl) rfl rfl (fun _ _ _ _ _ _ us hl => match us, hl with | [_], _ => rfl) (fun q hq => absurd hq List.not_mem_nil)
theorem R4 (bK : K.In base) (bG : base.Ns mainGlobals mg) (c : SaysV fa fn CS K) (sys : SysH base) : RowOk P w K mg base Pn tab "blocks" ⟨4, ["logs"], [], []⟩ :=
  row_of bK bG c 4 rfl (glIn 4 rfl) D4 (ground bK bG c sys rfl rfl) rfl rfl (fun _ _ _ _ _ _ us hl => match us, hl with | [_], _ => rfl) (fun q hq => absurd hq List.not_mem_nil)
theorem R5 (bK : K.In base) (bG : base.Ns mainGlobals mg) (c : SaysV fa fn CS K) (sys : SysH base) : RowOk P w K mg base Pn tab "_law_box" ⟨5, ["_law_script", "_law_k"], [], []⟩ :=
  row_of bK bG c 5 rfl (glIn 5 rfl) D5 (ground bK bG c sys rfl rfl) rfl rfl (fun _ _ _ _ _ _ us hl => match us, hl with | [_, _], _ => rfl) (fun q hq => absurd hq List.not_mem_nil)
theorem R6 (bK : K.In base) (bG : base.Ns mainGlobals mg) (c : SaysV fa fn CS K) (sys : SysH base) : RowOk P w K mg base Pn tab "_law_take" ⟨6, ["_law_box_here", "_law_upon"], [0], []⟩ :=
  row_of bK bG c 6 rfl (glIn 6 rfl) D6 (ground bK bG c sys rfl rfl) rfl rfl (fun _ _ _ _ _ _ us hl => match us, hl with | [_, _], _ => rfl) (fun q hq => absurd hq List.not_mem_nil)
theorem R7 (bK : K.In base) (bG : base.Ns mainGlobals mg) (c : SaysV fa fn CS K) (sys : SysH base) : RowOk P w K mg base Pn tab "_law_of" ⟨7, ["_law_box_here", "_law_some"], [0], []⟩ :=
  row_of bK bG c 7 rfl (glIn 7 rfl) D7 (ground bK bG c sys rfl rfl) rfl rfl (fun _ _ _ _ _ _ us hl => match us, hl with | [_, _], _ => rfl) (fun q hq => absurd hq List.not_mem_nil)
theorem R8 (bK : K.In base) (bG : base.Ns mainGlobals mg) (c : SaysV fa fn CS K) (sys : SysH base) : RowOk P w K mg base Pn tab "_law_cells" ⟨8, ["_law_box_here", "_law_count"], [0], []⟩ :=
  row_of bK bG c 8 rfl (glIn 8 rfl) D8 (ground bK bG c sys rfl rfl) rfl rfl (fun _ _ _ _ _ _ us hl => match us, hl with | [_, _], _ => rfl) (fun q hq => absurd hq List.not_mem_nil)
theorem R9 (bK : K.In base) (bG : base.Ns mainGlobals mg) (c : SaysV fa fn CS K) (sys : SysH base) : RowOk P w K mg base Pn tab "_law_values" ⟨9, ["_law_box_here", "_law_count"], [0], []⟩ :=
  row_of bK bG c 9 rfl (glIn 9 rfl) D9 (ground bK bG c sys rfl rfl) rfl rfl (fun _ _ _ _ _ _ us hl => match us, hl with | [_, _], _ => rfl) (fun q hq => absurd hq List.not_mem_nil)
theorem R10 (bK : K.In base) (bG : base.Ns mainGlobals mg) (c : SaysV fa fn CS K) (sys : SysH base) : RowOk P w K mg base Pn tab "_law_tree" ⟨10, ["_law_box_here", "_law_cells_here", "_law_budget"], [0], []⟩ :=
  row_of bK bG c 10 rfl (glIn 10 rfl) D10 (ground bK bG c sys rfl rfl) rfl rfl (fun _ _ _ _ _ _ us hl => match us, hl with | [_, _, _], _ => rfl) (fun q hq => absurd hq List.not_mem_nil)
theorem R11 (bK : K.In base) (bG : base.Ns mainGlobals mg) (c : SaysV fa fn CS K) (sys : SysH base) : RowOk P w K mg base Pn tab "_law_leaves" ⟨11, ["_law_tree_here"], [], []⟩ :=
  row_of bK bG c 11 rfl (glIn 11 rfl) D11 (ground bK bG c sys rfl rfl) rfl rfl (fun _ _ _ _ _ _ us hl => match us, hl with | [_], _ => rfl) (fun q hq => absurd hq List.not_mem_nil)
theorem R12 (bK : K.In base) (bG : base.Ns mainGlobals mg) (c : SaysV fa fn CS K) (sys : SysH base) : RowOk P w K mg base Pn tab "_law_loose" ⟨12, ["_law_box_here", "_law_cells_here", "_law_count"], [0], []⟩ :=
  row_of bK bG c 12 rfl (glIn 12 rfl) D12 (ground bK bG c sys rfl rfl) rfl rfl (fun _ _ _ _ _ _ us hl => match us, hl with | [_, _, _], _ => rfl) (fun q hq => absurd hq List.not_mem_nil)
theorem R13 (bK : K.In base) (bG : base.Ns mainGlobals mg) (c : SaysV fa fn CS K) (sys : SysH base) : RowOk P w K mg base Pn tab "_law_logs" ⟨13, ["_law_box_here", "_law_cells_here", "_law_budget"], [0], []⟩ :=
  row_of bK bG c 13 rfl (glIn 13 rfl) D13 (ground bK bG c sys rfl rfl) rfl rfl (fun _ _ _ _ _ _ us hl => match us, hl with | [_, _, _], _ => rfl) (fun q hq => absurd hq List.not_mem_nil)
theorem R14 (bK : K.In base) (bG : base.Ns mainGlobals mg) (c : SaysV fa fn CS K) (sys : SysH base) : RowOk P w K mg base Pn tab "_law_shared" ⟨14, ["_law_family", "_law_read"], [], []⟩ :=
  row_of bK bG c 14 rfl (glIn 14 rfl) D14 (ground bK bG c sys rfl rfl) rfl rfl (fun _ _ _ _ _ _ us hl => match us, hl with | [_, _], _ => rfl) (fun q hq => absurd hq List.not_mem_nil)
theorem R15 (bK : K.In base) (bG : base.Ns mainGlobals mg) (c : SaysV fa fn CS K) (sys : SysH base) : RowOk P w K mg base Pn tab "_law_parts" ⟨15, ["_law_family", "_law_name"], [], []⟩ :=
  row_of bK bG c 15 rfl (glIn 15 rfl) D15 (ground bK bG c sys rfl rfl) rfl rfl (fun _ _ _ _ _ _ us hl => match us, hl with | [_, _], _ => rfl) (fun q hq => absurd hq List.not_mem_nil)
theorem R16 (bK : K.In base) (bG : base.Ns mainGlobals mg) (c : SaysV fa fn CS K) (sys : SysH base) : RowOk P w K mg base Pn tab "_law_own_splitting" ⟨16, ["_law_logs_here"], [], []⟩ :=
  row_of bK bG c 16 rfl (glIn 16 rfl) D16 (ground bK bG c sys rfl rfl) rfl rfl (fun _ _ _ _ _ _ us hl => match us, hl with | [_], _ => rfl) (fun q hq => absurd hq List.not_mem_nil)
theorem R17 (bK : K.In base) (bG : base.Ns mainGlobals mg) (c : SaysV fa fn CS K) (sys : SysH base) : RowOk P w K mg base Pn tab "_law_own_blocks" ⟨17, ["_law_box_here", "_law_logs_here"], [0], []⟩ :=
  row_of bK bG c 17 rfl (glIn 17 rfl) D17 (ground bK bG c sys rfl rfl) rfl rfl (fun _ _ _ _ _ _ us hl => match us, hl with | [_, _], _ => rfl) (fun q hq => absurd hq List.not_mem_nil)
theorem R18 (bK : K.In base) (bG : base.Ns mainGlobals mg) (c : SaysV fa fn CS K) (sys : SysH base) : RowOk P w K mg base Pn tab "_law_drawn_logs" ⟨18, ["_law_box_here"], [0], []⟩ :=
  row_of bK bG c 18 rfl (glIn 18 rfl) D18 (ground bK bG c sys rfl rfl) rfl rfl (fun _ _ _ _ _ _ us hl => match us, hl with | [_], _ => rfl) (fun q hq => absurd hq List.not_mem_nil)
theorem R19 (bK : K.In base) (bG : base.Ns mainGlobals mg) (c : SaysV fa fn CS K) (sys : SysH base) : RowOk P w K mg base Pn tab "_law_right" ⟨19, ["_law_box_here", "_law_logs_here"], [0], []⟩ :=
  row_of bK bG c 19 rfl (glIn 19 rfl) D19 (ground bK bG c sys rfl rfl) rfl rfl (fun _ _ _ _ _ _ us hl => match us, hl with | [_, _], _ => rfl) (fun q hq => absurd hq List.not_mem_nil)
theorem R20 (bK : K.In base) (bG : base.Ns mainGlobals mg) (c : SaysV fa fn CS K) (sys : SysH base) : RowOk P w K mg base Pn tab "law" ⟨20, ["_law_script"], [], []⟩ :=
  row_of bK bG c 20 rfl (glIn 20 rfl) D20 (ground bK bG c sys rfl rfl) rfl rfl (fun _ _ _ _ _ _ us hl => match us, hl with | [_], _ => rfl) (fun q hq => absurd hq List.not_mem_nil)
theorem rows (bK : K.In base) (bG : base.Ns mainGlobals mg) (c : SaysV fa fn CS K) (sys : SysH base) : ∀ y e, tab.lookup y = some e → RowOk P w K mg base Pn tab y e := fun y e h =>
  (show ∀ p ∈ tab, RowOk P w K mg base Pn tab p.1 p.2 from List.forall_mem_cons.mpr ⟨R0 bK bG c sys, List.forall_mem_cons.mpr ⟨R1 bK bG c sys, List.forall_mem_cons.mpr ⟨R2 bK bG c sys, List.forall_mem_cons.mpr ⟨R3 bK bG c sys, List.forall_mem_cons.mpr ⟨R4 bK bG c sys, List.forall_mem_cons.mpr ⟨R5 bK bG c sys, List.forall_mem_cons.mpr ⟨R6 bK bG c sys, List.forall_mem_cons.mpr ⟨R7 bK bG c sys, List.forall_mem_cons.mpr ⟨R8 bK bG c sys, List.forall_mem_cons.mpr ⟨R9 bK bG c sys, List.forall_mem_cons.mpr ⟨R10 bK bG c sys, List.forall_mem_cons.mpr ⟨R11 bK bG c sys, List.forall_mem_cons.mpr ⟨R12 bK bG c sys, List.forall_mem_cons.mpr ⟨R13 bK bG c sys, List.forall_mem_cons.mpr ⟨R14 bK bG c sys, List.forall_mem_cons.mpr ⟨R15 bK bG c sys, List.forall_mem_cons.mpr ⟨R16 bK bG c sys, List.forall_mem_cons.mpr ⟨R17 bK bG c sys, List.forall_mem_cons.mpr ⟨R18 bK bG c sys, List.forall_mem_cons.mpr ⟨R19 bK bG c sys, List.forall_mem_cons.mpr ⟨R20 bK bG c sys, (fun _ h => absurd h List.not_mem_nil)⟩⟩⟩⟩⟩⟩⟩⟩⟩⟩⟩⟩⟩⟩⟩⟩⟩⟩⟩⟩⟩) (y, e) (lookup_has h)
end
def names : List PySem.Str := (["shared_cells", "parts_by", "splitting_cells", "is_stuck", "blocks", "_law_box", "_law_take", "_law_of", "_law_cells", "_law_values", "_law_tree", "_law_leaves", "_law_loose", "_law_logs", "_law_shared", "_law_parts", "_law_own_splitting", "_law_own_blocks", "_law_drawn_logs", "_law_right"] : List PySem.Str)
abbrev R : PySem.W.OpenRow := PySem.W.OpenLaw.row PySem.Challenge.rw_readorder_k10_blocks_of_logs
abbrev hk : PySem.W.Hook := hookV 4 fa fn CS
def ob (s : PySem.W.SharedT) : AlV := obsV 4 fa fn CS (HandSHeadRun.getT s)
theorem ob_eq (s : PySem.W.SharedT) : ob s = hk.obs s.abs := obsV_eq (HandSHeadRun.getT_eq s)
theorem run (w : World) : HandSHeadRun.RunEq R (PySem.W.view R.prog [23]) hk ob 3000 names w := by
  intro os
  kernel_rfl
end Lw_k10
open PySem PySem.W PySem.Calls PyProof.Rows in
theorem Lw_k10.holds_of (pure_ : ∀ ns : List Int, ns.length ≤ 63 → Pv.callAt Lw_k10.Pn 40 20 [.scr ns] = .ok (.sh (.bool true)) []) : PySem.Challenge.rw_readorder_k10_blocks_of_logs.Holds := by
  w_on; o_law
  refine HandSHeadRun.head_any (r := Lw_k10.R) (q := view Lw_k10.R.prog [23]) (H := Lw_k10.hk) (ob := Lw_k10.ob) (M := 3000) (loose := Lw_k10.names) (d := HandSHeadRun.topDef Lw_k10.R.prog 23) (kwd := []) Lw_k10.ob_eq
    (by kernel_rfl) (fun s => by kernel_rfl) Lw_k10.run (by kernel_rfl) (by kernel_rfl) (by kernel_rfl) (by rfl) (by first | assumption | decide +kernel) (by decide +kernel) ⟨rfl, rfl, rfl, rfl, rfl, by decide +kernel⟩ ?hw ?hc
  case hw => w_witness2
  case hc =>
    exact Pv.walk_ofV (l := PySem.Challenge.rw_readorder_k10_blocks_of_logs) (n := 63) (k := 40) (ix := 20) (x := "_law_script") (tab := Lw_k10.tab) (Pn := Lw_k10.Pn) (xr := fun _ _ _ _ _ => False) (e := ⟨20, ["_law_script"], [], []⟩) rfl (by decide) (by kernel_rfl) ⟨rfl, by decide, by decide⟩ (by kernel_rfl) rfl rfl (fun w K mg base bK bG c sys => Lw_k10.rows bK bG c sys) pure_

/-! PxA: what code gives, as a promise: WR, WC; how each piece is stepped through. -/
set_option linter.all false
set_option maxRecDepth 100000
set_option maxHeartbeats 1000000
namespace Pv.X
open PySem

/-- keeps simp out of what follows -/
structure Tag {α : Type} (Q : α → Env → Prop) (E : Exn → Env → Prop) : Type where
structure TagC (Q : Val → List MO → Prop) (E : Exn → List MO → Prop) : Type where
def WR {α : Type} (r : Res α) (Q : α → Env → Prop) (E : Exn → Env → Prop) (_ : Tag Q E := ⟨⟩) : Prop := match r with
  | .ok a env => Q a env
  | .ex x env => E x env
  | .no => False
def WC (r : CR) (Q : Val → List MO → Prop) (E : Exn → List MO → Prop) (_ : TagC Q E := ⟨⟩) : Prop := match r with
  | .ok v outs => Q v outs
  | .ex x outs => E x outs
  | .no => False
section
variable {α β : Type} {Q : α → Env → Prop} {Qb : β → Env → Prop} {E : Exn → Env → Prop} {env : Env}
@[simp ↓] theorem WR_ok {a : α} : WR (.ok a env) Q E = Q a env := propext Iff.rfl
@[simp ↓] theorem WR_ex {x : Exn} : WR (.ex x env) Q E = E x env := propext Iff.rfl
@[simp ↓] theorem WR_no : WR (.no : Res α) Q E = False := propext Iff.rfl
@[simp ↓] theorem WR_bind {r : Res β} {f : β → Env → Res α} : WR (r.bind f) Q E = WR r (fun b e => WR (f b e) Q E) E := by cases r <;> rfl
@[simp ↓] theorem WR_some {a : α} : WR (Res.opt (some a) env) Q E = Q a env := propext Iff.rfl
@[simp ↓] theorem WR_none : WR (Res.opt none env) Q E = False := propext Iff.rfl
theorem WR.mono {r : Res α} {Q' : α → Env → Prop} {E' : Exn → Env → Prop} (h : WR r Q E) (hq : ∀ a e, Q a e → Q' a e) (he : ∀ x e, E x e → E' x e) : WR r Q' E' := by
  cases r with
  | ok a e => exact hq _ _ h
  | ex x e => exact he _ _ h
  | no => exact h
theorem WC.mono {r : CR} {Q Q' : Val → List MO → Prop} {E E' : Exn → List MO → Prop} (h : WC r Q E) (hq : ∀ a e, Q a e → Q' a e) (he : ∀ x e, E x e → E' x e) : WC r Q' E' := by
  cases r with
  | ok a e => exact hq _ _ h
  | ex x e => exact he _ _ h
  | no => exact h
end
/-- a call that gives one value -/
theorem wc_of {r : CR} {v : Val} {outs : List MO} {Q : Val → List MO → Prop} {E : Exn → List MO → Prop} (h : r = .ok v outs) (q : Q v outs) : WC r Q E := by rw [h]; exact q
theorem wc_eq {r : CR} {v : Val} {outs : List MO} (h : ∀ (Q : Val → List MO → Prop) (E : Exn → List MO → Prop), Q v outs → WC r Q E) : r = .ok v outs := by
  have q := h (fun v' o' => v' = v ∧ o' = outs) (fun _ _ => False) ⟨rfl, rfl⟩
  cases r with
  | ok a e => obtain ⟨q1, q2⟩ := q; rw [q1, q2]
  | ex x e => exact q.elim
  | no => exact q.elim

/-! ### environments -/
@[simp] theorem at_nil {i : Nat} : Env.at [] i = none := by unfold Env.at; rfl
@[simp] theorem at_cons0 {v : Option Val} {r : Env} : Env.at (v :: r) 0 = v := by unfold Env.at; simp
@[simp] theorem at_consS {v : Option Val} {r : Env} {i : Nat} : Env.at (v :: r) (i + 1) = Env.at r i := by unfold Env.at; simp
@[simp] theorem wipe_nil {env : Env} : wipeE env [] = env := rfl
@[simp] theorem wipe_cons {env : Env} {v : Nat} {r : List Nat} : wipeE env (v :: r) = (wipeE env r).set v none := rfl
@[simp] theorem rest_nil {env env' : Env} : restE env env' [] = env' := rfl
@[simp] theorem rest_cons {env env' : Env} {v : Nat} {r : List Nat} : restE env env' (v :: r) = (restE env env' r).set v (env.at v) := rfl
@[simp] theorem back_nil {env : Env} {ms : List MO} : backAll env [] ms = env := by cases ms <;> (unfold backAll; rfl)
@[simp] theorem back_cons {env : Env} {i : Nat} {r : List Nat} {m : MO} {ms : List MO} : backAll env (i :: r) (m :: ms) = (backAll env r ms).set i (some (.ow m)) := by rw [backAll]
@[simp] theorem lents_nil : lents [] = [] := rfl
@[simp] theorem lents_vl {v : Val} {r : List Od} : lents (.vl v :: r) = lents r := rfl
@[simp] theorem lents_pk {i : Nat} {r : List Od} : lents (.pk i :: r) = i :: lents r := rfl
@[simp] theorem argVals_nil {env : Env} : argVals env [] = some [] := rfl
@[simp] theorem argVals_sh {env : Env} {d : PyData} {r : List Od} : argVals env (.vl (.sh d) :: r) = (argVals env r).map (Val.sh d :: ·) := by
  cases h : argVals env r <;> simp [argVals, h]
@[simp] theorem argVals_lst {env : Env} {d : List PyData} {r : List Od} : argVals env (.vl (.ow (.lst d)) :: r) = (argVals env r).map (Val.sh (.list d) :: ·) := by
  cases h : argVals env r <;> simp [argVals, h]
@[simp] theorem argVals_dic {env : Env} {d : List (PyData × PyData)} {r : List Od} : argVals env (.vl (.ow (.dic d)) :: r) = (argVals env r).map (Val.sh (.dict d) :: ·) := by
  cases h : argVals env r <;> simp [argVals, h]
@[simp] theorem argVals_scr {env : Env} {d : List Int} {r : List Od} : argVals env (.vl (.scr d) :: r) = (argVals env r).map (Val.scr d :: ·) := by
  cases h : argVals env r <;> simp [argVals, h]
@[simp] theorem rd_sh {d : PyData} : Val.rd (.sh d) = some (.sh d) := rfl
@[simp] theorem rd_scr {d : List Int} : Val.rd (.scr d) = some (.scr d) := rfl
@[simp] theorem rd_lst {d : List PyData} : Val.rd (.ow (.lst d)) = some (.ow (.lst d)) := rfl
@[simp] theorem rd_dic {d : List (PyData × PyData)} : Val.rd (.ow (.dic d)) = some (.ow (.dic d)) := rfl
@[simp] theorem lend1_lst {d : List PyData} : Val.lend1 (.ow (.lst d)) = some (.lst d) := rfl
@[simp] theorem lend1_dic {d : List (PyData × PyData)} : Val.lend1 (.ow (.dic d)) = some (.dic d) := rfl
@[simp] theorem lend1_sh {d : PyData} : Val.lend1 (.sh d) = none := rfl
@[simp] theorem dolOf_nil : Val.dolOf (.ow (.dic [])) = some [] := rfl
@[simp] theorem dolOf_dol {ps : List (PyData × List PyData)} : Val.dolOf (.ow (.dol ps)) = some ps := rfl
@[simp] theorem lendOf_eq {env : Env} {i : Nat} : lendOf env i = (env.at i).bind Val.lend1 := rfl
@[simp] theorem argVals_pk {env : Env} {i : Nat} {r : List Od} : argVals env (.pk i :: r) = (match (env.at i).bind Val.lend1 with
    | some m => (argVals env r).map (Val.ow m :: ·)
    | none => none) := by
  rw [show argVals env (.pk i :: r) = (match lendOf env i, argVals env r with
    | some m, some vs => some (.ow m :: vs)
    | _, _ => none) from rfl, lendOf_eq]
  cases (env.at i).bind Val.lend1 with
  | none => rfl
  | some v => cases argVals env r <;> rfl
@[simp] theorem permO_nil {α : Type} {os : List α} : permO os [] = some [] := rfl
@[simp] theorem permO_cons {α : Type} {os : List α} {j : Nat} {r : List Nat} : permO os (j :: r) = (match os[j]?, permO os r with
    | some o, some q => some (o :: q)
    | _, _ => none) := rfl
@[simp] theorem opdata_nil {env : Env} : opdata [] env = some [] := rfl
@[simp] theorem opdata_cons {env : Env} {o : Od} {r : List Od} : opdata (o :: r) env = (match o.data env, opdata r env with
    | some d, some ds => some (d :: ds)
    | _, _ => none) := rfl
@[simp] theorem od_vl {v : Val} {env : Env} : Od.val (.vl v) env = v.rd := rfl
@[simp] theorem od_pk {i : Nat} {env : Env} : Od.val (.pk i) env = (env.at i).bind Val.rd := rfl
@[simp] theorem odd_vl {v : Val} {env : Env} : Od.data (.vl v) env = v.rd.map Val.data := rfl
@[simp] theorem odd_pk {i : Nat} {env : Env} : Od.data (.pk i) env = ((env.at i).bind Val.rd).map Val.data := rfl
@[simp] theorem vd_sh {d : PyData} : Val.data (.sh d) = d := rfl
@[simp] theorem vd_lst {d : List PyData} : Val.data (.ow (.lst d)) = .list d := rfl
@[simp] theorem vd_dic {d : List (PyData × PyData)} : Val.data (.ow (.dic d)) = .dict d := rfl
@[simp] theorem vd_scr {d : List Int} : Val.data (.scr d) = .list (d.map .int) := rfl
@[simp] theorem vs_sh {d : PyData} : Val.share (.sh d) = some d := rfl
@[simp] theorem vs_lst {d : List PyData} : Val.share (.ow (.lst d)) = some (.list d) := rfl
@[simp] theorem vs_dic {d : List (PyData × PyData)} : Val.share (.ow (.dic d)) = some (.dict d) := rfl
@[simp] theorem sa_nil : shareAll [] = some [] := rfl
@[simp] theorem sa_cons {v : Val} {r : List Val} : shareAll (v :: r) = (match v.share, shareAll r with
    | some d, some ds => some (d :: ds)
    | _, _ => none) := rfl
@[simp] theorem bindT_name {bor : List Nat} {i : Nat} {d : PyData} {env : Env} : bindT bor (.name i) d env = if i < env.length ∧ i ∉ bor then some (env.set i (some (.sh d))) else none := by rw [bindT]
@[simp] theorem bindT_tup {bor : List Nat} {ts : List Tgt} {ds : List PyData} {env : Env} : bindT bor (.tup ts) (.tuple ds) env = bindTs bor ts ds env := by rw [bindT]
@[simp] theorem bindTs_nil {bor : List Nat} {env : Env} : bindTs bor [] [] env = some env := by rw [bindTs]
@[simp] theorem bindTs_cons {bor : List Nat} {t : Tgt} {ts : List Tgt} {d : PyData} {ds : List PyData} {env : Env} : bindTs bor (t :: ts) (d :: ds) env = (match bindT bor t d env with
    | some env' => bindTs bor ts ds env'
    | none => none) := by rw [bindTs]; try rfl
@[simp] theorem bindV_ow {bor : List Nat} {i : Nat} {m : MO} {env : Env} : bindV bor (.name i) (.ow m) env = if i < env.length ∧ i ∉ bor then some (env.set i (some (.ow m))) else none := by rw [bindV]
@[simp] theorem bindV_sh {bor : List Nat} {t : Tgt} {d : PyData} {env : Env} : bindV bor t (.sh d) env = bindT bor t d env := by cases t <;> rw [bindV]
@[simp] theorem bindV_scr {bor : List Nat} {i : Nat} {m : List Int} {env : Env} : bindV bor (.name i) (.scr m) env = if i < env.length ∧ i ∉ bor then some (env.set i (some (.scr m))) else none := by rw [bindV]

/-! ### expressions -/
section
variable {Φ : Nat → List Val → CR} {bor : List Nat} {env : Env}
theorem ev_cst {d : PyData} : ev Φ bor (.cst d) env = .ok (.sh d) env := by rw [ev]
@[simp ↓] theorem Wev_cst {d : PyData} {Q : Val → Env → Prop} {E : Exn → Env → Prop} : WR (ev Φ bor (.cst d) env) Q E = WR (.ok (.sh d) env) Q E := by rw [ev_cst]
theorem ev_glo {d : PyData} : ev Φ bor (.glo d) env = .ok (.sh d) env := by rw [ev]
@[simp ↓] theorem Wev_glo {d : PyData} {Q : Val → Env → Prop} {E : Exn → Env → Prop} : WR (ev Φ bor (.glo d) env) Q E = WR (.ok (.sh d) env) Q E := by rw [ev_glo]
theorem ev_var {i : Nat} : ev Φ bor (.var i) env = (match env.at i with
    | some (.sh d) => .ok (.sh d) env
    | some (.ow (.lst ds)) => .ok (.sh (.list ds)) (env.set i (some (.sh (.list ds))))
    | some (.ow (.dic kvs)) => .ok (.sh (.dict kvs)) (env.set i (some (.sh (.dict kvs))))
    | some (.ow (.dol kvs)) => .ok (.sh (MO.dol kvs).data) (env.set i (some (.sh (MO.dol kvs).data)))
    | some (.scr ns) => .ok (.scr ns) env
    | _ => .no) := by rw [ev]; try rfl
@[simp ↓] theorem Wev_var {i : Nat} {Q : Val → Env → Prop} {E : Exn → Env → Prop} : WR (ev Φ bor (.var i) env) Q E = WR ((match env.at i with
    | some (.sh d) => .ok (.sh d) env
    | some (.ow (.lst ds)) => .ok (.sh (.list ds)) (env.set i (some (.sh (.list ds))))
    | some (.ow (.dic kvs)) => .ok (.sh (.dict kvs)) (env.set i (some (.sh (.dict kvs))))
    | some (.ow (.dol kvs)) => .ok (.sh (MO.dol kvs).data) (env.set i (some (.sh (MO.dol kvs).data)))
    | some (.scr ns) => .ok (.scr ns) env
    | _ => .no)) Q E := by rw [ev_var]
theorem ev_tup {es : List Ex} : ev Φ bor (.tup es) env = (evs Φ bor es env).bind fun vs env' => match shareAll vs with
    | some ds => if ds.length ≤ most then .ok (.sh (.tuple ds)) env' else .no
    | none => .no := by rw [ev]; try rfl
@[simp ↓] theorem Wev_tup {es : List Ex} {Q : Val → Env → Prop} {E : Exn → Env → Prop} : WR (ev Φ bor (.tup es) env) Q E = WR ((evs Φ bor es env).bind fun vs env' => match shareAll vs with
    | some ds => if ds.length ≤ most then .ok (.sh (.tuple ds)) env' else .no
    | none => .no) Q E := by rw [ev_tup]
theorem ev_lst {es : List Ex} : ev Φ bor (.lst es) env = (evs Φ bor es env).bind fun vs env' => match shareAll vs with
    | some ds => if ds.length ≤ most then .ok (.ow (.lst ds)) env' else .no
    | none => .no := by rw [ev]; try rfl
@[simp ↓] theorem Wev_lst {es : List Ex} {Q : Val → Env → Prop} {E : Exn → Env → Prop} : WR (ev Φ bor (.lst es) env) Q E = WR ((evs Φ bor es env).bind fun vs env' => match shareAll vs with
    | some ds => if ds.length ≤ most then .ok (.ow (.lst ds)) env' else .no
    | none => .no) Q E := by rw [ev_lst]
theorem ev_bin {op : Bop} {a b : Ex} : ev Φ bor (.bin op a b) env = (evO Φ bor a env).bind fun x env1 => (evO Φ bor b env1).bind fun y env2 =>
      match x.val env2, y.val env2 with
      | some (.scr _), _ => .no
      | _, some (.scr _) => .no
      | some v, some w => Res.opt (binD op v.data w.data) env2
      | _, _ => .no := by rw [ev]; try rfl
@[simp ↓] theorem Wev_bin {op : Bop} {a b : Ex} {Q : Val → Env → Prop} {E : Exn → Env → Prop} : WR (ev Φ bor (.bin op a b) env) Q E = WR ((evO Φ bor a env).bind fun x env1 => (evO Φ bor b env1).bind fun y env2 =>
      match x.val env2, y.val env2 with
      | some (.scr _), _ => .no
      | _, some (.scr _) => .no
      | some v, some w => Res.opt (binD op v.data w.data) env2
      | _, _ => .no) Q E := by rw [ev_bin]
theorem ev_neg {a : Ex} : ev Φ bor (.neg a) env = (evO Φ bor a env).bind fun x env1 => match x.data env1 with
    | some (.int i) => .ok (.sh (.int (-i))) env1
    | _ => .no := by rw [ev]; try rfl
@[simp ↓] theorem Wev_neg {a : Ex} {Q : Val → Env → Prop} {E : Exn → Env → Prop} : WR (ev Φ bor (.neg a) env) Q E = WR ((evO Φ bor a env).bind fun x env1 => match x.data env1 with
    | some (.int i) => .ok (.sh (.int (-i))) env1
    | _ => .no) Q E := by rw [ev_neg]
theorem ev_not {a : Ex} : ev Φ bor (.not a) env = (evO Φ bor a env).bind fun x env1 => match x.data env1 with
    | some d => Res.opt ((truD d).map fun b => .sh (.bool (!b))) env1
    | none => .no := by rw [ev]; try rfl
@[simp ↓] theorem Wev_not {a : Ex} {Q : Val → Env → Prop} {E : Exn → Env → Prop} : WR (ev Φ bor (.not a) env) Q E = WR ((evO Φ bor a env).bind fun x env1 => match x.data env1 with
    | some d => Res.opt ((truD d).map fun b => .sh (.bool (!b))) env1
    | none => .no) Q E := by rw [ev_not]
theorem ev_and {es : List Ex} : ev Φ bor (.and es) env = evAnd Φ bor es env := by rw [ev]
@[simp ↓] theorem Wev_and {es : List Ex} {Q : Val → Env → Prop} {E : Exn → Env → Prop} : WR (ev Φ bor (.and es) env) Q E = WR (evAnd Φ bor es env) Q E := by rw [ev_and]
theorem ev_or {es : List Ex} : ev Φ bor (.or es) env = evOr Φ bor es env := by rw [ev]
@[simp ↓] theorem Wev_or {es : List Ex} {Q : Val → Env → Prop} {E : Exn → Env → Prop} : WR (ev Φ bor (.or es) env) Q E = WR (evOr Φ bor es env) Q E := by rw [ev_or]
theorem ev_cmp {op : Cop} {a b : Ex} : ev Φ bor (.cmp op a b) env = (evO Φ bor a env).bind fun x env1 => (evO Φ bor b env1).bind fun y env2 =>
      match x.data env2, y.data env2 with
      | some d, some e => Res.opt ((cmpD op d e).map fun k => .sh (.bool k)) env2
      | _, _ => .no := by rw [ev]; try rfl
@[simp ↓] theorem Wev_cmp {op : Cop} {a b : Ex} {Q : Val → Env → Prop} {E : Exn → Env → Prop} : WR (ev Φ bor (.cmp op a b) env) Q E = WR ((evO Φ bor a env).bind fun x env1 => (evO Φ bor b env1).bind fun y env2 =>
      match x.data env2, y.data env2 with
      | some d, some e => Res.opt ((cmpD op d e).map fun k => .sh (.bool k)) env2
      | _, _ => .no) Q E := by rw [ev_cmp]
theorem ev_chain {op op' : Cop} {a b c : Ex} : ev Φ bor (.chain op op' a b c) env = (evO Φ bor a env).bind fun x env1 => (evO Φ bor b env1).bind fun y env2 =>
      match x.data env2, y.data env2 with
      | some d, some e => match cmpD op d e with
        | some false => .ok (.sh (.bool false)) env2
        | some true => (evO Φ bor c env2).bind fun z env3 => match y.data env3, z.data env3 with
          | some e', some g => Res.opt ((cmpD op' e' g).map fun k => .sh (.bool k)) env3
          | _, _ => .no
        | none => .no
      | _, _ => .no := by rw [ev]; try rfl
@[simp ↓] theorem Wev_chain {op op' : Cop} {a b c : Ex} {Q : Val → Env → Prop} {E : Exn → Env → Prop} : WR (ev Φ bor (.chain op op' a b c) env) Q E = WR ((evO Φ bor a env).bind fun x env1 => (evO Φ bor b env1).bind fun y env2 =>
      match x.data env2, y.data env2 with
      | some d, some e => match cmpD op d e with
        | some false => .ok (.sh (.bool false)) env2
        | some true => (evO Φ bor c env2).bind fun z env3 => match y.data env3, z.data env3 with
          | some e', some g => Res.opt ((cmpD op' e' g).map fun k => .sh (.bool k)) env3
          | _, _ => .no
        | none => .no
      | _, _ => .no) Q E := by rw [ev_chain]
theorem ev_ife {t a b : Ex} : ev Φ bor (.ife t a b) env = (evT Φ bor t env).bind fun k env1 => match k with
    | true => ev Φ bor a env1
    | false => ev Φ bor b env1 := by rw [ev]; try rfl
@[simp ↓] theorem Wev_ife {t a b : Ex} {Q : Val → Env → Prop} {E : Exn → Env → Prop} : WR (ev Φ bor (.ife t a b) env) Q E = WR ((evT Φ bor t env).bind fun k env1 => match k with
    | true => ev Φ bor a env1
    | false => ev Φ bor b env1) Q E := by rw [ev_ife]
theorem ev_idx {a b : Ex} : ev Φ bor (.idx a b) env = (evO Φ bor a env).bind fun x env1 => (evO Φ bor b env1).bind fun y env2 =>
      match x.data env2, y.data env2 with
      | some d, some e => Res.opt ((idxD d e).map .sh) env2
      | _, _ => .no := by rw [ev]; try rfl
@[simp ↓] theorem Wev_idx {a b : Ex} {Q : Val → Env → Prop} {E : Exn → Env → Prop} : WR (ev Φ bor (.idx a b) env) Q E = WR ((evO Φ bor a env).bind fun x env1 => (evO Φ bor b env1).bind fun y env2 =>
      match x.data env2, y.data env2 with
      | some d, some e => Res.opt ((idxD d e).map .sh) env2
      | _, _ => .no) Q E := by rw [ev_idx]
theorem ev_slc {a : Ex} {lo hi : Option Ex} : ev Φ bor (.slc a lo hi) env = (evO Φ bor a env).bind fun x env1 => (evP Φ bor lo env1).bind fun l env2 => (evP Φ bor hi env2).bind fun h env3 =>
      match x.val env3 with
      | some (.scr _) => .no
      | some v => Res.opt (slcD v.data l h) env3
      | none => .no := by rw [ev]; try rfl
@[simp ↓] theorem Wev_slc {a : Ex} {lo hi : Option Ex} {Q : Val → Env → Prop} {E : Exn → Env → Prop} : WR (ev Φ bor (.slc a lo hi) env) Q E = WR ((evO Φ bor a env).bind fun x env1 => (evP Φ bor lo env1).bind fun l env2 => (evP Φ bor hi env2).bind fun h env3 =>
      match x.val env3 with
      | some (.scr _) => .no
      | some v => Res.opt (slcD v.data l h) env3
      | none => .no) Q E := by rw [ev_slc]
theorem ev_prim {p : Pr} {es : List Ex} : ev Φ bor (.prim p es) env = (evOs Φ bor es env).bind fun os env1 => match opdata os env1 with
    | some ds => Res.opt (primD p ds) env1
    | none => .no := by rw [ev]; try rfl
@[simp ↓] theorem Wev_prim {p : Pr} {es : List Ex} {Q : Val → Env → Prop} {E : Exn → Env → Prop} : WR (ev Φ bor (.prim p es) env) Q E = WR ((evOs Φ bor es env).bind fun os env1 => match opdata os env1 with
    | some ds => Res.opt (primD p ds) env1
    | none => .no) Q E := by rw [ev_prim]
theorem ev_meth {m : Mt} {o : Ex} {es : List Ex} : ev Φ bor (.meth m o es) env = (evO Φ bor o env).bind fun x env1 => match x.data env1 with
    | some (.str z) => (evOs Φ bor es env1).bind fun os env2 => match opdata os env2 with
      | some ds => Res.opt (methD m z ds) env2
      | none => .no
    | _ => .no := by rw [ev]; try rfl
@[simp ↓] theorem Wev_meth {m : Mt} {o : Ex} {es : List Ex} {Q : Val → Env → Prop} {E : Exn → Env → Prop} : WR (ev Φ bor (.meth m o es) env) Q E = WR ((evO Φ bor o env).bind fun x env1 => match x.data env1 with
    | some (.str z) => (evOs Φ bor es env1).bind fun os env2 => match opdata os env2 with
      | some ds => Res.opt (methD m z ds) env2
      | none => .no
    | _ => .no) Q E := by rw [ev_meth]
theorem ev_call {f : Nat} {perm : List Nat} {as : List Ag} : ev Φ bor (.call f perm as) env = (evAs Φ bor as env).bind fun os env1 => callR Φ f perm os env1 := by rw [ev]
@[simp ↓] theorem Wev_call {f : Nat} {perm : List Nat} {as : List Ag} {Q : Val → Env → Prop} {E : Exn → Env → Prop} : WR (ev Φ bor (.call f perm as) env) Q E = WR ((evAs Φ bor as env).bind fun os env1 => callR Φ f perm os env1) Q E := by rw [ev_call]
theorem ev_rev {a : Ex} : ev Φ bor (.rev a) env = (evO Φ bor a env).bind fun x env1 => match x.data env1 with
    | some (.tuple ds) => .ok (.sh (.tuple ds.reverse)) env1
    | _ => .no := by rw [ev]; try rfl
@[simp ↓] theorem Wev_rev {a : Ex} {Q : Val → Env → Prop} {E : Exn → Env → Prop} : WR (ev Φ bor (.rev a) env) Q E = WR ((evO Φ bor a env).bind fun x env1 => match x.data env1 with
    | some (.tuple ds) => .ok (.sh (.tuple ds.reverse)) env1
    | _ => .no) Q E := by rw [ev_rev]
theorem ev_lenSet {a : Ex} : ev Φ bor (.lenSet a) env = (evO Φ bor a env).bind fun x env1 => match x.data env1 with
    | some (.list ds) => match intsD ds with
      | some ns => if ns.length ≤ 4000 then .ok (.sh (.int (nubI ns).length)) env1 else .no
      | none => .no
    | _ => .no := by rw [ev]; try rfl
@[simp ↓] theorem Wev_lenSet {a : Ex} {Q : Val → Env → Prop} {E : Exn → Env → Prop} : WR (ev Φ bor (.lenSet a) env) Q E = WR ((evO Φ bor a env).bind fun x env1 => match x.data env1 with
    | some (.list ds) => match intsD ds with
      | some ns => if ns.length ≤ 4000 then .ok (.sh (.int (nubI ns).length)) env1 else .no
      | none => .no
    | _ => .no) Q E := by rw [ev_lenSet]
theorem ev_dict0 : ev Φ bor .dict0 env = .ok (.ow (.dic [])) env := by rw [ev]
@[simp ↓] theorem Wev_dict0 {Q : Val → Env → Prop} {E : Exn → Env → Prop} : WR (ev Φ bor .dict0 env) Q E = WR (.ok (.ow (.dic [])) env) Q E := by rw [ev_dict0]
theorem ev_popAt {i : Nat} {e : Ex} : ev Φ bor (.popAt i e) env = (match env.at i with
    | some (.ow (.lst _)) => (evO Φ bor e env).bind fun y env1 => match env1.at i, y.data env1 with
      | some (.ow (.lst ds)), some (.int n) => if ds.length ≤ most then match L2.ixN ds.length n with
        | some j => match ds[j]? with
          | some d => .ok (.sh d) (env1.set i (some (.ow (.lst (ds.eraseIdx j)))))
          | none => .no
        | none => .no
        else .no
      | _, _ => .no
    | _ => .no) := by rw [ev]; try rfl
@[simp ↓] theorem Wev_popAt {i : Nat} {e : Ex} {Q : Val → Env → Prop} {E : Exn → Env → Prop} : WR (ev Φ bor (.popAt i e) env) Q E = WR ((match env.at i with
    | some (.ow (.lst _)) => (evO Φ bor e env).bind fun y env1 => match env1.at i, y.data env1 with
      | some (.ow (.lst ds)), some (.int n) => if ds.length ≤ most then match L2.ixN ds.length n with
        | some j => match ds[j]? with
          | some d => .ok (.sh d) (env1.set i (some (.ow (.lst (ds.eraseIdx j)))))
          | none => .no
        | none => .no
        else .no
      | _, _ => .no
    | _ => .no)) Q E := by rw [ev_popAt]
theorem ev_dget {o a : Ex} : ev Φ bor (.dget o a) env = ((evO Φ bor o env).bind fun x env1 => match x.data env1 with
    | some (.dict _) => (evO Φ bor a env1).bind fun y env2 => match x.data env2, y.data env2 with
      | some (.dict ps), some d => Res.opt ((keyD d).map fun k => .sh ((lookD ps k).getD .none)) env2
      | _, _ => .no
    | _ => .no) := by rw [ev]; try rfl
@[simp ↓] theorem Wev_dget {o a : Ex} {Q : Val → Env → Prop} {E : Exn → Env → Prop} : WR (ev Φ bor (.dget o a) env) Q E = WR ((evO Φ bor o env).bind fun x env1 => match x.data env1 with
    | some (.dict _) => (evO Φ bor a env1).bind fun y env2 => match x.data env2, y.data env2 with
      | some (.dict ps), some d => Res.opt ((keyD d).map fun k => .sh ((lookD ps k).getD .none)) env2
      | _, _ => .no
    | _ => .no) Q E := by rw [ev_dget]
theorem ev_dpop {i : Nat} {e : Ex} : ev Φ bor (.dpop i e) env = (match env.at i with
    | some (.ow (.dic _)) => (evO Φ bor e env).bind fun y env1 => match env1.at i, y.data env1 with
      | some (.ow (.dic ps)), some kd => match keyD kd with
        | some k => match lookD ps k with
          | some d => .ok (.sh d) (env1.set i (some (.ow (.dic (dropD ps k)))))
          | none => .no
        | none => .no
      | _, _ => .no
    | _ => .no) := by rw [ev]; try rfl
@[simp ↓] theorem Wev_dpop {i : Nat} {e : Ex} {Q : Val → Env → Prop} {E : Exn → Env → Prop} : WR (ev Φ bor (.dpop i e) env) Q E = WR (match env.at i with
    | some (.ow (.dic _)) => (evO Φ bor e env).bind fun y env1 => match env1.at i, y.data env1 with
      | some (.ow (.dic ps)), some kd => match keyD kd with
        | some k => match lookD ps k with
          | some d => .ok (.sh d) (env1.set i (some (.ow (.dic (dropD ps k)))))
          | none => .no
        | none => .no
      | _, _ => .no
    | _ => .no) Q E := by rw [ev_dpop]
theorem ev_pop {i : Nat} : ev Φ bor (.pop i) env = (match env.at i with
    | some (.ow (.lst ds)) => match ds.getLast? with
      | some d => .ok (.sh d) (env.set i (some (.ow (.lst ds.dropLast))))
      | none => .no
    | _ => .no) := by rw [ev]; try rfl
@[simp ↓] theorem Wev_pop {i : Nat} {Q : Val → Env → Prop} {E : Exn → Env → Prop} : WR (ev Φ bor (.pop i) env) Q E = WR ((match env.at i with
    | some (.ow (.lst ds)) => match ds.getLast? with
      | some d => .ok (.sh d) (env.set i (some (.ow (.lst ds.dropLast))))
      | none => .no
    | _ => .no)) Q E := by rw [ev_pop]
theorem evs_nil : evs Φ bor [] env = .ok [] env := by rw [evs]
@[simp ↓] theorem Wevs_nil {Q : List Val → Env → Prop} {E : Exn → Env → Prop} : WR (evs Φ bor [] env) Q E = WR (.ok [] env) Q E := by rw [evs_nil]
theorem evs_cons {e : Ex} {r : List Ex} : evs Φ bor (e :: r) env = (ev Φ bor e env).bind fun v env1 => (evs Φ bor r env1).bind fun vs env2 => .ok (v :: vs) env2 := by rw [evs]
@[simp ↓] theorem Wevs_cons {e : Ex} {r : List Ex} {Q : List Val → Env → Prop} {E : Exn → Env → Prop} : WR (evs Φ bor (e :: r) env) Q E = WR ((ev Φ bor e env).bind fun v env1 => (evs Φ bor r env1).bind fun vs env2 => .ok (v :: vs) env2) Q E := by rw [evs_cons]
theorem evO_var {i : Nat} : evO Φ bor (.var i) env = (match env.at i with
    | some (.ow (.dol kvs)) => .ok (.pk i) (env.set i (some (.sh (MO.dol kvs).data)))
    | some _ => .ok (.pk i) env
    | none => .no) := by rw [evO]; try rfl
@[simp ↓] theorem WevO_var {i : Nat} {Q : Od → Env → Prop} {E : Exn → Env → Prop} : WR (evO Φ bor (.var i) env) Q E = WR ((match env.at i with
    | some (.ow (.dol kvs)) => .ok (.pk i) (env.set i (some (.sh (MO.dol kvs).data)))
    | some _ => .ok (.pk i) env
    | none => .no)) Q E := by rw [evO_var]
theorem evO_of {e : Ex} (h : ∀ i, e ≠ .var i) : evO Φ bor e env = (ev Φ bor e env).bind fun v env1 => .ok (.vl v) env1 := by
  cases e <;> first | exact absurd rfl (h _) | (rw [evO]; intro i hi; cases hi) | rw [evO]
@[simp ↓] theorem WevO_cst {a0 : PyData} {Q : Od → Env → Prop} {E : Exn → Env → Prop} : WR (evO Φ bor (.cst a0) env) Q E = WR ((ev Φ bor (.cst a0) env).bind fun v env1 => .ok (.vl v) env1) Q E := by rw [evO_of (fun i h => by cases h)]
@[simp ↓] theorem WevO_glo {a0 : PyData} {Q : Od → Env → Prop} {E : Exn → Env → Prop} : WR (evO Φ bor (.glo a0) env) Q E = WR ((ev Φ bor (.glo a0) env).bind fun v env1 => .ok (.vl v) env1) Q E := by rw [evO_of (fun i h => by cases h)]
@[simp ↓] theorem WevO_tup {a0 : List Ex} {Q : Od → Env → Prop} {E : Exn → Env → Prop} : WR (evO Φ bor (.tup a0) env) Q E = WR ((ev Φ bor (.tup a0) env).bind fun v env1 => .ok (.vl v) env1) Q E := by rw [evO_of (fun i h => by cases h)]
@[simp ↓] theorem WevO_lst {a0 : List Ex} {Q : Od → Env → Prop} {E : Exn → Env → Prop} : WR (evO Φ bor (.lst a0) env) Q E = WR ((ev Φ bor (.lst a0) env).bind fun v env1 => .ok (.vl v) env1) Q E := by rw [evO_of (fun i h => by cases h)]
@[simp ↓] theorem WevO_bin {a0 : Bop} {a1 : Ex} {a2 : Ex} {Q : Od → Env → Prop} {E : Exn → Env → Prop} : WR (evO Φ bor (.bin a0 a1 a2) env) Q E = WR ((ev Φ bor (.bin a0 a1 a2) env).bind fun v env1 => .ok (.vl v) env1) Q E := by rw [evO_of (fun i h => by cases h)]
@[simp ↓] theorem WevO_neg {a0 : Ex} {Q : Od → Env → Prop} {E : Exn → Env → Prop} : WR (evO Φ bor (.neg a0) env) Q E = WR ((ev Φ bor (.neg a0) env).bind fun v env1 => .ok (.vl v) env1) Q E := by rw [evO_of (fun i h => by cases h)]
@[simp ↓] theorem WevO_not {a0 : Ex} {Q : Od → Env → Prop} {E : Exn → Env → Prop} : WR (evO Φ bor (.not a0) env) Q E = WR ((ev Φ bor (.not a0) env).bind fun v env1 => .ok (.vl v) env1) Q E := by rw [evO_of (fun i h => by cases h)]
@[simp ↓] theorem WevO_and {a0 : List Ex} {Q : Od → Env → Prop} {E : Exn → Env → Prop} : WR (evO Φ bor (.and a0) env) Q E = WR ((ev Φ bor (.and a0) env).bind fun v env1 => .ok (.vl v) env1) Q E := by rw [evO_of (fun i h => by cases h)]
@[simp ↓] theorem WevO_or {a0 : List Ex} {Q : Od → Env → Prop} {E : Exn → Env → Prop} : WR (evO Φ bor (.or a0) env) Q E = WR ((ev Φ bor (.or a0) env).bind fun v env1 => .ok (.vl v) env1) Q E := by rw [evO_of (fun i h => by cases h)]
@[simp ↓] theorem WevO_cmp {a0 : Cop} {a1 : Ex} {a2 : Ex} {Q : Od → Env → Prop} {E : Exn → Env → Prop} : WR (evO Φ bor (.cmp a0 a1 a2) env) Q E = WR ((ev Φ bor (.cmp a0 a1 a2) env).bind fun v env1 => .ok (.vl v) env1) Q E := by rw [evO_of (fun i h => by cases h)]
@[simp ↓] theorem WevO_chain {a0 : Cop} {a1 : Cop} {a2 : Ex} {a3 : Ex} {a4 : Ex} {Q : Od → Env → Prop} {E : Exn → Env → Prop} : WR (evO Φ bor (.chain a0 a1 a2 a3 a4) env) Q E = WR ((ev Φ bor (.chain a0 a1 a2 a3 a4) env).bind fun v env1 => .ok (.vl v) env1) Q E := by rw [evO_of (fun i h => by cases h)]
@[simp ↓] theorem WevO_ife {a0 : Ex} {a1 : Ex} {a2 : Ex} {Q : Od → Env → Prop} {E : Exn → Env → Prop} : WR (evO Φ bor (.ife a0 a1 a2) env) Q E = WR ((ev Φ bor (.ife a0 a1 a2) env).bind fun v env1 => .ok (.vl v) env1) Q E := by rw [evO_of (fun i h => by cases h)]
@[simp ↓] theorem WevO_idx {a0 : Ex} {a1 : Ex} {Q : Od → Env → Prop} {E : Exn → Env → Prop} : WR (evO Φ bor (.idx a0 a1) env) Q E = WR ((ev Φ bor (.idx a0 a1) env).bind fun v env1 => .ok (.vl v) env1) Q E := by rw [evO_of (fun i h => by cases h)]
@[simp ↓] theorem WevO_slc {a0 : Ex} {a1 : Option Ex} {a2 : Option Ex} {Q : Od → Env → Prop} {E : Exn → Env → Prop} : WR (evO Φ bor (.slc a0 a1 a2) env) Q E = WR ((ev Φ bor (.slc a0 a1 a2) env).bind fun v env1 => .ok (.vl v) env1) Q E := by rw [evO_of (fun i h => by cases h)]
@[simp ↓] theorem WevO_prim {a0 : Pr} {a1 : List Ex} {Q : Od → Env → Prop} {E : Exn → Env → Prop} : WR (evO Φ bor (.prim a0 a1) env) Q E = WR ((ev Φ bor (.prim a0 a1) env).bind fun v env1 => .ok (.vl v) env1) Q E := by rw [evO_of (fun i h => by cases h)]
@[simp ↓] theorem WevO_meth {a0 : Mt} {a1 : Ex} {a2 : List Ex} {Q : Od → Env → Prop} {E : Exn → Env → Prop} : WR (evO Φ bor (.meth a0 a1 a2) env) Q E = WR ((ev Φ bor (.meth a0 a1 a2) env).bind fun v env1 => .ok (.vl v) env1) Q E := by rw [evO_of (fun i h => by cases h)]
@[simp ↓] theorem WevO_call {a0 : Nat} {a1 : List Nat} {a2 : List Ag} {Q : Od → Env → Prop} {E : Exn → Env → Prop} : WR (evO Φ bor (.call a0 a1 a2) env) Q E = WR ((ev Φ bor (.call a0 a1 a2) env).bind fun v env1 => .ok (.vl v) env1) Q E := by rw [evO_of (fun i h => by cases h)]
@[simp ↓] theorem WevO_pop {a0 : Nat} {Q : Od → Env → Prop} {E : Exn → Env → Prop} : WR (evO Φ bor (.pop a0) env) Q E = WR ((ev Φ bor (.pop a0) env).bind fun v env1 => .ok (.vl v) env1) Q E := by rw [evO_of (fun i h => by cases h)]
@[simp ↓] theorem WevO_popAt {a0 : Nat} {a1 : Ex} {Q : Od → Env → Prop} {E : Exn → Env → Prop} : WR (evO Φ bor (.popAt a0 a1) env) Q E = WR ((ev Φ bor (.popAt a0 a1) env).bind fun v env1 => .ok (.vl v) env1) Q E := by rw [evO_of (fun i h => by cases h)]
@[simp ↓] theorem WevO_dget {a0 : Ex} {a1 : Ex} {Q : Od → Env → Prop} {E : Exn → Env → Prop} : WR (evO Φ bor (.dget a0 a1) env) Q E = WR ((ev Φ bor (.dget a0 a1) env).bind fun v env1 => .ok (.vl v) env1) Q E := by rw [evO_of (fun i h => by cases h)]
@[simp ↓] theorem WevO_dpop {a0 : Nat} {a1 : Ex} {Q : Od → Env → Prop} {E : Exn → Env → Prop} : WR (evO Φ bor (.dpop a0 a1) env) Q E = WR ((ev Φ bor (.dpop a0 a1) env).bind fun v env1 => .ok (.vl v) env1) Q E := by rw [evO_of (fun i h => by cases h)]
@[simp ↓] theorem WevO_rev {a0 : Ex} {Q : Od → Env → Prop} {E : Exn → Env → Prop} : WR (evO Φ bor (.rev a0) env) Q E = WR ((ev Φ bor (.rev a0) env).bind fun v env1 => .ok (.vl v) env1) Q E := by rw [evO_of (fun i h => by cases h)]
@[simp ↓] theorem WevO_lenSet {a0 : Ex} {Q : Od → Env → Prop} {E : Exn → Env → Prop} : WR (evO Φ bor (.lenSet a0) env) Q E = WR ((ev Φ bor (.lenSet a0) env).bind fun v env1 => .ok (.vl v) env1) Q E := by rw [evO_of (fun i h => by cases h)]
@[simp ↓] theorem WevO_dict0 {Q : Od → Env → Prop} {E : Exn → Env → Prop} : WR (evO Φ bor (.dict0) env) Q E = WR ((ev Φ bor (.dict0) env).bind fun v env1 => .ok (.vl v) env1) Q E := by rw [evO_of (fun i h => by cases h)]
@[simp ↓] theorem WevO_comp {a0 : List Nat} {a1 : Sr} {a2 : Tgt} {a3 : List Ex} {a4 : Ex} {Q : Od → Env → Prop} {E : Exn → Env → Prop} : WR (evO Φ bor (.comp a0 a1 a2 a3 a4) env) Q E = WR ((ev Φ bor (.comp a0 a1 a2 a3 a4) env).bind fun v env1 => .ok (.vl v) env1) Q E := by rw [evO_of (fun i h => by cases h)]
@[simp ↓] theorem WevO_comk {a0 : List Nat} {a1 : Nat} {a2 : Tgt} {a3 : List Ex} {a4 : Ex} {Q : Od → Env → Prop} {E : Exn → Env → Prop} : WR (evO Φ bor (.comk a0 a1 a2 a3 a4) env) Q E = WR ((ev Φ bor (.comk a0 a1 a2 a3 a4) env).bind fun v env1 => .ok (.vl v) env1) Q E := by rw [evO_of (fun i h => by cases h)]
theorem evOs_nil : evOs Φ bor [] env = .ok [] env := by rw [evOs]
@[simp ↓] theorem WevOs_nil {Q : List Od → Env → Prop} {E : Exn → Env → Prop} : WR (evOs Φ bor [] env) Q E = WR (.ok [] env) Q E := by rw [evOs_nil]
theorem evOs_cons {e : Ex} {r : List Ex} : evOs Φ bor (e :: r) env = (evO Φ bor e env).bind fun v env1 => (evOs Φ bor r env1).bind fun vs env2 => .ok (v :: vs) env2 := by rw [evOs]
@[simp ↓] theorem WevOs_cons {e : Ex} {r : List Ex} {Q : List Od → Env → Prop} {E : Exn → Env → Prop} : WR (evOs Φ bor (e :: r) env) Q E = WR ((evO Φ bor e env).bind fun v env1 => (evOs Φ bor r env1).bind fun vs env2 => .ok (v :: vs) env2) Q E := by rw [evOs_cons]
theorem evAs_nil : evAs Φ bor [] env = .ok [] env := by rw [evAs]
@[simp ↓] theorem WevAs_nil {Q : List Od → Env → Prop} {E : Exn → Env → Prop} : WR (evAs Φ bor [] env) Q E = WR (.ok [] env) Q E := by rw [evAs_nil]
theorem evAs_val {e : Ex} {r : List Ag} : evAs Φ bor (.val e :: r) env = (ev Φ bor e env).bind fun v env1 => (evAs Φ bor r env1).bind fun vs env2 => .ok (.vl v :: vs) env2 := by rw [evAs]
@[simp ↓] theorem WevAs_val {e : Ex} {r : List Ag} {Q : List Od → Env → Prop} {E : Exn → Env → Prop} : WR (evAs Φ bor (.val e :: r) env) Q E = WR ((ev Φ bor e env).bind fun v env1 => (evAs Φ bor r env1).bind fun vs env2 => .ok (.vl v :: vs) env2) Q E := by rw [evAs_val]
theorem evAs_lend {i : Nat} {r : List Ag} : evAs Φ bor (.lend i :: r) env = (match (env.at i).bind Val.lend1 with
    | some _ => (evAs Φ bor r env).bind fun vs env2 => .ok (.pk i :: vs) env2
    | none => .no) := by rw [evAs]; try rfl
@[simp ↓] theorem WevAs_lend {i : Nat} {r : List Ag} {Q : List Od → Env → Prop} {E : Exn → Env → Prop} : WR (evAs Φ bor (.lend i :: r) env) Q E = WR ((match (env.at i).bind Val.lend1 with
    | some _ => (evAs Φ bor r env).bind fun vs env2 => .ok (.pk i :: vs) env2
    | none => .no)) Q E := by rw [evAs_lend]
theorem evP_none : evP Φ bor none env = .ok none env := by rw [evP]
@[simp ↓] theorem WevP_none {Q : Option Int → Env → Prop} {E : Exn → Env → Prop} : WR (evP Φ bor none env) Q E = WR (.ok none env) Q E := by rw [evP_none]
theorem evP_some {e : Ex} : evP Φ bor (some e) env = (evO Φ bor e env).bind fun x env1 => match x.data env1 with
    | some (.int i) => .ok (some i) env1
    | _ => .no := by rw [evP]; try rfl
@[simp ↓] theorem WevP_some {e : Ex} {Q : Option Int → Env → Prop} {E : Exn → Env → Prop} : WR (evP Φ bor (some e) env) Q E = WR ((evO Φ bor e env).bind fun x env1 => match x.data env1 with
    | some (.int i) => .ok (some i) env1
    | _ => .no) Q E := by rw [evP_some]
@[simp] def plainT : Ex → Bool
  | .cst _ => true
  | .glo _ => true
  | .var _ => true
  | .tup _ => true
  | .lst _ => true
  | .bin _ _ _ => true
  | .neg _ => true
  | .not _ => false
  | .and _ => false
  | .or _ => false
  | .cmp _ _ _ => true
  | .chain _ _ _ _ _ => true
  | .ife _ _ _ => false
  | .idx _ _ => true
  | .slc _ _ _ => true
  | .prim _ _ => true
  | .meth _ _ _ => true
  | .call _ _ _ => true
  | .pop _ => true
  | .popAt _ _ => true
  | .dget _ _ => true
  | .dpop _ _ => true
  | .rev _ => true
  | .lenSet _ => true
  | .dict0 => true
  | .comp _ _ _ _ _ => true
  | .comk _ _ _ _ _ => true
theorem evT_not {a : Ex} : evT Φ bor (.not a) env = (evT Φ bor a env).bind fun b env1 => .ok (!b) env1 := by rw [evT]
@[simp ↓] theorem WevT_not {a : Ex} {Q : Bool → Env → Prop} {E : Exn → Env → Prop} : WR (evT Φ bor (.not a) env) Q E = WR ((evT Φ bor a env).bind fun b env1 => .ok (!b) env1) Q E := by rw [evT_not]
theorem evT_and {es : List Ex} : evT Φ bor (.and es) env = evTA Φ bor es env := by rw [evT]
@[simp ↓] theorem WevT_and {es : List Ex} {Q : Bool → Env → Prop} {E : Exn → Env → Prop} : WR (evT Φ bor (.and es) env) Q E = WR (evTA Φ bor es env) Q E := by rw [evT_and]
theorem evT_or {es : List Ex} : evT Φ bor (.or es) env = evTO Φ bor es env := by rw [evT]
@[simp ↓] theorem WevT_or {es : List Ex} {Q : Bool → Env → Prop} {E : Exn → Env → Prop} : WR (evT Φ bor (.or es) env) Q E = WR (evTO Φ bor es env) Q E := by rw [evT_or]
theorem evT_ife {t a b : Ex} : evT Φ bor (.ife t a b) env = (evT Φ bor t env).bind fun k env1 => match k with
    | true => evT Φ bor a env1
    | false => evT Φ bor b env1 := by rw [evT]; try rfl
@[simp ↓] theorem WevT_ife {t a b : Ex} {Q : Bool → Env → Prop} {E : Exn → Env → Prop} : WR (evT Φ bor (.ife t a b) env) Q E = WR ((evT Φ bor t env).bind fun k env1 => match k with
    | true => evT Φ bor a env1
    | false => evT Φ bor b env1) Q E := by rw [evT_ife]
theorem evT_of {e : Ex} (h : plainT e = true) : evT Φ bor e env = (evO Φ bor e env).bind fun x env1 => match x.data env1 with
    | some d => Res.opt (truD d) env1
    | none => .no := by
  cases e <;> first | exact absurd h (by decide) | (cases h; done) | (rw [evT] <;> first | rfl | (intros; exact Ex.noConfusion ‹_›))
@[simp ↓] theorem WevT_cst {a0 : PyData} {Q : Bool → Env → Prop} {E : Exn → Env → Prop} : WR (evT Φ bor (.cst a0) env) Q E = WR ((evO Φ bor (.cst a0) env).bind fun x env1 => match x.data env1 with
    | some d => Res.opt (truD d) env1
    | none => .no) Q E := by rw [evT_of rfl]
@[simp ↓] theorem WevT_glo {a0 : PyData} {Q : Bool → Env → Prop} {E : Exn → Env → Prop} : WR (evT Φ bor (.glo a0) env) Q E = WR ((evO Φ bor (.glo a0) env).bind fun x env1 => match x.data env1 with
    | some d => Res.opt (truD d) env1
    | none => .no) Q E := by rw [evT_of rfl]
@[simp ↓] theorem WevT_var {a0 : Nat} {Q : Bool → Env → Prop} {E : Exn → Env → Prop} : WR (evT Φ bor (.var a0) env) Q E = WR ((evO Φ bor (.var a0) env).bind fun x env1 => match x.data env1 with
    | some d => Res.opt (truD d) env1
    | none => .no) Q E := by rw [evT_of rfl]
@[simp ↓] theorem WevT_tup {a0 : List Ex} {Q : Bool → Env → Prop} {E : Exn → Env → Prop} : WR (evT Φ bor (.tup a0) env) Q E = WR ((evO Φ bor (.tup a0) env).bind fun x env1 => match x.data env1 with
    | some d => Res.opt (truD d) env1
    | none => .no) Q E := by rw [evT_of rfl]
@[simp ↓] theorem WevT_lst {a0 : List Ex} {Q : Bool → Env → Prop} {E : Exn → Env → Prop} : WR (evT Φ bor (.lst a0) env) Q E = WR ((evO Φ bor (.lst a0) env).bind fun x env1 => match x.data env1 with
    | some d => Res.opt (truD d) env1
    | none => .no) Q E := by rw [evT_of rfl]
@[simp ↓] theorem WevT_bin {a0 : Bop} {a1 : Ex} {a2 : Ex} {Q : Bool → Env → Prop} {E : Exn → Env → Prop} : WR (evT Φ bor (.bin a0 a1 a2) env) Q E = WR ((evO Φ bor (.bin a0 a1 a2) env).bind fun x env1 => match x.data env1 with
    | some d => Res.opt (truD d) env1
    | none => .no) Q E := by rw [evT_of rfl]
@[simp ↓] theorem WevT_neg {a0 : Ex} {Q : Bool → Env → Prop} {E : Exn → Env → Prop} : WR (evT Φ bor (.neg a0) env) Q E = WR ((evO Φ bor (.neg a0) env).bind fun x env1 => match x.data env1 with
    | some d => Res.opt (truD d) env1
    | none => .no) Q E := by rw [evT_of rfl]
@[simp ↓] theorem WevT_cmp {a0 : Cop} {a1 : Ex} {a2 : Ex} {Q : Bool → Env → Prop} {E : Exn → Env → Prop} : WR (evT Φ bor (.cmp a0 a1 a2) env) Q E = WR ((evO Φ bor (.cmp a0 a1 a2) env).bind fun x env1 => match x.data env1 with
    | some d => Res.opt (truD d) env1
    | none => .no) Q E := by rw [evT_of rfl]
@[simp ↓] theorem WevT_chain {a0 : Cop} {a1 : Cop} {a2 : Ex} {a3 : Ex} {a4 : Ex} {Q : Bool → Env → Prop} {E : Exn → Env → Prop} : WR (evT Φ bor (.chain a0 a1 a2 a3 a4) env) Q E = WR ((evO Φ bor (.chain a0 a1 a2 a3 a4) env).bind fun x env1 => match x.data env1 with
    | some d => Res.opt (truD d) env1
    | none => .no) Q E := by rw [evT_of rfl]
@[simp ↓] theorem WevT_idx {a0 : Ex} {a1 : Ex} {Q : Bool → Env → Prop} {E : Exn → Env → Prop} : WR (evT Φ bor (.idx a0 a1) env) Q E = WR ((evO Φ bor (.idx a0 a1) env).bind fun x env1 => match x.data env1 with
    | some d => Res.opt (truD d) env1
    | none => .no) Q E := by rw [evT_of rfl]
@[simp ↓] theorem WevT_slc {a0 : Ex} {a1 : Option Ex} {a2 : Option Ex} {Q : Bool → Env → Prop} {E : Exn → Env → Prop} : WR (evT Φ bor (.slc a0 a1 a2) env) Q E = WR ((evO Φ bor (.slc a0 a1 a2) env).bind fun x env1 => match x.data env1 with
    | some d => Res.opt (truD d) env1
    | none => .no) Q E := by rw [evT_of rfl]
@[simp ↓] theorem WevT_prim {a0 : Pr} {a1 : List Ex} {Q : Bool → Env → Prop} {E : Exn → Env → Prop} : WR (evT Φ bor (.prim a0 a1) env) Q E = WR ((evO Φ bor (.prim a0 a1) env).bind fun x env1 => match x.data env1 with
    | some d => Res.opt (truD d) env1
    | none => .no) Q E := by rw [evT_of rfl]
@[simp ↓] theorem WevT_meth {a0 : Mt} {a1 : Ex} {a2 : List Ex} {Q : Bool → Env → Prop} {E : Exn → Env → Prop} : WR (evT Φ bor (.meth a0 a1 a2) env) Q E = WR ((evO Φ bor (.meth a0 a1 a2) env).bind fun x env1 => match x.data env1 with
    | some d => Res.opt (truD d) env1
    | none => .no) Q E := by rw [evT_of rfl]
@[simp ↓] theorem WevT_call {a0 : Nat} {a1 : List Nat} {a2 : List Ag} {Q : Bool → Env → Prop} {E : Exn → Env → Prop} : WR (evT Φ bor (.call a0 a1 a2) env) Q E = WR ((evO Φ bor (.call a0 a1 a2) env).bind fun x env1 => match x.data env1 with
    | some d => Res.opt (truD d) env1
    | none => .no) Q E := by rw [evT_of rfl]
@[simp ↓] theorem WevT_pop {a0 : Nat} {Q : Bool → Env → Prop} {E : Exn → Env → Prop} : WR (evT Φ bor (.pop a0) env) Q E = WR ((evO Φ bor (.pop a0) env).bind fun x env1 => match x.data env1 with
    | some d => Res.opt (truD d) env1
    | none => .no) Q E := by rw [evT_of rfl]
@[simp ↓] theorem WevT_popAt {a0 : Nat} {a1 : Ex} {Q : Bool → Env → Prop} {E : Exn → Env → Prop} : WR (evT Φ bor (.popAt a0 a1) env) Q E = WR ((evO Φ bor (.popAt a0 a1) env).bind fun x env1 => match x.data env1 with
    | some d => Res.opt (truD d) env1
    | none => .no) Q E := by rw [evT_of rfl]
@[simp ↓] theorem WevT_dget {a0 : Ex} {a1 : Ex} {Q : Bool → Env → Prop} {E : Exn → Env → Prop} : WR (evT Φ bor (.dget a0 a1) env) Q E = WR ((evO Φ bor (.dget a0 a1) env).bind fun x env1 => match x.data env1 with
    | some d => Res.opt (truD d) env1
    | none => .no) Q E := by rw [evT_of rfl]
@[simp ↓] theorem WevT_dpop {a0 : Nat} {a1 : Ex} {Q : Bool → Env → Prop} {E : Exn → Env → Prop} : WR (evT Φ bor (.dpop a0 a1) env) Q E = WR ((evO Φ bor (.dpop a0 a1) env).bind fun x env1 => match x.data env1 with
    | some d => Res.opt (truD d) env1
    | none => .no) Q E := by rw [evT_of rfl]
@[simp ↓] theorem WevT_rev {a0 : Ex} {Q : Bool → Env → Prop} {E : Exn → Env → Prop} : WR (evT Φ bor (.rev a0) env) Q E = WR ((evO Φ bor (.rev a0) env).bind fun x env1 => match x.data env1 with
    | some d => Res.opt (truD d) env1
    | none => .no) Q E := by rw [evT_of rfl]
@[simp ↓] theorem WevT_lenSet {a0 : Ex} {Q : Bool → Env → Prop} {E : Exn → Env → Prop} : WR (evT Φ bor (.lenSet a0) env) Q E = WR ((evO Φ bor (.lenSet a0) env).bind fun x env1 => match x.data env1 with
    | some d => Res.opt (truD d) env1
    | none => .no) Q E := by rw [evT_of rfl]
@[simp ↓] theorem WevT_dict0 {Q : Bool → Env → Prop} {E : Exn → Env → Prop} : WR (evT Φ bor (.dict0) env) Q E = WR ((evO Φ bor (.dict0) env).bind fun x env1 => match x.data env1 with
    | some d => Res.opt (truD d) env1
    | none => .no) Q E := by rw [evT_of rfl]
@[simp ↓] theorem WevT_comp {a0 : List Nat} {a1 : Sr} {a2 : Tgt} {a3 : List Ex} {a4 : Ex} {Q : Bool → Env → Prop} {E : Exn → Env → Prop} : WR (evT Φ bor (.comp a0 a1 a2 a3 a4) env) Q E = WR ((evO Φ bor (.comp a0 a1 a2 a3 a4) env).bind fun x env1 => match x.data env1 with
    | some d => Res.opt (truD d) env1
    | none => .no) Q E := by rw [evT_of rfl]
@[simp ↓] theorem WevT_comk {a0 : List Nat} {a1 : Nat} {a2 : Tgt} {a3 : List Ex} {a4 : Ex} {Q : Bool → Env → Prop} {E : Exn → Env → Prop} : WR (evT Φ bor (.comk a0 a1 a2 a3 a4) env) Q E = WR ((evO Φ bor (.comk a0 a1 a2 a3 a4) env).bind fun x env1 => match x.data env1 with
    | some d => Res.opt (truD d) env1
    | none => .no) Q E := by rw [evT_of rfl]
theorem evTA_nil : evTA Φ bor [] env = .ok true env := by rw [evTA]
@[simp ↓] theorem WevTA_nil {Q : Bool → Env → Prop} {E : Exn → Env → Prop} : WR (evTA Φ bor [] env) Q E = WR (.ok true env) Q E := by rw [evTA_nil]
theorem evTA_cons {e : Ex} {r : List Ex} : evTA Φ bor (e :: r) env = (evT Φ bor e env).bind fun b env1 => match b with
    | true => evTA Φ bor r env1
    | false => .ok false env1 := by rw [evTA]; try rfl
@[simp ↓] theorem WevTA_cons {e : Ex} {r : List Ex} {Q : Bool → Env → Prop} {E : Exn → Env → Prop} : WR (evTA Φ bor (e :: r) env) Q E = WR ((evT Φ bor e env).bind fun b env1 => match b with
    | true => evTA Φ bor r env1
    | false => .ok false env1) Q E := by rw [evTA_cons]
theorem evTO_nil : evTO Φ bor [] env = .ok false env := by rw [evTO]
@[simp ↓] theorem WevTO_nil {Q : Bool → Env → Prop} {E : Exn → Env → Prop} : WR (evTO Φ bor [] env) Q E = WR (.ok false env) Q E := by rw [evTO_nil]
theorem evTO_cons {e : Ex} {r : List Ex} : evTO Φ bor (e :: r) env = (evT Φ bor e env).bind fun b env1 => match b with
    | false => evTO Φ bor r env1
    | true => .ok true env1 := by rw [evTO]; try rfl
@[simp ↓] theorem WevTO_cons {e : Ex} {r : List Ex} {Q : Bool → Env → Prop} {E : Exn → Env → Prop} : WR (evTO Φ bor (e :: r) env) Q E = WR ((evT Φ bor e env).bind fun b env1 => match b with
    | false => evTO Φ bor r env1
    | true => .ok true env1) Q E := by rw [evTO_cons]
theorem evAnd_one {e : Ex} : evAnd Φ bor [e] env = ev Φ bor e env := by rw [evAnd]
@[simp ↓] theorem WevAnd_one {e : Ex} {Q : Val → Env → Prop} {E : Exn → Env → Prop} : WR (evAnd Φ bor [e] env) Q E = WR (ev Φ bor e env) Q E := by rw [evAnd_one]
theorem evAnd_cons {e f : Ex} {r : List Ex} : evAnd Φ bor (e :: f :: r) env = (ev Φ bor e env).bind fun v env1 => match v with
    | .sh (.bool true) => evAnd Φ bor (f :: r) env1
    | .sh (.bool false) => .ok (.sh (.bool false)) env1
    | _ => .no := by rw [evAnd] <;> first | rfl | (intro h; cases h)
@[simp ↓] theorem WevAnd_cons {e f : Ex} {r : List Ex} {Q : Val → Env → Prop} {E : Exn → Env → Prop} : WR (evAnd Φ bor (e :: f :: r) env) Q E = WR ((ev Φ bor e env).bind fun v env1 => match v with
    | .sh (.bool true) => evAnd Φ bor (f :: r) env1
    | .sh (.bool false) => .ok (.sh (.bool false)) env1
    | _ => .no) Q E := by rw [evAnd_cons]
theorem evOr_one {e : Ex} : evOr Φ bor [e] env = ev Φ bor e env := by rw [evOr]
@[simp ↓] theorem WevOr_one {e : Ex} {Q : Val → Env → Prop} {E : Exn → Env → Prop} : WR (evOr Φ bor [e] env) Q E = WR (ev Φ bor e env) Q E := by rw [evOr_one]
theorem evOr_cons {e f : Ex} {r : List Ex} : evOr Φ bor (e :: f :: r) env = (ev Φ bor e env).bind fun v env1 => match v with
    | .sh (.bool false) => evOr Φ bor (f :: r) env1
    | .sh (.bool true) => .ok (.sh (.bool true)) env1
    | _ => .no := by rw [evOr] <;> first | rfl | (intro h; cases h)
@[simp ↓] theorem WevOr_cons {e f : Ex} {r : List Ex} {Q : Val → Env → Prop} {E : Exn → Env → Prop} : WR (evOr Φ bor (e :: f :: r) env) Q E = WR ((ev Φ bor e env).bind fun v env1 => match v with
    | .sh (.bool false) => evOr Φ bor (f :: r) env1
    | .sh (.bool true) => .ok (.sh (.bool true)) env1
    | _ => .no) Q E := by rw [evOr_cons]
theorem evCs_nil : evCs Φ bor [] env = .ok true env := by rw [evCs]
@[simp ↓] theorem WevCs_nil {Q : Bool → Env → Prop} {E : Exn → Env → Prop} : WR (evCs Φ bor [] env) Q E = WR (.ok true env) Q E := by rw [evCs_nil]
theorem evCs_one {c : Ex} : evCs Φ bor [c] env = evT Φ bor c env := by rw [evCs]
@[simp ↓] theorem WevCs_one {c : Ex} {Q : Bool → Env → Prop} {E : Exn → Env → Prop} : WR (evCs Φ bor [c] env) Q E = WR (evT Φ bor c env) Q E := by rw [evCs_one]
theorem evS_it {e : Ex} : evS Φ bor (.it e) env = (ev Φ bor e env).bind fun v env1 => Res.opt (itemsD v.data) env1 := by rw [evS]
@[simp ↓] theorem WevS_it {e : Ex} {Q : List PyData → Env → Prop} {E : Exn → Env → Prop} : WR (evS Φ bor (.it e) env) Q E = WR ((ev Φ bor e env).bind fun v env1 => Res.opt (itemsD v.data) env1) Q E := by rw [evS_it]
theorem evS_rng {a : Ex} : evS Φ bor (.rng a) env = (evO Φ bor a env).bind fun x env1 => match x.data env1 with
    | some (.int j) => Res.opt (range2 0 j) env1
    | _ => .no := by rw [evS]; try rfl
@[simp ↓] theorem WevS_rng {a : Ex} {Q : List PyData → Env → Prop} {E : Exn → Env → Prop} : WR (evS Φ bor (.rng a) env) Q E = WR ((evO Φ bor a env).bind fun x env1 => match x.data env1 with
    | some (.int j) => Res.opt (range2 0 j) env1
    | _ => .no) Q E := by rw [evS_rng]
theorem evS_rng2 {a b : Ex} : evS Φ bor (.rng2 a b) env = (evO Φ bor a env).bind fun x env1 => (evO Φ bor b env1).bind fun y env2 => match x.data env2, y.data env2 with
    | some (.int i), some (.int j) => Res.opt (range2 i j) env2
    | _, _ => .no := by rw [evS]; try rfl
@[simp ↓] theorem WevS_rng2 {a b : Ex} {Q : List PyData → Env → Prop} {E : Exn → Env → Prop} : WR (evS Φ bor (.rng2 a b) env) Q E = WR ((evO Φ bor a env).bind fun x env1 => (evO Φ bor b env1).bind fun y env2 => match x.data env2, y.data env2 with
    | some (.int i), some (.int j) => Res.opt (range2 i j) env2
    | _, _ => .no) Q E := by rw [evS_rng2]
theorem evS_zip {a b : Ex} : evS Φ bor (.zip a b) env = (ev Φ bor a env).bind fun v env1 => (ev Φ bor b env1).bind fun w env2 => match v.data, w.data with
    | .list xs, .list ys => .ok ((xs.zip ys).map fun p => .tuple [p.1, p.2]) env2
    | .tuple xs, .tuple ys => .ok ((xs.zip ys).map fun p => .tuple [p.1, p.2]) env2
    | _, _ => .no := by rw [evS]; try rfl
@[simp ↓] theorem WevS_zip {a b : Ex} {Q : List PyData → Env → Prop} {E : Exn → Env → Prop} : WR (evS Φ bor (.zip a b) env) Q E = WR ((ev Φ bor a env).bind fun v env1 => (ev Φ bor b env1).bind fun w env2 => match v.data, w.data with
    | .list xs, .list ys => .ok ((xs.zip ys).map fun p => .tuple [p.1, p.2]) env2
    | .tuple xs, .tuple ys => .ok ((xs.zip ys).map fun p => .tuple [p.1, p.2]) env2
    | _, _ => .no) Q E := by rw [evS_zip]
theorem evS_enum {a : Ex} : evS Φ bor (.enum a) env = (ev Φ bor a env).bind fun v env1 => match v.data with
    | .list xs => .ok (xs.zipIdx.map fun p => .tuple [.int p.2, p.1]) env1
    | _ => .no := by rw [evS]; try rfl

@[simp ↓] theorem WevS_enum {a : Ex} {Q : List PyData → Env → Prop} {E : Exn → Env → Prop} : WR (evS Φ bor (.enum a) env) Q E = WR ((ev Φ bor a env).bind fun v env1 => match v.data with
    | .list xs => .ok (xs.zipIdx.map fun p => .tuple [.int p.2, p.1]) env1
    | _ => .no) Q E := by rw [evS_enum]
/-! ### calls -/
@[simp ↓] theorem WR_callR {f : Nat} {perm : List Nat} {os : List Od} {Q : Val → Env → Prop} {E : Exn → Env → Prop} : WR (callR Φ f perm os env) Q E = (match permO os perm with
    | some os' => if perm.Nodup ∧ perm.length = os.length then WR (callO Φ f os' env) Q E else False
    | none => False) := by
  unfold callR
  cases permO os perm with
  | none => rfl
  | some os' => simp only; split <;> rfl
@[simp ↓] theorem WR_callO {f : Nat} {os : List Od} {Q : Val → Env → Prop} {E : Exn → Env → Prop} : WR (callO Φ f os env) Q E = (match argVals env os with
    | some vs => if (lents os).Nodup then WC (Φ f vs) (fun v outs => outs.length = (lents os).length ∧ Q v (backAll env (lents os) outs)) (fun x outs => outs.length = (lents os).length ∧ E x (backAll env (lents os) outs)) else False
    | none => False) := by
  unfold callO
  cases argVals env os with
  | none => rfl
  | some vs =>
    simp only
    split
    · cases Φ f vs with
      | ok v outs => unfold WC; simp only; split <;> simp_all
      | ex x outs => unfold WC; simp only; split <;> simp_all
      | no => rfl
    · rfl

/-! ### statements -/
theorem exec_asg {t : Tgt} {e : Ex} : exec Φ bor (.asg t e) env = (ev Φ bor e env).bind fun v env1 => match bindV bor t v env1 with
    | some env2 => .ok .next env2
    | none => .no := by rw [exec]; try rfl
@[simp ↓] theorem Wexec_asg {t : Tgt} {e : Ex} {Q : Fl → Env → Prop} {E : Exn → Env → Prop} : WR (exec Φ bor (.asg t e) env) Q E = WR ((ev Φ bor e env).bind fun v env1 => match bindV bor t v env1 with
    | some env2 => .ok .next env2
    | none => .no) Q E := by rw [exec_asg]
theorem exec_par {i j : Nat} {a b : Ex} : exec Φ bor (.par i j a b) env = (ev Φ bor a env).bind fun v env1 => (ev Φ bor b env1).bind fun w env2 =>
      match bindV bor (.name j) w env2 with
      | some env3 => match bindV bor (.name i) v env3 with
        | some env4 => .ok .next env4
        | none => .no
      | none => .no := by rw [exec]; try rfl
@[simp ↓] theorem Wexec_par {i j : Nat} {a b : Ex} {Q : Fl → Env → Prop} {E : Exn → Env → Prop} : WR (exec Φ bor (.par i j a b) env) Q E = WR ((ev Φ bor a env).bind fun v env1 => (ev Φ bor b env1).bind fun w env2 =>
      match bindV bor (.name j) w env2 with
      | some env3 => match bindV bor (.name i) v env3 with
        | some env4 => .ok .next env4
        | none => .no
      | none => .no) Q E := by rw [exec_par]
theorem exec_aug {i : Nat} {op : Bop} {e : Ex} : exec Φ bor (.aug i op e) env = (match env.at i with
    | some (.sh d) => (evO Φ bor e env).bind fun x env1 => match x.data env1 with
      | some g => match augD op d g with
        | some r => match bindT bor (.name i) r env1 with
          | some env2 => .ok .next env2
          | none => .no
        | none => .no
      | none => .no
    | _ => .no) := by rw [exec]; try rfl
@[simp ↓] theorem Wexec_aug {i : Nat} {op : Bop} {e : Ex} {Q : Fl → Env → Prop} {E : Exn → Env → Prop} : WR (exec Φ bor (.aug i op e) env) Q E = WR ((match env.at i with
    | some (.sh d) => (evO Φ bor e env).bind fun x env1 => match x.data env1 with
      | some g => match augD op d g with
        | some r => match bindT bor (.name i) r env1 with
          | some env2 => .ok .next env2
          | none => .no
        | none => .no
      | none => .no
    | _ => .no)) Q E := by rw [exec_aug]
theorem exec_expr {e : Ex} : exec Φ bor (.expr e) env = (ev Φ bor e env).bind fun _ env1 => .ok .next env1 := by rw [exec]
@[simp ↓] theorem Wexec_expr {e : Ex} {Q : Fl → Env → Prop} {E : Exn → Env → Prop} : WR (exec Φ bor (.expr e) env) Q E = WR ((ev Φ bor e env).bind fun _ env1 => .ok .next env1) Q E := by rw [exec_expr]
theorem exec_append {i : Nat} {e : Ex} : exec Φ bor (.append i e) env = (match env.at i with
    | some (.ow (.lst _)) => (ev Φ bor e env).bind fun v env1 => match env1.at i, v.share with
      | some (.ow (.lst ds)), some d => if ds.length < most then .ok .next (env1.set i (some (.ow (.lst (ds ++ [d]))))) else .no
      | _, _ => .no
    | _ => .no) := by rw [exec]; try rfl
@[simp ↓] theorem Wexec_append {i : Nat} {e : Ex} {Q : Fl → Env → Prop} {E : Exn → Env → Prop} : WR (exec Φ bor (.append i e) env) Q E = WR ((match env.at i with
    | some (.ow (.lst _)) => (ev Φ bor e env).bind fun v env1 => match env1.at i, v.share with
      | some (.ow (.lst ds)), some d => if ds.length < most then .ok .next (env1.set i (some (.ow (.lst (ds ++ [d]))))) else .no
      | _, _ => .no
    | _ => .no)) Q E := by rw [exec_append]
theorem exec_extend {i : Nat} {e : Ex} : exec Φ bor (.extend i e) env = (match env.at i with
    | some (.ow (.lst _)) => (ev Φ bor e env).bind fun v env1 => match env1.at i, v.share with
      | some (.ow (.lst ds)), some (.list es) => if ds.length + es.length ≤ most then .ok .next (env1.set i (some (.ow (.lst (ds ++ es))))) else .no
      | _, _ => .no
    | _ => .no) := by rw [exec]; try rfl
@[simp ↓] theorem Wexec_extend {i : Nat} {e : Ex} {Q : Fl → Env → Prop} {E : Exn → Env → Prop} : WR (exec Φ bor (.extend i e) env) Q E = WR ((match env.at i with
    | some (.ow (.lst _)) => (ev Φ bor e env).bind fun v env1 => match env1.at i, v.share with
      | some (.ow (.lst ds)), some (.list es) => if ds.length + es.length ≤ most then .ok .next (env1.set i (some (.ow (.lst (ds ++ es))))) else .no
      | _, _ => .no
    | _ => .no)) Q E := by rw [exec_extend]
theorem exec_unp {is : List Nat} {es : List Ex} : exec Φ bor (.unp is es) env = unpE Φ bor is es env := by rw [exec]
@[simp ↓] theorem Wexec_unp {is : List Nat} {es : List Ex} {Q : Fl → Env → Prop} {E : Exn → Env → Prop} : WR (exec Φ bor (.unp is es) env) Q E = WR (unpE Φ bor is es env) Q E := by rw [exec_unp]
@[simp ↓] theorem Wunp_nil {Q : Fl → Env → Prop} {E : Exn → Env → Prop} : WR (unpE Φ bor [] [] env) Q E = WR (.ok .next env) Q E := by rw [unpE]
@[simp ↓] theorem Wunp_cons {i : Nat} {is : List Nat} {e : Ex} {es : List Ex} {Q : Fl → Env → Prop} {E : Exn → Env → Prop} : WR (unpE Φ bor (i :: is) (e :: es) env) Q E = WR ((ev Φ bor e env).bind fun v env1 => (unpE Φ bor is es env1).bind fun _ env2 => match bindV bor (.name i) v env2 with
    | some env3 => .ok .next env3
    | none => .no) Q E := by rw [unpE]; try rfl
theorem exec_dset {i : Nat} {k e : Ex} : exec Φ bor (.dset i k e) env = ((ev Φ bor e env).bind fun v env1 => match v.share, env1.at i with
    | some d, some (.ow (.dic _)) => (evO Φ bor k env1).bind fun y env2 => match env2.at i, y.data env2 with
      | some (.ow (.dic ps)), some kd => match keyD kd with
        | some kk => if ps.length < most then .ok .next (env2.set i (some (.ow (.dic (putD ps kk d))))) else .no
        | none => .no
      | _, _ => .no
    | _, _ => .no) := by rw [exec]; try rfl
@[simp ↓] theorem Wexec_dset {i : Nat} {k e : Ex} {Q : Fl → Env → Prop} {E : Exn → Env → Prop} : WR (exec Φ bor (.dset i k e) env) Q E = WR ((ev Φ bor e env).bind fun v env1 => match v.share, env1.at i with
    | some d, some (.ow (.dic _)) => (evO Φ bor k env1).bind fun y env2 => match env2.at i, y.data env2 with
      | some (.ow (.dic ps)), some kd => match keyD kd with
        | some kk => if ps.length < most then .ok .next (env2.set i (some (.ow (.dic (putD ps kk d))))) else .no
        | none => .no
      | _, _ => .no
    | _, _ => .no) Q E := by rw [exec_dset]
theorem exec_seti {i : Nat} {k e : Ex} : exec Φ bor (.seti i k e) env = (ev Φ bor e env).bind fun v env1 => match v.share, env1.at i with
    | some d, some (.ow (.lst _)) => (evO Φ bor k env1).bind fun y env2 => match env2.at i, y.data env2 with
      | some (.ow (.lst ds)), some (.int n) => match L2.ixN ds.length n with
        | some j => .ok .next (env2.set i (some (.ow (.lst (ds.set j d)))))
        | none => .no
      | _, _ => .no
    | _, _ => .no := by rw [exec]; try rfl
@[simp ↓] theorem Wexec_seti {i : Nat} {k e : Ex} {Q : Fl → Env → Prop} {E : Exn → Env → Prop} : WR (exec Φ bor (.seti i k e) env) Q E = WR ((ev Φ bor e env).bind fun v env1 => match v.share, env1.at i with
    | some d, some (.ow (.lst _)) => (evO Φ bor k env1).bind fun y env2 => match env2.at i, y.data env2 with
      | some (.ow (.lst ds)), some (.int n) => match L2.ixN ds.length n with
        | some j => .ok .next (env2.set i (some (.ow (.lst (ds.set j d)))))
        | none => .no
      | _, _ => .no
    | _, _ => .no) Q E := by rw [exec_seti]
theorem exec_dsa {i : Nat} {k e : Ex} : exec Φ bor (.dsa i k e) env = (if i ∈ bor then .no else match (env.at i).bind Val.dolOf with
    | some ps => (evO Φ bor k (env.set i none)).bind fun y env1 => match (y.data env1).bind keyD with
      | some kk => if ps.length < most ∧ (ps.all fun p => decide (p.2.length < most)) = true then (ev Φ bor e env1).bind fun v env2 => match v.share with
          | some d => .ok .next (env2.set i (some (.ow (.dol (putL ps kk d)))))
          | none => .no
        else .no
      | none => .no
    | none => .no) := by rw [exec]; try rfl
@[simp ↓] theorem Wexec_dsa {i : Nat} {k e : Ex} {Q : Fl → Env → Prop} {E : Exn → Env → Prop} : WR (exec Φ bor (.dsa i k e) env) Q E = WR (if i ∈ bor then .no else match (env.at i).bind Val.dolOf with
    | some ps => (evO Φ bor k (env.set i none)).bind fun y env1 => match (y.data env1).bind keyD with
      | some kk => if ps.length < most ∧ (ps.all fun p => decide (p.2.length < most)) = true then (ev Φ bor e env1).bind fun v env2 => match v.share with
          | some d => .ok .next (env2.set i (some (.ow (.dol (putL ps kk d)))))
          | none => .no
        else .no
      | none => .no
    | none => .no) Q E := by rw [exec_dsa]
theorem exec_never : exec Φ bor .never env = .no := by rw [exec]
@[simp ↓] theorem Wexec_never {Q : Fl → Env → Prop} {E : Exn → Env → Prop} : WR (exec Φ bor .never env) Q E = WR (.no : Res Fl) Q E := by rw [exec_never]
theorem exec_ifs {c : Ex} {a b : List Sx} : exec Φ bor (.ifs c a b) env = (evT Φ bor c env).bind fun k env1 => match k with
    | true => execs Φ bor a env1
    | false => execs Φ bor b env1 := by rw [exec]; try rfl
@[simp ↓] theorem Wexec_ifs {c : Ex} {a b : List Sx} {Q : Fl → Env → Prop} {E : Exn → Env → Prop} : WR (exec Φ bor (.ifs c a b) env) Q E = WR ((evT Φ bor c env).bind fun k env1 => match k with
    | true => execs Φ bor a env1
    | false => execs Φ bor b env1) Q E := by rw [exec_ifs]
theorem exec_ret {e : Ex} : exec Φ bor (.ret e) env = (ev Φ bor e env).bind fun v env1 => .ok (.ret v) env1 := by rw [exec]
@[simp ↓] theorem Wexec_ret {e : Ex} {Q : Fl → Env → Prop} {E : Exn → Env → Prop} : WR (exec Φ bor (.ret e) env) Q E = WR ((ev Φ bor e env).bind fun v env1 => .ok (.ret v) env1) Q E := by rw [exec_ret]
theorem exec_retV {i : Nat} : exec Φ bor (.retV i) env = (match env.at i with
    | some (.ow (.dol kvs)) => .ok (.ret (.sh (MO.dol kvs).data)) (env.set i (some (.sh (MO.dol kvs).data)))
    | some (.ow m) => if i ∈ bor then .no else .ok (.ret (.ow m)) (env.set i none)
    | some (.sh d) => .ok (.ret (.sh d)) env
    | some (.scr ns) => .ok (.ret (.scr ns)) env
    | none => .no) := by rw [exec]; try rfl
@[simp ↓] theorem Wexec_retV {i : Nat} {Q : Fl → Env → Prop} {E : Exn → Env → Prop} : WR (exec Φ bor (.retV i) env) Q E = WR ((match env.at i with
    | some (.ow (.dol kvs)) => .ok (.ret (.sh (MO.dol kvs).data)) (env.set i (some (.sh (MO.dol kvs).data)))
    | some (.ow m) => if i ∈ bor then .no else .ok (.ret (.ow m)) (env.set i none)
    | some (.sh d) => .ok (.ret (.sh d)) env
    | some (.scr ns) => .ok (.ret (.scr ns)) env
    | none => .no)) Q E := by rw [exec_retV]
theorem exec_retN : exec Φ bor .retN env = .ok (.ret (.sh .none)) env := by rw [exec]
@[simp ↓] theorem Wexec_retN {Q : Fl → Env → Prop} {E : Exn → Env → Prop} : WR (exec Φ bor .retN env) Q E = WR (.ok (.ret (.sh .none)) env) Q E := by rw [exec_retN]
theorem exec_cont : exec Φ bor .cont env = .ok .cont env := by rw [exec]
@[simp ↓] theorem Wexec_cont {Q : Fl → Env → Prop} {E : Exn → Env → Prop} : WR (exec Φ bor .cont env) Q E = WR (.ok .cont env) Q E := by rw [exec_cont]
theorem exec_brk : exec Φ bor .brk env = .ok .brk env := by rw [exec]
@[simp ↓] theorem Wexec_brk {Q : Fl → Env → Prop} {E : Exn → Env → Prop} : WR (exec Φ bor .brk env) Q E = WR (.ok .brk env) Q E := by rw [exec_brk]
theorem exec_pass : exec Φ bor .pass env = .ok .next env := by rw [exec]
@[simp ↓] theorem Wexec_pass {Q : Fl → Env → Prop} {E : Exn → Env → Prop} : WR (exec Φ bor .pass env) Q E = WR (.ok .next env) Q E := by rw [exec_pass]
theorem execs_nil : execs Φ bor [] env = .ok .next env := by rw [execs]
@[simp ↓] theorem Wexecs_nil {Q : Fl → Env → Prop} {E : Exn → Env → Prop} : WR (execs Φ bor [] env) Q E = WR (.ok .next env) Q E := by rw [execs_nil]
@[simp ↓] theorem WR_execs {s : Sx} {r : List Sx} {Q : Fl → Env → Prop} {E : Exn → Env → Prop} : WR (execs Φ bor (s :: r) env) Q E = WR (exec Φ bor s env) (fun f env1 => match f with
    | .next => WR (execs Φ bor r env1) Q E
    | f => Q f env1) E := by
  rw [execs]
  cases exec Φ bor s env with
  | ok f env1 => cases f <;> rfl
  | ex x env1 => rfl
  | no => rfl
/-- a def runs -/
theorem wc_run {f : Fn} {args : List Val} {Q : Val → List MO → Prop} {E : Exn → List MO → Prop} (h : f.argsOk args = true) (q : WR (execs Φ f.bor f.body (f.start args)) (fun fl env => match fl with
    | .ret v => match lentAll env (owPos 0 args) with
      | some ms => Q v ms
      | none => False
    | .next => match lentAll env (owPos 0 args) with
      | some ms => Q (.sh .none) ms
      | none => False
    | _ => False) (fun x env => match lentAll env (owPos 0 args) with
      | some ms => E x ms
      | none => False)) : WC (f.run Φ args) Q E := by
  unfold Fn.run
  rw [if_pos h]
  cases e : execs Φ f.bor f.body (f.start args) with
  | ok fl env =>
    rw [e] at q
    cases fl <;> first | exact q.elim | skip
    · simp only [WR_ok] at q
      simp only
      cases e2 : lentAll env (owPos 0 args) with
      | none => rw [e2] at q; exact q.elim
      | some ms => rw [e2] at q; exact q
    · rename_i v
      simp only [WR_ok] at q
      simp only
      cases e2 : lentAll env (owPos 0 args) with
      | none => rw [e2] at q; exact q.elim
      | some ms => rw [e2] at q; exact q
  | ex x env =>
    rw [e] at q
    simp only [WR_ex] at q
    simp only
    cases e2 : lentAll env (owPos 0 args) with
    | none => rw [e2] at q; exact q.elim
    | some ms => rw [e2] at q; exact q
  | no => rw [e] at q; exact q.elim
/-- for -/
theorem wr_loop {s : Sr} {t : Tgt} {b : List Sx} {Q : Fl → Env → Prop} {E : Exn → Env → Prop} (h : WR (evS Φ bor s env) (fun ds env1 => ∃ I : List PyData → Env → Prop, I ds env1 ∧ (∀ d rest en, I (d :: rest) en → match bindT bor t d en with
    | some en1 => WR (execs Φ bor b en1) (fun fl en2 => match fl with
      | .next => I rest en2
      | .cont => I rest en2
      | .brk => Q .next en2
      | .ret v => Q (.ret v) en2) E
    | none => False) ∧ ∀ en, I [] en → Q .next en) E) : WR (exec Φ bor (.loop s t b) env) Q E := by
  rw [exec, WR_bind]
  refine WR.mono h (fun ds env1 ⟨I, h0, h1, h2⟩ => ?_) fun _ _ z => z
  clear h
  have key : ∀ (ds : List PyData) (env1 : Env), I ds env1 → WR (walk (bindT bor t) (execs Φ bor b) ds env1) Q E := ?_
  · exact key ds env1 h0
  intro ds
  induction ds with
  | nil => exact fun env1 h0 => h2 _ h0
  | cons d ds ih =>
    intro env1 h0
    have q := h1 d ds env1 h0
    unfold walk
    cases e1 : bindT bor t d env1 with
    | none => rw [e1] at q; exact q.elim
    | some en1 =>
      rw [e1] at q
      simp only at q ⊢
      cases e2 : execs Φ bor b en1 with
      | ok fl en2 =>
        rw [e2] at q
        cases fl with
        | next => exact ih en2 q
        | cont => exact ih en2 q
        | brk => exact q
        | ret v => exact q
      | ex x en2 => rw [e2] at q; exact q
      | no => rw [e2] at q; exact q.elim
/-- while -/
theorem wr_while {c : Ex} {b : List Sx} {Q : Fl → Env → Prop} {E : Exn → Env → Prop} (I : Nat → Env → Prop) (n : Nat) (h0 : I n env) (h : ∀ n en, I n en → WR (evT Φ bor c en) (fun k en1 => match k with
    | true => WR (execs Φ bor b en1) (fun fl en2 => match fl with
      | .next => ∃ m, m < n ∧ I m en2
      | .cont => ∃ m, m < n ∧ I m en2
      | .brk => Q .next en2
      | .ret v => Q (.ret v) en2) E
    | false => Q .next en1) E) : WR (exec Φ bor (.whl c b) env) Q E := by
  rw [exec]
  induction n using Nat.strongRecOn generalizing env with
  | ind n ih =>
    have q := h n env h0
    rw [whileR_eq]
    cases e1 : evT Φ bor c env with
    | ok k en1 =>
      rw [e1] at q
      cases k with
      | false => exact q
      | true =>
        simp only [WR_ok] at q
        simp only
        cases e2 : execs Φ bor b en1 with
        | ok fl en2 =>
          rw [e2] at q
          cases fl with
          | next => obtain ⟨m, hm, hi⟩ := q; exact ih m hm hi
          | cont => obtain ⟨m, hm, hi⟩ := q; exact ih m hm hi
          | brk => exact q
          | ret v => exact q
        | ex x en2 => rw [e2] at q; exact q
        | no => rw [e2] at q; exact q.elim
    | ex x en1 => rw [e1] at q; exact q
    | no => rw [e1] at q; exact q.elim
theorem turns_ok {one : PyData → Env → Res (Option PyData)} {I : List PyData → List PyData → Env → Prop} (h : ∀ d rest ys en, I (d :: rest) ys en → WR (one d en) (fun y en' => match y with
    | some y => I rest (ys ++ [y]) en'
    | none => I rest ys en') (fun _ _ => False)) : ∀ (ds ys : List PyData) (en : Env), I ds ys en → ∃ ys' en', turns one ds ys en = .ok ys' en' ∧ I [] ys' en'
  | [], ys, en, hI => ⟨ys, en, rfl, hI⟩
  | d :: ds, ys, en, hI => by
    have q := h d ds ys en hI
    unfold turns
    cases e1 : one d en with
    | ok y en' =>
      rw [e1] at q
      cases y with
      | some y => exact turns_ok h ds _ en' q
      | none => exact turns_ok h ds _ en' q
    | ex x en' => rw [e1] at q; exact q.elim
    | no => rw [e1] at q; exact q.elim
/-- a comprehension -/
theorem wr_comp {own : List Nat} {s : Sr} {t : Tgt} {cs : List Ex} {e : Ex} {Q : Val → Env → Prop} {E : Exn → Env → Prop} (h : WR (evS Φ bor s env) (fun ds env1 => ds.length ≤ most ∧ ∃ I : List PyData → List PyData → Env → Prop, I ds [] env1 ∧
      (∀ d rest ys en, I (d :: rest) ys en → match bindT bor t d (wipeE en own) with
        | some en1 => WR (evCs Φ bor cs en1) (fun k en2 => match k with
          | true => WR (ev Φ bor e en2) (fun v en3 => match v.share with
            | some y => I rest (ys ++ [y]) en3
            | none => False) (fun _ _ => False)
          | false => I rest ys en2) (fun _ _ => False)
        | none => False) ∧ ∀ ys en, I [] ys en → Q (.ow (.lst ys)) (restE env1 en own)) E) : WR (ev Φ bor (.comp own s t cs e) env) Q E := by
  rw [ev, WR_bind]
  refine WR.mono h (fun ds env1 ⟨hl, I, h0, h1, h2⟩ => ?_) fun _ _ z => z
  clear h
  rw [if_pos hl]
  clear hl
  obtain ⟨ys', en', e1, hI⟩ := turns_ok (one := fun d en => match bindT bor t d (wipeE en own) with
          | none => .no
          | some en1 => match evCs Φ bor cs en1 with
            | .ok false en2 => .ok none en2
            | .ok true en2 => match ev Φ bor e en2 with
              | .ok v en3 => match v.share with
                | some y => .ok (some y) en3
                | none => .no
              | _ => .no
            | _ => .no) (I := I) (fun d rest ys en hI => by
      have q := h1 d rest ys en hI
      cases e1 : bindT bor t d (wipeE en own) with
      | none => rw [e1] at q; exact q.elim
      | some en1 =>
        rw [e1] at q
        simp only at q ⊢
        cases e2 : evCs Φ bor cs en1 with
        | ex x en2 => rw [e2] at q; exact q.elim
        | no => rw [e2] at q; exact q.elim
        | ok k en2 =>
          rw [e2] at q
          cases k with
          | false => exact q
          | true =>
            simp only [WR_ok] at q ⊢
            cases e3 : ev Φ bor e en2 with
            | ex x en3 => rw [e3] at q; exact q.elim
            | no => rw [e3] at q; exact q.elim
            | ok v en3 =>
              rw [e3] at q
              simp only [WR_ok] at q ⊢
              cases e4 : v.share with
              | none => rw [e4] at q; exact q.elim
              | some y => rw [e4] at q; exact q) ds [] env1 h0
  refine Eq.mp (congrArg (fun r => WR r Q E) (?_ : Res.ok (Val.ow (.lst ys')) (restE env1 en' own) = _)) (h2 _ _ hI)
  refine Eq.trans ?_ (congrArg (fun z : Res (List PyData) => (match z with
    | .ok ys en => Res.ok (Val.ow (.lst ys)) (restE env1 en own)
    | _ => .no : Res Val)) e1.symm)
  rfl
end
end Pv.X

/-! PxB: operations on data, stepped through; the drawing helpers that all laws share: box, take, of. -/
set_option linter.all false
set_option maxRecDepth 100000
set_option maxHeartbeats 1000000
namespace Pv.X
open PySem

/-! ### data -/
@[simp] theorem tru_bool {b : Bool} : truD (.bool b) = some b := rfl
@[simp] theorem tru_none : truD .none = some false := rfl
@[simp] theorem tru_int {i : Int} : truD (.int i) = some (i != 0) := rfl
@[simp] theorem tru_list {xs : List PyData} : truD (.list xs) = some (!xs.isEmpty) := rfl
@[simp] theorem tru_tuple {xs : List PyData} : truD (.tuple xs) = some (!xs.isEmpty) := rfl
@[simp] theorem cmp_eq {a b : PyData} : cmpD .eq a b = eqD a b := rfl
@[simp] theorem cmp_ne {a b : PyData} : cmpD .ne a b = (eqD a b).map (!·) := rfl
@[simp] theorem cmp_lt {a b : PyData} : cmpD .lt a b = ltD a b := rfl
@[simp] theorem cmp_le {a b : PyData} : cmpD .le a b = leD a b := rfl
@[simp] theorem cmp_gt {i j : Int} : cmpD .gt (.int i) (.int j) = some (decide (j < i)) := rfl
@[simp] theorem cmp_ge {i j : Int} : cmpD .ge (.int i) (.int j) = some (decide (j ≤ i)) := rfl
@[simp] theorem cmp_inT {a : PyData} {ys : List PyData} : cmpD .inn a (.tuple ys) = inD a ys := by cases a <;> rfl
@[simp] theorem cmp_inL {a : PyData} {ys : List PyData} : cmpD .inn a (.list ys) = inD a ys := by cases a <;> rfl
@[simp] theorem cmp_ninT {a : PyData} {ys : List PyData} : cmpD .nin a (.tuple ys) = (inD a ys).map (!·) := by cases a <;> rfl
@[simp] theorem cmp_ninL {a : PyData} {ys : List PyData} : cmpD .nin a (.list ys) = (inD a ys).map (!·) := by cases a <;> rfl
@[simp] theorem cmp_isN {a : PyData} : cmpD .isN a .none = some (isNon a) := rfl
@[simp] theorem cmp_notN {a : PyData} : cmpD .notN a .none = some (!isNon a) := rfl
@[simp] theorem lt_int {i j : Int} : ltD (.int i) (.int j) = some (decide (i < j)) := rfl
@[simp] theorem lt_str {x y : Str} : ltD (.str x) (.str y) = some (decide (x.cps.toList < y.cps.toList)) := rfl
@[simp] theorem le_int {i j : Int} : leD (.int i) (.int j) = some (decide (i ≤ j)) := rfl
@[simp] theorem le_str {x y : Str} : leD (.str x) (.str y) = some (!decide (y.cps.toList < x.cps.toList)) := rfl
theorem eqD_of {a b : PyData} (h : aln a b = true) (h2 : min a.depth b.depth ≤ deepest) : eqD a b = some (PyData.eqv a b) := by
  unfold eqD eqOk
  rw [if_pos (by rw [h, decide_eq_true h2]; rfl)]
@[simp] theorem depth_int {i : Int} : PyData.depth (.int i) = 0 := by unfold PyData.depth; rfl
@[simp] theorem depth_str {x : Str} : PyData.depth (.str x) = 0 := by unfold PyData.depth; rfl
@[simp] theorem depth_bool {b : Bool} : PyData.depth (.bool b) = 0 := by unfold PyData.depth; rfl
@[simp] theorem depth_none : PyData.depth .none = 0 := by unfold PyData.depth; rfl
@[simp] theorem eq_int {i j : Int} : eqD (.int i) (.int j) = some (decide (i = j)) := by
  rw [eqD_of (by simp [aln]) (by simp), PyData.eqv]
  congr 1
@[simp] theorem eq_str {x y : Str} : eqD (.str x) (.str y) = some (decide (x = y)) := by
  rw [eqD_of (by simp [aln]) (by simp), PyData.eqv]
  congr 1
@[simp] theorem eq_boolb {x y : Bool} : eqD (.bool x) (.bool y) = some (x == y) := by
  rw [eqD_of (by simp [aln]) (by simp), PyData.eqv]
theorem eqvAll_nil {xs : List PyData} : PyData.eqvAll xs [] = xs.isEmpty := by
  cases xs <;> simp [PyData.eqvAll]
theorem alnAll_nil {xs : List PyData} : alnAll xs [] = true := by cases xs <;> simp [alnAll]
@[simp] theorem depth_tnil : PyData.depth (.tuple []) = 1 := by simp [PyData.depth, PyData.depthAll]
@[simp] theorem depth_lnil : PyData.depth (.list []) = 1 := by simp [PyData.depth, PyData.depthAll]
@[simp] theorem eq_tnil {xs : List PyData} : eqD (.tuple xs) (.tuple []) = some xs.isEmpty := by
  rw [eqD_of (by simp [aln, alnAll_nil]) (by simp; exact Nat.le_trans (Nat.min_le_right _ _) (by decide)), PyData.eqv, eqvAll_nil]
@[simp] theorem eq_lnil {xs : List PyData} : eqD (.list xs) (.list []) = some xs.isEmpty := by
  rw [eqD_of (by simp [aln, alnAll_nil]) (by simp; exact Nat.le_trans (Nat.min_le_right _ _) (by decide)), PyData.eqv, eqvAll_nil]
@[simp] theorem idx_list {xs : List PyData} {i : Int} : idxD (.list xs) (.int i) = L2.atI xs i := rfl
@[simp] theorem idx_tuple {xs : List PyData} {i : Int} : idxD (.tuple xs) (.int i) = L2.atI xs i := rfl
@[simp] theorem bin_add {i j : Int} : binD .add (.int i) (.int j) = some (.sh (.int (i + j))) := rfl
@[simp] theorem bin_sub {i j : Int} : binD .sub (.int i) (.int j) = some (.sh (.int (i - j))) := rfl
theorem bin_mul {i j : Int} (h : (-(2 ^ 64) < i ∧ i < 2 ^ 64) ∨ (-(2 ^ 64) < j ∧ j < 2 ^ 64)) : binD .mul (.int i) (.int j) = some (.sh (.int (i * j))) := if_pos h
theorem bin_mod {i j : Int} (h : 0 < j) : binD .mod (.int i) (.int j) = some (.sh (.int (i % j))) := if_pos h
theorem bin_fdiv {i j : Int} (h : 0 < j ∧ j < 1073741824) : binD .fdiv (.int i) (.int j) = some (.sh (.int (i / j))) := if_pos h
theorem bin_pow {i j : Int} (h : 0 ≤ j ∧ j ≤ 64 ∧ i.natAbs < 2 ^ 256) : binD .pow (.int i) (.int j) = some (.sh (.int (i ^ j.toNat))) := if_pos h
theorem bin_addT {xs ys : List PyData} (h : xs.length + ys.length ≤ most) : binD .add (.tuple xs) (.tuple ys) = some (.sh (.tuple (xs ++ ys))) := if_pos h
theorem bin_addL {xs ys : List PyData} (h : xs.length + ys.length ≤ most) : binD .add (.list xs) (.list ys) = some (.ow (.lst (xs ++ ys))) := if_pos h
theorem bin_addS {x y : Str} (h : x.length + y.length ≤ most) : binD .add (.str x) (.str y) = some (.sh (.str (x ++ y))) := if_pos h
@[simp] theorem pr_lenL {xs : List PyData} : primD .len [.list xs] = some (.sh (.int xs.length)) := rfl
@[simp] theorem pr_lenT {xs : List PyData} : primD .len [.tuple xs] = some (.sh (.int xs.length)) := rfl
theorem pr_lenS {x : Str} (h : x.length ≤ most) : primD .len [.str x] = some (.sh (.int x.length)) := if_pos h
@[simp] theorem pr_tupL {xs : List PyData} : primD .tuple [.list xs] = some (.sh (.tuple xs)) := rfl
@[simp] theorem pr_tupT {xs : List PyData} : primD .tuple [.tuple xs] = some (.sh (.tuple xs)) := rfl
@[simp] theorem pr_lstL {xs : List PyData} : primD .list [.list xs] = some (.ow (.lst xs)) := rfl
@[simp] theorem pr_lstT {xs : List PyData} : primD .list [.tuple xs] = some (.ow (.lst xs)) := rfl
@[simp] theorem pr_isi {t : Ty} {d : PyData} : primD (.isi t) [d] = some (.sh (.bool (isTy t d))) := by cases d <;> rfl
@[simp] theorem pr_min {i j : Int} : primD .min2 [.int i, .int j] = some (.sh (.int (if j < i then j else i))) := rfl
@[simp] theorem pr_max {i j : Int} : primD .max2 [.int i, .int j] = some (.sh (.int (if j > i then j else i))) := rfl
@[simp] theorem pr_abs {i : Int} : primD .abs [.int i] = some (.sh (.int (if i < 0 then -i else i))) := rfl
@[simp] theorem pr_intb {b : Bool} : primD .int [.bool b] = some (.sh (.int (if b then 1 else 0))) := rfl
theorem bools_map {l : List Bool} : bools (l.map .bool) = some l := by
  induction l with
  | nil => rfl
  | cons a l ih => rw [List.map_cons, bools, ih]; rfl
theorem pr_all {l : List Bool} : primD .all [.list (l.map .bool)] = some (.sh (.bool (l.all id))) := by
  show (bools (l.map .bool)).map _ = _
  rw [bools_map]; rfl
theorem pr_any {l : List Bool} : primD .any [.list (l.map .bool)] = some (.sh (.bool (l.any id))) := by
  show (bools (l.map .bool)).map _ = _
  rw [bools_map]; rfl
@[simp] theorem pr_allf {α : Type} {g : α → Bool} {l : List α} : primD .all [.list (l.map fun x => .bool (g x))] = some (.sh (.bool (l.all g))) := by
  have e : (l.map fun x => PyData.bool (g x)) = (l.map g).map .bool := by rw [List.map_map]; rfl
  rw [e, pr_all, List.all_map]
  rfl
@[simp] theorem pr_anyf {α : Type} {g : α → Bool} {l : List α} : primD .any [.list (l.map fun x => .bool (g x))] = some (.sh (.bool (l.any g))) := by
  have e : (l.map fun x => PyData.bool (g x)) = (l.map g).map .bool := by rw [List.map_map]; rfl
  rw [e, pr_any, List.any_map]
  rfl
@[simp] theorem items_list {xs : List PyData} : itemsD (.list xs) = some xs := rfl
@[simp] theorem items_tuple {xs : List PyData} : itemsD (.tuple xs) = some xs := rfl
@[simp] theorem items_str {x : Str} : itemsD (.str x) = some (x.cps.toList.map fun c => .str ⟨#[c]⟩) := rfl
@[simp] theorem isTy_str_none : isTy .str .none = false := rfl
@[simp] theorem isTy_str_bool {b : Bool} : isTy .str (.bool b) = false := rfl
@[simp] theorem isTy_str_int {i : Int} : isTy .str (.int i) = false := rfl
@[simp] theorem isTy_str_str {x : Str} : isTy .str (.str x) = true := rfl
@[simp] theorem isTy_str_list {xs : List PyData} : isTy .str (.list xs) = false := rfl
@[simp] theorem isTy_str_tuple {xs : List PyData} : isTy .str (.tuple xs) = false := rfl
@[simp] theorem isTy_str_dict {kvs : List (PyData × PyData)} : isTy .str (.dict kvs) = false := rfl
@[simp] theorem isTy_int_none : isTy .int .none = false := rfl
@[simp] theorem isTy_int_bool {b : Bool} : isTy .int (.bool b) = true := rfl
@[simp] theorem isTy_int_int {i : Int} : isTy .int (.int i) = true := rfl
@[simp] theorem isTy_int_str {x : Str} : isTy .int (.str x) = false := rfl
@[simp] theorem isTy_int_list {xs : List PyData} : isTy .int (.list xs) = false := rfl
@[simp] theorem isTy_int_tuple {xs : List PyData} : isTy .int (.tuple xs) = false := rfl
@[simp] theorem isTy_int_dict {kvs : List (PyData × PyData)} : isTy .int (.dict kvs) = false := rfl
@[simp] theorem isTy_bool_none : isTy .bool .none = false := rfl
@[simp] theorem isTy_bool_bool {b : Bool} : isTy .bool (.bool b) = true := rfl
@[simp] theorem isTy_bool_int {i : Int} : isTy .bool (.int i) = false := rfl
@[simp] theorem isTy_bool_str {x : Str} : isTy .bool (.str x) = false := rfl
@[simp] theorem isTy_bool_list {xs : List PyData} : isTy .bool (.list xs) = false := rfl
@[simp] theorem isTy_bool_tuple {xs : List PyData} : isTy .bool (.tuple xs) = false := rfl
@[simp] theorem isTy_bool_dict {kvs : List (PyData × PyData)} : isTy .bool (.dict kvs) = false := rfl
@[simp] theorem isTy_tuple_none : isTy .tuple .none = false := rfl
@[simp] theorem isTy_tuple_bool {b : Bool} : isTy .tuple (.bool b) = false := rfl
@[simp] theorem isTy_tuple_int {i : Int} : isTy .tuple (.int i) = false := rfl
@[simp] theorem isTy_tuple_str {x : Str} : isTy .tuple (.str x) = false := rfl
@[simp] theorem isTy_tuple_list {xs : List PyData} : isTy .tuple (.list xs) = false := rfl
@[simp] theorem isTy_tuple_tuple {xs : List PyData} : isTy .tuple (.tuple xs) = true := rfl
@[simp] theorem isTy_tuple_dict {kvs : List (PyData × PyData)} : isTy .tuple (.dict kvs) = false := rfl
@[simp] theorem isTy_list_none : isTy .list .none = false := rfl
@[simp] theorem isTy_list_bool {b : Bool} : isTy .list (.bool b) = false := rfl
@[simp] theorem isTy_list_int {i : Int} : isTy .list (.int i) = false := rfl
@[simp] theorem isTy_list_str {x : Str} : isTy .list (.str x) = false := rfl
@[simp] theorem isTy_list_list {xs : List PyData} : isTy .list (.list xs) = true := rfl
@[simp] theorem isTy_list_tuple {xs : List PyData} : isTy .list (.tuple xs) = false := rfl
@[simp] theorem isTy_list_dict {kvs : List (PyData × PyData)} : isTy .list (.dict kvs) = false := rfl
@[simp] theorem isTy_dict_none : isTy .dict .none = false := rfl
@[simp] theorem isTy_dict_bool {b : Bool} : isTy .dict (.bool b) = false := rfl
@[simp] theorem isTy_dict_int {i : Int} : isTy .dict (.int i) = false := rfl
@[simp] theorem isTy_dict_str {x : Str} : isTy .dict (.str x) = false := rfl
@[simp] theorem isTy_dict_list {xs : List PyData} : isTy .dict (.list xs) = false := rfl
@[simp] theorem isTy_dict_tuple {xs : List PyData} : isTy .dict (.tuple xs) = false := rfl
@[simp] theorem isTy_dict_dict {kvs : List (PyData × PyData)} : isTy .dict (.dict kvs) = true := rfl
theorem range2_of {i j : Int} (h : -(2 ^ 62) ≤ i ∧ i < 2 ^ 62 ∧ -(2 ^ 62) ≤ j ∧ j < 2 ^ 62) : range2 i j = some ((List.range (j - i).toNat).map fun (k : Nat) => .int (i + (k : Int))) := if_pos h
/-- an index within -/
theorem at_ok {α : Type} {xs : List α} {i : Int} (h0 : 0 ≤ i) (h1 : i < xs.length) : ∃ d, d ∈ xs ∧ L2.atI xs i = some d := by
  have hk : i.toNat < xs.length := by omega
  refine ⟨xs[i.toNat], List.getElem_mem hk, ?_⟩
  unfold L2.atI L2.ixN
  rw [if_pos h0, if_pos h1]
  simp [hk]
theorem at_get {α : Type} {xs : List α} {i : Int} (h0 : 0 ≤ i) (h1 : i < xs.length) : L2.atI xs i = xs[i.toNat]? := by
  unfold L2.atI L2.ixN
  rw [if_pos h0, if_pos h1]
  rfl
theorem ixN_ok {n : Nat} {i : Int} (h0 : 0 ≤ i) (h1 : i < n) : L2.ixN n i = some i.toNat := by
  unfold L2.ixN
  rw [if_pos h0, if_pos h1]

/-! ### box, take, of -/
/-- a box: its digits, its seed, how many were drawn; at most m -/
def GB (m : Nat) (b : List PyData) : Prop := ∃ o s n : Int, b = [.int o, .int s, .int n] ∧ 0 ≤ o ∧ 0 ≤ s ∧ s < 2 ^ 62 ∧ 0 ≤ n ∧ n ≤ m
theorem GB.mono {m k : Nat} {b : List PyData} (h : GB m b) (l : m ≤ k) : GB k b := by
  obtain ⟨o, s, n, e, h1, h2, h3, h4, h5⟩ := h
  exact ⟨o, s, n, e, h1, h2, h3, h4, by omega⟩
def TakeOk (Φ : Nat → List Val → CR) (i : Nat) : Prop := ∀ (b : List PyData) (m : Nat) (n : Int) (Q : Val → List MO → Prop) (E : Exn → List MO → Prop), GB m b → m < 2 ^ 100 → 0 < n → n < 1073741824 → (∀ (r : Int) (b' : List PyData), GB (m + 1) b' → 0 ≤ r → r < n → Q (.sh (.int r)) [.lst b']) → WC (Φ i [.ow (.lst b), .sh (.int n)]) Q E
def Ftake : Fn := ⟨5, 2, [0], [(.ifs (.cmp .gt (.idx (.var 0) (.cst (.int (0)))) (.cst (.int (0)))) [(.asg (.name 4) (.bin .mod (.idx (.var 0) (.cst (.int (0)))) (.var 1))), (.seti 0 (.cst (.int (0))) (.bin .fdiv (.idx (.var 0) (.cst (.int (0)))) (.var 1))), (.retV 4)] []), (.seti 0 (.cst (.int (2))) (.bin .add (.idx (.var 0) (.cst (.int (2)))) (.cst (.int (1))))), (.asg (.name 2) (.idx (.lst [(.cst (.int (2147483629))), (.cst (.int (2147483587))), (.cst (.int (2147483579))), (.cst (.int (2147483563))), (.cst (.int (2147483549))), (.cst (.int (2147483543))), (.cst (.int (2147483497)))]) (.bin .mod (.idx (.var 0) (.cst (.int (2)))) (.cst (.int (7)))))), (.asg (.name 3) (.bin .mod (.bin .pow (.bin .add (.idx (.var 0) (.cst (.int (1)))) (.bin .mul (.cst (.int (7919))) (.idx (.var 0) (.cst (.int (2)))))) (.cst (.int (3)))) (.var 2))), (.asg (.name 3) (.bin .mod (.bin .mul (.var 3) (.bin .add (.bin .mod (.var 3) (.cst (.int (1009)))) (.idx (.var 0) (.cst (.int (2)))))) (.var 2))), (.ifs (.cmp .gt (.var 1) (.bin .pow (.cst (.int (10))) (.cst (.int (6))))) [(.asg (.name 3) (.bin .add (.bin .mul (.var 3) (.cst (.int (1000000007)))) (.bin .mod (.bin .add (.bin .mul (.idx (.var 0) (.cst (.int (1)))) (.bin .add (.idx (.var 0) (.cst (.int (2)))) (.cst (.int (3))))) (.bin .mul (.var 3) (.var 3))) (.cst (.int (1000000007))))))] []), (.ret (.bin .mod (.bin .fdiv (.var 3) (.cst (.int (11)))) (.var 1)))]⟩
theorem take_ok (Φ Φ' : Nat → List Val → CR) (i : Nat) (h : ∀ args, Φ i args = Ftake.run Φ' args) : TakeOk Φ i := by
  intro b m u Q E hb hm h0 h1 hQ
  rw [h]
  obtain ⟨o, s, n, rfl, ho, hs, hs2, hn, hn2⟩ := hb
  refine wc_run (by rfl) ?_
  by_cases hp : 0 < o
  · simp [Ftake, Fn.start, L2.atI, hp, bin_mod, bin_fdiv, h0, h1, L2.ixN, owPos, lentAll]
    exact hQ _ _ ⟨_, s, n, rfl, Int.ediv_nonneg ho (by omega), hs, hs2, hn, by omega⟩ (Int.emod_nonneg _ (by omega)) (Int.emod_lt_of_pos _ h0)
  · obtain ⟨d, hd, hd2⟩ := at_ok (xs := [PyData.int 2147483629, .int 2147483587, .int 2147483579, .int 2147483563, .int 2147483549, .int 2147483543, .int 2147483497]) (i := (n + 1) % 7) (by omega) (by simp; omega)
    obtain ⟨p, rfl, hp1, hp2⟩ : ∃ p : Int, d = .int p ∧ 0 < p ∧ p < 2147483648 := by
      simp at hd
      rcases hd with h | h | h | h | h | h | h <;> exact ⟨_, h, by decide, by decide⟩
    have z1 : L2.atI [PyData.int o, .int s, .int n] 0 = some (.int o) := rfl
    have z2 : L2.atI [PyData.int o, .int s, .int n] 2 = some (.int n) := rfl
    have z3 : L2.atI [PyData.int o, .int s, .int (n + 1)] 2 = some (.int (n + 1)) := rfl
    have z4 : L2.atI [PyData.int o, .int s, .int (n + 1)] 1 = some (.int s) := rfl
    have e1 : binD .pow (.int (s + 7919 * (n + 1))) (.int 3) = some (.sh (.int ((s + 7919 * (n + 1)) ^ 3))) := bin_pow ⟨by decide, by decide, by omega⟩
    have e2 : binD .mul (.int 7919) (.int (n + 1)) = some (.sh (.int (7919 * (n + 1)))) := bin_mul (.inl ⟨by decide, by decide⟩)
    have ge := Int.emod_nonneg ((s + 7919 * (n + 1)) ^ 3) (show p ≠ 0 by omega)
    have lt := Int.emod_lt_of_pos ((s + 7919 * (n + 1)) ^ 3) hp1
    generalize hx : (s + 7919 * (n + 1)) ^ 3 % p = x at ge lt
    have e3 : binD .mul (.int x) (.int (x % 1009 + (n + 1))) = some (.sh (.int (x * (x % 1009 + (n + 1))))) := bin_mul (.inl ⟨by omega, by omega⟩)
    have ge2 := Int.emod_nonneg (x * (x % 1009 + (n + 1))) (show p ≠ 0 by omega)
    have lt2 := Int.emod_lt_of_pos (x * (x % 1009 + (n + 1))) hp1
    generalize hy : x * (x % 1009 + (n + 1)) % p = y at ge2 lt2
    have e4 : binD .mul (.int y) (.int 1000000007) = some (.sh (.int (y * 1000000007))) := bin_mul (.inl ⟨by omega, by omega⟩)
    have e5 : binD .mul (.int s) (.int (n + 1 + 3)) = some (.sh (.int (s * (n + 1 + 3)))) := bin_mul (.inl ⟨by omega, by omega⟩)
    have e6 : binD .mul (.int y) (.int y) = some (.sh (.int (y * y))) := bin_mul (.inl ⟨by omega, by omega⟩)
    have e7 : binD .pow (.int 10) (.int 6) = some (.sh (.int 1000000)) := by
      rw [bin_pow (by decide)]
      rfl
    by_cases hbig : 1000000 < u
    · simp [Ftake, Fn.start, z1, z2, z3, z4, hp, bin_mod, bin_fdiv, h0, h1, L2.ixN, owPos, lentAll, hd2, most, e1, e2, hp1, hx, e3, hy, e4, e5, e6, e7, hbig]
      exact hQ _ _ ⟨o, s, n + 1, rfl, ho, hs, hs2, by omega, by omega⟩ (Int.emod_nonneg _ (by omega)) (Int.emod_lt_of_pos _ h0)
    · simp [Ftake, Fn.start, z1, z2, z3, z4, hp, bin_mod, bin_fdiv, h0, h1, L2.ixN, owPos, lentAll, hd2, most, e1, e2, hp1, hx, e3, hy, e4, e5, e6, e7, hbig]
      exact hQ _ _ ⟨o, s, n + 1, rfl, ho, hs, hs2, by omega, by omega⟩ (Int.emod_nonneg _ (by omega)) (Int.emod_lt_of_pos _ h0)
/-- one of a list -/
def OfOk (Φ : Nat → List Val → CR) (i : Nat) : Prop := ∀ (b : List PyData) (m : Nat) (xs : List PyData) (Q : Val → List MO → Prop) (E : Exn → List MO → Prop), GB m b → m < 2 ^ 100 → xs ≠ [] → xs.length < 1073741824 → (∀ (d : PyData) (b' : List PyData), GB (m + 1) b' → d ∈ xs → Q (.sh d) [.lst b']) →
  WC (Φ i [.ow (.lst b), .sh (.list xs)]) Q E ∧ WC (Φ i [.ow (.lst b), .sh (.tuple xs)]) Q E
def Fof (t : Nat) : Fn := ⟨2, 2, [0], [(.ret (.idx (.var 1) (.call t [0, 1] [(.lend 0), (.val (.prim .len [(.var 1)]))])))]⟩
theorem of_ok (Φ Φ' : Nat → List Val → CR) (i t : Nat) (h : ∀ args, Φ i args = (Fof t).run Φ' args) (T : TakeOk Φ' t) : OfOk Φ i := by
  intro b m xs Q E hb hm h0 h1 hQ
  have hl : 0 < xs.length := List.length_pos_iff.mpr h0
  constructor
  · rw [h]
    refine wc_run (by rfl) ?_
    simp [Fof, Fn.start]
    refine T b m xs.length _ _ hb hm (by omega) (by omega) fun r b' hb' r0 r1 => ?_
    obtain ⟨d, hd, e⟩ := at_ok (xs := xs) r0 r1
    simp [e, owPos, lentAll]
    exact hQ d b' hb' hd
  · rw [h]
    refine wc_run (by rfl) ?_
    simp [Fof, Fn.start]
    refine T b m xs.length _ _ hb hm (by omega) (by omega) fun r b' hb' r0 r1 => ?_
    obtain ⟨d, hd, e⟩ := at_ok (xs := xs) r0 r1
    simp [e, owPos, lentAll]
    exact hQ d b' hb' hd
/-- one letter of a text -/
theorem of_str (Φ Φ' : Nat → List Val → CR) (i t : Nat) (h : ∀ args, Φ i args = (Fof t).run Φ' args) (T : TakeOk Φ' t) (b : List PyData) (m : Nat) (x : Str) (Q : Val → List MO → Prop) (E : Exn → List MO → Prop) (hb : GB m b) (hm : m < 2 ^ 100) (h0 : 0 < x.length) (h1 : x.length ≤ most)
    (hQ : ∀ (c : Nat) (b' : List PyData), GB (m + 1) b' → c ∈ x.cps.toList → Q (.sh (.str ⟨#[c]⟩)) [.lst b']) : WC (Φ i [.ow (.lst b), .sh (.str x)]) Q E := by
  have hz : most < 1073741824 := by decide
  rw [h]
  refine wc_run (by rfl) ?_
  simp [Fof, Fn.start, pr_lenS h1]
  refine T b m x.length _ _ hb hm (by omega) (by omega) fun r b' hb' r0 r1 => ?_
  obtain ⟨d, hd, e⟩ := at_ok (xs := x.cps.toList) (i := r) r0 (by rw [Array.length_toList]; exact r1)
  simp [idxD, h1, atD, e, owPos, lentAll]
  exact hQ d b' hb' hd
/-- the box of a name -/
def Fbox : Fn := ⟨4, 2, [], [(.asg (.name 2) (.ife (.cmp .lt (.var 1) (.prim .len [(.var 0)])) (.idx (.var 0) (.var 1)) (.bin .add (.bin .mul (.cst (.int (5))) (.var 1)) (.cst (.int (2)))))), (.asg (.name 3) (.bin .mul (.bin .mod (.prim .abs [(.var 2)]) (.bin .pow (.bin .pow (.cst (.int (10))) (.cst (.int (60)))) (.cst (.int (5))))) (.prim .int [(.cmp .ge (.prim .abs [(.var 2)]) (.bin .pow (.cst (.int (10))) (.cst (.int (18)))))]))), (.ret (.lst [(.var 3), (.bin .mod (.bin .mul (.bin .add (.bin .add (.bin .mod (.var 2) (.cst (.int (2305843009213693951)))) (.bin .mul (.bin .mul (.cst (.int (104729))) (.var 1)) (.var 1))) (.cst (.int (37)))) (.cst (.int (48271)))) (.cst (.int (2305843009213693921)))), (.cst (.int (0)))]))]⟩
def BoxOk (Φ : Nat → List Val → CR) (i : Nat) : Prop := ∀ (ns : List Int) (k : Int) (Q : Val → List MO → Prop) (E : Exn → List MO → Prop), 0 ≤ k → k < 1000000 → (∀ b, GB 0 b → Q (.ow (.lst b)) []) → WC (Φ i [.scr ns, .sh (.int k)]) Q E
theorem box_ok (Φ Φ' : Nat → List Val → CR) (i : Nat) (h : ∀ args, Φ i args = Fbox.run Φ' args) : BoxOk Φ i := by
  intro ns k Q E k0 k1 hQ
  rw [h]
  refine wc_run (by rfl) ?_
  have e1 : binD .pow (.int 10) (.int 60) = some (.sh (.int 1000000000000000000000000000000000000000000000000000000000000)) := by
      rw [bin_pow (by decide)]
      rfl
  have e2 : binD .pow (.int 1000000000000000000000000000000000000000000000000000000000000) (.int 5) = some (.sh (.int 1000000000000000000000000000000000000000000000000000000000000000000000000000000000000000000000000000000000000000000000000000000000000000000000000000000000000000000000000000000000000000000000000000000000000000000000000000000000000000000000000000000000000000000000000000000000000000000000000000000000000)) := by
    rw [bin_pow ⟨by decide, by decide, by decide⟩]
    rfl
  have e3 : binD .pow (.int 10) (.int 18) = some (.sh (.int 1000000000000000000)) := by
      rw [bin_pow (by decide)]
      rfl
  have e4 : ∀ j : Int, binD .mod (.int j) (.int 1000000000000000000000000000000000000000000000000000000000000000000000000000000000000000000000000000000000000000000000000000000000000000000000000000000000000000000000000000000000000000000000000000000000000000000000000000000000000000000000000000000000000000000000000000000000000000000000000000000000000) = some (.sh (.int (j % 1000000000000000000000000000000000000000000000000000000000000000000000000000000000000000000000000000000000000000000000000000000000000000000000000000000000000000000000000000000000000000000000000000000000000000000000000000000000000000000000000000000000000000000000000000000000000000000000000000000000000))) := fun j => bin_mod (by decide +kernel)
  have e5 : ∀ (j : Int) (c : Prop) [Decidable c], binD .mul (.int j) (.int (if c then 1 else 0)) = some (.sh (.int (j * (if c then 1 else 0)))) := fun j c _ => bin_mul (.inr (by split <;> decide))
  have e6 : binD .mul (.int 5) (.int k) = some (.sh (.int (5 * k))) := bin_mul (.inl (by decide))
  have e7 : binD .mul (.int 104729) (.int k) = some (.sh (.int (104729 * k))) := bin_mul (.inl (by decide))
  have e8 : binD .mul (.int (104729 * k)) (.int k) = some (.sh (.int (104729 * k * k))) := bin_mul (.inr (by omega))
  have e9 : ∀ j : Int, binD .mul (.int j) (.int 48271) = some (.sh (.int (j * 48271))) := fun j => bin_mul (.inr (by decide))
  have main : ∀ name : Int, WR (execs Φ' [] [(.asg (.name 3) (.bin .mul (.bin .mod (.prim .abs [(.var 2)]) (.bin .pow (.bin .pow (.cst (.int (10))) (.cst (.int (60)))) (.cst (.int (5))))) (.prim .int [(.cmp .ge (.prim .abs [(.var 2)]) (.bin .pow (.cst (.int (10))) (.cst (.int (18)))))]))), (.ret (.lst [(.var 3), (.bin .mod (.bin .mul (.bin .add (.bin .add (.bin .mod (.var 2) (.cst (.int (2305843009213693951)))) (.bin .mul (.bin .mul (.cst (.int (104729))) (.var 1)) (.var 1))) (.cst (.int (37)))) (.cst (.int (48271)))) (.cst (.int (2305843009213693921)))), (.cst (.int (0)))]))]
      [some (.scr ns), some (.sh (.int k)), some (.sh (.int name)), none]) (fun fl env => match fl with
    | .ret v => match lentAll env (owPos 0 [.scr ns, .sh (.int k)]) with
      | some ms => Q v ms
      | none => False
    | .next => match lentAll env (owPos 0 [.scr ns, .sh (.int k)]) with
      | some ms => Q (.sh .none) ms
      | none => False
    | _ => False) (fun x env => match lentAll env (owPos 0 [.scr ns, .sh (.int k)]) with
      | some ms => E x ms
      | none => False) := fun name => by
    simp [e1, e2, e3, e4, e5, e7, e8, e9, bin_mod, most, owPos, lentAll]
    refine hQ _ ⟨_, _, 0, rfl, ?_, ?_, ?_, by decide, by decide⟩
    · split <;> split <;> simp <;> exact Int.emod_nonneg _ (by decide +kernel)
    · exact Int.emod_nonneg _ (by decide)
    · exact Int.lt_trans (Int.emod_lt_of_pos _ (by decide)) (by decide)
  by_cases hk : k < ns.length
  · obtain ⟨d, hd, e⟩ := at_ok (xs := ns.map PyData.int) (i := k) k0 (by simpa using hk)
    obtain ⟨name, _, rfl⟩ := List.mem_map.mp hd
    simp [Fbox, Fn.start, hk, e]
    have q := main name
    simp at q
    exact q
  · simp [Fbox, Fn.start, hk, e6]
    have q := main (5 * k + 2)
    simp at q
    exact q
end Pv.X

/-! PxC: drawn cells. -/
set_option linter.all false
set_option maxRecDepth 100000
set_option maxHeartbeats 2000000
namespace Pv.X
open PySem

/-- a name of a cell -/
def IsCell (x : Str) : Prop := 0 < x.length ∧ x.length ≤ 8 ∧ ∀ c ∈ x.cps.toList, 97 ≤ c ∧ c ≤ 122
theorem letters_list : ("abcdefghijklmnopqrstuvwxyz" : Str).cps.toList = (List.range 26).map (97 + ·) := by decide +kernel
theorem letters_len : ("abcdefghijklmnopqrstuvwxyz" : Str).length = 26 := by decide +kernel
theorem txt_join {Z : Str} (hZ : Z = ⟨#[]⟩) (ys : List Str) : PySem.Txt.join Z ys = ⟨(ys.flatMap fun y => y.cps.toList).toArray⟩ := by
  rw [hZ]
  show Builtin.Str.glued _ ys = _
  rw [StrLaws.glued_eq_join]
  induction ys with
  | nil => rfl
  | cons y r ih =>
    cases r with
    | nil => show y = _; simp
    | cons z r =>
      show (y ++ (⟨#[]⟩ : Str)) ++ Str.join ⟨#[]⟩ (z :: r) = _
      rw [ih]
      show (⟨(y.cps ++ #[]) ++ _⟩ : Str) = _
      simp
theorem strsD_map {l : List Str} : strsD (l.map .str) = some l := by
  induction l with
  | nil => rfl
  | cons a l ih => rw [List.map_cons, strsD, ih]; rfl
theorem meth_join {sep : Str} {l : List Str} (h : (l.map Str.length).sum + l.length * sep.length ≤ 16777216) : methD .join sep [.list (l.map .str)] = some (.sh (.str (PySem.Txt.join sep l))) := by
  show (match strsD (l.map .str) with
    | some ys => if (ys.map Str.length).sum + ys.length * sep.length ≤ 16777216 then some (Val.sh (.str (PySem.Txt.join sep ys))) else none
    | none => none) = _
  rw [strsD_map]
  exact if_pos h
theorem cut_take {α : Type} {xs : List α} {k : Nat} (h : k ≤ xs.length) : cutL xs none (some (k : Int)) = xs.take k := by
  unfold cutL
  rw [HT.sIx_nat, HT.sIx_none, Nat.min_eq_left h]
  simp
theorem cut_drop {α : Type} {xs : List α} {k : Nat} (h : k ≤ xs.length) : cutL xs (some (k : Int)) none = xs.drop k := by
  unfold cutL
  rw [HT.sIx_nat, HT.sIx_none, Nat.min_eq_left h]
  exact List.take_of_length_le (by simp)
theorem idx_letters {A : Str} (hA : A.cps.toList = (List.range 26).map (97 + ·)) {i : Int} (h0 : 0 ≤ i) (h1 : i < 26) : idxD (.str A) (.int i) = some (.str ⟨#[97 + i.toNat]⟩) := by
  have hl : A.length ≤ most := by
    have lA : A.length = 26 := by
      have q := congrArg List.length hA
      rw [Array.length_toList] at q
      exact q.trans (by simp)
    unfold most
    omega
  unfold idxD
  simp only
  rw [if_pos hl]
  unfold atD
  rw [hA, at_get h0 (by simpa using h1)]
  have : i.toNat < 26 := by omega
  simp [this]
theorem ones_sum : ∀ (w : List Nat), ((w.map fun c => (⟨#[c]⟩ : Str)).map Str.length).sum = w.length
  | [] => rfl
  | a :: r => by
    rw [List.map_cons, List.map_cons, List.sum_cons, ones_sum r, List.length_cons]
    show 1 + _ = _
    omega
theorem ones_flat : ∀ (w : List Nat), ((w.map fun c => (⟨#[c]⟩ : Str)).flatMap fun y => y.cps.toList) = w
  | [] => rfl
  | a :: r => by
    rw [List.map_cons, List.flatMap_cons, ones_flat r]
    rfl
theorem join_ones_w {Z : Str} (hZ : Z = ⟨#[]⟩) {w : List Nat} (h : w.length ≤ 16777216) : methD .join (Z) [.list (w.map fun c => .str ⟨#[c]⟩)] = some (.sh (.str ⟨w.toArray⟩)) := by
  have e1 : (w.map fun c => PyData.str ⟨#[c]⟩) = (w.map fun c => (⟨#[c]⟩ : Str)).map .str := by simp
  have e0 : Z.length = 0 := by rw [hZ]; rfl
  rw [e1, meth_join (by rw [ones_sum, e0]; omega), txt_join hZ, ones_flat]
def Fcells (A Z : Str) (t o : Nat) : Fn := ⟨8, 2, [0], [(.asg (.name 2) (.cst (.str A))), (.asg (.tup [(.name 5), (.name 6)]) (.tup [(.call t [0, 1] [(.lend 0), (.val (.cst (.int (26))))]), (.call o [0, 1] [(.lend 0), (.val (.lst [(.cst (.int (1))), (.cst (.int (3))), (.cst (.int (5))), (.cst (.int (7))), (.cst (.int (9))), (.cst (.int (11)))]))])])), (.asg (.name 3) (.meth .join (.cst (.str Z)) [(.comp [7] (.rng (.call o [0, 1] [(.lend 0), (.val (.lst [(.cst (.int (0))), (.cst (.int (0))), (.cst (.int (1))), (.cst (.int (2))), (.cst (.int (4))), (.cst (.int (7)))]))])) (.name 7) [] (.call o [0, 1] [(.lend 0), (.val (.var 2))]))])), (.asg (.name 4) (.call t [0, 1] [(.lend 0), (.val (.bin .add (.prim .len [(.var 3)]) (.cst (.int (1)))))])), (.ret (.comp [7] (.rng (.var 1)) (.name 7) [] (.bin .add (.bin .add (.slc (.var 3) none (some (.var 4))) (.idx (.var 2) (.bin .mod (.bin .add (.var 5) (.bin .mul (.var 6) (.var 7))) (.cst (.int (26)))))) (.slc (.var 3) (some (.var 4)) none))))]⟩
/-- the k-th drawn cell -/
def cellK (w : List Nat) (cut : Nat) (s l : Int) (k : Nat) : Str := ⟨(w.take cut ++ [97 + ((s + l * k) % 26).toNat] ++ w.drop cut).toArray⟩
theorem cellK_ok {w : List Nat} {cut : Nat} {s l : Int} {k : Nat} (hw : w.length ≤ 7) (hc : ∀ c ∈ w, 97 ≤ c ∧ c ≤ 122) : IsCell (cellK w cut s l k) := by
  have h1 := Int.emod_nonneg (s + l * k) (show (26 : Int) ≠ 0 by decide)
  have h2 := Int.emod_lt_of_pos (s + l * k) (show (0 : Int) < 26 by decide)
  refine ⟨?_, ?_, fun c h => ?_⟩
  · show 0 < (cellK w cut s l k).cps.size
    unfold cellK
    simp
    omega
  · show (cellK w cut s l k).cps.size ≤ 8
    unfold cellK
    simp
    omega
  · unfold cellK at h
    simp at h
    rcases h with h | h | h
    · exact hc c (List.mem_of_mem_take h)
    · omega
    · exact hc c (List.mem_of_mem_drop h)
theorem leap_inj : ∀ l ∈ [(1 : Int), 3, 5, 7, 9, 11], ∀ d : Nat, 0 < d → d < 26 → (l * d) % 26 ≠ 0 := by
  intro l hl d h0 h1
  have key : ∀ l ∈ [(1 : Int), 3, 5, 7, 9, 11], ∀ d ∈ List.range 26, 0 < d → (l * (d : Int)) % 26 ≠ 0 := by decide +kernel
  exact key l hl d (List.mem_range.mpr h1) h0
theorem cellK_inj {w : List Nat} {cut : Nat} {s l : Int} {j k : Nat} (hl : l ∈ [(1 : Int), 3, 5, 7, 9, 11]) (hj : j < k) (hk : k < 26) : cellK w cut s l j ≠ cellK w cut s l k := by
  intro e
  unfold cellK at e
  simp at e
  have h1 := Int.emod_nonneg (s + l * j) (show (26 : Int) ≠ 0 by decide)
  have h2 := Int.emod_nonneg (s + l * k) (show (26 : Int) ≠ 0 by decide)
  have q := leap_inj l hl (k - j) (by omega) (by omega)
  have e2 : (l * ((k - j : Nat) : Int)) = (s + l * k) - (s + l * j) := by
    rw [Int.ofNat_sub (by omega), Int.mul_sub]
    omega
  rw [e2] at q
  omega
def CellsPost (n : Nat) (xs : List Str) : Prop := xs.length = n ∧ xs.Nodup ∧ ∀ x ∈ xs, IsCell x
def CellsOk (Φ : Nat → List Val → CR) (i : Nat) : Prop := ∀ (b : List PyData) (m : Nat) (n : Nat) (Q : Val → List MO → Prop) (E : Exn → List MO → Prop), GB m b → m + 20 < 2 ^ 100 → n ≤ 26 → (∀ (xs : List Str) (b' : List PyData), GB (m + 16) b' → CellsPost n xs → Q (.ow (.lst (xs.map .str))) [.lst b']) → WC (Φ i [.ow (.lst b), .sh (.int n)]) Q E
theorem cells_ok (A Z : Str) (hA : A.cps.toList = (List.range 26).map (97 + ·)) (hZ : Z = ⟨#[]⟩) (Φ Φ' : Nat → List Val → CR) (i t o : Nat) (h : ∀ args, Φ i args = (Fcells A Z t o).run Φ' args) (T : TakeOk Φ' t) (O : OfOk Φ' o)
    (OS : ∀ (b : List PyData) (m : Nat) (x : Str) (Q : Val → List MO → Prop) (E : Exn → List MO → Prop), GB m b → m < 2 ^ 100 → 0 < x.length → x.length ≤ most → (∀ (c : Nat) (b' : List PyData), GB (m + 1) b' → c ∈ x.cps.toList → Q (.sh (.str ⟨#[c]⟩)) [.lst b']) → WC (Φ' o [.ow (.lst b), .sh (.str x)]) Q E) : CellsOk Φ i := by
  have lA : A.length = 26 := by
    have q := congrArg List.length hA
    rw [Array.length_toList] at q
    exact q.trans (by simp)
  intro b m n Q E hb hm hn hQ
  rw [h]
  refine wc_run (by rfl) ?_
  simp [Fcells, Fn.start]
  refine T b m 26 _ _ hb (by omega) (by decide) (by decide) fun s b1 hb1 s0 s1 => ?_
  simp [most]
  refine (O b1 (m + 1) _ _ _ hb1 (by omega) (by simp) (by simp) fun l b2 hb2 hl0 => ?_).1
  obtain ⟨l, rfl, hl⟩ : ∃ l' : Int, l = .int l' ∧ l' ∈ [(1 : Int), 3, 5, 7, 9, 11] := by
    simp at hl0
    rcases hl0 with h | h | h | h | h | h <;> exact ⟨_, h, by decide⟩
  simp [most]
  refine wr_comp ?_
  simp [most]
  refine (O b2 (m + 1 + 1) _ _ _ hb2 (by omega) (by simp) (by simp) fun z b3 hb3 hz => ?_).1
  obtain ⟨z, rfl, hz⟩ : ∃ z' : Nat, z = .int z' ∧ z' ≤ 7 := by
    simp at hz
    rcases hz with h | h | h | h | h
    · exact ⟨0, h, by decide⟩
    · exact ⟨1, h, by decide⟩
    · exact ⟨2, h, by decide⟩
    · exact ⟨4, h, by decide⟩
    · exact ⟨7, h, by decide⟩
  simp [range2_of (i := 0) (j := z) (by omega)]
  refine ⟨by omega, fun rest ys en => ∃ (b4 : List PyData) (w : List Nat) (u : Option Val), en = [some (.ow (.lst b4)), some (.sh (.int n)), some (.sh (.str (A))), none, none, some (.sh (.int s)), some (.sh (.int l)), u] ∧
    GB (m + 3 + w.length) b4 ∧ ys = w.map (fun c => .str ⟨#[c]⟩) ∧ w.length + rest.length = z ∧ ∀ c ∈ w, 97 ≤ c ∧ c ≤ 122, ⟨b3, [], none, rfl, hb3, rfl, by simp, by simp⟩, ?_, ?_⟩
  · rintro d rest ys en ⟨b4, w, u, rfl, hb4, rfl, hw, hc⟩
    simp at hw
    simp
    refine OS b4 (m + 3 + w.length) _ _ _ hb4 (by omega) (by omega) (by rw [lA]; unfold most; omega) fun c b5 hb5 hc5 => ?_
    simp
    refine ⟨w ++ [c], by simpa [Nat.add_assoc] using hb5, by simp, by simp; omega, fun c' hc' => ?_⟩
    rcases List.mem_append.mp hc' with q | q
    · exact hc c' q
    · rw [hA] at hc5
      simp at q hc5
      omega
  rintro ys en ⟨b4, w, u, rfl, hb4, rfl, hw, hc⟩
  simp at hw
  have ej := join_ones_w hZ (w := w) (by omega)
  have lw : (⟨w.toArray⟩ : Str).length = w.length := by show w.toArray.size = _; simp
  simp [ej, pr_lenS (x := ⟨w.toArray⟩) (by rw [lw]; unfold most; omega), lw]
  refine T b4 (m + 3 + w.length) _ _ _ hb4 (by omega) (by omega) (by omega) fun cut b5 hb5 c0 c1 => ?_
  simp
  refine wr_comp ?_
  simp [range2_of (i := 0) (j := n) (by omega), most]
  obtain ⟨k, rfl⟩ : ∃ k : Nat, cut = k := ⟨cut.toNat, by omega⟩
  refine ⟨by omega, fun rest ys en => ∃ (j : Nat) (u : Option Val), en = [some (.ow (.lst b5)), some (.sh (.int n)), some (.sh (.str (A))), some (.sh (.str ⟨w.toArray⟩)), some (.sh (.int k)), some (.sh (.int s)), some (.sh (.int l)), u] ∧
    rest = (List.range' j (n - j)).map (fun (q : Nat) => PyData.int (q : Int)) ∧ j ≤ n ∧ ys = (List.range j).map fun q => .str (cellK w k s l q), ⟨0, none, rfl, by rw [List.range_eq_range']; simp, by omega, rfl⟩, ?_, ?_⟩
  · rintro d rest ys en ⟨j, u, rfl, hr, hj, rfl⟩
    obtain ⟨n', hn'⟩ : ∃ n', n - j = n' + 1 := by
      cases q : n - j with
      | zero => rw [q] at hr; cases hr
      | succ n' => exact ⟨n', rfl⟩
    rw [hn', List.range'_succ, List.map_cons] at hr
    obtain ⟨rfl, rfl⟩ := List.cons.inj hr
    have lx : (⟨w.toArray⟩ : Str).length ≤ most := by rw [lw]; unfold most; omega
    have hk : k ≤ w.length := by omega
    have m0 := Int.emod_nonneg (s + l * j) (show (26 : Int) ≠ 0 by decide)
    have m1 := Int.emod_lt_of_pos (s + l * j) (show (0 : Int) < 26 by decide)
    have e1 : slcD (.str ⟨w.toArray⟩) none (some (k : Int)) = some (.sh (.str ⟨(w.take k).toArray⟩)) := by
      show (if _ ≤ most then _ else _) = _
      rw [if_pos lx, cut_take (by simpa using hk)]
    have e2 : slcD (.str ⟨w.toArray⟩) (some (k : Int)) none = some (.sh (.str ⟨(w.drop k).toArray⟩)) := by
      show (if _ ≤ most then _ else _) = _
      rw [if_pos lx, cut_drop (by simpa using hk)]
    have e3 : binD .mul (.int l) (.int j) = some (.sh (.int (l * j))) := bin_mul (.inr (by omega))
    have l1 : (⟨(w.take k).toArray⟩ : Str).length ≤ 7 := by show (w.take k).toArray.size ≤ 7; simp; omega
    have l2 : (⟨(w.drop k).toArray⟩ : Str).length ≤ 7 := by show (w.drop k).toArray.size ≤ 7; simp; omega
    have l3 : ∀ c, (⟨#[c]⟩ : Str).length = 1 := fun c => rfl
    have e4 : ∀ c, binD .add (.str ⟨(w.take k).toArray⟩) (.str ⟨#[c]⟩) = some (.sh (.str (⟨(w.take k).toArray⟩ ++ ⟨#[c]⟩))) := fun c => bin_addS (by rw [l3]; unfold most; omega)
    have e5 : ∀ c, binD .add (.str (⟨(w.take k).toArray⟩ ++ ⟨#[c]⟩)) (.str ⟨(w.drop k).toArray⟩) = some (.sh (.str (⟨(w.take k).toArray⟩ ++ ⟨#[c]⟩ ++ ⟨(w.drop k).toArray⟩))) := fun c => bin_addS (by
      rw [strLen_append, l3]; unfold most; omega)
    simp [e1, e3, bin_mod, idx_letters hA m0 m1, e4, e2, e5]
    refine ⟨j + 1, by rw [show n - (j + 1) = n' by omega], by omega, ?_⟩
    have e6 : (⟨(w.take k).toArray⟩ ++ ⟨#[97 + ((s + l * j) % 26).toNat]⟩ ++ ⟨(w.drop k).toArray⟩ : Str) = cellK w k s l j := by
      show (⟨((w.take k).toArray ++ #[97 + ((s + l * j) % 26).toNat]) ++ (w.drop k).toArray⟩ : Str) = _
      unfold cellK
      simp
    rw [List.range_succ, List.map_append, e6]
    rfl
  · rintro ys en ⟨j, u, rfl, hr, hj, rfl⟩
    have hjn : n - j = 0 := by
      have q := congrArg List.length hr
      simpa using q.symm
    have hjn2 : j = n := by omega
    subst hjn2
    simp [owPos, lentAll]
    have e1 : ((List.range j).map fun q => PyData.str (cellK w k s l q)) = ((List.range j).map fun q => cellK w k s l q).map .str := by simp
    rw [e1]
    refine hQ _ _ (hb5.mono (by omega)) ⟨by simp, ?_, fun x hx => ?_⟩
    · refine List.pairwise_map.mpr ?_
      refine List.Pairwise.imp_of_mem (R := fun a b => a < b) (fun {a b} ha hb h => ?_) List.pairwise_lt_range
      exact cellK_inj hl h (by have := List.mem_range.mp hb; omega)
    · obtain ⟨q, _, rfl⟩ := List.mem_map.mp hx
      exact cellK_ok (by omega) hc
end Pv.X

/-! PxD: drawn values; sorted; membership. -/
set_option linter.all false
set_option maxRecDepth 100000
set_option maxHeartbeats 2000000
namespace Pv.X
open PySem

@[simp] theorem atI_cons0 {α : Type} {x : α} {r : List α} : L2.atI (x :: r) 0 = some x := by
  rw [at_get (by decide) (by simp)]
  rfl
@[simp] theorem atI_cons1 {α : Type} {x y : α} {r : List α} : L2.atI (x :: y :: r) 1 = some y := by
  rw [at_get (by decide) (by simp; omega)]
  rfl
theorem inD_of {x : PyData} {ys : List PyData} (h : ∀ y ∈ ys, eqOk y x = true) : inD x ys = some (ys.any fun y => PyData.eqv y x) := by
  unfold inD
  rw [if_pos (List.all_eq_true.mpr h)]
@[simp] theorem inD_int {x : Int} {fs : List Int} : inD (.int x) (fs.map .int) = some (decide (x ∈ fs)) := by
  rw [inD_of (fun y hy => by
    obtain ⟨z, _, rfl⟩ := List.mem_map.mp hy
    simp [eqOk, aln])]
  congr 1
  rw [List.any_map, Bool.eq_iff_iff]
  simp [PyData.eqv]
@[simp] theorem inD_str {x : Str} {fs : List Str} : inD (.str x) (fs.map .str) = some (decide (x ∈ fs)) := by
  rw [inD_of (fun y hy => by
    obtain ⟨z, _, rfl⟩ := List.mem_map.mp hy
    simp [eqOk, aln])]
  congr 1
  rw [List.any_map, Bool.eq_iff_iff]
  simp [PyData.eqv]
theorem sort_ints {fs : List Int} (h : fs.length ≤ most) : ∃ ns : List Int, primD .sorted [.list (fs.map .int)] = some (.ow (.lst (ns.map .int))) ∧ ns.Perm fs ∧ ns.Pairwise (· ≤ ·) := by
  have ok : sortOk (fs.map .int) = true := by
    unfold sortOk
    simp [PySem.W.alike, h]
  refine ⟨fs.mergeSort (fun a b => decide (a ≤ b)), ?_, List.mergeSort_perm _ _, ?_⟩
  · show (if sortOk (fs.map .int) = true then some (Val.ow (.lst (sortD (fs.map .int)))) else none) = _
    rw [if_pos ok]
    unfold sortD
    rw [List.map_mergeSort (f := PyData.int) (r := fun a b => decide (a ≤ b)) (s := fun a b => !PySem.W.dataLt b a)]
    intro a _ b _
    rw [PySem.W.dataLt_int, Bool.eq_iff_iff]
    simp
  · have q := List.pairwise_mergeSort (le := fun (a b : Int) => decide (a ≤ b)) (fun a b c h1 h2 => by simp at *; omega) (fun a b => by simp; omega) fs
    simpa using q
theorem asc_of {ns : List Int} (h : ns.Pairwise (· ≤ ·)) (nd : ns.Nodup) : ns.Pairwise (· < ·) := by
  refine (h.and nd).imp fun ⟨h1, h2⟩ => ?_
  omega
def Fvalues (t : Nat) : Fn := ⟨8, 2, [0], [(.asg (.name 2) (.lst [(.cst (.int (0))), (.cst (.int (1))), (.cst (.int (2))), (.cst (.int (3))), (.cst (.int (7))), (.bin .pow (.cst (.int (10))) (.cst (.int (9)))), (.bin .add (.cst (.int (1))) (.call t [0, 1] [(.lend 0), (.val (.bin .pow (.cst (.int (10))) (.cst (.int (9)))))]))])), (.asg (.name 3) (.lst [])), (.loop (.rng (.var 1)) (.name 4) [(.asg (.name 5) (.idx (.var 2) (.call t [0, 1] [(.lend 0), (.val (.cst (.int (7))))]))), (.asg (.name 6) (.idx (.comp [7] (.it (.tup [(.cst (.int (11))), (.cst (.int (12))), (.cst (.int (13))), (.cst (.int (14))), (.cst (.int (15)))])) (.name 7) [(.cmp .nin (.var 7) (.var 3))] (.var 7)) (.cst (.int (0))))), (.append 3 (.ife (.cmp .nin (.var 5) (.var 3)) (.var 5) (.var 6)))]), (.ret (.prim .sorted [(.var 3)]))]⟩
def ValsPost (n : Nat) (ns : List Int) : Prop := ns.length = n ∧ ns.Pairwise (· < ·) ∧ ∀ v ∈ ns, 0 ≤ v ∧ v ≤ 1000000000
def ValuesOk (Φ : Nat → List Val → CR) (i : Nat) : Prop := ∀ (b : List PyData) (m : Nat) (n : Nat) (Q : Val → List MO → Prop) (E : Exn → List MO → Prop), GB m b → m + 20 < 2 ^ 100 → n ≤ 5 → (∀ (ns : List Int) (b' : List PyData), GB (m + 6) b' → ValsPost n ns → Q (.ow (.lst (ns.map .int))) [.lst b']) → WC (Φ i [.ow (.lst b), .sh (.int n)]) Q E
theorem nodup_le {α : Type} [BEq α] [LawfulBEq α] : ∀ {l m : List α}, l.Nodup → (∀ x ∈ l, x ∈ m) → l.length ≤ m.length
  | [], m, _, _ => Nat.zero_le _
  | a :: l, m, h, s => by
    obtain ⟨h1, h2⟩ := List.nodup_cons.mp h
    have ha := s a List.mem_cons_self
    have q := nodup_le (m := m.erase a) h2 fun x hx => (List.mem_erase_of_ne (fun e => h1 (by rw [← e]; exact hx))).mpr (s x (List.mem_cons_of_mem _ hx))
    have := List.length_erase_of_mem ha
    have := List.length_pos_of_mem ha
    rw [List.length_cons]
    omega
theorem spare_ok {fs : List Int} (h : fs.length ≤ 4) : ∃ v r, ([(11 : Int), 12, 13, 14, 15].filter fun v => decide (v ∉ fs)) = v :: r ∧ v ∉ fs ∧ 0 ≤ v ∧ v ≤ 1000000000 := by
  cases e : ([(11 : Int), 12, 13, 14, 15].filter fun v => decide (v ∉ fs)) with
  | nil =>
    have all : ∀ v ∈ [(11 : Int), 12, 13, 14, 15], v ∈ fs := fun v hv => by
      by_cases q : v ∈ fs
      · exact q
      · have : v ∈ ([(11 : Int), 12, 13, 14, 15].filter fun v => decide (v ∉ fs)) := List.mem_filter.mpr ⟨hv, by simpa using q⟩
        rw [e] at this
        cases this
    have := nodup_le (l := [(11 : Int), 12, 13, 14, 15]) (by decide) all
    simp at this
    omega
  | cons v r =>
    have hv : v ∈ ([(11 : Int), 12, 13, 14, 15].filter fun v => decide (v ∉ fs)) := by rw [e]; simp
    obtain ⟨h1, h2⟩ := List.mem_filter.mp hv
    refine ⟨v, r, rfl, by simpa using h2, ?_⟩
    simp at h1
    omega
theorem values_ok (Φ Φ' : Nat → List Val → CR) (i t : Nat) (h : ∀ args, Φ i args = (Fvalues t).run Φ' args) (T : TakeOk Φ' t) : ValuesOk Φ i := by
  intro b m n Q E hb hm hn hQ
  rw [h]
  refine wc_run (by rfl) ?_
  have e1 : binD .pow (.int 10) (.int 9) = some (.sh (.int 1000000000)) := by
    rw [bin_pow (by decide)]
    rfl
  simp [Fvalues, Fn.start, e1]
  refine T b m 1000000000 _ _ hb (by omega) (by decide) (by decide) fun r b1 hb1 r0 r1 => ?_
  simp [most]
  refine wr_loop ?_
  simp [range2_of (i := 0) (j := n) (by omega)]
  refine ⟨fun rest en => ∃ (b2 : List PyData) (fs : List Int) (u4 u5 u6 : Option Val), en = [some (.ow (.lst b2)), some (.sh (.int n)), some (.ow (.lst [.int 0, .int 1, .int 2, .int 3, .int 7, .int 1000000000, .int (1 + r)])), some (.ow (.lst (fs.map .int))), u4, u5, u6, none] ∧
    GB (m + 1 + fs.length) b2 ∧ fs.length + rest.length = n ∧ fs.Nodup ∧ ∀ v ∈ fs, 0 ≤ v ∧ v ≤ 1000000000, ⟨b1, [], none, none, none, rfl, hb1, by simp, List.nodup_nil, by simp⟩, ?_, ?_⟩
  · rintro d rest en ⟨b2, fs, u4, u5, u6, rfl, hb2, hl, nd, hr⟩
    simp at hl
    simp
    refine T b2 (m + 1 + fs.length) 7 _ _ hb2 (by omega) (by decide) (by decide) fun q b3 hb3 q0 q1 => ?_
    obtain ⟨d2, hd2, e2⟩ := at_ok (xs := [PyData.int 0, .int 1, .int 2, .int 3, .int 7, .int 1000000000, .int (1 + r)]) q0 (by simpa using q1)
    obtain ⟨v, rfl, v0, v1⟩ : ∃ v : Int, d2 = .int v ∧ 0 ≤ v ∧ v ≤ 1000000000 := by
      simp at hd2
      rcases hd2 with h | h | h | h | h | h | h <;> exact ⟨_, h, by omega, by omega⟩
    simp [e2]
    refine wr_comp ?_
    simp [most]
    refine ⟨fun rest2 ys en => ∃ (dn tl : List Int) (u7 : Option Val), en = [some (.ow (.lst b3)), some (.sh (.int n)), some (.ow (.lst [.int 0, .int 1, .int 2, .int 3, .int 7, .int 1000000000, .int (1 + r)])), some (.ow (.lst (fs.map .int))), some (.sh d), some (.sh (.int v)), u6, u7] ∧
      rest2 = tl.map .int ∧ dn ++ tl = [11, 12, 13, 14, 15] ∧ ys = (dn.filter fun v => decide (v ∉ fs)).map .int, ⟨[], [11, 12, 13, 14, 15], none, rfl, rfl, rfl, rfl⟩, ?_, ?_⟩
    · rintro d3 rest3 ys en ⟨dn, tl, u7, rfl, hr3, hd, rfl⟩
      cases tl with
      | nil => cases hr3
      | cons x tl =>
        obtain ⟨rfl, rfl⟩ := List.cons.inj hr3
        simp
        by_cases hx : x ∈ fs
        · simp [hx]
          exact ⟨dn ++ [x], tl, rfl, by simpa using hd, by simp [List.filter_append, hx]⟩
        · simp [hx]
          exact ⟨dn ++ [x], tl, rfl, by simpa using hd, by simp [List.filter_append, hx]⟩
    · rintro ys en ⟨dn, tl, u7, rfl, hr3, hd, rfl⟩
      have etl : tl = [] := by simpa using hr3.symm
      subst etl
      rw [List.append_nil] at hd
      subst hd
      obtain ⟨sp, r', es, s0, s1, s2⟩ := spare_ok (fs := fs) (by omega)
      simp only [es, List.map_cons]
      have fin : ∀ w : Int, w ∉ fs → 0 ≤ w → w ≤ 1000000000 → (∃ b2 fs_1, (∃ u4 u5 u6, [some (Val.ow (.lst b3)), some (.sh (.int n)), some (.ow (.lst [PyData.int 0, .int 1, .int 2, .int 3, .int 7, .int 1000000000, .int (1 + r)])), some (.ow (.lst (fs.map .int ++ [.int w]))), some (.sh d), some (.sh (.int v)), some (.sh (.int sp)), none] = [some (Val.ow (.lst b2)), some (.sh (.int n)), some (.ow (.lst [PyData.int 0, .int 1, .int 2, .int 3, .int 7, .int 1000000000, .int (1 + r)])), some (.ow (.lst (List.map PyData.int fs_1))), u4, u5, u6, none]) ∧
          GB (m + 1 + fs_1.length) b2 ∧ fs_1.length + rest.length = n ∧ fs_1.Nodup ∧ ∀ v ∈ fs_1, 0 ≤ v ∧ v ≤ 1000000000) := fun w h1 h2 h3 => by
        refine ⟨b3, fs ++ [w], ⟨_, _, _, by rw [List.map_append]; rfl⟩, by simpa [Nat.add_assoc] using hb3, by simp; omega, ?_, fun v hv => ?_⟩
        · rw [List.nodup_append]
          exact ⟨nd, by simp, fun a ha b hb e => by simp at hb; subst hb; exact h1 (e ▸ ha)⟩
        · rcases List.mem_append.mp hv with q | q
          · exact hr v q
          · simp at q
            omega
      have few : fs.length < 16777216 := by omega
      by_cases hv : v ∈ fs
      · simp [hv, most, few]
        simpa using fin sp s0 s1 s2
      · simp [hv, most, few]
        simpa using fin v hv v0 v1
  · rintro en ⟨b2, fs, u4, u5, u6, rfl, hb2, hl, nd, hr⟩
    simp at hl
    obtain ⟨ns, e3, pm, so⟩ := sort_ints (fs := fs) (by unfold most; omega)
    simp [e3, owPos, lentAll]
    refine hQ ns b2 (hb2.mono (by omega)) ⟨by rw [pm.length_eq, hl], asc_of so (pm.nodup_iff.mpr nd), fun v hv => hr v (pm.mem_iff.mp hv)⟩
end Pv.X

/-! PxE: drawn trees. -/
set_option linter.all false
set_option maxRecDepth 100000
set_option maxHeartbeats 2000000
namespace Pv.X
open PySem

mutual
inductive Tr where
  | leaf
  | node (x : Str) (bs : Bs)
inductive Bs where
  | nil
  | cons (v : Int) (t : Tr) (r : Bs)
end
mutual
def Tr.data : Tr → PyData
  | .leaf => .tuple []
  | .node x bs => .tuple [.str x, .tuple bs.datas]
def Bs.datas : Bs → List PyData
  | .nil => []
  | .cons v t r => .tuple [.int v, t.data] :: r.datas
end
mutual
def Tr.leaves : Tr → Nat
  | .leaf => 1
  | .node _ bs => bs.leaves
def Bs.leaves : Bs → Nat
  | .nil => 0
  | .cons _ t r => t.leaves + r.leaves
end
mutual
def Tr.height : Tr → Nat
  | .leaf => 0
  | .node _ bs => bs.height + 1
def Bs.height : Bs → Nat
  | .nil => 0
  | .cons _ t r => max t.height r.height
end
mutual
/-- cells out of A, no cell twice on a path, values upward -/
def Tr.Good : Tr → (Str → Prop) → Prop
  | .leaf, _ => True
  | .node x bs, A => A x ∧ bs ≠ .nil ∧ bs.Good (fun y => A y ∧ y ≠ x) (-1)
def Bs.Good : Bs → (Str → Prop) → Int → Prop
  | .nil, _, _ => True
  | .cons v t r, A, p => p < v ∧ v ≤ 1000000000 ∧ t.Good A ∧ r.Good A v
end
mutual
theorem Tr.Good.mono : ∀ (t : Tr) {A B : Str → Prop}, (∀ x, A x → B x) → t.Good A → t.Good B
  | .leaf, A, B, h, g => g
  | .node x bs, A, B, h, g => ⟨h x g.1, g.2.1, Bs.Good.mono bs (fun y hy => ⟨h y hy.1, hy.2⟩) g.2.2⟩
theorem Bs.Good.mono : ∀ (bs : Bs) {A B : Str → Prop} {p : Int}, (∀ x, A x → B x) → bs.Good A p → bs.Good B p
  | .nil, A, B, p, h, g => g
  | .cons v t r, A, B, p, h, g => ⟨g.1, g.2.1, Tr.Good.mono t h g.2.2.1, Bs.Good.mono r h g.2.2.2⟩
end
def Bs.ofL : List (Int × Tr) → Bs
  | [] => .nil
  | p :: r => .cons p.1 p.2 (Bs.ofL r)
theorem ofL_datas : ∀ ps : List (Int × Tr), (Bs.ofL ps).datas = ps.map fun p => .tuple [.int p.1, p.2.data]
  | [] => rfl
  | p :: r => by rw [Bs.ofL, Bs.datas, ofL_datas r]; rfl
theorem ofL_leaves : ∀ ps : List (Int × Tr), (Bs.ofL ps).leaves = (ps.map fun p => p.2.leaves).sum
  | [] => rfl
  | p :: r => by rw [Bs.ofL, Bs.leaves, ofL_leaves r]; rfl
theorem ofL_height {c : Nat} : ∀ ps : List (Int × Tr), (∀ p ∈ ps, p.2.height ≤ c) → (Bs.ofL ps).height ≤ c
  | [], _ => Nat.zero_le _
  | p :: r, h => by
    rw [Bs.ofL, Bs.height]
    exact Nat.max_le.mpr ⟨h p List.mem_cons_self, ofL_height r fun q hq => h q (List.mem_cons_of_mem _ hq)⟩
theorem ofL_good {A : Str → Prop} : ∀ (ps : List (Int × Tr)) (p0 : Int), (ps.map (·.1)).Pairwise (· < ·) → (∀ p ∈ ps, p0 < p.1 ∧ p.1 ≤ 1000000000 ∧ p.2.Good A) → (Bs.ofL ps).Good A p0
  | [], _, _, _ => trivial
  | p :: r, p0, h, g => by
    rw [List.map_cons, List.pairwise_cons] at h
    obtain ⟨g1, g2, g3⟩ := g p List.mem_cons_self
    refine ⟨g1, g2, g3, ofL_good r p.1 h.2 fun q hq => ?_⟩
    obtain ⟨_, g5, g6⟩ := g q (List.mem_cons_of_mem _ hq)
    exact ⟨h.1 q.1 (List.mem_map_of_mem hq), g5, g6⟩
theorem sum_le_mul {k : Nat} : ∀ (l : List Nat), (∀ x ∈ l, x ≤ k) → l.sum ≤ l.length * k
  | [], _ => Nat.zero_le _
  | x :: r, h => by
    have h1 := h x List.mem_cons_self
    have h2 := sum_le_mul r fun y hy => h y (List.mem_cons_of_mem _ hy)
    rw [List.sum_cons, List.length_cons, Nat.add_mul]
    omega
theorem eraseIdx_map' {α β : Type} (f : α → β) : ∀ (l : List α) (j : Nat), (l.map f).eraseIdx j = (l.eraseIdx j).map f
  | [], j => by simp
  | a :: l, 0 => rfl
  | a :: l, j + 1 => by
    rw [List.map_cons, List.eraseIdx_cons_succ, List.eraseIdx_cons_succ, List.map_cons, eraseIdx_map' f l j]
theorem erase_ne {α : Type} {y : α} : ∀ {l : List α} {j : Nat} (hj : j < l.length), l.Nodup → y ∈ l.eraseIdx j → y ∈ l ∧ y ≠ l[j]
  | [], j, hj, _, _ => absurd hj (by simp)
  | a :: l, 0, hj, nd, h => by
    obtain ⟨h1, h2⟩ := List.nodup_cons.mp nd
    rw [List.eraseIdx_cons_zero] at h
    exact ⟨List.mem_cons_of_mem _ h, fun e => h1 (by rw [List.getElem_cons_zero] at e; rw [← e]; exact h)⟩
  | a :: l, j + 1, hj, nd, h => by
    obtain ⟨h1, h2⟩ := List.nodup_cons.mp nd
    rw [List.eraseIdx_cons_succ, List.mem_cons] at h
    rw [List.getElem_cons_succ]
    have hj' : j < l.length := by simpa using hj
    rcases h with h | h
    · subst h
      exact ⟨List.mem_cons_self, fun e => h1 (by rw [e]; exact List.getElem_mem hj')⟩
    · obtain ⟨h3, h4⟩ := erase_ne hj' h2 h
      exact ⟨List.mem_cons_of_mem _ h3, h4⟩
def Ftree (t v r : Nat) : Fn := ⟨8, 3, [0], [(.ifs (.or [(.cmp .eq (.var 1) (.lst [])), (.cmp .lt (.var 2) (.cst (.int (1)))), (.cmp .eq (.call t [0, 1] [(.lend 0), (.val (.cst (.int (5))))]) (.cst (.int (0))))]) [(.ret (.tup []))] []), (.asg (.name 3) (.prim .list [(.var 1)])), (.asg (.name 4) (.popAt 3 (.call t [0, 1] [(.lend 0), (.val (.prim .len [(.var 3)]))]))), (.asg (.name 5) (.bin .add (.cst (.int (1))) (.call t [0, 1] [(.lend 0), (.val (.prim .min2 [(.cst (.int (3))), (.var 2)]))]))), (.asg (.name 6) (.lst [])), (.loop (.it (.call v [0, 1] [(.lend 0), (.val (.var 5))])) (.name 7) [(.append 6 (.tup [(.var 7), (.call r [0, 1, 2] [(.lend 0), (.val (.var 3)), (.val (.bin .fdiv (.var 2) (.var 5)))])]))]), (.ret (.tup [(.var 4), (.prim .tuple [(.var 6)])]))]⟩
def treeCost (c : Nat) : Nat := 16 * 4 ^ c
def TreeOk (Φ : Nat → List Val → CR) (i c : Nat) : Prop := ∀ (b : List PyData) (m : Nat) (xs : List Str) (n : Nat) (Q : Val → List MO → Prop) (E : Exn → List MO → Prop), GB m b → m + treeCost c < 2 ^ 100 → xs.length ≤ c → xs.length ≤ 100 → xs.Nodup → n < 1073741824 →
  (∀ (t : Tr) (b' : List PyData), GB (m + treeCost c) b' → t.Good (· ∈ xs) → t.leaves ≤ max 1 n → 1 ≤ t.leaves → t.height ≤ xs.length → Q (.sh t.data) [.lst b']) → WC (Φ i [.ow (.lst b), .sh (.list (xs.map .str)), .sh (.int n)]) Q E
theorem tree_step (Φ Φ' : Nat → List Val → CR) (i t v r c : Nat) (h : ∀ args, Φ i args = (Ftree t v r).run Φ' args) (T : TakeOk Φ' t) (V : ValuesOk Φ' v) (R : ∀ c', c = c' + 1 → TreeOk Φ' r c') : TreeOk Φ i c := by
  intro b m xs n Q E hb hm hx hx2 nd hn hQ
  rw [h]
  refine wc_run (by rfl) ?_
  have c16 : 16 ≤ treeCost c := by
    unfold treeCost
    have := Nat.pow_pos (n := c) (show 0 < 4 by decide)
    omega
  have leaf : ∀ b', GB (m + treeCost c) b' → Q (.sh (.tuple [])) [.lst b'] := fun b' hb' => hQ .leaf b' hb' trivial (by unfold Tr.leaves; omega) (by unfold Tr.leaves; omega) (by unfold Tr.height; omega)
  cases hxs : xs with
  | nil =>
    simp [Ftree, Fn.start, most, owPos, lentAll]
    exact leaf b (hb.mono (by omega))
  | cons x0 xr =>
  rw [← hxs]
  have hl0 : 0 < xs.length := by rw [hxs]; simp
  have hne : xs.isEmpty = false := by rw [hxs]; rfl
  obtain ⟨c', rfl⟩ : ∃ c', c = c' + 1 := ⟨c - 1, by omega⟩
  have hc : treeCost (c' + 1) = 4 * treeCost c' := by unfold treeCost; rw [Nat.pow_succ]; omega
  have c16' : 16 ≤ treeCost c' := by
    unfold treeCost
    have := Nat.pow_pos (n := c') (show 0 < 4 by decide)
    omega
  by_cases hn1 : n < 1
  · have hn0 : n = 0 := by omega
    subst hn0
    simp [Ftree, Fn.start, most, owPos, lentAll, hne]
    exact leaf b (hb.mono (by omega))
  have hn2 : ¬ (n : Int) < 1 := by omega
  have hn3 : (n = 0) = False := by simp; omega
  simp [Ftree, Fn.start, most, hne, hn2, hn3]
  refine T b m 5 _ _ hb (by omega) (by decide) (by decide) fun z b1 hb1 z0 z1 => ?_
  by_cases hz : z = 0
  · subst hz
    simp [most, owPos, lentAll]
    exact leaf b1 (hb1.mono (by omega))
  simp [hz]
  refine T b1 (m + 1) xs.length _ _ hb1 (by omega) (by omega) (by omega) fun j b2 hb2 j0 j1 => ?_
  obtain ⟨j, rfl⟩ : ∃ k : Nat, j = k := ⟨j.toNat, by omega⟩
  have hj : j < xs.length := by omega
  have hlm : xs.length ≤ 16777216 := by omega
  simp [ixN_ok j0 (show ((j : Nat) : Int) < (xs.length : Nat) by omega), most, hj, hlm]
  obtain ⟨mn, hmn, mn1, mn3⟩ : ∃ k : Nat, (if (n : Int) < 3 then (n : Int) else 3) = k ∧ 1 ≤ k ∧ k ≤ 3 ∧ k ≤ n := by
    by_cases q : (n : Int) < 3
    · exact ⟨n, by rw [if_pos q], by omega, by omega, by omega⟩
    · exact ⟨3, by rw [if_neg q]; rfl, by omega, by omega, by omega⟩
  simp [hmn]
  refine T b2 (m + 1 + 1) mn _ _ hb2 (by omega) (by omega) (by omega) fun k b3 hb3 k0 k1 => ?_
  obtain ⟨q, hq⟩ : ∃ q : Nat, 1 + k = q := ⟨(1 + k).toNat, by omega⟩
  simp [hq, most]
  refine wr_loop ?_
  simp
  refine V b3 (m + 1 + 1 + 1) q _ _ hb3 (by omega) (by omega) fun ns b4 hb4 hns => ?_
  obtain ⟨n1, n2, n3⟩ := hns
  have el : (xs.map PyData.str).eraseIdx j = (xs.eraseIdx j).map .str := eraseIdx_map' _ _ _
  have len' : (xs.eraseIdx j).length = xs.length - 1 := List.length_eraseIdx_of_lt hj
  have nd' : (xs.eraseIdx j).Nodup := nd.sublist (List.eraseIdx_sublist ..)
  have sub' : ∀ y, y ∈ xs.eraseIdx j → y ∈ xs ∧ y ≠ xs[j] := fun y hy => erase_ne hj nd hy
  simp
  refine ⟨fun rest en => ∃ (b5 : List PyData) (ps : List (Int × Tr)) (tl : List Int) (u3 : Val) (u7 : Option Val), en = [some (.ow (.lst b5)), some (.sh (.list (xs.map .str))), some (.sh (.int n)), some u3, some (.sh (.str xs[j])), some (.sh (.int q)), some (.ow (.lst (ps.map fun p => .tuple [.int p.1, p.2.data]))), u7] ∧
    (u3 = .ow (.lst ((xs.eraseIdx j).map .str)) ∨ u3 = .sh (.list ((xs.eraseIdx j).map .str))) ∧ GB (m + 9 + ps.length * treeCost c') b5 ∧ rest = tl.map .int ∧ ps.map (·.1) ++ tl = ns ∧ ∀ p ∈ ps, p.2.Good (· ∈ xs.eraseIdx j) ∧ p.2.leaves ≤ max 1 (n / q) ∧ 1 ≤ p.2.leaves ∧ p.2.height ≤ xs.length - 1, ⟨b4, [], ns, _, none, by rw [el]; rfl, .inl rfl, hb4.mono (by simp), rfl, rfl, by simp⟩, ?_, ?_⟩
  · rintro d rest en ⟨b5, ps, tl, u3, u7, rfl, hu, hb5, hr, hps, hg⟩
    cases tl with
    | nil => cases hr
    | cons x tl =>
      obtain ⟨rfl, rfl⟩ := List.cons.inj hr
      have lps : ps.length + (tl.length + 1) = q := by
        have := congrArg List.length hps
        simpa [n1] using this
      have q3 : q ≤ 3 := by omega
      have hfd : binD .fdiv (.int n) (.int q) = some (.sh (.int (n / q : Int))) := bin_fdiv ⟨by omega, by omega⟩
      rw [← Int.natCast_ediv] at hfd
      generalize hdq : n / q = dq at hfd hg
      have hle : dq ≤ n := by rw [← hdq]; exact Nat.div_le_self _ _
      have ps3 : ps.length ≤ 2 := by omega
      have mul3 : ps.length * treeCost c' ≤ 2 * treeCost c' := Nat.mul_le_mul_right _ ps3
      have few : ps.length < 16777216 := by omega
      rcases hu with rfl | rfl
      · simp [hfd]
        refine R c' rfl b5 (m + 9 + ps.length * treeCost c') (xs.eraseIdx j) dq _ _ hb5 (by omega) (by omega) (by omega) nd' (by omega) fun tt b6 hb6 g1 g2 g3 g4 => ?_
        simp [most, few]
        refine ⟨b6, ps ++ [(x, tt)], tl, .sh (.list ((xs.eraseIdx j).map .str)), ⟨rfl, rfl, by simp⟩, .inr rfl, by simpa [Nat.add_mul, Nat.add_assoc] using hb6, rfl, by simpa using hps, fun a bt hab => ?_⟩
        rcases List.mem_append.mp hab with w | w
        · exact hg _ w
        · simp at w
          obtain ⟨rfl, rfl⟩ := w
          exact ⟨g1, g2, g3, by omega⟩
      · simp [hfd]
        refine R c' rfl b5 (m + 9 + ps.length * treeCost c') (xs.eraseIdx j) dq _ _ hb5 (by omega) (by omega) (by omega) nd' (by omega) fun tt b6 hb6 g1 g2 g3 g4 => ?_
        simp [most, few]
        refine ⟨b6, ps ++ [(x, tt)], tl, .sh (.list ((xs.eraseIdx j).map .str)), ⟨rfl, rfl, by simp⟩, .inr rfl, by simpa [Nat.add_mul, Nat.add_assoc] using hb6, rfl, by simpa using hps, fun a bt hab => ?_⟩
        rcases List.mem_append.mp hab with w | w
        · exact hg _ w
        · simp at w
          obtain ⟨rfl, rfl⟩ := w
          exact ⟨g1, g2, g3, by omega⟩
  · rintro en ⟨b5, ps, tl, u3, u7, rfl, hu, hb5, hr, hps, hg⟩
    have etl : tl = [] := by simpa using hr.symm
    subst etl
    rw [List.append_nil] at hps
    have lps : ps.length = q := by
      have := congrArg List.length hps
      simpa [n1] using this
    have q3 : q ≤ 3 := by omega
    have mul3 : ps.length * treeCost c' ≤ 3 * treeCost c' := Nat.mul_le_mul_right _ (by omega)
    simp [most, owPos, lentAll]
    have q1 : 1 ≤ q := by omega
    have qn : q ≤ n := by omega
    have fin := hQ (.node xs[j] (Bs.ofL ps)) b5 (hb5.mono (by omega)) ⟨List.getElem_mem hj, ?_, ?_⟩ ?_ ?_ ?_
    · rw [Tr.data, ofL_datas] at fin
      exact fin
    · cases ps with
      | nil => simp at lps; omega
      | cons p r' => intro e; cases e
    · refine ofL_good ps (-1) (by rw [hps]; exact n2) fun p hp => ?_
      have hv := n3 p.1 (by rw [← hps]; exact List.mem_map_of_mem hp)
      exact ⟨by omega, hv.2, Tr.Good.mono _ sub' (hg p hp).1⟩
    · rw [Tr.leaves, ofL_leaves]
      have s1 := sum_le_mul (k := max 1 (n / q)) (ps.map fun p => p.2.leaves) fun y hy => by
        obtain ⟨p, hp, rfl⟩ := List.mem_map.mp hy
        exact (hg p hp).2.1
      rw [List.length_map, lps] at s1
      have s2 : q * max 1 (n / q) ≤ n := by
        rcases Nat.le_total 1 (n / q) with w | w
        · rw [Nat.max_eq_right w]
          exact Nat.mul_div_le n q
        · rw [Nat.max_eq_left w]
          omega
      omega
    · rw [Tr.leaves, ofL_leaves]
      cases ps with
      | nil => simp at lps; omega
      | cons p r' =>
        have := (hg p List.mem_cons_self).2.2.1
        rw [List.map_cons, List.sum_cons]
        omega
    · rw [Tr.height]
      have := ofL_height (c := xs.length - 1) ps fun p hp => (hg p hp).2.2.2
      omega
end Pv.X

/-! PxF: comprehensions that only map and filter; is_cell, is_value, is_node. -/
set_option linter.all false
set_option maxRecDepth 100000
set_option maxHeartbeats 2000000
namespace Pv.X
open PySem

/-- simp stays out -/
structure TagP (p : Prop) : Type where
def Keep (p : Prop) (_ : TagP p := ⟨⟩) : Prop := p
theorem Keep.mk {p : Prop} (h : p) : Keep p := h
theorem Keep.out {p : Prop} (h : Keep p) : p := h
section
variable {Φ : Nat → List Val → CR} {bor : List Nat} {env : Env}
/-- a comprehension whose turns leave all as it was -/
theorem wr_lc {own : List Nat} {s : Sr} {t : Tgt} {cs : List Ex} {e : Ex} {Q : Val → Env → Prop} {E : Exn → Env → Prop} (h : WR (evS Φ bor s env) (fun ds env1 => Keep (ds.length ≤ most ∧ ∃ (p : PyData → Bool) (f : PyData → PyData) (st : PyData → Env), restE env1 env1 own = env1 ∧
      (∀ d ∈ ds, bindT bor t d (wipeE env1 own) = some (st d) ∧ wipeE (st d) own = wipeE env1 own ∧ restE env1 (st d) own = env1 ∧
        WR (evCs Φ bor cs (st d)) (fun k en => k = p d ∧ en = st d) (fun _ _ => False) ∧ (p d = true → WR (ev Φ bor e (st d)) (fun v en => v.share = some (f d) ∧ en = st d) (fun _ _ => False))) ∧
      Q (.ow (.lst ((ds.filter p).map f))) env1)) E) : WR (ev Φ bor (.comp own s t cs e) env) Q E := by
  refine wr_comp (WR.mono h (fun ds env1 ⟨hl, p, f, st, h0, h1, h2⟩ => ⟨hl, fun rest ys en => ∃ dn, dn ++ rest = ds ∧ ys = (dn.filter p).map f ∧ wipeE en own = wipeE env1 own ∧ restE env1 en own = env1, ⟨[], rfl, rfl, rfl, h0⟩, ?_, ?_⟩) fun _ _ z => z)
  · rintro d rest ys en ⟨dn, rfl, rfl, hw, hr⟩
    obtain ⟨g1, g2, g3, g4, g5⟩ := h1 d (by simp)
    rw [hw, g1]
    refine WR.mono g4 (fun k en2 ⟨hk, he⟩ => ?_) fun _ _ z => z
    subst hk he
    cases hp : p d with
    | false => exact ⟨dn ++ [d], by simp, by simp [hp], g2, g3⟩
    | true =>
      refine WR.mono (g5 hp) (fun v en3 ⟨hv, he⟩ => ?_) fun _ _ z => z
      subst he
      rw [hv]
      exact ⟨dn ++ [d], by simp, by simp [hp], g2, g3⟩
  · rintro ys en ⟨dn, hd, rfl, hw, hr⟩
    rw [List.append_nil] at hd
    subst hd
    rw [hr]
    exact h2
/-- the same without tests -/
theorem wr_map {own : List Nat} {s : Sr} {t : Tgt} {e : Ex} {Q : Val → Env → Prop} {E : Exn → Env → Prop} (h : WR (evS Φ bor s env) (fun ds env1 => Keep (ds.length ≤ most ∧ ∃ (f : PyData → PyData) (st : PyData → Env), restE env1 env1 own = env1 ∧
      (∀ d ∈ ds, bindT bor t d (wipeE env1 own) = some (st d) ∧ wipeE (st d) own = wipeE env1 own ∧ restE env1 (st d) own = env1 ∧ WR (ev Φ bor e (st d)) (fun v en => v.share = some (f d) ∧ en = st d) (fun _ _ => False)) ∧
      Q (.ow (.lst (ds.map f))) env1)) E) : WR (ev Φ bor (.comp own s t [] e) env) Q E := by
  refine wr_lc (WR.mono h (fun ds env1 ⟨hl, f, st, h0, h1, h2⟩ => ⟨hl, fun _ => true, f, st, h0, fun d hd => ?_, ?_⟩) fun _ _ z => z)
  · obtain ⟨g1, g2, g3, g4⟩ := h1 d hd
    refine ⟨g1, g2, g3, ?_, fun _ => g4⟩
    rw [evCs_nil]
    exact ⟨rfl, rfl⟩
  · have e1 : ds.filter (fun _ => true) = ds := List.filter_eq_self.mpr fun _ _ => rfl
    rw [e1]
    exact h2
end
/-- how much there is of it -/
def isCellS (x : Str) : Bool := decide (0 < x.length) && decide (x.length ≤ 8) && x.cps.toList.all fun c => decide (97 ≤ c) && decide (c ≤ 122)
def isCellB : PyData → Bool
  | .str x => isCellS x
  | _ => false
theorem isCellS_iff {x : Str} : isCellS x = true ↔ IsCell x := by
  unfold isCellS IsCell
  rw [Bool.and_eq_true, Bool.and_eq_true, decide_eq_true_eq, decide_eq_true_eq, List.all_eq_true, and_assoc]
  simp only [Bool.and_eq_true, decide_eq_true_eq]
def isValB : PyData → Bool
  | .int i => decide (0 ≤ i) && decide (i ≤ 1000000000)
  | _ => false
@[simp] theorem cmp_inS {c : Nat} {z : Str} : cmpD .inn (.str ⟨#[c]⟩) (.str z) = some (decide (c ∈ z.cps.toList)) := by
  unfold cmpD
  simp [Str.length]
def FisCell (A : Str) : Fn := ⟨2, 1, [], [(.ifs (.or [(.not (.prim (.isi .str) [(.var 0)])), (.not (.chain .lt .le (.cst (.int (0))) (.prim .len [(.var 0)]) (.glo (.int (8)))))]) [(.ret (.cst (.bool false)))] []), (.ret (.prim .all [(.comp [1] (.it (.var 0)) (.name 1) [] (.cmp .inn (.var 1) (.glo (.str A))))]))]⟩
/-- a function of one value that gives b of it -/
def Gives1 (Φ : Nat → List Val → CR) (i : Nat) (P : PyData → Prop) (f : PyData → PyData) : Prop := ∀ (d : PyData) (Q : Val → List MO → Prop) (E : Exn → List MO → Prop), P d → Q (.sh (f d)) [] → WC (Φ i [.sh d]) Q E
def StrFew (d : PyData) : Prop := ∀ x, d = .str x → x.length ≤ most
theorem is_cell_ok (A : Str) (hA : A.cps.toList = (List.range 26).map (97 + ·)) (Φ Φ' : Nat → List Val → CR) (i : Nat) (h : ∀ args, Φ i args = (FisCell A).run Φ' args) : Gives1 Φ i StrFew (fun d => .bool (isCellB d)) := by
  intro d Q E hd hQ
  rw [h]
  refine wc_run (by cases d <;> rfl) ?_
  cases d with
  | str x =>
    have hx := hd x rfl
    replace hQ : Q (.sh (.bool (isCellS x))) [] := hQ
    simp [FisCell, Fn.start, isTy, pr_lenS hx]
    by_cases h0 : 0 < x.length
    · by_cases h8 : x.length ≤ 8
      · have h8' : (x.length : Int) ≤ 8 := by omega
        simp [h0, h8']
        refine wr_map ?_
        simp
        have lx : x.cps.size = x.length := rfl
        refine Keep.mk ⟨by simp only [List.length_map, Array.length_toList]; omega, fun d => match d with
          | .str y => .bool (decide (y.cps.toList.headD 0 ∈ A.cps.toList))
          | _ => .none, fun d => [some (.sh (.str x)), some (.sh d)], rfl, fun d hd => ?_, ?_⟩
        · obtain ⟨c, hc, rfl⟩ := List.mem_map.mp hd
          simp
        · have e2 : isCellS x = x.cps.toList.all fun c => decide (c ∈ A.cps.toList) := by
            unfold isCellS
            rw [decide_eq_true h0, decide_eq_true h8]
            simp only [Bool.true_and]
            congr 1
            funext c
            rw [hA, Bool.eq_iff_iff]
            simp
            constructor
            · rintro ⟨h1, h2⟩
              exact ⟨c - 97, by omega, by omega⟩
            · rintro ⟨a, h1, h2⟩
              omega
          simp [Function.comp_def, owPos, lentAll]
          refine Eq.mp (congrArg (fun z => Q (.sh (.bool z)) []) (?_ : isCellS x = _)) hQ
          rw [e2, Bool.eq_iff_iff]
          simp
          exact ⟨fun h i hi => decide_eq_true (h i hi), fun h i hi => of_decide_eq_true (h i hi)⟩
      · have h8' : ¬ (x.length : Int) ≤ 8 := by omega
        simp [h0, h8', owPos, lentAll]
        have e2 : isCellS x = false := by
          unfold isCellS
          rw [decide_eq_false h8]
          simp
        rw [e2] at hQ
        exact hQ
    · simp [h0, owPos, lentAll]
      have e2 : isCellS x = false := by
        unfold isCellS
        rw [decide_eq_false h0]
        simp
      rw [e2] at hQ
      exact hQ
  | _ => simp [FisCell, Fn.start, isTy, owPos, lentAll]; exact hQ
def FisValue : Fn := ⟨1, 1, [], [(.ret (.and [(.prim (.isi .int) [(.var 0)]), (.not (.prim (.isi .bool) [(.var 0)])), (.chain .le .le (.cst (.int (0))) (.var 0) (.glo (.int (1000000000))))]))]⟩
theorem is_value_ok (Φ Φ' : Nat → List Val → CR) (i : Nat) (h : ∀ args, Φ i args = FisValue.run Φ' args) : Gives1 Φ i (fun _ => True) (fun d => .bool (isValB d)) := by
  intro d Q E _ hQ
  rw [h]
  refine wc_run (by cases d <;> rfl) ?_
  cases d with
  | int n =>
    by_cases h0 : 0 ≤ n
    · by_cases h1 : n ≤ 1000000000
      · simp [FisValue, Fn.start, isTy, h0, h1, owPos, lentAll]
        simpa [isValB, h0, h1] using hQ
      · simp [FisValue, Fn.start, isTy, h0, h1, owPos, lentAll]
        simpa [isValB, h0, h1] using hQ
    · simp [FisValue, Fn.start, isTy, h0, owPos, lentAll]
      simpa [isValB, h0] using hQ
  | _ => simp [FisValue, Fn.start, isTy, owPos, lentAll]; exact hQ
end Pv.X

/-! PxG: what a reader is, by recursion; is_node. -/
set_option linter.all false
set_option maxRecDepth 100000
set_option maxHeartbeats 2000000
namespace Pv.X
open PySem

mutual
/-- no text and no tuple is too long -/
def few : PyData → Bool
  | .str x => decide (x.length ≤ most)
  | .tuple xs => decide (xs.length ≤ most) && fewAll xs
  | .list xs => decide (xs.length ≤ most) && fewAll xs
  | .none => true
  | .bool _ => true
  | .int _ => true
  | .dict kvs => kvs.isEmpty
def fewAll : List PyData → Bool
  | [] => true
  | x :: r => few x && fewAll r
end
theorem fewAll_iff : ∀ {xs : List PyData}, fewAll xs = true ↔ ∀ x ∈ xs, few x = true
  | [] => by simp [fewAll]
  | x :: r => by simp [fewAll, fewAll_iff (xs := r)]
theorem few_str {d : PyData} (h : few d = true) : StrFew d := by
  intro x e
  subst e
  simpa [few] using h
def isPairB : PyData → Bool
  | .tuple [_, _] => true
  | _ => false
def fstD : PyData → PyData
  | .tuple [a, _] => a
  | _ => .none
def sndD : PyData → PyData
  | .tuple [_, b] => b
  | _ => .none
def ltI : PyData → PyData → Bool
  | .int i, .int j => decide (i < j)
  | _, _ => false
/-- branches: values upward from p, at most 10 ** 9 -/
def okBs : List PyData → Int → Bool
  | [], _ => true
  | b :: r, p => match b with
    | .tuple [.int v, _] => decide (p < v) && decide (v ≤ 1000000000) && okBs r v
    | _ => false
theorem pair_cases (d : PyData) : (∃ a b, d = .tuple [a, b]) ∨ isPairB d = false := by
  cases d with
  | tuple xs =>
    match xs with
    | [] => exact .inr rfl
    | [a] => exact .inr rfl
    | [a, b] => exact .inl ⟨a, b, rfl⟩
    | a :: b :: c :: r => exact .inr rfl
  | _ => exact .inr rfl
theorem okBs_pair {b : PyData} {r : List PyData} {p : Int} (h : isPairB b = false) : okBs (b :: r) p = false := by
  unfold okBs
  split
  · cases h
  · rfl
theorem okBs_val {a t : PyData} {r : List PyData} {p : Int} (h : ∀ v, a ≠ .int v) : okBs (.tuple [a, t] :: r) p = false := by
  unfold okBs
  split
  · rename_i v _ e
    cases e
    exact absurd rfl (h v)
  · rfl
theorem okBs_int {v : Int} {t : PyData} {r : List PyData} {p : Int} : okBs (.tuple [.int v, t] :: r) p = (decide (p < v) && decide (v ≤ 1000000000) && okBs r v) := rfl
/-- the first value is above p -/
def headGt (p : Int) : List PyData → Bool
  | [] => true
  | b :: _ => match fstD b with
    | .int v => decide (p < v)
    | _ => false
def ascB (bs : List PyData) : Bool := (bs.zip (bs.drop 1)).all fun q => ltI (fstD q.1) (fstD q.2)
@[simp] theorem fstD_pair {a b : PyData} : fstD (.tuple [a, b]) = a := rfl
@[simp] theorem sndD_pair {a b : PyData} : sndD (.tuple [a, b]) = b := rfl
@[simp] theorem isPairB_pair {a b : PyData} : isPairB (.tuple [a, b]) = true := rfl
@[simp] theorem isValB_int {i : Int} : isValB (.int i) = (decide (0 ≤ i) && decide (i ≤ 1000000000)) := rfl
@[simp] theorem ltI_int {i j : Int} : ltI (.int i) (.int j) = decide (i < j) := rfl
theorem ascB_cons {a b : PyData} {r : List PyData} : ascB (a :: b :: r) = (ltI (fstD a) (fstD b) && ascB (b :: r)) := by
  unfold ascB
  simp
theorem ascB_one {a : PyData} : ascB [a] = true := rfl
theorem headGt_int {c : PyData} {r : List PyData} {p w : Int} (h : fstD c = .int w) : headGt p (c :: r) = decide (p < w) := by
  show (match fstD c with
    | .int v => decide (p < v)
    | _ => false) = _
  rw [h]
theorem okBs_iff : ∀ (bs : List PyData) (p : Int), -1 ≤ p → okBs bs p = (bs.all isPairB && bs.all (fun b => isValB (fstD b)) && ascB bs && headGt p bs)
  | [], p, _ => rfl
  | b :: r, p, hp => by
    rcases pair_cases b with ⟨a, t, rfl⟩ | h
    · cases a with
      | int v =>
        rw [okBs_int]
        by_cases hv : p < v
        · by_cases hm : v ≤ 1000000000
          · rw [okBs_iff r v (by omega)]
            have h0 : (0 : Int) ≤ v := by omega
            have e : ascB (.tuple [.int v, t] :: r) = (headGt v r && ascB r) ∨ (r.all fun b => isValB (fstD b)) = false := by
              cases r with
              | nil => exact .inl rfl
              | cons c r' =>
                cases hc : fstD c with
                | int w =>
                  refine .inl ?_
                  rw [ascB_cons, headGt_int hc, hc]
                  rfl
                | _ => exact .inr (by simp [hc, isValB])
            have e2 : headGt p (.tuple [.int v, t] :: r) = true := by rw [headGt_int (w := v) rfl]; exact decide_eq_true hv
            have e3 : isValB (.int v) = true := by simp [h0, hm]
            rw [e2, List.all_cons, List.all_cons, isPairB_pair, fstD_pair, e3, decide_eq_true hv, decide_eq_true hm]
            rcases e with e | e
            · rw [e]
              generalize (r.all isPairB) = b1
              generalize (r.all fun b => isValB (fstD b)) = b2
              generalize ascB r = b3
              generalize headGt v r = b4
              cases b1 <;> cases b2 <;> cases b3 <;> cases b4 <;> rfl
            · rw [e]
              generalize (r.all isPairB) = b1
              generalize ascB (.tuple [.int v, t] :: r) = b3
              cases b1 <;> cases b3 <;> rfl
          · simp [hm]
        · simp [hv, headGt_int (c := .tuple [.int v, t]) (w := v) rfl]
      | _ => rw [okBs_val (by intro v e; cases e)]; simp [isValB]
    · rw [okBs_pair h]
      simp [h]
mutual
/-- how many leaves, where it is a reader below ab -/
def due : PyData → List Str → Option Nat
  | .tuple [], _ => some 1
  | .tuple [.str x, .tuple bs], ab => if (isCellS x && !decide (x ∈ ab) && !bs.isEmpty && okBs bs (-1)) = true then dueAll bs (ab ++ [x]) else none
  | _, _ => none
def dueAll : List PyData → List Str → Option Nat
  | [], _ => some 0
  | .tuple [_, t] :: r, ab => match due t ab, dueAll r ab with
    | some a, some b => some (a + b)
    | _, _ => none
  | _ :: _, _ => none
end
def nodeB (d : PyData) (ab : List Str) : Bool := match d with
  | .tuple [.str x, .tuple bs] => isCellS x && !decide (x ∈ ab) && !bs.isEmpty && okBs bs (-1)
  | _ => false
theorem okBs_mem : ∀ {bs : List PyData} {p : Int}, okBs bs p = true → ∀ b ∈ bs, ∃ v t, b = .tuple [.int v, t]
  | b :: r, p, h, c, hc => by
    rcases pair_cases b with ⟨a, t, rfl⟩ | h2
    · cases a with
      | int v =>
        rw [okBs_int] at h
        simp at h
        rcases List.mem_cons.mp hc with e | q
        · exact ⟨v, t, e⟩
        · exact okBs_mem h.2 c q
      | _ => rw [okBs_val (by intro v e; cases e)] at h; cases h
    · rw [okBs_pair h2] at h; cases h
theorem dueAll_some : ∀ {bs : List PyData} {ab : List Str}, (∀ b ∈ bs, ∃ v t, b = .tuple [.int v, t]) → ((dueAll bs ab).isSome = true ↔ ∀ b ∈ bs, (due (sndD b) ab).isSome = true)
  | [], ab, _ => by simp [dueAll]
  | b :: r, ab, h => by
    obtain ⟨v, t, rfl⟩ := h b List.mem_cons_self
    have ih := dueAll_some (bs := r) (ab := ab) fun c hc => h c (List.mem_cons_of_mem _ hc)
    have e : dueAll (.tuple [.int v, t] :: r) ab = (match due t ab, dueAll r ab with
      | some a, some b => some (a + b)
      | _, _ => none) := by rw [dueAll]
    rw [e]
    cases e1 : due t ab with
    | none => simp [e1]
    | some a =>
      cases e2 : dueAll r ab with
      | none => rw [e2] at ih; simp [e1]; simpa using ih
      | some c => rw [e2] at ih; simp [e1]; simpa using ih
theorem due_leaf {ab : List Str} : due (.tuple []) ab = some 1 := by rw [due]
theorem due_other {d : PyData} {ab : List Str} (h : d ≠ .tuple []) : due d ab = none ∨ ∃ x bs, d = .tuple [.str x, .tuple bs] := by
  unfold due
  split
  · exact absurd rfl h
  · exact .inr ⟨_, _, rfl⟩
  · exact .inl rfl
theorem due_node {x : Str} {bs : List PyData} {ab : List Str} : due (.tuple [.str x, .tuple bs]) ab = if nodeB (.tuple [.str x, .tuple bs]) ab = true then dueAll bs (ab ++ [x]) else none := by
  rw [due]
  rfl
theorem node_false {d : PyData} {ab : List Str} (h : d ≠ .tuple []) (h2 : nodeB d ab = false) : due d ab = none := by
  rcases due_other (ab := ab) h with e | ⟨x, bs, rfl⟩
  · exact e
  · rw [due_node, h2]
    rfl
/-- is_node -/
def FisNode (c v : Nat) : Fn := ⟨6, 2, [], [(.ifs (.or [(.not (.prim (.isi .tuple) [(.var 0)])), (.cmp .ne (.prim .len [(.var 0)]) (.glo (.int (2)))), (.not (.call c [0] [(.val (.idx (.var 0) (.cst (.int (0)))))])), (.cmp .inn (.idx (.var 0) (.cst (.int (0)))) (.var 1))]) [(.ret (.cst (.bool false)))] []), (.asg (.name 2) (.idx (.var 0) (.cst (.int (1))))), (.ifs (.or [(.not (.prim (.isi .tuple) [(.var 2)])), (.cmp .eq (.var 2) (.tup []))]) [(.ret (.cst (.bool false)))] []), (.ifs (.not (.prim .all [(.comp [3] (.it (.var 2)) (.name 3) [] (.and [(.prim (.isi .tuple) [(.var 3)]), (.cmp .eq (.prim .len [(.var 3)]) (.glo (.int (2))))]))])) [(.ret (.cst (.bool false)))] []), (.ifs (.not (.prim .all [(.comp [3] (.it (.var 2)) (.name 3) [] (.call v [0] [(.val (.idx (.var 3) (.cst (.int (0)))))]))])) [(.ret (.cst (.bool false)))] []), (.ret (.prim .all [(.comp [4, 5] (.zip (.var 2) (.slc (.var 2) (some (.cst (.int (1)))) none)) (.tup [(.name 4), (.name 5)]) [] (.cmp .lt (.idx (.var 4) (.cst (.int (0)))) (.idx (.var 5) (.cst (.int (0))))))]))]⟩
def NodeOk (Φ : Nat → List Val → CR) (i : Nat) : Prop := ∀ (d : PyData) (ab : List Str) (Q : Val → List MO → Prop) (E : Exn → List MO → Prop), few d = true → Q (.sh (.bool (nodeB d ab))) [] → WC (Φ i [.sh d, .sh (.tuple (ab.map .str))]) Q E
theorem tup_cases (d : PyData) : (∃ xs, d = .tuple xs) ∨ isTy .tuple d = false := by
  cases d <;> first | exact .inl ⟨_, rfl⟩ | exact .inr rfl
theorem fst_val {bs : List PyData} (h : (bs.all isPairB) = true) : ∀ b ∈ bs, ∃ a t, b = .tuple [a, t] := fun b hb => by
  rcases pair_cases b with ⟨a, t, e⟩ | q
  · exact ⟨a, t, e⟩
  · have := List.all_eq_true.mp h b hb
    rw [q] at this
    cases this
theorem node_ok (Φ Φ' : Nat → List Val → CR) (i c v : Nat) (h : ∀ args, Φ i args = (FisNode c v).run Φ' args) (C : Gives1 Φ' c StrFew (fun d => .bool (isCellB d))) (V : Gives1 Φ' v (fun _ => True) (fun d => .bool (isValB d))) : NodeOk Φ i := by
  intro d ab Q E hf hQ
  rw [h]
  refine wc_run (by rfl) ?_
  have no : nodeB d ab = false → Q (.sh (.bool false)) [] := fun e => by rw [e] at hQ; exact hQ
  rcases tup_cases d with ⟨xs, rfl⟩ | hty
  rotate_left
  · simp [FisNode, Fn.start, hty, owPos, lentAll]
    refine no ?_
    cases d <;> first | rfl | cases hty
  match xs, hf, hQ, no with
  | [], hf, hQ, no =>
    simp [FisNode, Fn.start, isTy, owPos, lentAll]
    exact no rfl
  | [a], hf, hQ, no =>
    simp [FisNode, Fn.start, isTy, owPos, lentAll]
    exact no (by simp [nodeB])
  | a :: b :: e :: r, hf, hQ, no =>
    have hl : ((r.length : Int) + 1 + 1 + 1 = 2) = False := by simp; omega
    simp [FisNode, Fn.start, isTy, hl, owPos, lentAll]
    exact no (by simp [nodeB])
  | [a, b], hf, hQ, no =>
    have hfab : few a = true ∧ few b = true := by
      simp [few, fewAll] at hf
      exact hf.2
    simp [FisNode, Fn.start, isTy]
    refine C a _ _ (few_str hfab.1) ?_
    cases a with
    | str x =>
      cases hx : isCellS x with
      | false =>
        simp [isCellB, hx, owPos, lentAll]
        exact no (by cases b <;> simp [nodeB, hx])
      | true =>
        by_cases hin : x ∈ ab
        · simp [isCellB, hx, hin, owPos, lentAll]
          exact no (by cases b <;> simp [nodeB, hx, hin])
        · simp [isCellB, hx, hin, L2.atI, L2.ixN]
          rcases tup_cases b with ⟨bs, rfl⟩ | hty
          rotate_left
          · simp [hty, owPos, lentAll]
            exact no (by cases b <;> first | (cases hty; done) | simp [nodeB])
          have hlen : bs.length ≤ 16777216 := by
            have := hfab.2
            simp [few, most] at this
            exact of_decide_eq_true this.1
          cases hbs : bs.isEmpty with
          | true =>
            simp [isTy, hbs, owPos, lentAll]
            exact no (by simp [nodeB, hbs])
          | false =>
          simp [isTy, hbs]
          refine wr_map ?_
          simp
          refine Keep.mk ⟨hlen, fun d => .bool (isPairB d), fun d => [some (.sh (.tuple [.str x, .tuple bs])), some (.sh (.tuple (ab.map .str))), some (.sh (.tuple bs)), some (.sh d), none, none], rfl, fun d hd => ?_, ?_⟩
          · rcases tup_cases d with ⟨ys, rfl⟩ | hty
            · simp [isTy]
              match ys with
              | [] => rfl
              | [_] => rfl
              | [_, _] => rfl
              | _ :: _ :: _ :: r' =>
                have hl : ((r'.length : Int) + 1 + 1 + 1 = 2) = False := by simp; omega
                simp [hl, isPairB]
            · simp [hty]
              cases d <;> first | rfl | cases hty
          cases hp : bs.all isPairB with
          | false =>
            simp [hp, owPos, lentAll]
            exact no (by
              have := okBs_iff bs (-1) (by decide)
              simp [hp] at this
              simp [nodeB, this])
          | true =>
          have pr := fst_val hp
          simp [hp]
          refine wr_map ?_
          simp
          refine Keep.mk ⟨hlen, fun d => .bool (isValB (fstD d)), fun d => [some (.sh (.tuple [.str x, .tuple bs])), some (.sh (.tuple (ab.map .str))), some (.sh (.tuple bs)), some (.sh d), none, none], rfl, fun d hd => ?_, ?_⟩
          · obtain ⟨a', t', rfl⟩ := pr d hd
            simp
            refine V a' _ _ trivial ?_
            simp
          cases hv : bs.all fun b => isValB (fstD b) with
          | false =>
            simp [hv, owPos, lentAll]
            exact no (by
              have := okBs_iff bs (-1) (by decide)
              simp [hv] at this
              simp [nodeB, this])
          | true =>
          simp [hv]
          refine wr_map ?_
          have ecut : slcD (.tuple bs) (some 1) none = some (.sh (.tuple (bs.drop 1))) := by
            show some (Val.sh (.tuple (cutL bs (some ((1 : Nat) : Int)) none))) = _
            rw [cut_drop (by cases bs <;> simp at hbs ⊢)]
          simp [ecut]
          have vr : ∀ d ∈ bs, ∃ w t, d = .tuple [.int w, t] := fun d hd => by
            obtain ⟨a', t', rfl⟩ := pr d hd
            have := List.all_eq_true.mp hv _ hd
            cases a' <;> first | exact ⟨_, _, rfl⟩ | simp [fstD, isValB] at this
          refine Keep.mk ⟨by simp; unfold most; omega, fun d => .bool (ltI (fstD (fstD d)) (fstD (sndD d))), fun d => [some (.sh (.tuple [.str x, .tuple bs])), some (.sh (.tuple (ab.map .str))), some (.sh (.tuple bs)), none, some (.sh (fstD d)), some (.sh (sndD d))], rfl, fun d hd => ?_, ?_⟩
          · obtain ⟨⟨p, q⟩, hpq, rfl⟩ := List.mem_map.mp hd
            obtain ⟨w1, t1, rfl⟩ := vr p (List.of_mem_zip hpq).1
            obtain ⟨w2, t2, rfl⟩ := vr q (List.mem_of_mem_tail (List.of_mem_zip hpq).2)
            simp
          · simp [Function.comp_def, owPos, lentAll]
            refine Eq.mp (congrArg (fun z => Q (.sh (.bool z)) []) ?_) hQ
            have q := okBs_iff bs (-1) (by decide)
            have hh : headGt (-1) bs = true := by
              cases bs with
              | nil => rfl
              | cons b r' =>
                obtain ⟨w1, t1, rfl⟩ := vr b List.mem_cons_self
                have := List.all_eq_true.mp hv _ List.mem_cons_self
                simp [fstD, isValB] at this
                simp [headGt, fstD]
                omega
            rw [hp, hv, hh] at q
            simp [nodeB, hx, hin, hbs, q, ascB]
    | _ =>
      simp [isCellB, owPos, lentAll]
      exact no (by cases b <;> simp [nodeB])
end Pv.X

/-! PxH: is_reader. -/
set_option linter.all false
set_option maxRecDepth 100000
set_option maxHeartbeats 2000000
namespace Pv.X
open PySem

mutual
/-- how many () there are -/
def leafN : PyData → Nat
  | .tuple xs => if xs.isEmpty then 1 else leafAll xs
  | .list xs => leafAll xs
  | .none => 0
  | .bool _ => 0
  | .int _ => 0
  | .str _ => 0
  | .dict _ => 0
def leafAll : List PyData → Nat
  | [] => 0
  | x :: r => leafN x + leafAll r
end
mutual
def sz : PyData → Nat
  | .tuple xs => 1 + szAll xs
  | .list xs => 1 + szAll xs
  | .none => 1
  | .bool _ => 1
  | .int _ => 1
  | .str x => 1 + x.length
  | .dict _ => 1
def szAll : List PyData → Nat
  | [] => 0
  | x :: r => sz x + szAll r
end
theorem leafAll_sum : ∀ xs : List PyData, leafAll xs = (xs.map leafN).sum
  | [] => rfl
  | x :: r => by rw [leafAll, leafAll_sum r, List.map_cons, List.sum_cons]
theorem szAll_sum : ∀ xs : List PyData, szAll xs = (xs.map sz).sum
  | [] => rfl
  | x :: r => by rw [szAll, szAll_sum r, List.map_cons, List.sum_cons]
theorem depthAll_le : ∀ {xs : List PyData} {c : Nat}, PyData.depthAll xs ≤ c ↔ ∀ x ∈ xs, x.depth ≤ c
  | [], c => by simp [PyData.depthAll]
  | x :: r, c => by
    rw [PyData.depthAll, Nat.max_le, depthAll_le (xs := r)]
    simp
theorem depth_tuple {xs : List PyData} : PyData.depth (.tuple xs) = PyData.depthAll xs + 1 := by rw [PyData.depth]
theorem depth_list {xs : List PyData} : PyData.depth (.list xs) = PyData.depthAll xs + 1 := by rw [PyData.depth]
theorem sz_pos (d : PyData) : 1 ≤ sz d := by
  cases d <;> simp only [sz] <;> omega
theorem len_le_sz : ∀ xs : List PyData, xs.length ≤ szAll xs
  | [] => Nat.le_refl _
  | x :: r => by
    have := len_le_sz r
    have := sz_pos x
    rw [szAll, List.length_cons]
    omega
theorem len_le_sum : ∀ (W : List (PyData × List Str)), W.length ≤ (W.map fun p => sz p.1).sum
  | [] => Nat.le_refl _
  | p :: r => by
    have := len_le_sum r
    have := sz_pos p.1
    rw [List.map_cons, List.sum_cons, List.length_cons]
    omega
theorem node_parts {e : PyData} {ab : List Str} (h : nodeB e ab = true) : ∃ x bs, e = .tuple [.str x, .tuple bs] ∧ bs ≠ [] ∧ okBs bs (-1) = true := by
  unfold nodeB at h
  split at h
  · rename_i x bs
    simp at h
    exact ⟨x, bs, rfl, h.1.2, h.2⟩
  · cases h
/-- what hangs below a node -/
theorem kids {x : Str} {bs : List PyData} (h : bs ≠ []) (ok : okBs bs (-1) = true) (fw : few (.tuple [.str x, .tuple bs]) = true) :
    ((bs.map fun b => leafN (sndD b)).sum = leafN (.tuple [.str x, .tuple bs])) ∧ ((bs.map fun b => sz (sndD b)).sum < sz (.tuple [.str x, .tuple bs])) ∧ (∀ b ∈ bs, few (sndD b) = true ∧ (sndD b).depth + 3 ≤ (PyData.tuple [.str x, .tuple bs]).depth) := by
  have pr := okBs_mem ok
  have he : bs.isEmpty = false := by cases bs <;> simp at h ⊢
  have s1 : ∀ l : List PyData, (∀ b ∈ l, ∃ v t, b = .tuple [.int v, t]) → (l.map fun b => leafN (sndD b)).sum = leafAll l ∧ (l.map fun b => sz (sndD b)).sum ≤ szAll l := by
    intro l
    induction l with
    | nil => exact fun _ => ⟨rfl, Nat.le_refl _⟩
    | cons b r ih =>
      intro hl
      obtain ⟨v, t, rfl⟩ := hl b List.mem_cons_self
      obtain ⟨i1, i2⟩ := ih fun c hc => hl c (List.mem_cons_of_mem _ hc)
      rw [List.map_cons, List.map_cons, List.sum_cons, List.sum_cons, i1, leafAll, szAll]
      refine ⟨?_, ?_⟩
      · simp [leafN, leafAll]
      · simp only [sndD_pair, sz, szAll]
        omega
  obtain ⟨q1, q2⟩ := s1 bs pr
  refine ⟨?_, ?_, fun b hb => ?_⟩
  · rw [q1]
    simp [leafN, leafAll, he]
  · simp only [sz, szAll]
    omega
  · obtain ⟨v, t, rfl⟩ := pr b hb
    have fb : fewAll bs = true := by
      simp [few, fewAll] at fw
      exact fw.2.2.2
    have ft := fewAll_iff.mp fb _ hb
    refine ⟨?_, ?_⟩
    · simp [few, fewAll] at ft
      exact ft.2
    · have d1 : PyData.depth (.tuple [.int v, t]) ≤ PyData.depthAll bs := depthAll_le.mp (Nat.le_refl _) _ hb
      simp only [depth_tuple, PyData.depthAll, depth_int, depth_str, sndD_pair] at d1 ⊢
      omega
def FisReader (nd : Nat) : Fn := ⟨6, 1, [], [(.par 1 2 (.lst [(.tup [(.var 0), (.tup [])])]) (.cst (.int (0)))), (.whl (.cmp .ne (.var 1) (.lst [])) [(.asg (.tup [(.name 3), (.name 4)]) (.pop 1)), (.ifs (.and [(.prim (.isi .tuple) [(.var 3)]), (.cmp .eq (.var 3) (.glo (.tuple [])))]) [(.aug 2 .add (.cst (.int (1))))] [(.ifs (.or [(.cmp .eq (.prim .len [(.var 4)]) (.glo (.int (60)))), (.not (.call nd [0, 1] [(.val (.var 3)), (.val (.var 4))]))]) [(.ret (.cst (.bool false)))] [(.extend 1 (.comp [5] (.it (.idx (.var 3) (.cst (.int (1))))) (.name 5) [] (.tup [(.idx (.var 5) (.cst (.int (1)))), (.bin .add (.var 4) (.tup [(.idx (.var 3) (.cst (.int (0))))]))])))])]), (.ifs (.cmp .gt (.var 2) (.glo (.int (300)))) [(.ret (.cst (.bool false)))] [])]), (.ret (.cst (.bool true)))]⟩
def ReaderOk (Φ : Nat → List Val → CR) (i : Nat) : Prop := Gives1 Φ i (fun d => few d = true ∧ leafN d ≤ 300 ∧ d.depth ≤ 59 ∧ sz d ≤ 1000000) (fun d => .bool (due d []).isSome)
abbrev encW (W : List (PyData × List Str)) : List PyData := W.map fun p => .tuple [p.1, .tuple (p.2.map .str)]
theorem reader_ok (Φ Φ' : Nat → List Val → CR) (i nd : Nat) (h : ∀ args, Φ i args = (FisReader nd).run Φ' args) (N : NodeOk Φ' nd) : ReaderOk Φ i := by
  intro d Q E ⟨hf, hl, hd, hz⟩ hQ
  rw [h]
  refine wc_run (by cases d <;> rfl) ?_
  simp [FisReader, Fn.start, most]
  refine wr_while (fun n en => ∃ (W : List (PyData × List Str)) (k : Nat) (u3 u4 : Option Val), en = [some (.sh d), some (.ow (.lst (encW W))), some (.sh (.int k)), u3, u4, none] ∧ n = (W.map fun p => sz p.1).sum ∧ n ≤ 1000000 ∧
    ((due d []).isSome = true ↔ ∀ p ∈ W, (due p.1 p.2).isSome = true) ∧ k + (W.map fun p => leafN p.1).sum ≤ 300 ∧ ∀ p ∈ W, few p.1 = true ∧ p.2.length + p.1.depth ≤ 59) (sz d) ⟨[(d, [])], 0, none, none, rfl, by simp, hz, by simp, by simpa using hl, by simpa using ⟨hf, hd⟩⟩ ?_
  rintro n en ⟨W, k, u3, u4, rfl, rfl, hn, iff, hk, hW⟩
  have no : (due d []).isSome = false → Q (.sh (.bool false)) [] := fun e => by
    replace hQ : Q (.sh (.bool (due d []).isSome)) [] := hQ
    rw [e] at hQ
    exact hQ
  have split : W = [] ∨ ∃ W' p, W = W' ++ [p] := by
    rcases List.eq_nil_or_concat W with q | ⟨W', p, q⟩
    · exact .inl q
    · exact .inr ⟨W', p, by simpa using q⟩
  rcases split with rfl | ⟨W', ⟨e, ab⟩, rfl⟩
  · simp [most, owPos, lentAll]
    replace hQ : Q (.sh (.bool (due d []).isSome)) [] := hQ
    rw [iff.mpr (by simp)] at hQ
    exact hQ
  · obtain ⟨fe, de⟩ := hW (e, ab) (by simp)
    have fe : few e = true := fe
    have de : ab.length + e.depth ≤ 59 := de
    simp only [List.map_append, List.map_cons, List.map_nil, List.sum_append, List.sum_cons, List.sum_nil] at hk hn
    have hW' : ∀ p ∈ W', few p.1 = true ∧ p.2.length + p.1.depth ≤ 59 := fun p hp => hW p (by simp [hp])
    have iff' : (due d []).isSome = true ↔ (∀ p ∈ W', (due p.1 p.2).isSome = true) ∧ (due e ab).isSome = true := by
      rw [iff]
      constructor
      · exact fun q => ⟨fun p hp => q p (by simp [hp]), q (e, ab) (by simp)⟩
      · rintro ⟨q1, q2⟩ p hp
        rcases List.mem_append.mp hp with w | w
        · exact q1 p w
        · simp at w
          subst w
          exact q2
    have e0 : encW (W' ++ [(e, ab)]) = encW W' ++ [.tuple [e, .tuple (ab.map .str)]] := by simp [encW]
    have e1 : (encW W' ++ [PyData.tuple [e, .tuple (ab.map .str)]]).isEmpty = false := by cases encW W' <;> rfl
    rw [e0]
    by_cases le : e = .tuple []
    · subst le
      have l1 : leafN (.tuple []) = 1 := by simp [leafN]
      rw [l1] at hk
      have k3 : ¬ (300 < (k : Int) + 1) := by omega
      simp [most, e1, isTy, augD, k3]
      refine ⟨_, ?_, W', k + 1, ⟨rfl, by simp⟩, rfl, by omega, ?_, by omega, ?_⟩
      · simp [sz, szAll]
      · rw [iff', due_leaf]
        simp
      · simpa using hW'
    · have k3 : ¬ (300 < (k : Int)) := by omega
      have l60 : ¬ ((ab.length : Int) = 60) := by omega
      have few1 := len_le_sum W'
      rcases tup_cases e with ⟨xs, rfl⟩ | hty
      rotate_left
      · simp [most, e1, hty, l60]
        refine N e ab _ _ fe ?_
        have nb : nodeB e ab = false := by
          cases e <;> first | (cases hty; done) | rfl
        simp [nb, owPos, lentAll]
        refine no ?_
        cases hh : (due d []).isSome with
        | false => rfl
        | true =>
          have := (iff'.mp hh).2
          rw [node_false le nb] at this
          cases this
      · have hx : xs.isEmpty = false := by cases xs <;> simp at le ⊢
        simp [most, e1, isTy, hx, l60]
        refine N (.tuple xs) ab _ _ fe ?_
        cases nb : nodeB (.tuple xs) ab with
        | false =>
          simp [owPos, lentAll]
          refine no ?_
          cases hh : (due d []).isSome with
          | false => rfl
          | true =>
            have := (iff'.mp hh).2
            rw [node_false le nb] at this
            cases this
        | true =>
          obtain ⟨x, bs, ee, hbs, ok⟩ := node_parts nb
          rw [ee] at nb fe de hk hn iff'
          obtain ⟨rfl⟩ := (by injection ee : xs = [.str x, .tuple bs])
          obtain ⟨k1, k2, k4⟩ := kids hbs ok fe
          have lb : bs.length ≤ 1000000 := by
            have := len_le_sz bs
            have e2 : sz (.tuple [.str x, .tuple bs]) = 1 + (1 + x.length + (1 + szAll bs + 0)) := by simp only [sz, szAll]
            omega
          have lab : (ab.map PyData.str).length + [PyData.str x].length ≤ most := by simp [most]; omega
          simp
          refine wr_map ?_
          simp
          refine Keep.mk ⟨by unfold most; omega, fun b => .tuple [sndD b, .tuple ((ab ++ [x]).map .str)], fun b => [some (.sh d), some (.ow (.lst (encW W'))), some (.sh (.int k)), some (.sh (.tuple [.str x, .tuple bs])), some (.sh (.tuple (ab.map .str))), some (.sh b)], rfl, fun b hb => ?_, ?_⟩
          · obtain ⟨v, t, rfl⟩ := okBs_mem ok b hb
            simp [most, bin_addT lab]
          · have l3 : (encW W').length + bs.length ≤ 16777216 := by simp only [List.length_map]; omega
            simp [most] at l3
            simp [most, l3, k3]
            refine ⟨((W' ++ bs.map fun b => (sndD b, ab ++ [x])).map fun p => sz p.1).sum, ?_, W' ++ bs.map fun b => (sndD b, ab ++ [x]), k, ⟨by simp [encW], rfl⟩, rfl, ?_, ?_, ?_, ?_⟩
            · simp only [List.map_append, List.map_map, List.sum_append, Function.comp_def, List.map_cons, List.map_nil, List.sum_cons, List.sum_nil]
              omega
            · simp only [List.map_append, List.map_map, List.sum_append, Function.comp_def]
              omega
            · rw [iff', due_node, if_pos nb, dueAll_some (okBs_mem ok)]
              constructor
              · rintro ⟨q1, q2⟩ p pb hp
                rcases List.mem_append.mp hp with w | w
                · exact q1 (p, pb) w
                · obtain ⟨b, hb, ew⟩ := List.mem_map.mp w
                  cases ew
                  exact q2 b hb
              · intro q
                exact ⟨fun p hp => q p.1 p.2 (List.mem_append_left _ hp), fun b hb => q (sndD b) (ab ++ [x]) (List.mem_append_right _ (List.mem_map_of_mem hb))⟩
            · simp only [List.map_append, List.map_map, List.sum_append, Function.comp_def]
              omega
            · intro p pb hp
              rcases List.mem_append.mp hp with w | w
              · exact hW' (p, pb) w
              · obtain ⟨b, hb, ew⟩ := List.mem_map.mp w
                cases ew
                obtain ⟨f1, f2⟩ := k4 b hb
                refine ⟨f1, ?_⟩
                have de : ab.length + (PyData.tuple [.str x, .tuple bs]).depth ≤ 59 := de
                simp only [List.length_append, List.length_cons, List.length_nil]
                omega
end Pv.X

/-! PxI: the law's own look at a reader. -/
set_option linter.all false
set_option maxRecDepth 100000
set_option maxHeartbeats 2000000
namespace Pv.X
open PySem

def dueR : Option Nat → Int
  | some n => n
  | none => -1
@[simp] theorem dueR_some {n : Nat} : dueR (some n) = n := rfl
@[simp] theorem dueR_none : dueR none = -1 := rfl
def Fdue (A Z : Str) (r : Nat) : Fn := ⟨8, 2, [], [(.ifs (.not (.prim (.isi .tuple) [(.var 0)])) [(.ret (.neg (.cst (.int (1)))))] []), (.ifs (.cmp .eq (.var 0) (.tup [])) [(.ret (.cst (.int (1))))] []), (.ifs (.or [(.cmp .ne (.prim .len [(.var 0)]) (.cst (.int (2)))), (.not (.prim (.isi .str) [(.idx (.var 0) (.cst (.int (0))))])), (.cmp .inn (.idx (.var 0) (.cst (.int (0)))) (.var 1)), (.not (.prim (.isi .tuple) [(.idx (.var 0) (.cst (.int (1))))]))]) [(.ret (.neg (.cst (.int (1)))))] []), (.ifs (.or [(.not (.chain .le .le (.cst (.int (1))) (.prim .len [(.idx (.var 0) (.cst (.int (0))))]) (.cst (.int (8))))), (.not (.prim .all [(.comp [7] (.it (.idx (.var 0) (.cst (.int (0))))) (.name 7) [] (.chain .le .le (.cst (.str A)) (.var 7) (.cst (.str Z))))])), (.cmp .eq (.idx (.var 0) (.cst (.int (1)))) (.tup []))]) [(.ret (.neg (.cst (.int (1)))))] []), (.asg (.tup [(.name 3), (.name 4)]) (.tup [(.neg (.cst (.int (1)))), (.cst (.int (0)))])), (.loop (.it (.idx (.var 0) (.cst (.int (1))))) (.name 2) [(.ifs (.or [(.not (.prim (.isi .tuple) [(.var 2)])), (.cmp .ne (.prim .len [(.var 2)]) (.cst (.int (2))))]) [(.ret (.neg (.cst (.int (1)))))] []), (.asg (.name 5) (.idx (.var 2) (.cst (.int (0))))), (.ifs (.or [(.not (.prim (.isi .int) [(.var 5)])), (.prim (.isi .bool) [(.var 5)]), (.not (.chain .lt .le (.var 3) (.var 5) (.bin .pow (.cst (.int (10))) (.cst (.int (9))))))]) [(.ret (.neg (.cst (.int (1)))))] []), (.asg (.name 6) (.call r [0, 1] [(.val (.idx (.var 2) (.cst (.int (1))))), (.val (.bin .add (.var 1) (.lst [(.idx (.var 0) (.cst (.int (0))))])))])), (.ifs (.cmp .lt (.var 6) (.cst (.int (0)))) [(.ret (.neg (.cst (.int (1)))))] []), (.par 3 4 (.var 5) (.bin .add (.var 4) (.var 6)))]), (.retV 4)]⟩
def DueOk (Φ : Nat → List Val → CR) (i c : Nat) : Prop := ∀ (d : PyData) (ab : List Str) (Q : Val → List MO → Prop) (E : Exn → List MO → Prop), few d = true → d.depth ≤ c → ab.length + c ≤ 1000 → Q (.sh (.int (dueR (due d ab)))) [] → WC (Φ i [.sh d, .sh (.list (ab.map .str))]) Q E
def dueC (bs : List PyData) (ab : List Str) (p : Int) (l : Nat) : Option Nat := if okBs bs p = true then (dueAll bs ab).map (l + ·) else none
theorem dueC_pair {a t : PyData} {r : List PyData} {ab : List Str} {p : Int} {l : Nat} (h : ∀ v, a = .int v → ¬ (p < v ∧ v ≤ 1000000000)) : dueC (.tuple [a, t] :: r) ab p l = none := by
  unfold dueC
  rw [if_neg]
  cases a with
  | int v =>
    rw [okBs_int]
    have := h v rfl
    intro q
    simp at q
    exact this ⟨q.1.1, q.1.2⟩
  | _ => rw [okBs_val (by intro v e; cases e)]; simp
theorem dueC_cons {v : Int} {t : PyData} {r : List PyData} {ab : List Str} {p : Int} {l : Nat} (h : p < v ∧ v ≤ 1000000000) : dueC (.tuple [.int v, t] :: r) ab p l = (match due t ab with
    | some a => dueC r ab v (l + a)
    | none => none) := by
  have e : dueAll (.tuple [.int v, t] :: r) ab = (match due t ab, dueAll r ab with
      | some a, some b => some (a + b)
      | _, _ => none) := by rw [dueAll]; try rfl
  unfold dueC
  rw [okBs_int, decide_eq_true h.1, decide_eq_true h.2, e]
  cases due t ab with
  | none => simp
  | some a =>
    cases dueAll r ab with
    | none => simp
    | some b => simp [Nat.add_assoc]
theorem due_step (A Z : Str) (hA : A.cps.toList = [97]) (hZ : Z.cps.toList = [122]) (Φ Φ' : Nat → List Val → CR) (i r c : Nat) (h : ∀ args, Φ i args = (Fdue A Z r).run Φ' args) (R : ∀ c', c = c' + 1 → DueOk Φ' r c') : DueOk Φ i c := by
  intro d ab Q E hf hd hab hQ
  rw [h]
  refine wc_run (by rfl) ?_
  have no : due d ab = none → Q (.sh (.int (-1))) [] := fun e => by rw [e] at hQ; exact hQ
  rcases tup_cases d with ⟨xs, rfl⟩ | hty
  rotate_left
  · simp [Fdue, Fn.start, hty, owPos, lentAll]
    refine no (node_false (fun q => by rw [q] at hty; cases hty) ?_)
    cases d <;> first | (cases hty; done) | rfl
  match xs, hf, hd, hQ, no with
  | [], hf, hd, hQ, no =>
    simp [Fdue, Fn.start, owPos, lentAll, most]
    rw [due_leaf] at hQ
    exact hQ
  | [a], hf, hd, hQ, no =>
    simp [Fdue, Fn.start, owPos, lentAll, most]
    exact no (node_false (by simp) (by simp [nodeB]))
  | a :: b :: e :: rr, hf, hd, hQ, no =>
    have hl : ((rr.length : Int) + 1 + 1 + 1 = 2) = False := by simp; omega
    simp [Fdue, Fn.start, hl, owPos, lentAll, most]
    exact no (node_false (by simp) (by simp [nodeB]))
  | [a, b], hf, hd, hQ, no =>
    have hfab : few a = true ∧ few b = true := by
      simp [few, fewAll] at hf
      exact hf.2
    have nf : nodeB (.tuple [a, b]) ab = false → Q (.sh (.int (-1))) [] := fun q => no (node_false (by simp) q)
    cases ha : isTy .str a with
    | false =>
      simp [Fdue, Fn.start, most, ha, owPos, lentAll]
      exact nf (by cases a <;> first | (cases ha; done) | (cases b <;> rfl))
    | true =>
    obtain ⟨x, rfl⟩ : ∃ x, a = .str x := by cases a <;> first | exact ⟨_, rfl⟩ | cases ha
    by_cases hin : x ∈ ab
    · simp [Fdue, Fn.start, most, hin, owPos, lentAll]
      exact nf (by cases b <;> simp [nodeB, hin])
    rcases tup_cases b with ⟨bs, rfl⟩ | htb
    rotate_left
    · simp [Fdue, Fn.start, most, hin, htb, owPos, lentAll]
      exact nf (by cases b <;> first | (cases htb; done) | simp [nodeB])
    have hx : x.length ≤ most := by simpa [few] using hfab.1
    by_cases l1 : 1 ≤ x.length
    rotate_left
    · have l1' : ¬ (1 : Int) ≤ x.length := by omega
      simp [Fdue, Fn.start, most, hin, pr_lenS hx, l1', owPos, lentAll]
      refine nf ?_
      have : ¬ 0 < x.length := by omega
      simp [nodeB, isCellS, this]
    by_cases l8 : x.length ≤ 8
    rotate_left
    · have l1' : (1 : Int) ≤ x.length := by omega
      have l8' : ¬ (x.length : Int) ≤ 8 := by omega
      simp [Fdue, Fn.start, most, hin, pr_lenS hx, l1', l8', owPos, lentAll]
      refine nf ?_
      simp [nodeB, isCellS, l8]
    have l1' : (1 : Int) ≤ x.length := by omega
    have l8' : (x.length : Int) ≤ 8 := by omega
    simp [Fdue, Fn.start, most, hin, pr_lenS hx, l1', l8']
    refine wr_map ?_
    simp
    have lx : x.cps.size = x.length := rfl
    refine Keep.mk ⟨by simp only [List.length_map, Array.length_toList]; unfold most; omega, fun d => match d with
      | .str y => .bool (!decide (y.cps.toList < A.cps.toList) && !decide (Z.cps.toList < y.cps.toList))
      | _ => .none, fun d => [some (.sh (.tuple [.str x, .tuple bs])), some (.sh (.list (ab.map .str))), none, none, none, none, none, some (.sh d)], rfl, fun d hd => ?_, ?_⟩
    · obtain ⟨cc, hc, rfl⟩ := List.mem_map.mp hd
      simp
      by_cases q : [cc] < A.cps.toList
      · simp [q]
      · simp [q]
    have cs : isCellS x = x.cps.toList.all fun c => !decide ([c] < A.cps.toList) && !decide (Z.cps.toList < [c]) := by
      unfold isCellS
      rw [decide_eq_true (by omega : 0 < x.length), decide_eq_true l8]
      simp only [Bool.true_and]
      congr 1
      funext c
      rw [hA, hZ, Bool.eq_iff_iff]
      simp [List.cons_lt_cons_iff]
    simp [Function.comp_def]
    have cs2 : (x.cps.all fun x => !decide (#[x] < A.cps) && !decide (Z.cps < #[x])) = isCellS x := by
      have g1 : ∀ c, decide (#[c] < A.cps) = decide ([c] < A.cps.toList) := fun c => decide_eq_decide.mpr Iff.rfl
      have g2 : ∀ c, decide (Z.cps < #[c]) = decide (Z.cps.toList < [c]) := fun c => decide_eq_decide.mpr Iff.rfl
      simp only [g1, g2]
      rw [cs]
      exact Array.all_toList.symm
    rw [cs2]
    cases hcs : isCellS x with
    | false =>
      simp [owPos, lentAll]
      exact nf (by simp [nodeB, hcs])
    | true =>
    cases hbs : bs.isEmpty with
    | true =>
      simp [hbs, most, owPos, lentAll]
      exact nf (by simp [nodeB, hbs])
    | false =>
    simp [hbs, most]
    have whole : due (.tuple [.str x, .tuple bs]) ab = dueC bs (ab ++ [x]) (-1) 0 := by
      rw [due_node]
      unfold dueC
      simp [nodeB, hcs, hin, hbs]
    have db : PyData.depthAll bs + 2 ≤ c := by
      simp only [depth_tuple, PyData.depthAll, depth_str] at hd
      omega
    have fb : fewAll bs = true := by
      have := hfab.2
      simp [few] at this
      exact this.2
    have em : ab.map PyData.str ++ [.str x] = (ab ++ [x]).map .str := by simp
    have lab : (ab.map PyData.str).length + [PyData.str x].length ≤ most := by simp [most]; omega
    have e9 : binD .pow (.int 10) (.int 9) = some (.sh (.int 1000000000)) := by
      rw [bin_pow (by decide)]
      rfl
    rw [whole] at hQ no
    refine wr_loop ?_
    simp
    refine ⟨fun rest en => ∃ (p : Int) (l : Nat) (u2 u5 u6 : Option Val), en = [some (.sh (.tuple [.str x, .tuple bs])), some (.sh (.list (ab.map .str))), u2, some (.sh (.int p)), some (.sh (.int l)), u5, u6, none] ∧ (∀ b ∈ rest, b ∈ bs) ∧ dueC bs (ab ++ [x]) (-1) 0 = dueC rest (ab ++ [x]) p l, ⟨-1, 0, none, none, none, rfl, fun _ h => h, rfl⟩, ?_, ?_⟩
    · rintro b rest en ⟨p, l, u2, u5, u6, rfl, hsub, eq⟩
      rcases tup_cases b with ⟨ys, rfl⟩ | htb
      rotate_left
      · simp [htb, owPos, lentAll]
        refine no ?_
        rw [eq]
        unfold dueC
        rw [if_neg]
        rw [okBs_pair (by cases b <;> first | (cases htb; done) | rfl)]
        simp
      match ys, hsub, eq with
      | [], hsub, eq =>
        simp [owPos, lentAll]
        refine no ?_
        rw [eq]
        unfold dueC
        rw [if_neg (by rw [okBs_pair rfl]; simp)]
      | [y], hsub, eq =>
        simp [owPos, lentAll]
        refine no ?_
        rw [eq]
        unfold dueC
        rw [if_neg (by rw [okBs_pair rfl]; simp)]
      | y :: z :: w :: r', hsub, eq =>
        have hl : ((r'.length : Int) + 1 + 1 + 1 = 2) = False := by simp; omega
        simp [hl, owPos, lentAll]
        refine no ?_
        rw [eq]
        unfold dueC
        rw [if_neg (by rw [okBs_pair rfl]; simp)]
      | [v, t], hsub, eq =>
        simp
        cases v with
        | int v =>
          by_cases h1 : p < v
          · by_cases h2 : v ≤ 1000000000
            · simp [h1, e9, h2, bin_addL lab, most]
              rw [em]
              have hb := hsub (.tuple [.int v, t]) List.mem_cons_self
              have ft := fewAll_iff.mp fb _ hb
              have dt : PyData.depth (.tuple [.int v, t]) ≤ PyData.depthAll bs := depthAll_le.mp (Nat.le_refl _) _ hb
              simp only [depth_tuple, PyData.depthAll, depth_int] at dt
              obtain ⟨c', rfl⟩ : ∃ c', c = c' + 1 := ⟨c - 1, by omega⟩
              refine R c' rfl t (ab ++ [x]) _ _ (by simp [few, fewAll] at ft; exact ft.2) (by omega) (by simp; omega) ?_
              rw [dueC_cons ⟨h1, h2⟩] at eq
              cases hd2 : due t (ab ++ [x]) with
              | none =>
                rw [hd2] at eq
                simp [owPos, lentAll]
                exact no eq
              | some a =>
                rw [hd2] at eq
                have ha0 : ¬ ((a : Int) < 0) := by omega
                simp [ha0]
                exact ⟨v, l + a, ⟨rfl, by simp⟩, fun b hb => hsub b (List.mem_cons_of_mem _ hb), eq⟩
            · simp [h1, e9, h2, owPos, lentAll]
              refine no ?_
              rw [eq, dueC_pair]
              rintro v' e ⟨g1, g2⟩
              cases e
              exact h2 g2
          · simp [h1, owPos, lentAll]
            refine no ?_
            rw [eq, dueC_pair]
            rintro v' e ⟨g1, g2⟩
            cases e
            exact h1 g1
        | _ =>
          simp [owPos, lentAll]
          refine no ?_
          rw [eq, dueC_pair]
          rintro v' e
          cases e
    · rintro en ⟨p, l, u2, u5, u6, rfl, hsub, eq⟩
      simp [owPos, lentAll]
      rw [eq] at hQ
      unfold dueC at hQ
      simp [okBs, dueAll] at hQ
      exact hQ
end Pv.X

/-! PxJ: how large data are; repr; parts of tuples; trees. -/
set_option linter.all false
set_option maxRecDepth 100000
set_option maxHeartbeats 2000000
namespace Pv.X
open PySem

mutual
/-- numbers within B, signs of texts, dicts empty -/
def okI (B : Nat) : PyData → Bool
  | .int i => decide (i.natAbs ≤ B)
  | .str x => x.cps.toList.all fun c => decide (c < 16 ^ 8)
  | .tuple xs => okAll B xs
  | .list xs => okAll B xs
  | .none => true
  | .bool _ => true
  | .dict kvs => kvs.isEmpty
def okAll (B : Nat) : List PyData → Bool
  | [] => true
  | x :: r => okI B x && okAll B r
end
theorem okAll_iff {B : Nat} : ∀ {xs : List PyData}, okAll B xs = true ↔ ∀ x ∈ xs, okI B x = true
  | [] => by simp [okAll]
  | x :: r => by simp [okAll, okAll_iff (xs := r)]
mutual
theorem okI.mono {B C : Nat} (h : B ≤ C) : ∀ (d : PyData), okI B d = true → okI C d = true
  | .int i, q => by simp [okI] at q ⊢; omega
  | .str x, q => by simpa [okI] using q
  | .tuple xs, q => by simp only [okI] at q ⊢; exact okAll.mono h xs q
  | .list xs, q => by simp only [okI] at q ⊢; exact okAll.mono h xs q
  | .none, _ => by simp [okI]
  | .bool _, _ => by simp [okI]
  | .dict kvs, q => by simpa [okI] using q
theorem okAll.mono {B C : Nat} (h : B ≤ C) : ∀ (xs : List PyData), okAll B xs = true → okAll C xs = true
  | [], _ => by simp [okAll]
  | x :: r, q => by
    simp only [okAll, Bool.and_eq_true] at q ⊢
    exact ⟨okI.mono h x q.1, okAll.mono h r q.2⟩
end
mutual
theorem okI.few {B : Nat} : ∀ (d : PyData), okI B d = true → sz d ≤ most → few d = true
  | .int i, _, _ => by simp [few]
  | .str x, _, z => by simp only [sz] at z; simp only [few, decide_eq_true_eq]; omega
  | .tuple xs, q, z => by
    have := len_le_sz xs
    simp only [okI] at q
    simp only [sz] at z
    simp only [few, Bool.and_eq_true, decide_eq_true_eq]
    exact ⟨by omega, okAll.few xs q (by omega)⟩
  | .list xs, q, z => by
    have := len_le_sz xs
    simp only [okI] at q
    simp only [sz] at z
    simp only [few, Bool.and_eq_true, decide_eq_true_eq]
    exact ⟨by omega, okAll.few xs q (by omega)⟩
  | .none, _, _ => by simp [few]
  | .bool _, _, _ => by simp [few]
  | .dict kvs, q, _ => by simpa [okI, few] using q
theorem okAll.few {B : Nat} : ∀ (xs : List PyData), okAll B xs = true → szAll xs ≤ most → fewAll xs = true
  | [], _, _ => by simp [fewAll]
  | x :: r, q, z => by
    simp only [okAll, Bool.and_eq_true] at q
    simp only [szAll] at z
    simp only [fewAll, Bool.and_eq_true]
    exact ⟨okI.few x q.1 (by omega), okAll.few r q.2 (by omega)⟩
end
mutual
theorem okI.short {B : Nat} (hB : B ≤ 99999999999) : ∀ (d : PyData), okI B d = true → d.leavesShort 13 = true
  | .int i, q => by
    simp [okI] at q
    simp only [PyData.leavesShort, decide_eq_true_eq]
    exact PyData.shown_int_le2 (by omega) (by omega)
  | .str x, q => by simpa [okI, PyData.leavesShort] using q
  | .tuple xs, q => by simp only [okI] at q; simp only [PyData.leavesShort]; exact okAll.short hB xs q
  | .list xs, q => by simp only [okI] at q; simp only [PyData.leavesShort]; exact okAll.short hB xs q
  | .none, _ => by simp [PyData.leavesShort]
  | .bool _, _ => by simp [PyData.leavesShort]
  | .dict kvs, q => by
    simp only [okI] at q
    cases kvs with
    | nil => simp [PyData.leavesShort, PyData.leavesShortKv]
    | cons a b => cases q
theorem okAll.short {B : Nat} (hB : B ≤ 99999999999) : ∀ (xs : List PyData), okAll B xs = true → PyData.leavesShortAll 13 xs = true
  | [], _ => by simp [PyData.leavesShortAll]
  | x :: r, q => by
    simp only [okAll, Bool.and_eq_true] at q
    simp only [PyData.leavesShortAll, Bool.and_eq_true]
    exact ⟨okI.short hB x q.1, okAll.short hB r q.2⟩
end
theorem log_small {n : Nat} (h : n ≤ 99999999999) : n.log2 < 1920 := by
  by_cases h0 : n = 0
  · subst h0; decide
  · refine (Nat.log2_lt h0).mpr ?_
    exact Nat.lt_of_le_of_lt h (by decide +kernel)
mutual
theorem okI.showable {B : Nat} (hB : B ≤ 99999999999) : ∀ (d : PyData), okI B d = true → d.showable = true
  | .int i, q => by
    simp [okI] at q
    simp only [PyData.showable, decide_eq_true_eq]
    exact log_small (by omega)
  | .str x, q => by simp [PyData.showable]
  | .tuple xs, q => by simp only [okI] at q; simp only [PyData.showable]; exact okAll.showable hB xs q
  | .list xs, q => by simp only [okI] at q; simp only [PyData.showable]; exact okAll.showable hB xs q
  | .none, _ => by simp [PyData.showable]
  | .bool _, _ => by simp [PyData.showable]
  | .dict kvs, q => by
    simp only [okI] at q
    cases kvs with
    | nil => simp [PyData.showable, PyData.showableKv]
    | cons a b => cases q
theorem okAll.showable {B : Nat} (hB : B ≤ 99999999999) : ∀ (xs : List PyData), okAll B xs = true → PyData.showableAll xs = true
  | [], _ => by simp [PyData.showableAll]
  | x :: r, q => by
    simp only [okAll, Bool.and_eq_true] at q
    simp only [PyData.showableAll, Bool.and_eq_true]
    exact ⟨okI.showable hB x q.1, okAll.showable hB r q.2⟩
end
mutual
theorem okI.bulk {B : Nat} : ∀ (d : PyData), okI B d = true → d.bulk + 1 ≤ 2 * sz d
  | .int i, _ => by simp [PyData.bulk, sz]
  | .str x, _ => by
    simp only [PyData.bulk, sz]
    have : x.length = x.cps.size := rfl
    omega
  | .tuple xs, q => by simp only [okI] at q; simp only [PyData.bulk, sz]; have := okAll.bulk xs q; have := len_le_sz xs; omega
  | .list xs, q => by simp only [okI] at q; simp only [PyData.bulk, sz]; have := okAll.bulk xs q; omega
  | .none, _ => by simp [PyData.bulk, sz]
  | .bool _, _ => by simp [PyData.bulk, sz]
  | .dict kvs, q => by
    simp only [okI] at q
    cases kvs with
    | nil => simp [PyData.bulk, PyData.bulkKv, sz]
    | cons a b => cases q
theorem okAll.bulk {B : Nat} : ∀ (xs : List PyData), okAll B xs = true → PyData.bulkAll xs ≤ 2 * szAll xs
  | [], _ => by simp [PyData.bulkAll]
  | x :: r, q => by
    simp only [okAll, Bool.and_eq_true] at q
    have := okI.bulk x q.1
    have := okAll.bulk r q.2
    simp only [PyData.bulkAll, szAll]
    omega
end
theorem pr_repr {B : Nat} {d : PyData} (hB : B ≤ 99999999999) (ok : okI B d = true) (hs : sz d ≤ 500000) (hd : d.depth ≤ 190) : primD .repr [d] = some (.sh (.str d.shown)) := by
  have h1 := okI.showable hB d ok
  have hb := okI.bulk d ok
  have h2 := PyData.shown_fits_bulk (B := 13) (by decide) (by decide) (okI.short hB d ok) (by
    have : (2 : Nat) ^ 20 = 1048576 := by decide
    omega)
  have e : primD .repr [d] = if d.showable = true ∧ d.shown.length ≤ most ∧ d.depth ≤ deepest then some (.sh (.str d.shown)) else none := by cases d <;> rfl
  rw [e, if_pos ⟨h1, h2, hd⟩]
theorem pr_reprb {b : Bool} : primD .repr [.bool b] = some (.sh (.str (PyData.shown (.bool b)))) := pr_repr (B := 0) (by decide) (by simp [okI]) (by simp [sz]) (by simp)
/-! ### parts of a tuple -/
theorem leafAll_app {xs ys : List PyData} : leafAll (xs ++ ys) = leafAll xs + leafAll ys := by
  rw [leafAll_sum, leafAll_sum, leafAll_sum, List.map_append, List.sum_append]
theorem szAll_app {xs ys : List PyData} : szAll (xs ++ ys) = szAll xs + szAll ys := by
  rw [szAll_sum, szAll_sum, szAll_sum, List.map_append, List.sum_append]
theorem sub_sum {f : PyData → Nat} {xs ys : List PyData} (h : xs.Sublist ys) : (xs.map f).sum ≤ (ys.map f).sum := by
  induction h with
  | slnil => exact Nat.le_refl _
  | cons a _ ih => rw [List.map_cons, List.sum_cons]; omega
  | cons_cons a _ ih => rw [List.map_cons, List.sum_cons, List.map_cons, List.sum_cons]; omega
theorem leafAll_sub {xs ys : List PyData} (h : xs.Sublist ys) : leafAll xs ≤ leafAll ys := by
  rw [leafAll_sum, leafAll_sum]; exact sub_sum h
theorem szAll_sub {xs ys : List PyData} (h : xs.Sublist ys) : szAll xs ≤ szAll ys := by
  rw [szAll_sum, szAll_sum]; exact sub_sum h
theorem depthAll_sub {xs ys : List PyData} (h : ∀ x ∈ xs, x ∈ ys) : PyData.depthAll xs ≤ PyData.depthAll ys :=
  depthAll_le.mpr fun x hx => depthAll_le.mp (Nat.le_refl _) x (h x hx)
theorem cutL_sub {xs : List PyData} {lo hi : Option Int} : (cutL xs lo hi).Sublist xs := (List.take_sublist _ _).trans (List.drop_sublist _ _)
theorem leafN_tuple {xs : List PyData} : leafN (.tuple xs) ≤ leafAll xs + 1 := by
  simp only [leafN]
  split <;> omega
theorem leafAll_le {xs : List PyData} : leafAll xs ≤ leafN (.tuple xs) := by
  simp only [leafN]
  cases xs with
  | nil => simp [leafAll]
  | cons a r => simp
theorem leafN_perm {xs ys : List PyData} (h : xs.Perm ys) : leafAll xs = leafAll ys := by
  rw [leafAll_sum, leafAll_sum]
  exact (h.map _).sum_nat
/-! ### trees as data -/
mutual
theorem tr_ok : ∀ (t : Tr) {A : Str → Prop} {B : Nat}, 1000000000 ≤ B → (∀ x, A x → IsCell x) → t.Good A → okI B t.data = true
  | .leaf, A, B, _, _, _ => by simp [Tr.data, okI, okAll]
  | .node x bs, A, B, hB, hA, g => by
    simp only [Tr.data, okI, okAll, Bool.and_true, Bool.and_eq_true]
    obtain ⟨_, _, hc⟩ := hA x g.1
    refine ⟨List.all_eq_true.mpr fun c h => decide_eq_true ?_, bs_ok bs hB (fun y hy => hA y hy.1) (by decide) g.2.2⟩
    have := (hc c h).2
    omega
theorem bs_ok : ∀ (bs : Bs) {A : Str → Prop} {B : Nat} {p : Int}, 1000000000 ≤ B → (∀ x, A x → IsCell x) → -1 ≤ p → bs.Good A p → okAll B bs.datas = true
  | .nil, A, B, p, _, _, _, _ => by simp [Bs.datas, okAll]
  | .cons v t r, A, B, p, hB, hA, hp, g => by
    obtain ⟨g1, g2, g3, g4⟩ := g
    simp only [Bs.datas, okAll, okI, Bool.and_true, Bool.and_eq_true, decide_eq_true_eq]
    exact ⟨⟨by omega, tr_ok t hB hA g3⟩, bs_ok r hB hA (by omega) g4⟩
end
mutual
theorem tr_leaf : ∀ (t : Tr) {A : Str → Prop}, t.Good A → leafN t.data = t.leaves ∧ 1 ≤ t.leaves
  | .leaf, A, _ => by simp [Tr.data, leafN, Tr.leaves]
  | .node x bs, A, g => by
    obtain ⟨h1, h2⟩ := bs_leaf bs g.2.2
    cases bs with
    | nil => exact absurd rfl g.2.1
    | cons v t r =>
      have h3 := h2 (by intro e; cases e)
      simp only [Tr.data, leafN, leafAll, Tr.leaves, Bs.datas] at h1 ⊢
      simp at h1 ⊢
      refine ⟨by omega, h3⟩
theorem bs_leaf : ∀ (bs : Bs) {A : Str → Prop} {p : Int}, bs.Good A p → leafAll bs.datas = bs.leaves ∧ (bs ≠ .nil → 1 ≤ bs.leaves)
  | .nil, A, p, _ => by simp [Bs.datas, leafAll, Bs.leaves]
  | .cons v t r, A, p, g => by
    obtain ⟨g1, g2, g3, g4⟩ := g
    obtain ⟨h1, h2⟩ := tr_leaf t g3
    obtain ⟨h3, h4⟩ := bs_leaf r g4
    simp only [Bs.datas, leafAll, leafN, Bs.leaves]
    simp
    refine ⟨by omega, by omega⟩
end
mutual
theorem tr_depth : ∀ (t : Tr), t.data.depth ≤ 3 * t.height + 1
  | .leaf => by simp [Tr.data]
  | .node x bs => by
    have := bs_depth bs
    simp only [Tr.data, depth_tuple, PyData.depthAll, depth_str, Tr.height]
    omega
theorem bs_depth : ∀ (bs : Bs), PyData.depthAll bs.datas ≤ 3 * bs.height + 2
  | .nil => by simp [Bs.datas, PyData.depthAll]
  | .cons v t r => by
    have h1 := tr_depth t
    have h2 := bs_depth r
    simp only [Bs.datas, depth_tuple, PyData.depthAll, depth_int, Bs.height]
    omega
end
mutual
theorem tr_sz : ∀ (t : Tr) {A : Str → Prop} {c : Nat}, (∀ x, A x → IsCell x) → t.Good A → t.height ≤ c → sz t.data ≤ t.leaves * (20 * c + 2)
  | .leaf, A, c, _, _, _ => by simp [Tr.data, sz, szAll, Tr.leaves]
  | .node x bs, A, c, hA, g, hc => by
    simp only [Tr.height] at hc
    obtain ⟨c', rfl⟩ : ∃ c', c = c' + 1 := ⟨c - 1, by omega⟩
    have h1 := bs_sz bs (c := c') (fun y hy => hA y hy.1) g.2.2 (by omega)
    have h2 := (bs_leaf bs g.2.2).2 g.2.1
    have h3 := (hA x g.1).2.1
    simp only [Tr.data, sz, szAll, Tr.leaves]
    have e : bs.leaves * (20 * (c' + 1) + 2) = bs.leaves * (20 * c' + 4) + 18 * bs.leaves := by
      rw [show 20 * (c' + 1) + 2 = (20 * c' + 4) + 18 by omega, Nat.mul_add, Nat.mul_comm bs.leaves 18]
    omega
theorem bs_sz : ∀ (bs : Bs) {A : Str → Prop} {c : Nat} {p : Int}, (∀ x, A x → IsCell x) → bs.Good A p → bs.height ≤ c → szAll bs.datas ≤ bs.leaves * (20 * c + 4)
  | .nil, A, c, p, _, _, _ => by simp [Bs.datas, szAll]
  | .cons v t r, A, c, p, hA, g, hc => by
    obtain ⟨g1, g2, g3, g4⟩ := g
    simp only [Bs.height] at hc
    have h1 := tr_sz t hA g3 (c := c) (by omega)
    have h2 := bs_sz r hA g4 (c := c) (by omega)
    have h3 := (tr_leaf t g3).2
    simp only [Bs.datas, sz, szAll, Bs.leaves, Nat.add_mul]
    have e : t.leaves * (20 * c + 4) = t.leaves * (20 * c + 2) + 2 * t.leaves := by
      rw [show 20 * c + 4 = (20 * c + 2) + 2 by omega, Nat.mul_add, Nat.mul_comm t.leaves 2]
    omega
end
end Pv.X

/-! PzA: dicts in plain words; a run through a tree. -/
set_option linter.all false
set_option maxRecDepth 100000
set_option maxHeartbeats 2000000
namespace Pv.X
open PySem

@[simp] theorem keyD_int {i : Int} : keyD (.int i) = some (.inl i) := rfl
@[simp] theorem keyD_str {x : Str} : keyD (.str x) = some (.inr x) := rfl
@[simp] theorem cmp_inD {a : PyData} {ps : List (PyData × PyData)} : cmpD .inn a (.dict ps) = (keyD a).map fun k => (lookD ps k).isSome := by cases a <;> rfl
@[simp] theorem cmp_ninD {a : PyData} {ps : List (PyData × PyData)} : cmpD .nin a (.dict ps) = (keyD a).map fun k => !(lookD ps k).isSome := by cases a <;> rfl
@[simp] theorem idx_dictD {ps : List (PyData × PyData)} {k : PyData} : idxD (.dict ps) k = (keyD k).bind (lookD ps) := by cases k <;> rfl
@[simp] theorem pr_dicL {xs : List PyData} : primD .dict [.list xs] = (pairsD xs).map fun ps => .ow (.dic (mergeD [] ps)) := rfl
@[simp] theorem pr_dicT {xs : List PyData} : primD .dict [.tuple xs] = (pairsD xs).map fun ps => .ow (.dic (mergeD [] ps)) := rfl
@[simp] theorem pr_dicD {ps : List (PyData × PyData)} : primD .dict [.dict ps] = some (.ow (.dic ps)) := rfl
theorem look_nil {k : L2.Key} : lookD [] k = none := rfl
theorem look_cons {a d : PyData} {ps : List (PyData × PyData)} {k : L2.Key} : lookD ((a, d) :: ps) k = if keyD a = some k then some d else lookD ps k := by
  unfold lookD
  rw [List.find?_cons]
  by_cases e : keyD a = some k
  · simp [e]
  · simp [e]
theorem keyD_B {k : L2.Key} : keyD (keyB k) = some k := by cases k <;> rfl
theorem look_map {k k' : L2.Key} {d : PyData} : ∀ (ps : List (PyData × PyData)), lookD (ps.map fun p => if keyD p.1 = some k then (p.1, d) else p) k' = if k' = k then (lookD ps k).map (fun _ => d) else lookD ps k'
  | [] => by simp [look_nil]
  | (a, e) :: ps => by
    rw [List.map_cons]
    by_cases h : keyD a = some k
    · rw [if_pos (by exact h), look_cons, look_cons, look_cons, look_map ps, h]
      by_cases h2 : k' = k
      · subst h2; simp
      · have : ¬ (some k = some k') := fun z => h2 (Option.some.inj z).symm
        simp [h2, this]
    · rw [if_neg (by exact h), look_cons, look_cons, look_cons, look_map ps, if_neg h]
      by_cases h2 : k' = k
      · subst h2; simp [h]
      · simp [h2]
theorem look_app {k k' : L2.Key} {d : PyData} : ∀ (ps : List (PyData × PyData)), lookD ps k = none → lookD (ps ++ [(keyB k, d)]) k' = if k' = k then some d else lookD ps k'
  | [], _ => by
    rw [List.nil_append, look_cons, keyD_B, look_nil]
    by_cases h : k' = k
    · subst h; simp
    · have : ¬ (some k = some k') := fun z => h (Option.some.inj z).symm
      simp [h, this]
  | (a, e) :: ps, hn => by
    rw [look_cons] at hn
    by_cases h : keyD a = some k
    · rw [if_pos h] at hn; cases hn
    · rw [if_neg h] at hn
      rw [List.cons_append, look_cons, look_cons, look_app ps hn]
      by_cases h2 : k' = k
      · subst h2; simp [h]
      · simp [h2]
theorem look_put {k k' : L2.Key} {d : PyData} {ps : List (PyData × PyData)} : lookD (putD ps k d) k' = if k' = k then some d else lookD ps k' := by
  unfold putD
  cases e : lookD ps k with
  | none => simp; exact look_app ps e
  | some v =>
    simp
    rw [look_map, e]
    rfl
/-! ### runs -/
def Bs.get : Bs → Int → Option Tr
  | .nil, _ => none
  | .cons v t r, i => if v = i then some t else r.get i
def Bs.pairs : Bs → List (PyData × PyData)
  | .nil => []
  | .cons v t r => (.int v, t.data) :: r.pairs
theorem get_cons {v i : Int} {t : Tr} {r : Bs} : (Bs.cons v t r).get i = if v = i then some t else r.get i := by rw [Bs.get]
theorem pairs_bs : ∀ bs : Bs, pairsD bs.datas = some bs.pairs
  | .nil => by unfold Bs.datas Bs.pairs; rfl
  | .cons v t r => by
    unfold Bs.datas Bs.pairs pairsD
    rw [pairs_bs r]
    rfl
theorem get_gt {A : Str → Prop} : ∀ (bs : Bs) {p i : Int} {t : Tr}, bs.Good A p → bs.get i = some t → p < i
  | .nil, _, _, _, _, h => by cases h
  | .cons v t r, p, i, t', g, h => by
    unfold Bs.get at h
    unfold Bs.Good at g
    split at h
    · rename_i e; rw [← e]; exact g.1
    · have := get_gt r g.2.2.2 h
      have := g.1
      omega
theorem get_good {A : Str → Prop} : ∀ (bs : Bs) {p i : Int} {t : Tr}, bs.Good A p → bs.get i = some t → t.Good A ∧ t.height ≤ bs.height ∧ t.leaves ≤ bs.leaves
  | .nil, _, _, _, _, h => by cases h
  | .cons v t r, p, i, t', g, h => by
    unfold Bs.get at h
    unfold Bs.Good at g
    unfold Bs.height Bs.leaves
    split at h
    · cases h; exact ⟨g.2.2.1, Nat.le_max_left _ _, Nat.le_add_right _ _⟩
    · obtain ⟨a, b, c⟩ := get_good r g.2.2.2 h
      exact ⟨a, Nat.le_trans b (Nat.le_max_right _ _), by omega⟩
theorem look_bs {A : Str → Prop} : ∀ (bs : Bs) {p : Int} {ps : List (PyData × PyData)} {i : Int}, bs.Good A p → lookD (mergeD ps bs.pairs) (.inl i) = match bs.get i with
    | some t => some t.data
    | none => lookD ps (.inl i)
  | .nil, _, _, _, _ => by unfold Bs.pairs Bs.get mergeD; rfl
  | .cons v t r, p, ps, i, g => by
    unfold Bs.Good at g
    have e : mergeD ps (Bs.pairs (.cons v t r)) = mergeD (putD ps (.inl v) t.data) r.pairs := by
      rw [Bs.pairs, mergeD]
      rfl
    rw [e, look_bs r g.2.2.2, look_put, get_cons]
    by_cases h : v = i
    · subst h
      cases q : r.get v with
      | none => simp
      | some t' =>
        have := get_gt r g.2.2.2 q
        omega
    · have h2 : ¬ (Sum.inl i : L2.Key) = Sum.inl v := fun z => h (Sum.inl.inj z).symm
      rw [if_neg h, if_neg h2]
mutual
/-- status, cells, the last cell -/
def Tr.run (U O D : Str) (vl : Str → Option Int) : Tr → Str × List Str × PyData
  | .leaf => (D, [], .none)
  | .node x bs => match vl x with
    | none => (U, [], .str x)
    | some i => match Bs.run U O D vl i bs with
      | some r => (r.1, x :: r.2.1, r.2.2)
      | none => (O, [x], .str x)
def Bs.run (U O D : Str) (vl : Str → Option Int) (i : Int) : Bs → Option (Str × List Str × PyData)
  | .nil => none
  | .cons v t r => if v = i then some (Tr.run U O D vl t) else Bs.run U O D vl i r
end
theorem run_get {U O D : Str} {vl : Str → Option Int} {i : Int} : ∀ bs : Bs, Bs.run U O D vl i bs = (bs.get i).map (Tr.run U O D vl)
  | .nil => by unfold Bs.run Bs.get; rfl
  | .cons v t r => by
    unfold Bs.run Bs.get
    split
    · rfl
    · exact run_get r
def runD (acc : List Str) (r : Str × List Str × PyData) : PyData := .tuple [.str r.1, .tuple ((acc ++ r.2.1).map .str), r.2.2]
theorem bs_len {A : Str → Prop} : ∀ (bs : Bs) {p : Int}, bs.Good A p → bs.datas.length ≤ bs.leaves
  | .nil, _, _ => by unfold Bs.datas; exact Nat.zero_le _
  | .cons v t r, p, g => by
    unfold Bs.Good at g
    unfold Bs.datas Bs.leaves
    have h1 := (tr_leaf t g.2.2.1).2
    have h2 := bs_len r g.2.2.2
    rw [List.length_cons]
    omega
def isV (i : Int) : PyData → Bool
  | .tuple [.int v, _] => decide (v = i)
  | _ => false
theorem isV_p {i v : Int} {d : PyData} : isV i (.tuple [.int v, d]) = decide (v = i) := rfl
def snd2 : PyData → PyData
  | .tuple [_, t] => t
  | _ => .none
theorem snd2_p {a d : PyData} : snd2 (.tuple [a, d]) = d := rfl
theorem below_eq {A : Str → Prop} {i : Int} : ∀ (bs : Bs) {p : Int}, bs.Good A p → (bs.datas.filter (isV i)).map snd2 = (bs.get i).toList.map Tr.data
  | .nil, _, _ => by unfold Bs.datas Bs.get; rfl
  | .cons v t r, p, g => by
    unfold Bs.Good at g
    rw [Bs.datas, List.filter_cons, get_cons, isV_p]
    by_cases h : v = i
    · subst h
      have e := below_eq (i := v) r g.2.2.2
      have q : r.get v = none := by
        cases q : r.get v with
        | none => rfl
        | some t' =>
          have := get_gt r g.2.2.2 q
          omega
      rw [q] at e
      rw [decide_eq_true rfl, if_pos rfl, if_pos rfl, List.map_cons, snd2_p, e]
      rfl
    · rw [decide_eq_false h, if_neg (by decide), if_neg h]
      exact below_eq r g.2.2.2
end Pv.X

/-! PzB: k05: the law's own run through a reader. -/
set_option linter.all false
set_option maxRecDepth 100000
set_option maxHeartbeats 2000000
namespace Pv.X
open PySem

def Fdue5 (U O D : Str) : Fn := ⟨8, 2, [], [(.asg (.name 2) (.tup [])), (.whl (.cmp .ne (.var 0) (.tup [])) [(.asg (.tup [(.name 4), (.name 5)]) (.var 0)), (.ifs (.cmp .nin (.var 4) (.var 1)) [(.ret (.tup [(.cst (.str U)), (.var 2), (.var 4)]))] []), (.asg (.name 2) (.bin .add (.var 2) (.tup [(.var 4)]))), (.asg (.name 3) (.comp [6, 7] (.it (.var 5)) (.tup [(.name 6), (.name 7)]) [(.cmp .eq (.var 6) (.idx (.var 1) (.var 4)))] (.var 7))), (.ifs (.cmp .eq (.var 3) (.lst [])) [(.ret (.tup [(.cst (.str O)), (.var 2), (.var 4)]))] []), (.asg (.name 0) (.idx (.var 3) (.cst (.int (0)))))]), (.ret (.tup [(.cst (.str D)), (.var 2), (.cst .none)]))]⟩
/-- the dict q holds vl -/
def Holds5 (q : List (PyData × PyData)) (vl : Str → Option Int) : Prop := ∀ x, lookD q (.inr x) = (vl x).map PyData.int
def RunOk (U O D : Str) (Φ : Nat → List Val → CR) (i : Nat) (V : PyData → List (PyData × PyData) → Prop) : Prop := ∀ (t : Tr) (A : Str → Prop) (d : PyData) (q : List (PyData × PyData)) (vl : Str → Option Int) (Q : Val → List MO → Prop) (E : Exn → List MO → Prop), t.Good A → V d q → Holds5 q vl → t.height ≤ 100 → t.leaves ≤ 1000 → Q (.sh (runD [] (t.run U O D vl))) [] → WC (Φ i [.sh t.data, .sh d]) Q E
theorem bs_pair {A : Str → Prop} : ∀ (bs : Bs) {p : Int}, bs.Good A p → ∀ d ∈ bs.datas, ∃ v t, d = .tuple [.int v, t]
  | .nil, _, _, d, h => by unfold Bs.datas at h; cases h
  | .cons v t r, p, g, d, h => by
    unfold Bs.Good at g
    unfold Bs.datas at h
    rcases List.mem_cons.mp h with rfl | h
    · exact ⟨v, _, rfl⟩
    · exact bs_pair r g.2.2.2 d h
theorem due5_ok (U O D : Str) (Φ Φ' : Nat → List Val → CR) (i : Nat) (h : ∀ args, Φ i args = (Fdue5 U O D).run Φ' args) : RunOk U O D Φ i (fun d q => d = .dict q) := by
  intro t A d q vl Q E g hd hq hh hl hQ
  subst hd
  rw [h]
  refine wc_run (by rfl) ?_
  simp [Fdue5, Fn.start, most]
  refine wr_while (fun n en => ∃ (t' : Tr) (B : Str → Prop) (acc : List Str) (u3 u4 u5 : Option Val), en = [some (.sh t'.data), some (.sh (.dict q)), some (.sh (.tuple (acc.map .str))), u3, u4, u5, none, none] ∧ n = t'.height ∧ t'.Good B ∧ acc.length + t'.height ≤ 100 ∧ t'.leaves ≤ 1000 ∧
    runD acc (t'.run U O D vl) = runD [] (t.run U O D vl)) t.height ⟨t, A, [], none, none, none, rfl, rfl, g, by simpa using hh, hl, rfl⟩ ?_
  rintro n en ⟨t', B, acc, u3, u4, u5, rfl, rfl, g', hn, hl', eq⟩
  cases t' with
  | leaf =>
    simp [Tr.data, most, owPos, lentAll]
    rw [Tr.run] at eq
    rw [← eq] at hQ
    simpa [runD] using hQ
  | node x bs =>
    simp [Tr.data, hq x]
    rw [Tr.run] at eq
    rw [Tr.Good] at g'
    rw [Tr.height] at hn
    rw [Tr.leaves] at hl'
    cases hv : vl x with
    | none =>
      simp [hv, most, owPos, lentAll]
      simp only [hv] at eq
      rw [← eq] at hQ
      simpa [runD] using hQ
    | some v =>
      have la : (acc.map PyData.str).length + [PyData.str x].length ≤ most := by simp [most]; omega
      simp [hv, bin_addT la, most]
      refine wr_lc ?_
      simp
      have lb := bs_len bs g'.2.2
      refine Keep.mk ⟨by unfold most; omega, isV v, snd2, fun d => [some (.sh (.tuple [.str x, .tuple bs.datas])), some (.sh (.dict q)), some (.sh (.tuple (acc.map .str ++ [.str x]))), u3, some (.sh (.str x)), some (.sh (.tuple bs.datas)), some (.sh (match d with | .tuple [a, _] => a | _ => .none)), some (.sh (snd2 d))], rfl, fun d hd => ?_, ?_⟩
      · obtain ⟨w, dt, rfl⟩ := bs_pair bs g'.2.2 d hd
        simp [snd2_p, isV_p, hq x, hv]
      · rw [below_eq bs g'.2.2]
        simp only [hv, run_get] at eq
        cases hg : bs.get v with
        | none =>
          simp [most, owPos, lentAll]
          simp only [hg] at eq
          rw [← eq] at hQ
          simpa [runD] using hQ
        | some t2 =>
          obtain ⟨g1, g2, g3⟩ := get_good bs g'.2.2 hg
          simp only [hg] at eq
          simp
          refine ⟨t2.height, by rw [Tr.height]; omega, t2, _, acc ++ [x], ⟨rfl, by simp⟩, rfl, g1, by simp; omega, by omega, ?_⟩
          rw [← eq]
          simp [runD]
def Ffollow (U O D : Str) : Fn := ⟨7, 2, [], [(.par 2 3 (.prim .dict [(.var 1)]) (.lst [])), (.whl (.cmp .ne (.var 0) (.glo (.tuple []))) [(.asg (.tup [(.name 5), (.name 6)]) (.var 0)), (.ifs (.cmp .nin (.var 5) (.var 2)) [(.ret (.tup [(.glo (.str U)), (.prim .tuple [(.var 3)]), (.var 5)]))] []), (.append 3 (.var 5)), (.asg (.name 4) (.dget (.prim .dict [(.var 6)]) (.idx (.var 2) (.var 5)))), (.ifs (.cmp .isN (.var 4) (.cst .none)) [(.ret (.tup [(.glo (.str O)), (.prim .tuple [(.var 3)]), (.var 5)]))] []), (.asg (.name 0) (.var 4))]), (.ret (.tup [(.glo (.str D)), (.prim .tuple [(.var 3)]), (.cst .none)]))]⟩
theorem non_none : isNon .none = true := rfl
theorem data_tup (t : Tr) : isNon t.data = false := by cases t <;> rfl
theorem follow_ok (U O D : Str) (Φ Φ' : Nat → List Val → CR) (i : Nat) (h : ∀ args, Φ i args = (Ffollow U O D).run Φ' args) : RunOk U O D Φ i (fun d q => ∃ xs ps, d = .tuple xs ∧ pairsD xs = some ps ∧ mergeD [] ps = q) := by
  intro t A d q vl Q E g hd hq hh hl hQ
  obtain ⟨xs, ps, rfl, hp, rfl⟩ := hd
  rw [h]
  refine wc_run (by rfl) ?_
  simp [Ffollow, Fn.start, most, hp]
  refine wr_while (fun n en => ∃ (t' : Tr) (B : Str → Prop) (acc : List Str) (u2 : Val) (u4 u5 u6 : Option Val), en = [some (.sh t'.data), some (.sh (.tuple xs)), some u2, some (.ow (.lst (acc.map .str))), u4, u5, u6] ∧ (u2 = .ow (.dic (mergeD [] ps)) ∨ u2 = .sh (.dict (mergeD [] ps))) ∧ n = t'.height ∧ t'.Good B ∧ acc.length + t'.height ≤ 100 ∧ t'.leaves ≤ 1000 ∧
    runD acc (t'.run U O D vl) = runD [] (t.run U O D vl)) t.height ⟨t, A, [], _, none, none, none, rfl, .inl rfl, rfl, g, by simpa using hh, hl, rfl⟩ ?_
  rintro n en ⟨t', B, acc, u2, u4, u5, u6, rfl, hu2, rfl, g', hn, hl', eq⟩
  cases t' with
  | leaf =>
    rcases hu2 with rfl | rfl
    all_goals
      simp [Tr.data, most, owPos, lentAll]
      rw [Tr.run] at eq
      rw [← eq] at hQ
      simpa [runD] using hQ
  | node x bs =>
    rw [Tr.run] at eq
    rw [Tr.Good] at g'
    rw [Tr.height] at hn
    rw [Tr.leaves] at hl'
    rcases hu2 with rfl | rfl
    all_goals
      simp [Tr.data, hq x]
      cases hv : vl x with
      | none =>
        simp [hv, most, owPos, lentAll]
        simp only [hv] at eq
        rw [← eq] at hQ
        simpa [runD] using hQ
      | some v =>
        have la : acc.length < 16777216 := by omega
        simp [hv, la, most, pairs_bs, hq x, look_bs bs g'.2.2, look_nil]
        simp only [hv, run_get] at eq
        cases hg : bs.get v with
        | none =>
          simp [non_none, most, owPos, lentAll]
          simp only [hg] at eq
          rw [← eq] at hQ
          simpa [runD] using hQ
        | some t2 =>
          obtain ⟨g1, g2, g3⟩ := get_good bs g'.2.2 hg
          simp only [hg] at eq
          simp [data_tup]
          refine ⟨t2.height, by rw [Tr.height]; omega, t2, _, acc ++ [x], _, ⟨rfl, rfl, by simp⟩, by simp, rfl, g1, by simp; omega, by omega, ?_⟩
          rw [← eq]
          simp [runD]
end Pv.X

/-! PzC: k05: the leaves of a reader: plain facts. -/
set_option linter.all false
set_option maxRecDepth 100000
set_option maxHeartbeats 2000000
namespace Pv.X
open PySem

def pairP (p : Str × Int) : PyData := .tuple [.str p.1, .int p.2]
/-- a way from the root to a leaf -/
inductive Path : Tr → List (Str × Int) → Prop
  | leaf : Path .leaf []
  | node {x : Str} {bs : Bs} {v : Int} {t : Tr} {ps : List (Str × Int)} : bs.get v = some t → Path t ps → Path (.node x bs) ((x, v) :: ps)
mutual
def Tr.size : Tr → Nat
  | .leaf => 1
  | .node _ bs => bs.size + 1
def Bs.size : Bs → Nat
  | .nil => 0
  | .cons _ t r => t.size + r.size
end
def Bs.subs : Bs → List (Int × Tr)
  | .nil => []
  | .cons v t r => (v, t) :: r.subs
theorem subs_datas : ∀ bs : Bs, bs.datas = bs.subs.map fun p => .tuple [.int p.1, p.2.data]
  | .nil => by unfold Bs.datas Bs.subs; rfl
  | .cons v t r => by unfold Bs.datas Bs.subs; rw [subs_datas r]; rfl
theorem subs_size : ∀ bs : Bs, (bs.subs.map fun p => p.2.size).sum = bs.size
  | .nil => by unfold Bs.subs Bs.size; rfl
  | .cons v t r => by unfold Bs.subs Bs.size; rw [List.map_cons, List.sum_cons, subs_size r]
theorem subs_leaves : ∀ bs : Bs, (bs.subs.map fun p => p.2.leaves).sum = bs.leaves
  | .nil => by unfold Bs.subs Bs.leaves; rfl
  | .cons v t r => by unfold Bs.subs Bs.leaves; rw [List.map_cons, List.sum_cons, subs_leaves r]
theorem subs_get {A : Str → Prop} : ∀ (bs : Bs) {p : Int}, bs.Good A p → ∀ q ∈ bs.subs, bs.get q.1 = some q.2
  | .nil, _, _, q, h => by unfold Bs.subs at h; cases h
  | .cons v t r, p, g, q, h => by
    unfold Bs.Good at g
    unfold Bs.subs at h
    rw [get_cons]
    rcases List.mem_cons.mp h with rfl | h
    · exact if_pos rfl
    · have e := subs_get r g.2.2.2 q h
      have lt := get_gt r g.2.2.2 e
      rw [if_neg (by omega)]
      exact e
/-- what stands on the stack: a subtree, and the pairs on the way to it -/
structure Item (t : Tr) (A : Str → Prop) (u : Tr) (pre : List (Str × Int)) : Prop where
  good : u.Good fun y => A y ∧ y ∉ pre.map (·.1)
  nd : (pre.map (·.1)).Nodup
  way : ∀ ps, Path u ps → Path t (pre ++ ps)
  inA : ∀ y ∈ pre.map (·.1), A y
def itemD (p : Tr × List (Str × Int)) : PyData := .tuple [p.1.data, .tuple (p.2.map pairP)]
theorem item_sub {t : Tr} {A : Str → Prop} {x : Str} {bs : Bs} {pre : List (Str × Int)} (h : Item t A (.node x bs) pre) {q : Int × Tr} (hq : q ∈ bs.subs) : Item t A q.2 (pre ++ [(x, q.1)]) := by
  have g := h.good
  unfold Tr.Good at g
  have e := subs_get bs g.2.2 q hq
  obtain ⟨g1, _, _⟩ := get_good bs g.2.2 e
  refine ⟨Tr.Good.mono _ (fun y hy => ?_) g1, ?_, fun ps hp => ?_, fun y hy => ?_⟩
  · refine ⟨hy.1.1, fun z => ?_⟩
    rw [List.map_append, List.mem_append] at z
    rcases z with z | z
    · exact hy.1.2 z
    · simp at z; exact hy.2 z
  · rw [List.map_append, List.nodup_append]
    refine ⟨h.nd, by simp, fun a ha b hb => ?_⟩
    simp at hb
    subst hb
    rintro rfl
    exact g.1.2 ha
  · rw [List.append_assoc]
    exact h.way _ (.node e hp)
  · rw [List.map_append, List.mem_append] at hy
    rcases hy with hy | hy
    · exact h.inA y hy
    · simp at hy; rw [hy]; exact g.1.1
/-- an entry: the sorted pairs of a way -/
def Entry (t : Tr) (A : Str → Prop) (e : PyData) : Prop := ∃ ps, Path t ps ∧ (ps.map (·.1)).Nodup ∧ (∀ y ∈ ps.map (·.1), A y) ∧ e = .tuple (sortD (ps.map pairP))
theorem alike_pairs (p q : Str × Int) : PySem.W.alike (pairP p) (pairP q) = true := by
  simp [pairP, PySem.W.alike, PySem.W.alikeAll]
theorem alike_lists : ∀ (ps qs : List (Str × Int)), PySem.W.alikeAll (ps.map pairP) (qs.map pairP) = true
  | [], _ => by simp [PySem.W.alikeAll]
  | _ :: _, [] => by simp [PySem.W.alikeAll]
  | p :: ps, q :: qs => by
    rw [List.map_cons, List.map_cons, PySem.W.alikeAll, alike_pairs, alike_lists ps qs]
    rfl
theorem depth_pair (p : Str × Int) : (pairP p).depth = 1 := by
  simp [pairP, depth_tuple, PyData.depthAll]
theorem sort_pairs_ok {ps : List (Str × Int)} (h : ps.length ≤ most) : sortOk (ps.map pairP) = true := by
  unfold sortOk
  have h1 : (ps.map pairP).all (fun a => (ps.map pairP).all fun b => PySem.W.alike a b) = true := by
    simp only [List.all_map, List.all_eq_true, Function.comp_apply]
    exact fun a _ b _ => alike_pairs a b
  have h2 : (ps.map pairP).all (fun d => decide (d.depth ≤ deepest)) = true := by
    simp only [List.all_map, List.all_eq_true, Function.comp_apply, depth_pair]
    intro a _
    decide
  simp only [Bool.and_eq_true, Bool.or_eq_true, decide_eq_true_eq]
  refine ⟨⟨⟨h1, h2⟩, by simpa using h⟩, .inl (List.all_eq_true.mpr fun d hd => ?_)⟩
  obtain ⟨p, _, rfl⟩ := List.mem_map.mp hd
  rfl
theorem perm_pairs (ps : List (Str × Int)) : ∃ qs : List (Str × Int), sortD (ps.map pairP) = qs.map pairP ∧ qs.Perm ps := by
  refine ⟨ps.mergeSort fun a b => !PySem.W.dataLt (pairP b) (pairP a), ?_, List.mergeSort_perm _ _⟩
  unfold sortD
  exact (List.map_mergeSort (f := pairP) (r := fun a b => !PySem.W.dataLt (pairP b) (pairP a)) (s := fun a b => !PySem.W.dataLt b a) fun a _ b _ => rfl).symm
end Pv.X

/-! PzD: k05: the leaves of a reader: the walk. -/
set_option linter.all false
set_option maxRecDepth 100000
set_option maxHeartbeats 2000000
namespace Pv.X
open PySem

theorem entry_tup {t : Tr} {A : Str → Prop} {e : PyData} (h : Entry t A e) : ∃ ps, e = .tuple (ps.map pairP) ∧ ((∃ x bs, t = .node x bs) → ps ≠ []) := by
  obtain ⟨ps, hp, _, _, rfl⟩ := h
  obtain ⟨qs, e1, pm⟩ := perm_pairs ps
  refine ⟨qs, by rw [e1], ?_⟩
  rintro ⟨x, bs, rfl⟩ z
  subst z
  have := pm.symm.length_eq
  cases hp with
  | node _ _ => simp at this
theorem entries_ok {t : Tr} {A : Str → Prop} {found : List PyData} (h : ∀ e ∈ found, Entry t A e) (hl : found.length ≤ t.leaves) (hm : found.length ≤ most) : sortOk found = true := by
  unfold sortOk
  have h1 : found.all (fun a => found.all fun b => PySem.W.alike a b) = true := by
    simp only [List.all_eq_true]
    intro a ha b hb
    obtain ⟨ps, rfl, _⟩ := entry_tup (h a ha)
    obtain ⟨qs, rfl, _⟩ := entry_tup (h b hb)
    rw [PySem.W.alike]
    exact alike_lists ps qs
  have h2 : found.all (fun d => decide (d.depth ≤ deepest)) = true := by
    simp only [List.all_eq_true, decide_eq_true_eq]
    intro a ha
    obtain ⟨ps, rfl, _⟩ := entry_tup (h a ha)
    rw [depth_tuple]
    have : PyData.depthAll (ps.map pairP) ≤ 1 := depthAll_le.mpr fun d hd => by
      obtain ⟨p, _, rfl⟩ := List.mem_map.mp hd
      rw [depth_pair]
      exact Nat.le_refl _
    unfold deepest
    omega
  simp only [Bool.and_eq_true, Bool.or_eq_true, decide_eq_true_eq]
  refine ⟨⟨⟨h1, h2⟩, hm⟩, ?_⟩
  refine .inl (List.all_eq_true.mpr fun a ha => ?_)
  obtain ⟨ps, rfl, _⟩ := entry_tup (h a ha)
  rfl
theorem sub_len {st : List (Tr × List (Str × Int))} : (∀ p ∈ st, 1 ≤ p.1.leaves) → st.length ≤ (st.map fun p => p.1.leaves).sum := by
  induction st with
  | nil => intro _; simp
  | cons p r ih =>
    intro h
    have h1 := h p (by simp)
    have h2 := ih fun q hq => h q (by simp [hq])
    rw [List.map_cons, List.sum_cons, List.length_cons]
    omega
def Fleaves : Fn := ⟨7, 1, [], [(.par 1 2 (.lst []) (.lst [(.tup [(.var 0), (.tup [])])])), (.whl (.cmp .ne (.var 2) (.lst [])) [(.asg (.tup [(.name 3), (.name 4)]) (.pop 2)), (.ifs (.cmp .eq (.var 3) (.tup [])) [(.append 1 (.prim .tuple [(.prim .sorted [(.var 4)])]))] [(.extend 2 (.comp [5, 6] (.it (.idx (.var 3) (.cst (.int (1))))) (.tup [(.name 5), (.name 6)]) [] (.tup [(.var 6), (.bin .add (.var 4) (.tup [(.tup [(.idx (.var 3) (.cst (.int (0)))), (.var 5)])]))])))])]), (.ret (.prim .tuple [(.prim .sorted [(.var 1)])]))]⟩
def LeavesOk (Φ : Nat → List Val → CR) (i : Nat) : Prop := ∀ (t : Tr) (A : Str → Prop) (Q : Val → List MO → Prop) (E : Exn → List MO → Prop), t.Good A → t.height ≤ 100 → t.leaves ≤ 1000 →
  (∀ es : List PyData, es ≠ [] → es.length ≤ t.leaves → (∀ e ∈ es, Entry t A e) → Q (.sh (.tuple es)) []) → WC (Φ i [.sh t.data]) Q E
theorem leaves_ok (Φ Φ' : Nat → List Val → CR) (i : Nat) (h : ∀ args, Φ i args = Fleaves.run Φ' args) : LeavesOk Φ i := by
  intro t A Q E g hh hl hQ
  rw [h]
  refine wc_run (by rfl) ?_
  simp [Fleaves, Fn.start, most]
  refine wr_while (fun n en => ∃ (found : List PyData) (st : List (Tr × List (Str × Int))) (u3 u4 : Option Val), en = [some (.sh t.data), some (.ow (.lst found)), some (.ow (.lst (st.map itemD))), u3, u4, none, none] ∧ n = (st.map fun p => p.1.size).sum ∧
    (∀ p ∈ st, Item t A p.1 p.2 ∧ p.2.length + p.1.height ≤ 100) ∧ (∀ e ∈ found, Entry t A e) ∧ found.length + (st.map fun p => p.1.leaves).sum = t.leaves) t.size
    ⟨[], [(t, [])], none, none, rfl, by simp, ?_, by simp, by simp⟩ ?_
  · intro p hp
    simp at hp
    subst hp
    exact ⟨⟨Tr.Good.mono _ (fun y hy => ⟨hy, by simp⟩) g, by simp, fun ps hp => hp, by simp⟩, by simpa using hh⟩
  rintro n en ⟨found, st, u3, u4, rfl, rfl, hst, hf, hc⟩
  rcases List.eq_nil_or_concat st with rfl | ⟨st', ⟨u, pre⟩, rfl⟩
  · simp at hc
    have ok := entries_ok hf (by omega) (by unfold most; omega)
    have e1 : primD .sorted [.list found] = some (.ow (.lst (sortD found))) := if_pos ok
    simp [e1, owPos, lentAll]
    refine hQ _ ?_ ?_ ?_
    · intro z
      have q := List.length_mergeSort found (le := fun a b => !PySem.W.dataLt b a)
      have : (sortD found).length = found.length := q
      rw [z] at this
      have l1 := (tr_leaf t g).2
      simp at this
      omega
    · have : (sortD found).length = found.length := List.length_mergeSort found
      omega
    · intro e he
      exact hf e ((List.mergeSort_perm found _).mem_iff.mp he)
  · obtain ⟨it, hp⟩ := hst (u, pre) (by simp)
    simp at hc
    have fs : found.length < 16777216 := by omega
    replace hp : pre.length + u.height ≤ 100 := hp
    have em : ∀ z : PyData, (st'.map itemD ++ [z]).isEmpty = false := fun z => by cases st' <;> rfl
    cases u with
    | leaf =>
      have e1 : primD .sorted [.tuple (pre.map pairP)] = some (.ow (.lst (sortD (pre.map pairP)))) := if_pos (sort_pairs_ok (by unfold most; omega))
      simp [itemD, Tr.data, e1, fs, most, em]
      refine ⟨(st'.map fun p => p.1.size).sum, by simp [Tr.size], found ++ [.tuple (sortD (pre.map pairP))], st', ⟨rfl, rfl⟩, rfl, fun a b hab => hst (a, b) (by simp [hab]), fun e he => ?_, ?_⟩
      · rcases List.mem_append.mp he with he | he
        · exact hf e he
        · simp at he
          subst he
          exact ⟨pre, by simpa using it.way [] .leaf, it.nd, it.inA, rfl⟩
      · rw [Tr.leaves] at hc
        simp
        omega
    | node x bs =>
      have gg := it.good
      rw [Tr.Good] at gg
      have lb := bs_len bs gg.2.2
      rw [Tr.leaves] at hc
      rw [Tr.height] at hp
      simp [itemD, Tr.data, most, em]
      refine wr_map ?_
      simp
      have lp : (pre.map pairP).length + [PyData.tuple [.str x, .int 0]].length ≤ most := by simp [most]; omega
      refine Keep.mk ⟨by unfold most; omega, fun d => match d with
        | .tuple [v, t'] => .tuple [t', .tuple (pre.map pairP ++ [.tuple [.str x, v]])]
        | _ => .none, fun d => [some (.sh t.data), some (.ow (.lst found)), some (.ow (.lst (st'.map itemD))), some (.sh (.tuple [.str x, .tuple bs.datas])), some (.sh (.tuple (pre.map pairP))), some (.sh (match d with | .tuple [v, _] => v | _ => .none)), some (.sh (snd2 d))], rfl, fun d hd => ?_, ?_⟩
      · obtain ⟨w, dt, rfl⟩ := bs_pair bs gg.2.2 d hd
        have lp2 : (pre.map pairP).length + [PyData.tuple [.str x, .int w]].length ≤ most := lp
        simp [snd2_p, bin_addT lp2, most]
      · have ed : ∀ (f : PyData → PyData), (∀ q ∈ bs.subs, f (.tuple [.int q.1, q.2.data]) = itemD (q.2, pre ++ [(x, q.1)])) → bs.datas.map f = (bs.subs.map fun q => (q.2, pre ++ [(x, q.1)])).map itemD := fun f hf2 => by
          rw [subs_datas, List.map_map, List.map_map]
          exact List.map_congr_left fun q hq => hf2 q hq
        rw [ed _ (fun q _ => by simp [itemD, pairP])]
        have bound : (st'.map itemD).length + ((bs.subs.map fun q => (q.2, pre ++ [(x, q.1)])).map itemD).length ≤ most := by
          have l1 : st'.length ≤ (st'.map fun p => p.1.leaves).sum := by
            have := sub_len (st := st') fun p hp => (tr_leaf p.1 (hst p (by simp [hp])).1.good).2
            exact this
          have l2 : bs.subs.length = bs.datas.length := by rw [subs_datas, List.length_map]
          simp only [List.length_map, l2]
          unfold most
          omega
        have b2 : st'.length + bs.subs.length ≤ 16777216 := by simpa [most] using bound
        simp only [at_consS, at_cons0]
        have szs : ((bs.subs.map fun q => (q.2, pre ++ [(x, q.1)])).map fun p => p.1.size).sum = bs.size := by
          rw [List.map_map]
          exact subs_size bs
        have lvs : ((bs.subs.map fun q => (q.2, pre ++ [(x, q.1)])).map fun p => p.1.leaves).sum = bs.leaves := by
          rw [List.map_map]
          exact subs_leaves bs
        generalize hnew : (bs.subs.map fun q => (q.2, pre ++ [(x, q.1)])) = new at szs lvs bound ⊢
        have b3 : st'.length + new.length ≤ 16777216 := by simpa [most] using bound
        simp [b3]
        refine ⟨((st' ++ new).map fun p => p.1.size).sum, ?_, found, st' ++ new, ⟨rfl, by simp⟩, rfl, fun a b hab => ?_, hf, ?_⟩
        · rw [List.map_append, List.sum_append, szs, Tr.size]
          omega
        · rcases List.mem_append.mp hab with hab | hab
          · exact hst (a, b) (by simp [hab])
          · rw [← hnew] at hab
            obtain ⟨q, hq, e⟩ := List.mem_map.mp hab
            cases e
            have e := subs_get bs gg.2.2 q hq
            obtain ⟨_, g2, _⟩ := get_good bs gg.2.2 e
            refine ⟨item_sub it hq, ?_⟩
            simp
            omega
        · rw [List.map_append, List.sum_append, lvs]
          omega
end Pv.X

/-! PzE: dicts from texts to whole numbers, in plain words. -/
set_option linter.all false
set_option maxRecDepth 100000
set_option maxHeartbeats 2000000
namespace Pv.X
open PySem

def siD (ps : List (Str × Int)) : List (PyData × PyData) := ps.map fun p => (.str p.1, .int p.2)
def getS (ps : List (Str × Int)) (x : Str) : Option Int := (ps.find? fun p => decide (p.1 = x)).map (·.2)
theorem getS_cons {p : Str × Int} {ps : List (Str × Int)} {x : Str} : getS (p :: ps) x = if p.1 = x then some p.2 else getS ps x := by
  unfold getS
  rw [List.find?_cons]
  by_cases h : p.1 = x <;> simp [h]
theorem look_si : ∀ (ps : List (Str × Int)) (x : Str), lookD (siD ps) (.inr x) = (getS ps x).map PyData.int
  | [], _ => rfl
  | p :: ps, x => by
    show lookD ((.str p.1, .int p.2) :: siD ps) (.inr x) = _
    rw [look_cons, getS_cons, look_si ps x, keyD_str]
    by_cases h : p.1 = x
    · simp [h]
    · have : ¬ (some (Sum.inr p.1 : L2.Key) = some (Sum.inr x)) := fun z => h (Sum.inr.inj (Option.some.inj z))
      simp [h, this]
theorem holds_si (ps : List (Str × Int)) : Holds5 (siD ps) (getS ps) := look_si ps
def putS (ps : List (Str × Int)) (x : Str) (v : Int) : List (Str × Int) := if (getS ps x).isSome = true then ps.map fun p => if p.1 = x then (p.1, v) else p else ps ++ [(x, v)]
theorem put_si (ps : List (Str × Int)) (x : Str) (v : Int) : putD (siD ps) (.inr x) (.int v) = siD (putS ps x v) := by
  unfold putD putS
  rw [look_si]
  cases getS ps x with
  | none => simp [siD, keyB]
  | some w =>
    simp [siD]
    intro a b _
    by_cases h : a = x
    · subst h; simp
    · have : ¬ (Sum.inr a : L2.Key) = Sum.inr x := fun z => h (Sum.inr.inj z)
      simp [h, this]
theorem put_len (ps : List (Str × Int)) (x : Str) (v : Int) : (putS ps x v).length ≤ ps.length + 1 := by
  unfold putS
  split <;> simp
theorem drop_si (ps : List (Str × Int)) (x : Str) : dropD (siD ps) (.inr x) = siD (ps.filter fun p => decide (p.1 ≠ x)) := by
  unfold dropD siD
  rw [List.filter_map]
  congr 1
  apply List.filter_congr
  intro p _
  simp
def mergeS (ps : List (Str × Int)) : List (Str × Int) → List (Str × Int)
  | [] => ps
  | p :: r => mergeS (putS ps p.1 p.2) r
theorem merge_si : ∀ (ms ps : List (Str × Int)), mergeD (siD ps) (siD ms) = siD (mergeS ps ms)
  | [], ps => by unfold mergeS; rw [show siD [] = [] from rfl, mergeD]
  | m :: ms, ps => by
    rw [show siD (m :: ms) = (PyData.str m.1, PyData.int m.2) :: siD ms from rfl, mergeD, mergeS, ← merge_si ms, ← put_si]
    rfl
theorem merge_len : ∀ (ms ps : List (Str × Int)), (mergeS ps ms).length ≤ ps.length + ms.length
  | [], ps => by unfold mergeS; simp
  | m :: ms, ps => by
    rw [mergeS, List.length_cons]
    have := merge_len ms (putS ps m.1 m.2)
    have := put_len ps m.1 m.2
    omega
theorem pairs_si : ∀ ps : List (Str × Int), pairsD (ps.map pairP) = some (siD ps)
  | [] => rfl
  | p :: ps => by
    rw [List.map_cons, pairP, pairsD, pairs_si ps]
    rfl
theorem keys_si : ∀ ps : List (Str × Int), keysS (siD ps) = some (ps.map (·.1))
  | [] => rfl
  | p :: ps => by
    rw [show siD (p :: ps) = (PyData.str p.1, PyData.int p.2) :: siD ps from rfl, keysS, keys_si ps]
    rfl
theorem perm_strs (ks : List Str) : ∃ ys : List Str, sortD (ks.map .str) = ys.map .str ∧ ys.Perm ks := by
  refine ⟨ks.mergeSort fun a b => !PySem.W.dataLt (.str b) (.str a), ?_, List.mergeSort_perm _ _⟩
  unfold sortD
  exact (List.map_mergeSort (f := PyData.str) (r := fun a b => !PySem.W.dataLt (.str b) (.str a)) (s := fun a b => !PySem.W.dataLt b a) fun a _ b _ => rfl).symm
theorem get_mem {ps : List (Str × Int)} {x : Str} (h : x ∈ ps.map (·.1)) : ∃ v, getS ps x = some v := by
  induction ps with
  | nil => simp at h
  | cons p ps ih =>
    rw [getS_cons]
    by_cases q : p.1 = x
    · exact ⟨p.2, if_pos q⟩
    · rw [if_neg q]
      refine ih ?_
      rw [List.map_cons, List.mem_cons] at h
      exact h.resolve_left fun z => q z.symm
end Pv.X

/-! PzG0: a run along a way ends at its leaf. -/
set_option linter.all false
set_option maxRecDepth 100000
set_option maxHeartbeats 1000000
namespace Pv.X
open PySem

theorem run_path {U O D : Str} {vl : Str → Option Int} {u : Tr} {ps : List (Str × Int)} (h : Path u ps) : (∀ p ∈ ps, vl p.1 = some p.2) → u.run U O D vl = (D, ps.map (·.1), .none) := by
  induction h with
  | leaf => intro _; rw [Tr.run]; rfl
  | @node x bs v t ps hg hp ih =>
    intro hv
    have h1 : vl x = some v := hv (x, v) List.mem_cons_self
    have h2 := ih fun p hp => hv p (List.mem_cons_of_mem _ hp)
    rw [Tr.run, h1]
    simp only [run_get, hg, Option.map_some, h2]
    rfl
theorem getS_put (ps : List (Str × Int)) (x y : Str) (v : Int) : getS (putS ps x v) y = if y = x then some v else getS ps y := by
  have e := look_si (putS ps x v) y
  rw [← put_si, look_put, look_si] at e
  by_cases h : y = x
  · subst h
    rw [if_pos rfl] at e
    rw [if_pos rfl]
    cases q : getS (putS ps y v) y with
    | none => rw [q] at e; cases e
    | some w => rw [q] at e; cases e; rfl
  · have h2 : ¬ (Sum.inr y : L2.Key) = Sum.inr x := fun z => h (Sum.inr.inj z)
    rw [if_neg h2] at e
    rw [if_neg h]
    cases q : getS (putS ps x v) y <;> cases q2 : getS ps y <;> rw [q, q2] at e <;> first | rfl | (cases e; done) | (cases e; rfl)
theorem merge_out : ∀ (ms ps : List (Str × Int)) (x : Str), x ∉ ms.map (·.1) → getS (mergeS ps ms) x = getS ps x
  | [], ps, x, _ => by rw [mergeS]
  | m :: ms, ps, x, h => by
    rw [List.map_cons, List.mem_cons, not_or] at h
    rw [mergeS, merge_out ms _ x h.2, getS_put, if_neg h.1]
theorem merge_in : ∀ (ms ps : List (Str × Int)), (ms.map (·.1)).Nodup → ∀ p ∈ ms, getS (mergeS ps ms) p.1 = some p.2
  | [], _, _, p, h => by cases h
  | m :: ms, ps, nd, p, h => by
    rw [List.map_cons, List.nodup_cons] at nd
    rw [mergeS]
    rcases List.mem_cons.mp h with rfl | h
    · rw [merge_out ms _ _ nd.1, getS_put, if_pos rfl]
    · exact merge_in ms _ nd.2 p h
/-- an entry's dict leads along its way -/
theorem run_entry {U O D : Str} {t : Tr} {ps qs : List (Str × Int)} (h : Path t ps) (nd : (ps.map (·.1)).Nodup) (pm : qs.Perm ps) : t.run U O D (getS (mergeS [] qs)) = (D, ps.map (·.1), .none) :=
  run_path h fun p hp => merge_in qs [] ((pm.map (·.1)).nodup_iff.mpr nd) p (pm.mem_iff.mpr hp)
end Pv.X

/-! PzG1: the names of sorted pairs are the sorted names. -/
set_option linter.all false
set_option maxRecDepth 100000
set_option maxHeartbeats 1000000
namespace Pv.X
open PySem

theorem lt_cmp {a b c : PyData} (h1 : (!PySem.W.dataLt b a) = true) (h2 : (!PySem.W.dataLt c b) = true) : (!PySem.W.dataLt c a) = true := by
  cases q : PySem.W.dataLt c a with
  | false => rfl
  | true =>
    rcases PyProof.Rows.lex_negTrans (O := PyProof.Rows.itemOrd) _ (PySem.W.keyToks b) _ q with z | z
    · have : PySem.W.dataLt c b = true := z
      rw [this] at h2; cases h2
    · have : PySem.W.dataLt b a = true := z
      rw [this] at h1; cases h1
theorem lt_tot (a b : PyData) : ((!PySem.W.dataLt b a) || (!PySem.W.dataLt a b)) = true := by
  cases q : PySem.W.dataLt b a with
  | false => rfl
  | true =>
    cases q2 : PySem.W.dataLt a b with
    | false => rfl
    | true =>
      have := PyProof.Rows.lex_trans (O := PyProof.Rows.itemOrd) _ _ _ q q2
      rw [PyProof.Rows.lex_irrefl] at this
      cases this
theorem sortD_pw (ds : List PyData) : (sortD ds).Pairwise fun a b => (!PySem.W.dataLt b a) = true :=
  List.pairwise_mergeSort (le := fun a b => !PySem.W.dataLt b a) (fun _ _ _ h1 h2 => lt_cmp h1 h2) (fun a b => lt_tot a b) ds
theorem sort_names {ps qs : List (Str × Int)} (e : sortD (ps.map pairP) = qs.map pairP) (pm : qs.Perm ps) (nd : (ps.map (·.1)).Nodup) : sortD ((ps.map (·.1)).map .str) = (qs.map (·.1)).map .str := by
  have ndq : (qs.map (·.1)).Nodup := (pm.map (·.1)).nodup_iff.mpr nd
  have pw := sortD_pw (ps.map pairP)
  rw [e, List.pairwise_map] at pw
  have ne : qs.Pairwise fun a b => a.1 ≠ b.1 := List.pairwise_map.mp ndq
  have le : (qs.map (·.1)).Pairwise fun a b => a.cps.toList ≤ b.cps.toList := by
    rw [List.pairwise_map]
    refine (pw.and ne).imp fun {a b} ⟨h1, h2⟩ => ?_
    rw [pairP, pairP, PySem.W.dataLt_pair (by simp [PySem.W.alike]) (by simp [PySem.W.alike])] at h1
    have h3 : ¬ PyData.eqv (.str b.1) (.str a.1) = true := by
      simp [PyData.eqv]
      exact fun z => h2 z.symm
    rw [if_neg h3, PySem.W.dataLt_str] at h1
    simp only [Bool.not_eq_true', decide_eq_false_iff_not] at h1
    exact List.not_lt.mp h1
  obtain ⟨ys, e2, pm2⟩ := perm_strs (ps.map (·.1))
  have pw2 := sortD_pw ((ps.map (·.1)).map .str)
  rw [e2, List.pairwise_map] at pw2
  have le2 : ys.Pairwise fun a b => a.cps.toList ≤ b.cps.toList := pw2.imp fun {a b} h1 => by
    rw [PySem.W.dataLt_str] at h1
    simp only [Bool.not_eq_true', decide_eq_false_iff_not] at h1
    exact List.not_lt.mp h1
  rw [e2]
  congr 1
  exact (pm2.trans (pm.map (·.1)).symm).eq_of_pairwise (le := fun a b => a.cps.toList ≤ b.cps.toList) (fun a b _ _ h1 h2 => PySem.W.str_of_cps (List.le_antisymm h1 h2)) le2 le
end Pv.X

/-! PzG2: what a run gives is small and shown. -/
set_option linter.all false
set_option maxRecDepth 100000
set_option maxHeartbeats 1000000
namespace Pv.X
open PySem

structure RunFacts (U O D : Str) (h : Nat) (r : Str × List Str × PyData) : Prop where
  st : r.1 = U ∨ r.1 = O ∨ r.1 = D
  cells : ∀ x ∈ r.2.1, IsCell x
  len : r.2.1.length ≤ h
  last : r.2.2 = .none ∨ ∃ x, r.2.2 = .str x ∧ IsCell x
mutual
theorem run_facts {U O D : Str} {vl : Str → Option Int} : ∀ (t : Tr) {A : Str → Prop}, (∀ x, A x → IsCell x) → t.Good A → RunFacts U O D t.height (t.run U O D vl)
  | .leaf, A, _, _ => by
    rw [Tr.run]
    exact ⟨.inr (.inr rfl), by simp, by simp, .inl rfl⟩
  | .node x bs, A, hA, g => by
    rw [Tr.Good] at g
    have hx := hA x g.1
    rw [Tr.run, Tr.height]
    cases vl x with
    | none => exact ⟨.inl rfl, by simp, by simp, .inr ⟨x, rfl, hx⟩⟩
    | some i =>
      simp only
      cases e : Bs.run U O D vl i bs with
      | none =>
        simp only
        exact ⟨.inr (.inl rfl), by simp; exact hx, by simp, .inr ⟨x, rfl, hx⟩⟩
      | some r =>
        have q := bs_facts bs (fun y hy => hA y hy.1) g.2.2 r e
        simp only
        refine ⟨q.st, fun y hy => ?_, by simp; exact q.len, q.last⟩
        rcases List.mem_cons.mp hy with rfl | hy
        · exact hx
        · exact q.cells y hy
theorem bs_facts {U O D : Str} {vl : Str → Option Int} {i : Int} : ∀ (bs : Bs) {A : Str → Prop} {p : Int}, (∀ x, A x → IsCell x) → bs.Good A p → ∀ r, Bs.run U O D vl i bs = some r → RunFacts U O D bs.height r
  | .nil, _, _, _, _, r, e => by rw [Bs.run] at e; cases e
  | .cons v t s, A, p, hA, g, r, e => by
    rw [Bs.Good] at g
    rw [Bs.run] at e
    rw [Bs.height]
    split at e
    · cases e
      have q := run_facts (U := U) (O := O) (D := D) (vl := vl) t hA g.2.2.1
      exact ⟨q.st, q.cells, Nat.le_trans q.len (Nat.le_max_left _ _), q.last⟩
    · have q := bs_facts s hA g.2.2.2 r e
      exact ⟨q.st, q.cells, Nat.le_trans q.len (Nat.le_max_right _ _), q.last⟩
end
end Pv.X

/-! PzG3: what a run gives can be shown. -/
set_option linter.all false
set_option maxRecDepth 100000
set_option maxHeartbeats 1000000
namespace Pv.X
open PySem

def ShortS (x : Str) : Prop := okI 0 (.str x) = true ∧ x.length ≤ 20
theorem cell_short {x : Str} (h : IsCell x) : ShortS x := by
  obtain ⟨_, h2, h3⟩ := h
  refine ⟨?_, by omega⟩
  simp only [okI]
  refine List.all_eq_true.mpr fun c hc => decide_eq_true ?_
  have := (h3 c hc).2
  omega
theorem strs_sz : ∀ {l : List Str}, (∀ x ∈ l, ShortS x) → okAll 0 (l.map .str) = true ∧ szAll (l.map .str) ≤ l.length * 21 ∧ PyData.depthAll (l.map .str) = 0
  | [], _ => by simp [okAll, szAll, PyData.depthAll]
  | x :: l, h => by
    obtain ⟨a, b, c⟩ := strs_sz fun y hy => h y (List.mem_cons_of_mem _ hy)
    have hx := h x List.mem_cons_self
    rw [List.map_cons, okAll, szAll, PyData.depthAll, a, c, hx.1, depth_str, sz, List.length_cons]
    have := hx.2
    refine ⟨rfl, by omega, rfl⟩
theorem runD_ok {U O D : Str} {h : Nat} {r : Str × List Str × PyData} (f : RunFacts U O D h r) (hh : h ≤ 100) (hU : ShortS U) (hO : ShortS O) (hD : ShortS D) : okI 0 (runD [] r) = true ∧ sz (runD [] r) ≤ 3000 ∧ (runD [] r).depth ≤ 3 := by
  have s1 : ShortS r.1 := by rcases f.st with e | e | e <;> rw [e] <;> assumption
  obtain ⟨a, b, c⟩ := strs_sz fun x hx => cell_short (f.cells x hx)
  have s2 : okI 0 r.2.2 = true ∧ sz r.2.2 ≤ 21 ∧ r.2.2.depth = 0 := by
    rcases f.last with e | ⟨x, e, hx⟩
    · rw [e]; simp [okI, sz]
    · rw [e]
      have := cell_short hx
      exact ⟨this.1, by rw [sz]; have := this.2; omega, depth_str⟩
  have hl := f.len
  unfold runD
  refine ⟨?_, ?_, ?_⟩
  · simp only [okI, okAll, List.nil_append, a, s2.1, Bool.and_true, Bool.true_and]
    have := s1.1
    simpa only [okI] using this
  · simp only [sz, szAll, List.nil_append]
    have := s1.2
    have := s2.2.1
    omega
  · simp only [depth_tuple, PyData.depthAll, List.nil_append, c, s2.2.2, depth_str]
    decide
end Pv.X

/-! QaA: logs in plain words: shared cells, parts, splitting cells. -/
set_option linter.all false
set_option maxRecDepth 100000
set_option maxHeartbeats 1000000
namespace Pv.X
open PySem

abbrev Log := List (Str × Int)
def logD (l : Log) : PyData := .tuple (l.map pairP)
def grpD (g : List Log) : PyData := .tuple (g.map logD)
structure GLog (l : Log) : Prop where
  nd : (l.map (·.1)).Nodup
  few : l.length ≤ 100
structure GLogs (ls : List Log) : Prop where
  log : ∀ l ∈ ls, GLog l
  few : ls.length < 64
theorem getS_iff {l : Log} {x : Str} : (getS l x).isSome = true ↔ x ∈ l.map (·.1) := by
  constructor
  · intro h
    induction l with
    | nil => cases h
    | cons p l ih =>
      rw [getS_cons] at h
      by_cases q : p.1 = x
      · rw [List.map_cons, q]; exact List.mem_cons_self
      · rw [if_neg q] at h
        rw [List.map_cons]; exact List.mem_cons_of_mem _ (ih h)
  · intro h
    obtain ⟨v, e⟩ := get_mem h
    rw [e]; rfl
theorem getS_none {l : Log} {x : Str} : getS l x = none ↔ x ∉ l.map (·.1) := by
  rw [← getS_iff]
  cases getS l x <;> simp
theorem putS_new {ps : Log} {x : Str} {v : Int} (h : x ∉ ps.map (·.1)) : putS ps x v = ps ++ [(x, v)] := by
  unfold putS
  rw [getS_none.mpr h]
  rfl
theorem mergeS_nd : ∀ (ms ps : Log), (ms.map (·.1)).Nodup → (∀ x ∈ ms.map (·.1), x ∉ ps.map (·.1)) → mergeS ps ms = ps ++ ms
  | [], ps, _, _ => by rw [mergeS, List.append_nil]
  | m :: ms, ps, nd, h => by
    rw [List.map_cons, List.nodup_cons] at nd
    rw [mergeS, putS_new (h m.1 (by simp)), mergeS_nd ms _ nd.2 (fun x hx => ?_)]
    · simp
    · rw [List.map_append, List.mem_append, not_or]
      refine ⟨h x (by rw [List.map_cons]; exact List.mem_cons_of_mem _ hx), fun z => ?_⟩
      simp at z
      exact nd.1 (z ▸ hx)
theorem merge_log {l : Log} (h : (l.map (·.1)).Nodup) : mergeD [] (siD l) = siD l := by
  have e := merge_si l []
  rw [mergeS_nd l [] h (by simp), List.nil_append] at e
  exact e
theorem dict_logT {l : Log} (h : GLog l) : primD .dict [logD l] = some (.ow (.dic (siD l))) := by
  rw [logD, pr_dicT, pairs_si]
  show some (Val.ow (.dic (mergeD [] (siD l)))) = _
  rw [merge_log h.nd]
theorem dict_logL {l : Log} (h : GLog l) : primD .dict [.list (l.map pairP)] = some (.ow (.dic (siD l))) := by
  rw [pr_dicL, pairs_si]
  show some (Val.ow (.dic (mergeD [] (siD l)))) = _
  rw [merge_log h.nd]
/-- as dict(log) shares it -/
def unD : PyData → PyData
  | .tuple xs => match pairsD xs with
    | some ps => .dict (mergeD [] ps)
    | none => .none
  | _ => .none
theorem unD_log {l : Log} (h : GLog l) : unD (logD l) = .dict (siD l) := by
  unfold unD logD
  simp only [pairs_si, merge_log h.nd]
theorem si_inj_look {l : Log} {x : Str} : (lookD (siD l) (.inr x)).isSome = (getS l x).isSome := by
  rw [look_si]
  cases getS l x <;> rfl
/-! ### values at a cell -/
def valX (x : Str) (l : Log) : Int := (getS l x).getD 0
theorem val_look {l : Log} {x : Str} (h : x ∈ l.map (·.1)) : lookD (siD l) (.inr x) = some (.int (valX x l)) := by
  obtain ⟨v, e⟩ := get_mem h
  rw [look_si]
  unfold valX
  rw [e]; rfl
theorem nub_snoc (vs : List Int) (v : Int) : nubI (vs ++ [v]) = if v ∈ nubI vs then nubI vs else nubI vs ++ [v] := by
  unfold nubI
  rw [List.foldl_append]
  rfl
theorem nub_mem {vs : List Int} {v : Int} : v ∈ nubI vs ↔ v ∈ vs := by
  have key : ∀ (ws : List Int), (∀ v, v ∈ nubI ws.reverse ↔ v ∈ ws.reverse) := by
    intro ws
    induction ws with
    | nil => intro v; simp [nubI]
    | cons w ws ih =>
      intro v
      rw [List.reverse_cons, nub_snoc]
      by_cases h : w ∈ nubI ws.reverse
      · rw [if_pos h, ih v]
        constructor
        · exact fun q => List.mem_append_left _ q
        · intro q
          rcases List.mem_append.mp q with q | q
          · exact q
          · simp at q; rw [q]; exact (ih w).mp h
      · rw [if_neg h, List.mem_append, ih v, List.mem_append]
  have := key vs.reverse v
  rwa [List.reverse_reverse] at this
theorem nub_nodup (vs : List Int) : (nubI vs).Nodup := by
  have key : ∀ (ws : List Int), (nubI ws.reverse).Nodup := by
    intro ws
    induction ws with
    | nil => simp [nubI]
    | cons w ws ih =>
      rw [List.reverse_cons, nub_snoc]
      split
      · exact ih
      · rename_i h
        rw [List.nodup_append]
        exact ⟨ih, by simp, fun a ha b hb e => by simp at hb; subst hb; exact h (e ▸ ha)⟩
  have := key vs.reverse
  rwa [List.reverse_reverse] at this
theorem nub_le (vs : List Int) : (nubI vs).length ≤ vs.length := by
  have key : ∀ (ws : List Int), (nubI ws.reverse).length ≤ ws.length := by
    intro ws
    induction ws with
    | nil => simp [nubI]
    | cons w ws ih =>
      rw [List.reverse_cons, nub_snoc]
      split
      · rw [List.length_cons]; omega
      · rw [List.length_append, List.length_cons]; simp; omega
  have := key vs.reverse
  rwa [List.reverse_reverse, List.length_reverse] at this
/-- two values or more -/
theorem nub_two {vs : List Int} : 1 < (nubI vs).length ↔ ∃ a ∈ vs, ∃ b ∈ vs, a ≠ b := by
  constructor
  · intro h
    cases e : nubI vs with
    | nil => rw [e] at h; simp at h
    | cons a r =>
      cases r with
      | nil => rw [e] at h; simp at h
      | cons b r =>
        have nd := nub_nodup vs
        rw [e, List.nodup_cons] at nd
        refine ⟨a, nub_mem.mp (by rw [e]; simp), b, nub_mem.mp (by rw [e]; simp), fun z => nd.1 (by rw [z]; simp)⟩
  · rintro ⟨a, ha, b, hb, ne⟩
    have h1 := nub_mem.mpr ha
    have h2 := nub_mem.mpr hb
    cases e : nubI vs with
    | nil => rw [e] at h1; cases h1
    | cons c r =>
      cases r with
      | nil =>
        rw [e] at h1 h2
        simp at h1 h2
        exact absurd (h1.trans h2.symm) ne
      | cons d r => simp
def sortI (ns : List Int) : List Int := ns.mergeSort fun a b => decide (a ≤ b)
theorem sortI_perm (ns : List Int) : (sortI ns).Perm ns := List.mergeSort_perm _ _
theorem sortI_pw (ns : List Int) : (sortI ns).Pairwise (· ≤ ·) := by
  have q := List.pairwise_mergeSort (le := fun (a b : Int) => decide (a ≤ b)) (fun a b c h1 h2 => by simp at *; omega) (fun a b => by simp; omega) ns
  exact q.imp fun h => by simpa using h
theorem sortD_ints (ns : List Int) : sortD (ns.map .int) = (sortI ns).map .int := by
  unfold sortD sortI
  rw [List.map_mergeSort (f := PyData.int) (r := fun a b => decide (a ≤ b)) (s := fun a b => !PySem.W.dataLt b a)]
  intro a _ b _
  rw [PySem.W.dataLt_int, Bool.eq_iff_iff]
  simp
/-! ### the program's words -/
def sharedN : List Log → List Str
  | [] => []
  | l :: r => (l.map (·.1)).filter fun x => r.all fun m => (getS m x).isSome
theorem mem_shared {ls : List Log} {x : Str} : x ∈ sharedN ls ↔ ls ≠ [] ∧ ∀ l ∈ ls, x ∈ l.map (·.1) := by
  cases ls with
  | nil => simp [sharedN]
  | cons l r =>
    unfold sharedN
    rw [List.mem_filter, List.all_eq_true]
    constructor
    · rintro ⟨h1, h2⟩
      refine ⟨by simp, fun m hm => ?_⟩
      rcases List.mem_cons.mp hm with rfl | hm
      · exact h1
      · exact getS_iff.mp (h2 m hm)
    · rintro ⟨_, h⟩
      exact ⟨h l (by simp), fun m hm => getS_iff.mpr (h m (by simp [hm]))⟩
/-- the lists that setdefault makes -/
def grp (x : Str) (ls : List Log) : List (PyData × List PyData) := (nubI (ls.map (valX x))).map fun v => (.int v, (ls.filter fun l => decide (valX x l = v)).map logD)
theorem grp_put (x : Str) (ls : List Log) (l : Log) : putL (grp x ls) (.inl (valX x l)) (logD l) = grp x (ls ++ [l]) := by
  have any : ((grp x ls).any fun p => decide (keyD p.1 = some (.inl (valX x l)))) = decide (valX x l ∈ nubI (ls.map (valX x))) := by
    unfold grp
    rw [List.any_map, Bool.eq_iff_iff]
    simp
  unfold putL
  rw [any]
  unfold grp
  rw [List.map_append, List.map_cons, List.map_nil, nub_snoc]
  by_cases h : valX x l ∈ nubI (ls.map (valX x))
  · rw [if_pos (decide_eq_true h), if_pos h, List.map_map]
    refine List.map_congr_left fun v _ => ?_
    simp only [Function.comp_apply, keyD_int, List.filter_append, List.map_append]
    by_cases e : v = valX x l
    · subst e
      simp
    · have e2 : ¬ (some (Sum.inl v : L2.Key) = some (Sum.inl (valX x l))) := fun z => e (Sum.inl.inj (Option.some.inj z))
      have e3 : ¬ valX x l = v := fun z => e z.symm
      simp [e2, e3]
  · rw [if_neg (by simpa using h), if_neg h, List.map_append]
    have nm : ∀ v ∈ nubI (ls.map (valX x)), valX x l ≠ v := fun v hv e => h (e ▸ hv)
    congr 1
    · refine List.map_congr_left fun v hv => ?_
      simp [List.filter_append, nm v hv]
    · have none_ : (ls.filter fun m => decide (valX x m = valX x l)) = [] := by
        rw [List.filter_eq_nil_iff]
        intro m hm
        simp
        intro e
        exact h (nub_mem.mpr (List.mem_map.mpr ⟨m, hm, e⟩))
      simp [List.filter_append, none_, keyB]
theorem grp_len (x : Str) (ls : List Log) : (grp x ls).length ≤ ls.length := by
  unfold grp
  rw [List.length_map]
  exact Nat.le_trans (nub_le _) (by simp)
theorem grp_few (x : Str) (ls : List Log) (h : ls.length < most) : ((grp x ls).all fun p => decide (p.2.length < most)) = true := by
  unfold grp
  rw [List.all_map, List.all_eq_true]
  intro v _
  simp only [Function.comp_apply, decide_eq_true_eq, List.length_map]
  exact Nat.lt_of_le_of_lt (List.length_filter_le _ _) h
/-- groups by their value, ascending -/
def partsN (x : Str) (ls : List Log) : List (Int × List Log) := (sortI (nubI (ls.map (valX x)))).map fun v => (v, ls.filter fun l => decide (valX x l = v))
def splitN (ls : List Log) : List Str := (sharedN ls).filter fun x => decide (1 < (nubI (ls.map (valX x))).length)
theorem mem_split {ls : List Log} {x : Str} : x ∈ splitN ls ↔ (∀ l ∈ ls, x ∈ l.map (·.1)) ∧ ∃ a ∈ ls, ∃ b ∈ ls, valX x a ≠ valX x b := by
  unfold splitN
  rw [List.mem_filter, mem_shared, decide_eq_true_eq, nub_two]
  constructor
  · rintro ⟨⟨_, h⟩, a, ha, b, hb, ne⟩
    obtain ⟨a', ha', rfl⟩ := List.mem_map.mp ha
    obtain ⟨b', hb', rfl⟩ := List.mem_map.mp hb
    exact ⟨h, a', ha', b', hb', ne⟩
  · rintro ⟨h, a, ha, b, hb, ne⟩
    exact ⟨⟨fun z => (by rw [z] at ha; cases ha), h⟩, _, List.mem_map_of_mem ha, _, List.mem_map_of_mem hb, ne⟩
end Pv.X

/-! QaB: the program's words on logs: contracts. -/
set_option linter.all false
set_option maxRecDepth 100000
set_option maxHeartbeats 2000000
namespace Pv.X
open PySem

def Fshared : Fn := ⟨6, 1, [], [(.ifs (.cmp .eq (.var 0) (.tup [])) [(.ret (.tup []))] []), (.asg (.name 1) (.comp [2] (.it (.slc (.var 0) (some (.cst (.int (1)))) none)) (.name 2) [] (.prim .dict [(.var 2)]))), (.ret (.prim .tuple [(.comp [3, 4] (.it (.idx (.var 0) (.cst (.int (0))))) (.tup [(.name 3), (.name 4)]) [(.prim .all [(.comp [5] (.it (.var 1)) (.name 5) [] (.cmp .inn (.var 3) (.var 5)))])] (.var 3))]))]⟩
def SharedOk (Φ : Nat → List Val → CR) (i : Nat) : Prop := ∀ (ls : List Log) (Q : Val → List MO → Prop) (E : Exn → List MO → Prop), GLogs ls → Q (.sh (.tuple ((sharedN ls).map .str))) [] → WC (Φ i [.sh (grpD ls)]) Q E
/-- is x in the dict -/
def hasK (x : Str) : PyData → Bool
  | .dict ps => (lookD ps (.inr x)).isSome
  | _ => false
theorem hasK_si {x : Str} {l : Log} : hasK x (.dict (siD l)) = (getS l x).isSome := si_inj_look
theorem cut1 {x : PyData} {xs : List PyData} : slcD (.tuple (x :: xs)) (some 1) none = some (.sh (.tuple xs)) := by
  show some (Val.sh (.tuple (cutL (x :: xs) (some ((1 : Nat) : Int)) none))) = _
  rw [cut_drop (by simp)]
  rfl
theorem shared_ok (Φ Φ' : Nat → List Val → CR) (i : Nat) (h : ∀ args, Φ i args = Fshared.run Φ' args) : SharedOk Φ i := by
  intro ls Q E g hQ
  rw [h]
  refine wc_run (by rfl) ?_
  cases ls with
  | nil =>
    simp [Fshared, Fn.start, grpD, most, owPos, lentAll]
    exact hQ
  | cons l r =>
    have gl := g.log l (by simp)
    have gr : ∀ m ∈ r, GLog m := fun m hm => g.log m (by simp [hm])
    have fw := g.few
    simp [Fshared, Fn.start, grpD, most]
    refine wr_map ?_
    simp [cut1]
    refine Keep.mk ⟨by rw [List.length_map]; unfold most; simp at fw; omega, unD, fun d => [some (.sh (.tuple (logD l :: r.map logD))), none, some (.sh d), none, none, none], rfl, fun d hd => ?_, ?_⟩
    · obtain ⟨m, hm, rfl⟩ := List.mem_map.mp hd
      simp [dict_logT (gr m hm), unD_log (gr m hm)]
    · have e1 : (r.map logD).map unD = r.map fun m => .dict (siD m) := by
        rw [List.map_map]
        exact List.map_congr_left fun m hm => unD_log (gr m hm)
      rw [e1]
      simp
      refine wr_comp ?_
      simp [logD]
      have hl := gl.few
      refine ⟨by unfold most; omega, fun rest ys en => ∃ (dn tl : Log) (u1 : Val) (u3 u4 : Option Val), en = [some (.sh (.tuple (.tuple (l.map pairP) :: r.map logD))), some u1, none, u3, u4, none] ∧ (u1 = .ow (.lst (r.map fun m => .dict (siD m))) ∨ u1 = .sh (.list (r.map fun m => .dict (siD m)))) ∧
        rest = tl.map pairP ∧ dn ++ tl = l ∧ ys = ((dn.map (·.1)).filter fun x => r.all fun m => (getS m x).isSome).map .str, ⟨[], l, _, none, none, rfl, .inl rfl, rfl, rfl, rfl⟩, ?_, ?_⟩
      · rintro d rest ys en ⟨dn, tl, u1, u3, u4, rfl, hu, hr, hd, rfl⟩
        cases tl with
        | nil => cases hr
        | cons p tl =>
          obtain ⟨rfl, rfl⟩ := List.cons.inj hr
          have fin : ∀ (k : Bool), k = (r.all fun m => (getS m p.1).isSome) → ((dn ++ [p]).map (·.1)).filter (fun x => r.all fun m => (getS m x).isSome) = ((dn.map (·.1)).filter fun x => r.all fun m => (getS m x).isSome) ++ if k = true then [p.1] else [] := fun k hk => by
            rw [List.map_append, List.filter_append]
            congr 1
            rw [List.map_cons, List.map_nil, List.filter_cons, ← hk]
            rfl
          have key : ∀ u1 : Val, (u1 = .ow (.lst (r.map fun m => .dict (siD m))) ∨ u1 = .sh (.list (r.map fun m => .dict (siD m)))) → True := fun _ _ => trivial
          rcases hu with rfl | rfl
          all_goals
            simp [pairP]
            refine wr_map ?_
            simp
            refine Keep.mk ⟨by rw [List.length_map]; unfold most; simp at fw; omega, fun d => .bool (hasK p.1 d), fun d => [some (.sh (.tuple (.tuple (l.map pairP) :: r.map logD))), some (.sh (.list (r.map fun m => .dict (siD m)))), none, some (.sh (.str p.1)), some (.sh (.int p.2)), some (.sh d)], rfl, fun d hd => ?_, ?_⟩
            · obtain ⟨m, hm, rfl⟩ := List.mem_map.mp hd
              simp [hasK]
            · have e2 : (r.map fun m => PyData.dict (siD m)).map (fun d => PyData.bool (hasK p.1 d)) = r.map fun m => PyData.bool (getS m p.1).isSome := by
                rw [List.map_map]
                exact List.map_congr_left fun m _ => by simp [hasK_si]
              rw [e2]
              simp
              cases hk : r.all fun m => (getS m p.1).isSome with
              | true =>
                simp
                refine ⟨dn ++ [p], tl, rfl, by simpa using hd, ?_⟩
                rw [fin true hk.symm]
                simp
              | false =>
                simp
                refine ⟨dn ++ [p], tl, rfl, by simpa using hd, ?_⟩
                rw [fin false hk.symm]
                simp
      · rintro ys en ⟨dn, tl, u1, u3, u4, rfl, hu, hr, hd, rfl⟩
        have etl : tl = [] := by simpa using hr.symm
        subst etl
        rw [List.append_nil] at hd
        subst hd
        simp [owPos, lentAll]
        simpa [sharedN] using hQ
def Fparts : Fn := ⟨5, 2, [], [(.asg (.name 2) .dict0), (.loop (.it (.var 0)) (.name 3) [(.dsa 2 (.idx (.prim .dict [(.var 3)]) (.var 1)) (.var 3))]), (.ret (.comp [4] (.it (.prim .sorted [(.var 2)])) (.name 4) [] (.tup [(.var 4), (.prim .tuple [(.idx (.var 2) (.var 4))])])))]⟩
def partD (p : Int × List Log) : PyData := .tuple [.int p.1, grpD p.2]
def PartsOk (Φ : Nat → List Val → CR) (i : Nat) : Prop := ∀ (ls : List Log) (x : Str) (Q : Val → List MO → Prop) (E : Exn → List MO → Prop), GLogs ls → ls ≠ [] → (∀ l ∈ ls, x ∈ l.map (·.1)) → Q (.ow (.lst ((partsN x ls).map partD))) [] → WC (Φ i [.sh (grpD ls), .sh (.str x)]) Q E
/-- the dict that is made -/
def grpDic (x : Str) (ls : List Log) : List (PyData × PyData) := (grp x ls).map fun p => (p.1, .list p.2)
theorem dol_data (x : Str) (ls : List Log) : (MO.dol (grp x ls)).data = .dict (grpDic x ls) := rfl
theorem keysI_map (f : Int → PyData) : ∀ ns : List Int, keysI (ns.map fun v => (.int v, f v)) = some ns
  | [] => rfl
  | n :: ns => by rw [List.map_cons, keysI, keysI_map f ns]; rfl
theorem grpDic_eq (x : Str) (ls : List Log) : grpDic x ls = (nubI (ls.map (valX x))).map fun v => (.int v, .list ((ls.filter fun l => decide (valX x l = v)).map logD)) := by
  unfold grpDic grp
  rw [List.map_map]
  rfl
theorem sorted_grp {x : Str} {ls : List Log} (h : ls.length < 64) : primD .sorted [.dict (grpDic x ls)] = some (.ow (.lst ((sortI (nubI (ls.map (valX x)))).map .int))) := by
  have hl : (nubI (ls.map (valX x))).length < 64 := Nat.lt_of_le_of_lt (nub_le _) (by simpa using h)
  rw [grpDic_eq]
  cases e : nubI (ls.map (valX x)) with
  | nil =>
    show some (Val.ow (.lst (sortD []))) = _
    simp [sortI, sortD]
  | cons v r =>
    show (match keysS (((v :: r).map fun v => (PyData.int v, PyData.list ((ls.filter fun l => decide (valX x l = v)).map logD)))) with
      | some ks => if ks.length < 64 then some (Val.ow (.lst (sortD (ks.map .str)))) else none
      | none => match keysI (((v :: r).map fun v => (PyData.int v, PyData.list ((ls.filter fun l => decide (valX x l = v)).map logD)))) with
        | some ks => if ks.length < 64 then some (.ow (.lst (sortD (ks.map .int)))) else none
        | none => none) = _
    rw [keysI_map (fun v => PyData.list ((ls.filter fun l => decide (valX x l = v)).map logD)) (v :: r)]
    rw [e] at hl
    show (if (v :: r).length < 64 then some (Val.ow (.lst (sortD ((v :: r).map .int)))) else none) = _
    rw [if_pos hl, sortD_ints]
theorem look_grp {x : Str} {ls : List Log} {v : Int} (h : v ∈ nubI (ls.map (valX x))) : lookD (grpDic x ls) (.inl v) = some (.list ((ls.filter fun l => decide (valX x l = v)).map logD)) := by
  rw [grpDic_eq]
  have key : ∀ ns : List Int, v ∈ ns → lookD (ns.map fun v => (PyData.int v, PyData.list ((ls.filter fun l => decide (valX x l = v)).map logD))) (.inl v) = some (.list ((ls.filter fun l => decide (valX x l = v)).map logD)) := by
    intro ns
    induction ns with
    | nil => intro h; cases h
    | cons n ns ih =>
      intro h
      rw [List.map_cons, look_cons, keyD_int]
      by_cases e : n = v
      · subst e; simp
      · have e2 : ¬ (some (Sum.inl n : L2.Key) = some (Sum.inl v)) := fun z => e (Sum.inl.inj (Option.some.inj z))
        rw [if_neg e2]
        rcases List.mem_cons.mp h with q | q
        · exact absurd q.symm e
        · exact ih q
  exact key _ h
theorem idx_log {l : Log} {x : Str} (hx : x ∈ l.map (·.1)) : idxD (.dict (siD l)) (.str x) = some (.int (valX x l)) := by
  rw [idx_dictD, keyD_str]
  exact val_look hx
theorem parts_ok (Φ Φ' : Nat → List Val → CR) (i : Nat) (h : ∀ args, Φ i args = Fparts.run Φ' args) : PartsOk Φ i := by
  intro ls x Q E g ne hx hQ
  rw [h]
  refine wc_run (by rfl) ?_
  have fw := g.few
  simp [Fparts, Fn.start, grpD]
  refine wr_loop ?_
  simp
  refine ⟨fun rest en => ∃ (dn tl : List Log) (u2 : Val) (u3 : Option Val), en = [some (.sh (.tuple (ls.map logD))), some (.sh (.str x)), some u2, u3, none] ∧ (u2 = .ow (.dol (grp x dn)) ∨ (dn = [] ∧ u2 = .ow (.dic []))) ∧ rest = tl.map logD ∧ dn ++ tl = ls, ⟨[], ls, _, none, rfl, .inr ⟨rfl, rfl⟩, rfl, rfl⟩, ?_, ?_⟩
  · rintro d rest en ⟨dn, tl, u2, u3, rfl, hu, hr, hd⟩
    cases tl with
    | nil => cases hr
    | cons l tl =>
      obtain ⟨rfl, rfl⟩ := List.cons.inj hr
      have hl : l ∈ ls := by rw [← hd]; simp
      have dl : dn.length < 64 := by
        have := congrArg List.length hd
        simp at this
        omega
      have s1 : (grp x dn).length < most := Nat.lt_of_le_of_lt (grp_len x dn) (by unfold most; omega)
      have s2 : ((grp x dn).all fun p => decide (p.2.length < most)) = true := grp_few x dn (by unfold most; omega)
      have s3 : 0 < most := by decide
      have put0 : putL [] (.inl (valX x l)) (logD l) = grp x ([] ++ [l]) := grp_put x [] l
      rcases hu with rfl | ⟨rfl, rfl⟩
      · simp [dict_logT (g.log l hl), idx_log (hx l hl)]
        rw [if_pos ⟨s1, s2⟩]
        simp
        exact ⟨dn ++ [l], grp_put x dn l, tl, rfl, by simpa using hd⟩
      · simp [dict_logT (g.log l hl), idx_log (hx l hl), s3]
        exact ⟨[] ++ [l], put0, tl, rfl, by simpa using hd⟩
  · rintro en ⟨dn, tl, u2, u3, rfl, hu, hr, hd⟩
    have etl : tl = [] := by simpa using hr.symm
    subst etl
    rw [List.append_nil] at hd
    subst hd
    have main : ∀ u2' : Val, WR (ev Φ' [] (.comp [4] (.it (.prim .sorted [(.var 2)])) (.name 4) [] (.tup [(.var 4), (.prim .tuple [(.idx (.var 2) (.var 4))])])) [some (.sh (.tuple (dn.map logD))), some (.sh (.str x)), some u2, u3, none]) (fun v en => v = .ow (.lst ((partsN x dn).map partD))) (fun _ _ => False) := fun _ => by
      refine wr_map ?_
      have after : Keep (((sortI (nubI (dn.map (valX x)))).map PyData.int).length ≤ most ∧ ∃ (f : PyData → PyData) (st : PyData → Env), restE [some (.sh (.tuple (dn.map logD))), some (.sh (.str x)), some (.sh (.dict (grpDic x dn))), u3, none] [some (.sh (.tuple (dn.map logD))), some (.sh (.str x)), some (.sh (.dict (grpDic x dn))), u3, none] [4] = [some (.sh (.tuple (dn.map logD))), some (.sh (.str x)), some (.sh (.dict (grpDic x dn))), u3, none] ∧
          (∀ d ∈ (sortI (nubI (dn.map (valX x)))).map PyData.int, bindT [] (.name 4) d (wipeE [some (.sh (.tuple (dn.map logD))), some (.sh (.str x)), some (.sh (.dict (grpDic x dn))), u3, none] [4]) = some (st d) ∧ wipeE (st d) [4] = wipeE [some (.sh (.tuple (dn.map logD))), some (.sh (.str x)), some (.sh (.dict (grpDic x dn))), u3, none] [4] ∧
            restE [some (.sh (.tuple (dn.map logD))), some (.sh (.str x)), some (.sh (.dict (grpDic x dn))), u3, none] (st d) [4] = [some (.sh (.tuple (dn.map logD))), some (.sh (.str x)), some (.sh (.dict (grpDic x dn))), u3, none] ∧ WR (ev Φ' [] (.tup [(.var 4), (.prim .tuple [(.idx (.var 2) (.var 4))])]) (st d)) (fun v en => v.share = some (f d) ∧ en = st d) (fun _ _ => False)) ∧
          Val.ow (.lst (((sortI (nubI (dn.map (valX x)))).map PyData.int).map f)) = .ow (.lst ((partsN x dn).map partD))) := by
        have sl : (sortI (nubI (dn.map (valX x)))).length ≤ dn.length := by rw [(sortI_perm _).length_eq]; exact Nat.le_trans (nub_le _) (by simp)
        refine Keep.mk ⟨by rw [List.length_map]; unfold most; omega, fun d => match d with
          | .int v => partD (v, dn.filter fun l => decide (valX x l = v))
          | _ => .none, fun d => [some (.sh (.tuple (dn.map logD))), some (.sh (.str x)), some (.sh (.dict (grpDic x dn))), u3, some (.sh d)], rfl, fun d hd => ?_, ?_⟩
        · obtain ⟨v, hv, rfl⟩ := List.mem_map.mp hd
          have hv2 := (sortI_perm _).mem_iff.mp hv
          simp [look_grp hv2, most, partD, grpD]
        · unfold partsN
          rw [List.map_map, List.map_map]
          rfl
      obtain rfl := hu.resolve_right fun z => ne z.1
      simp [dol_data, sorted_grp fw]
      exact after
    refine WR.mono (main u2) (fun v en hv => ?_) fun _ _ z => z.elim
    subst hv
    simp [owPos, lentAll]
    exact hQ
end Pv.X

/-! QaC: splitting cells; the laws' own shared cells and parts. -/
set_option linter.all false
set_option maxRecDepth 100000
set_option maxHeartbeats 2000000
namespace Pv.X
open PySem

def Fsplit (sh : Nat) : Fn := ⟨5, 1, [], [(.asg (.name 1) (.comp [2] (.it (.var 0)) (.name 2) [] (.prim .dict [(.var 2)]))), (.ret (.prim .tuple [(.comp [3] (.it (.call sh [0] [(.val (.var 0))])) (.name 3) [(.cmp .gt (.lenSet (.comp [4] (.it (.var 1)) (.name 4) [] (.idx (.var 4) (.var 3)))) (.cst (.int (1))))] (.var 3))]))]⟩
def SplitOk (Φ : Nat → List Val → CR) (i : Nat) : Prop := ∀ (ls : List Log) (Q : Val → List MO → Prop) (E : Exn → List MO → Prop), GLogs ls → Q (.sh (.tuple ((splitN ls).map .str))) [] → WC (Φ i [.sh (grpD ls)]) Q E
/-- the value at x, of a dict -/
def atK (x : Str) (d : PyData) : PyData := (idxD d (.str x)).getD .none
theorem atK_si {x : Str} {l : Log} (h : x ∈ l.map (·.1)) : atK x (.dict (siD l)) = .int (valX x l) := by
  unfold atK
  rw [idx_log h]
  rfl
theorem intsD_map : ∀ ns : List Int, intsD (ns.map .int) = some ns
  | [] => rfl
  | n :: ns => by rw [List.map_cons, intsD, intsD_map ns]; rfl
theorem split_ok (Φ Φ' : Nat → List Val → CR) (i sh : Nat) (h : ∀ args, Φ i args = (Fsplit sh).run Φ' args) (S : SharedOk Φ' sh) : SplitOk Φ i := by
  intro ls Q E g hQ
  rw [h]
  refine wc_run (by rfl) ?_
  have fw := g.few
  simp [Fsplit, Fn.start, grpD]
  refine wr_map ?_
  simp
  refine Keep.mk ⟨by rw [List.length_map]; unfold most; omega, unD, fun d => [some (.sh (.tuple (ls.map logD))), none, some (.sh d), none, none], rfl, fun d hd => ?_, ?_⟩
  · obtain ⟨m, hm, rfl⟩ := List.mem_map.mp hd
    simp [dict_logT (g.log m hm), unD_log (g.log m hm)]
  · have e1 : (ls.map logD).map unD = ls.map fun m => .dict (siD m) := by
      rw [List.map_map]
      exact List.map_congr_left fun m hm => unD_log (g.log m hm)
    rw [e1]
    simp
    refine wr_comp ?_
    simp
    refine S ls _ _ g ?_
    simp
    have sl : (sharedN ls).length ≤ most := by
      cases ls with
      | nil => simp [sharedN]
      | cons l r =>
        have := (g.log l (by simp)).few
        refine Nat.le_trans (List.length_filter_le _ _) ?_
        rw [List.length_map]
        unfold most
        omega
    refine ⟨sl, fun rest ys en => ∃ (dn tl : List Str) (u1 : Val) (u3 : Option Val), en = [some (.sh (.tuple (ls.map logD))), some u1, none, u3, none] ∧ (u1 = .ow (.lst (ls.map fun m => .dict (siD m))) ∨ u1 = .sh (.list (ls.map fun m => .dict (siD m)))) ∧
      rest = tl.map .str ∧ dn ++ tl = sharedN ls ∧ ys = (dn.filter fun x => decide (1 < (nubI (ls.map (valX x))).length)).map .str, ⟨[], sharedN ls, _, none, rfl, .inl rfl, rfl, rfl, rfl⟩, ?_, ?_⟩
    · rintro d rest ys en ⟨dn, tl, u1, u3, rfl, hu, hr, hd, rfl⟩
      cases tl with
      | nil => cases hr
      | cons x tl =>
        obtain ⟨rfl, rfl⟩ := List.cons.inj hr
        have hx : ∀ m ∈ ls, x ∈ m.map (·.1) := (mem_shared.mp (by rw [← hd]; simp)).2
        have e2 : (ls.map fun m => PyData.dict (siD m)).map (atK x) = (ls.map (valX x)).map PyData.int := by
          rw [List.map_map, List.map_map]
          exact List.map_congr_left fun m hm => atK_si (hx m hm)
        have few : ls.length ≤ 4000 := by omega
        rcases hu with rfl | rfl
        all_goals
          simp
          refine wr_map ?_
          simp
          refine Keep.mk ⟨by rw [List.length_map]; unfold most; omega, atK x, fun d => [some (.sh (.tuple (ls.map logD))), some (.sh (.list (ls.map fun m => .dict (siD m)))), none, some (.sh (.str x)), some (.sh d)], rfl, fun d hd => ?_, ?_⟩
          · obtain ⟨m, hm, rfl⟩ := List.mem_map.mp hd
            simp [atK_si (hx m hm), val_look (hx m hm)]
          · rw [e2]
            have e3 : intsD ((ls.map (valX x)).map PyData.int) = some (ls.map (valX x)) := intsD_map _
            generalize hns : ls.map (valX x) = ns at e3
            have nl : ns.length ≤ 4000 := by rw [← hns]; simpa using few
            simp [e3, nl]
            by_cases h2 : (1 : Int) < ((nubI ns).length : Int)
            · have h3 : 1 < (nubI ns).length := by omega
              simp [h2]
              refine ⟨dn ++ [x], tl, rfl, by simpa using hd, ?_⟩
              simp [List.filter_append, hns, h3]
            · have h3 : ¬ 1 < (nubI ns).length := by omega
              simp [h2]
              refine ⟨dn ++ [x], tl, rfl, by simpa using hd, ?_⟩
              simp [List.filter_append, hns, h3]
    · rintro ys en ⟨dn, tl, u1, u3, rfl, hu, hr, hd, rfl⟩
      have etl : tl = [] := by simpa using hr.symm
      subst etl
      rw [List.append_nil] at hd
      subst hd
      simp [owPos, lentAll]
      simpa [splitN] using hQ
/-! ### the laws' own words -/
/-- a family: a tuple or a list of logs -/
def Fam (d : PyData) (ls : List Log) : Prop := d = grpD ls ∨ d = .list (ls.map logD)
def Flshared : Fn := ⟨7, 2, [], [(.asg (.name 2) (.comp [3] (.it (.var 0)) (.name 3) [] (.prim .dict [(.prim .list [(.var 3)])]))), (.ret (.comp [4, 5] (.it (.idx (.var 0) (.cst (.int (0))))) (.tup [(.name 4), (.name 5)]) [(.and [(.cmp .nin (.var 4) (.var 1)), (.prim .all [(.comp [6] (.it (.var 2)) (.name 6) [] (.cmp .inn (.var 4) (.var 6)))])])] (.var 4)))]⟩
def LSharedOk (Φ : Nat → List Val → CR) (i : Nat) : Prop := ∀ (d : PyData) (ls : List Log) (rd : List Str) (Q : Val → List MO → Prop) (E : Exn → List MO → Prop), Fam d ls → GLogs ls → ls ≠ [] → rd.length ≤ 1000 → Q (.ow (.lst (((sharedN ls).filter fun x => decide (x ∉ rd)).map .str))) [] → WC (Φ i [.sh d, .sh (.tuple (rd.map .str))]) Q E
theorem lshared_ok (Φ Φ' : Nat → List Val → CR) (i : Nat) (h : ∀ args, Φ i args = Flshared.run Φ' args) : LSharedOk Φ i := by
  intro d ls rd Q E hd g ne hrd hQ
  rw [h]
  refine wc_run (by rcases hd with rfl | rfl <;> rfl) ?_
  have fw := g.few
  obtain ⟨l, r, rfl⟩ : ∃ l r, ls = l :: r := by cases ls with | nil => exact absurd rfl ne | cons l r => exact ⟨l, r, rfl⟩
  have gl := g.log l (by simp)
  have hl := gl.few
  have fw2 : r.length + 1 < 64 := by simpa using fw
  have eq0 : sharedN (l :: r) = (l.map (·.1)).filter fun x => (l :: r).all fun m => (getS m x).isSome := by
    unfold sharedN
    refine List.filter_congr fun x hx => ?_
    rw [List.all_cons, getS_iff.mpr hx]
    rfl
  have hi : itemsD d = some ((l :: r).map logD) := by rcases hd with rfl | rfl <;> rfl
  have hx : idxD d (.int 0) = some (logD l) := by rcases hd with rfl | rfl <;> simp [grpD]
  simp only [List.map_cons] at hi
  simp [Flshared, Fn.start]
  refine wr_map ?_
  simp [hi]
  refine Keep.mk ⟨by simp [most]; omega, unD, fun e => [some (.sh d), some (.sh (.tuple (rd.map .str))), none, some (.sh e), none, none, none], rfl, fun e he => ?_, ?_⟩
  · obtain ⟨m, hm, rfl⟩ : ∃ m ∈ l :: r, e = logD m := by
      rcases List.mem_cons.mp he with rfl | he
      · exact ⟨l, by simp, rfl⟩
      · obtain ⟨m, hm, rfl⟩ := List.mem_map.mp he
        exact ⟨m, by simp [hm], rfl⟩
    have e0 : primD .list [logD m] = some (.ow (.lst (m.map pairP))) := rfl
    simp [e0, pairs_si, merge_log (g.log m hm).nd, unD_log (g.log m hm)]
  · have e1 : (logD l :: r.map logD).map unD = (l :: r).map fun m => PyData.dict (siD m) := by
      rw [show logD l :: r.map logD = (l :: r).map logD from rfl, List.map_map]
      exact List.map_congr_left fun m hm => unD_log (g.log m hm)
    generalize hT : ((l :: r).map fun m => PyData.dict (siD m)) = T at e1
    have tl_ : T.length ≤ most := by rw [← hT, List.length_map]; unfold most; omega
    rw [e1]
    simp
    refine wr_comp ?_
    simp [hx, logD]
    refine ⟨by unfold most; omega, fun rest ys en => ∃ (dn tl : Log) (u2 : Val) (u4 u5 : Option Val), en = [some (.sh d), some (.sh (.tuple (rd.map .str))), some u2, none, u4, u5, none] ∧ (u2 = .ow (.lst T) ∨ u2 = .sh (.list T)) ∧
      rest = tl.map pairP ∧ dn ++ tl = l ∧ ys = ((dn.map (·.1)).filter fun x => decide (x ∉ rd) && (l :: r).all fun m => (getS m x).isSome).map .str, ⟨[], l, _, none, none, rfl, .inl rfl, rfl, rfl, rfl⟩, ?_, ?_⟩
    · rintro d2 rest ys en ⟨dn, tl, u2, u4, u5, rfl, hu, hr, hd2, rfl⟩
      cases tl with
      | nil => cases hr
      | cons p tl =>
        obtain ⟨rfl, rfl⟩ := List.cons.inj hr
        have fin : ∀ (k : Bool), k = (decide (p.1 ∉ rd) && (l :: r).all fun m => (getS m p.1).isSome) → (((dn ++ [p]).map (·.1)).filter fun x => decide (x ∉ rd) && (l :: r).all fun m => (getS m x).isSome).map PyData.str = (((dn.map (·.1)).filter fun x => decide (x ∉ rd) && (l :: r).all fun m => (getS m x).isSome).map PyData.str) ++ if k = true then [PyData.str p.1] else [] := fun k hk => by
          rw [List.map_append, List.filter_append, List.map_append]
          congr 1
          rw [List.map_cons, List.map_nil, List.filter_cons, ← hk]
          cases k <;> rfl
        by_cases hin : p.1 ∈ rd
        · have f0 := fin false (by simp [hin])
          simp only [Bool.false_eq_true, if_false, List.append_nil] at f0
          rcases hu with rfl | rfl
          all_goals
            simp [pairP, hin]
            exact ⟨dn ++ [p], tl, rfl, by simpa using hd2, by simpa using f0.symm⟩
        · rcases hu with rfl | rfl
          all_goals
            simp [pairP, hin]
            refine wr_map ?_
            simp
            refine Keep.mk ⟨tl_, fun d => .bool (hasK p.1 d), fun e => [some (.sh d), some (.sh (.tuple (rd.map .str))), some (.sh (.list T)), none, some (.sh (.str p.1)), some (.sh (.int p.2)), some (.sh e)], rfl, fun e he => ?_, ?_⟩
            · rw [← hT] at he
              obtain ⟨m, hm, rfl⟩ := List.mem_map.mp he
              simp [hasK]
            · have e2 : T.map (fun d => PyData.bool (hasK p.1 d)) = (l :: r).map fun m => PyData.bool (getS m p.1).isSome := by
                rw [← hT, List.map_map]
                exact List.map_congr_left fun m _ => by simp [hasK_si]
              have e3 : primD .all [.list ((l :: r).map fun m => PyData.bool (getS m p.1).isSome)] = some (.sh (.bool ((l :: r).all fun m => (getS m p.1).isSome))) := pr_allf
              rw [e2]
              cases hk : (l :: r).all fun m => (getS m p.1).isSome with
              | true =>
                rw [hk] at e3
                have f1 := fin true (by rw [hk]; simp [hin])
                simp only [List.map_cons] at e3 ⊢
                simp [e3]
                exact ⟨dn ++ [p], tl, rfl, by simpa using hd2, by simpa using f1.symm⟩
              | false =>
                rw [hk] at e3
                have f1 := fin false (by rw [hk]; simp)
                simp only [List.map_cons] at e3 ⊢
                simp [e3]
                simp only [Bool.false_eq_true, if_false, List.append_nil] at f1
                exact ⟨dn ++ [p], tl, rfl, by simpa using hd2, by simpa using f1.symm⟩
    · rintro ys en ⟨dn, tl, u2, u4, u5, rfl, hu, hr, hd2, rfl⟩
      have etl : tl = [] := by simpa using hr.symm
      subst etl
      rw [List.append_nil] at hd2
      subst hd2
      simp [owPos, lentAll]
      have e5 : (sharedN (dn :: r)).filter (fun x => decide (x ∉ rd)) = (dn.map (·.1)).filter fun x => decide (x ∉ rd) && (dn :: r).all fun m => (getS m x).isSome := by
        rw [eq0, List.filter_filter]
      rw [e5] at hQ
      simpa using hQ
end Pv.X

/-! QaD: the laws' own parts and splitting cells; is_stuck. -/
set_option linter.all false
set_option maxRecDepth 100000
set_option maxHeartbeats 2000000
namespace Pv.X
open PySem

def Flparts : Fn := ⟨4, 2, [], [(.asg (.name 2) .dict0), (.loop (.it (.var 0)) (.name 3) [(.dsa 2 (.idx (.prim .dict [(.prim .list [(.var 3)])]) (.var 1)) (.var 3))]), (.retV 2)]⟩
def LPartsOk (Φ : Nat → List Val → CR) (i : Nat) : Prop := ∀ (d : PyData) (ls : List Log) (x : Str) (Q : Val → List MO → Prop) (E : Exn → List MO → Prop), Fam d ls → GLogs ls → ls ≠ [] → (∀ l ∈ ls, x ∈ l.map (·.1)) → Q (.sh (.dict (grpDic x ls))) [] → WC (Φ i [.sh d, .sh (.str x)]) Q E
theorem lparts_ok (Φ Φ' : Nat → List Val → CR) (i : Nat) (h : ∀ args, Φ i args = Flparts.run Φ' args) : LPartsOk Φ i := by
  intro d ls x Q E hd g ne hx hQ
  rw [h]
  refine wc_run (by rfl) ?_
  have fw := g.few
  have hi : itemsD d = some (ls.map logD) := by rcases hd with rfl | rfl <;> rfl
  simp [Flparts, Fn.start]
  refine wr_loop ?_
  simp [hi]
  refine ⟨fun rest en => ∃ (dn tl : List Log) (u2 : Val) (u3 : Option Val), en = [some (.sh d), some (.sh (.str x)), some u2, u3] ∧ (u2 = .ow (.dol (grp x dn)) ∨ (dn = [] ∧ u2 = .ow (.dic []))) ∧ rest = tl.map logD ∧ dn ++ tl = ls, ⟨[], ls, _, none, rfl, .inr ⟨rfl, rfl⟩, rfl, rfl⟩, ?_, ?_⟩
  · rintro d2 rest en ⟨dn, tl, u2, u3, rfl, hu, hr, hd2⟩
    cases tl with
    | nil => cases hr
    | cons l tl =>
      obtain ⟨rfl, rfl⟩ := List.cons.inj hr
      have hl : l ∈ ls := by rw [← hd2]; simp
      have dl : dn.length < 64 := by
        have := congrArg List.length hd2
        simp at this
        omega
      have s1 : (grp x dn).length < most := Nat.lt_of_le_of_lt (grp_len x dn) (by unfold most; omega)
      have s2 : ((grp x dn).all fun p => decide (p.2.length < most)) = true := grp_few x dn (by unfold most; omega)
      have s3 : 0 < most := by decide
      have put0 : putL [] (.inl (valX x l)) (logD l) = grp x ([] ++ [l]) := grp_put x [] l
      have e0 : primD .list [logD l] = some (.ow (.lst (l.map pairP))) := rfl
      rcases hu with rfl | ⟨rfl, rfl⟩
      · simp [e0, pairs_si, merge_log (g.log l hl).nd, val_look (hx l hl)]
        rw [if_pos ⟨s1, s2⟩]
        simp
        exact ⟨dn ++ [l], grp_put x dn l, tl, rfl, by simpa using hd2⟩
      · simp [e0, pairs_si, merge_log (g.log l hl).nd, val_look (hx l hl), s3]
        exact ⟨[] ++ [l], put0, tl, rfl, by simpa using hd2⟩
  · rintro en ⟨dn, tl, u2, u3, rfl, hu, hr, hd2⟩
    have etl : tl = [] := by simpa using hr.symm
    subst etl
    rw [List.append_nil] at hd2
    subst hd2
    obtain rfl := hu.resolve_right fun z => ne z.1
    simp [owPos, lentAll]
    exact hQ
theorem grpDic_len (x : Str) (ls : List Log) : (grpDic x ls).length = (nubI (ls.map (valX x))).length := by
  rw [grpDic_eq, List.length_map]
@[simp] theorem pr_lenD {ps : List (PyData × PyData)} : primD .len [.dict ps] = some (.sh (.int ps.length)) := rfl
def Flsplit (sh pa : Nat) : Fn := ⟨3, 1, [], [(.asg (.name 1) (.lst [])), (.loop (.it (.call sh [0, 1] [(.val (.var 0)), (.val (.tup []))])) (.name 2) [(.ifs (.cmp .gt (.prim .len [(.call pa [0, 1] [(.val (.var 0)), (.val (.var 2))])]) (.cst (.int (1)))) [(.append 1 (.var 2))] [])]), (.retV 1)]⟩
def LSplitOk (Φ : Nat → List Val → CR) (i : Nat) : Prop := ∀ (d : PyData) (ls : List Log) (Q : Val → List MO → Prop) (E : Exn → List MO → Prop), Fam d ls → GLogs ls → ls ≠ [] → Q (.ow (.lst ((splitN ls).map .str))) [] → WC (Φ i [.sh d]) Q E
theorem shared_len {ls : List Log} (g : GLogs ls) : (sharedN ls).length ≤ 100 := by
  cases ls with
  | nil => simp [sharedN]
  | cons l r =>
    have := (g.log l (by simp)).few
    refine Nat.le_trans (List.length_filter_le _ _) ?_
    rw [List.length_map]
    exact this
theorem lsplit_ok (Φ Φ' : Nat → List Val → CR) (i sh pa : Nat) (h : ∀ args, Φ i args = (Flsplit sh pa).run Φ' args) (S : LSharedOk Φ' sh) (P : LPartsOk Φ' pa) : LSplitOk Φ i := by
  intro d ls Q E hd g ne hQ
  rw [h]
  refine wc_run (by rfl) ?_
  have sl := shared_len g
  simp [Flsplit, Fn.start, most]
  refine wr_loop ?_
  simp [most]
  have S' := S d ls []
  simp only [List.map_nil] at S'
  refine S' _ _ hd g ne (by simp) ?_
  have ef : ((sharedN ls).filter fun x => decide (x ∉ ([] : List Str))) = sharedN ls := List.filter_eq_self.mpr fun x _ => by simp
  rw [ef]
  simp
  refine ⟨fun rest en => ∃ (dn tl : List Str) (u2 : Option Val), en = [some (.sh d), some (.ow (.lst ((dn.filter fun x => decide (1 < (nubI (ls.map (valX x))).length)).map .str))), u2] ∧ rest = tl.map .str ∧ dn ++ tl = sharedN ls, ⟨[], sharedN ls, none, rfl, rfl, rfl⟩, ?_, ?_⟩
  · rintro d2 rest en ⟨dn, tl, u2, rfl, hr, hd2⟩
    cases tl with
    | nil => cases hr
    | cons x tl =>
      obtain ⟨rfl, rfl⟩ := List.cons.inj hr
      have hx : ∀ m ∈ ls, x ∈ m.map (·.1) := (mem_shared.mp (by rw [← hd2]; simp)).2
      have dl : (dn.filter fun x => decide (1 < (nubI (ls.map (valX x))).length)).length ≤ 100 := by
        refine Nat.le_trans (List.length_filter_le _ _) ?_
        have := congrArg List.length hd2
        simp at this
        omega
      simp
      refine P d ls x _ _ hd g ne hx ?_
      have step : ∀ (k : Bool), k = decide (1 < (nubI (ls.map (valX x))).length) → ((dn ++ [x]).filter fun x => decide (1 < (nubI (ls.map (valX x))).length)) = (dn.filter fun x => decide (1 < (nubI (ls.map (valX x))).length)) ++ if k = true then [x] else [] := fun k hk => by
        rw [List.filter_append]
        congr 1
        rw [List.filter_cons, ← hk]
        rfl
      generalize (dn.filter fun x => decide (1 < (nubI (ls.map (valX x))).length)) = acc at dl step
      have fw : acc.length < 16777216 := by omega
      by_cases h2 : (1 : Int) < ((nubI (ls.map (valX x))).length : Int)
      · have h3 : 1 < (nubI (ls.map (valX x))).length := by omega
        have s := step true (by simp [h3])
        simp [grpDic_len, h2, most, fw]
        exact ⟨dn ++ [x], by rw [s]; simp, tl, rfl, by simpa using hd2⟩
      · have h3 : ¬ 1 < (nubI (ls.map (valX x))).length := by omega
        have s := step false (by simp [h3])
        simp [grpDic_len, h2, most]
        exact ⟨dn ++ [x], by rw [s]; simp, tl, rfl, by simpa using hd2⟩
  · rintro en ⟨dn, tl, u2, rfl, hr, hd2⟩
    have etl : tl = [] := by simpa using hr.symm
    subst etl
    rw [List.append_nil] at hd2
    subst hd2
    simp [owPos, lentAll]
    exact hQ
def Fstuck (sp : Nat) : Fn := ⟨1, 1, [], [(.ret (.and [(.cmp .gt (.prim .len [(.var 0)]) (.cst (.int (1)))), (.cmp .eq (.call sp [0] [(.val (.var 0))]) (.tup []))]))]⟩
def StuckOk (Φ : Nat → List Val → CR) (i : Nat) : Prop := ∀ (ls : List Log) (Q : Val → List MO → Prop) (E : Exn → List MO → Prop), GLogs ls → Q (.sh (.bool (decide (1 < ls.length) && (splitN ls).isEmpty))) [] → WC (Φ i [.sh (grpD ls)]) Q E
theorem stuck_ok (Φ Φ' : Nat → List Val → CR) (i sp : Nat) (h : ∀ args, Φ i args = (Fstuck sp).run Φ' args) (S : SplitOk Φ' sp) : StuckOk Φ i := by
  intro ls Q E g hQ
  rw [h]
  refine wc_run (by rfl) ?_
  simp [Fstuck, Fn.start, grpD]
  by_cases h2 : (1 : Int) < (ls.length : Int)
  · have h3 : 1 < ls.length := by omega
    simp [h2]
    refine S ls _ _ g ?_
    simp [most, owPos, lentAll]
    simpa [h3] using hQ
  · have h3 : ¬ 1 < ls.length := by omega
    simp [h2, owPos, lentAll]
    simpa [h3] using hQ
end Pv.X

/-! QaE: blocks in plain words: what splitting leads to does not depend on the cells taken. -/
set_option linter.all false
set_option maxRecDepth 100000
set_option maxHeartbeats 1000000
namespace Pv.X
open PySem

/-- groups that splitting leads to, from ls -/
inductive Reach (ls : List Log) : List (List Log) → Prop
  | init : Reach ls [ls]
  | step {g : List Log} {r : List (List Log)} {x : Str} : Reach ls (g :: r) → x ∈ splitN g → Reach ls ((partsN x g).map (·.2) ++ r)
  | perm {a b : List (List Log)} : Reach ls a → a.Perm b → Reach ls b
theorem part_mem {x : Str} {g p : List Log} (h : p ∈ (partsN x g).map (·.2)) : ∃ v ∈ nubI (g.map (valX x)), p = g.filter fun l => decide (valX x l = v) := by
  obtain ⟨q, hq, rfl⟩ := List.mem_map.mp h
  unfold partsN at hq
  obtain ⟨v, hv, rfl⟩ := List.mem_map.mp hq
  exact ⟨v, (sortI_perm _).mem_iff.mp hv, rfl⟩
theorem part_of {x : Str} {g : List Log} {l : Log} (h : l ∈ g) : (g.filter fun m => decide (valX x m = valX x l)) ∈ (partsN x g).map (·.2) := by
  unfold partsN
  rw [List.map_map]
  exact List.mem_map.mpr ⟨valX x l, (sortI_perm _).mem_iff.mpr (nub_mem.mpr (List.mem_map_of_mem h)), rfl⟩
theorem part_ne {x : Str} {g p : List Log} (h : p ∈ (partsN x g).map (·.2)) : p ≠ [] := by
  obtain ⟨v, hv, rfl⟩ := part_mem h
  obtain ⟨l, hl, e⟩ := List.mem_map.mp (nub_mem.mp hv)
  intro z
  have : l ∈ g.filter fun m => decide (valX x m = v) := List.mem_filter.mpr ⟨hl, decide_eq_true e⟩
  rw [z] at this
  cases this
theorem parts_two {x : Str} {g : List Log} (h : x ∈ splitN g) : 2 ≤ ((partsN x g).map (·.2)).length := by
  unfold splitN at h
  rw [List.mem_filter, decide_eq_true_eq] at h
  unfold partsN
  rw [List.length_map, List.length_map, (sortI_perm _).length_eq]
  exact h.2
/-- how many there are -/
theorem filter_sum (x : Str) (g : List Log) : ∀ vs : List Int, vs.Nodup → (∀ l ∈ g, valX x l ∈ vs) → (vs.map fun v => (g.filter fun l => decide (valX x l = v)).length).sum = g.length := by
  induction g with
  | nil =>
    intro vs _ _
    have z : ∀ ws : List Int, (ws.map fun _ => 0).sum = 0 := by
      intro ws
      induction ws with
      | nil => rfl
      | cons a r ih => simpa using ih
    simpa using z vs
  | cons l g ih =>
    intro vs nd h
    have hl := h l (by simp)
    have e : ∀ ws : List Int, ws.Nodup → (ws.map fun v => ((l :: g).filter fun l => decide (valX x l = v)).length).sum = (ws.map fun v => (g.filter fun l => decide (valX x l = v)).length).sum + if valX x l ∈ ws then 1 else 0 := by
      intro ws
      induction ws with
      | nil => intro _; simp
      | cons w ws ih2 =>
        intro nd
        rw [List.nodup_cons] at nd
        rw [List.map_cons, List.sum_cons, List.map_cons, List.sum_cons, ih2 nd.2, List.filter_cons]
        by_cases q : valX x l = w
        · subst q
          simp [nd.1]
          omega
        · simp [q]
          omega
    rw [e vs nd, if_pos hl, ih vs nd fun m hm => h m (by simp [hm]), List.length_cons]
theorem parts_sum {x : Str} {g : List Log} : (((partsN x g).map (·.2)).map List.length).sum = g.length := by
  unfold partsN
  rw [List.map_map, List.map_map]
  exact filter_sum x g _ ((sortI_perm _).nodup_iff.mpr (nub_nodup _)) fun l hl => (sortI_perm _).mem_iff.mpr (nub_mem.mpr (List.mem_map_of_mem hl))
/-- no cell splits it -/
def Whole (g : List Log) : Prop := splitN g = []
theorem whole_sub {g : List Log} {x : Str} {b : List Log} (hb : Whole b) (hs : ∀ l ∈ b, l ∈ g) (hx : x ∈ splitN g) (ne : b ≠ []) : ∃ p ∈ (partsN x g).map (·.2), ∀ l ∈ b, l ∈ p := by
  obtain ⟨l0, hl0⟩ : ∃ l, l ∈ b := by cases b with | nil => exact absurd rfl ne | cons l r => exact ⟨l, by simp⟩
  refine ⟨_, part_of (hs l0 hl0), fun l hl => List.mem_filter.mpr ⟨hs l hl, decide_eq_true ?_⟩⟩
  refine Decidable.byContradiction fun e => ?_
  have : x ∈ splitN b := mem_split.mpr ⟨fun m hm => (mem_split.mp hx).1 m (hs m hm), l, hl, l0, hl0, e⟩
  rw [hb] at this
  cases this
/-- what cannot be split stays together -/
theorem reach_whole {ls : List Log} {b : List Log} (hb : Whole b) (hs : ∀ l ∈ b, l ∈ ls) (ne : b ≠ []) {gs : List (List Log)} (r : Reach ls gs) : ∃ g ∈ gs, ∀ l ∈ b, l ∈ g := by
  induction r with
  | init => exact ⟨ls, by simp, hs⟩
  | @step g r x _ hx ih =>
    obtain ⟨g', hg, h⟩ := ih
    rcases List.mem_cons.mp hg with rfl | hg
    · obtain ⟨p, hp, q⟩ := whole_sub hb h hx ne
      exact ⟨p, List.mem_append_left _ hp, q⟩
    · exact ⟨g', List.mem_append_right _ hg, h⟩
  | perm _ p ih =>
    obtain ⟨g, hg, h⟩ := ih
    exact ⟨g, p.mem_iff.mp hg, h⟩
/-- groups are parts of ls in its order, none empty, each log in one -/
theorem reach_sub {ls : List Log} (ne : ls ≠ []) {gs : List (List Log)} (r : Reach ls gs) : ∀ g ∈ gs, g.Sublist ls ∧ g ≠ [] := by
  induction r with
  | init => intro g hg; simp at hg; subst hg; exact ⟨List.Sublist.refl _, ne⟩
  | @step g r x _ hx ih =>
    intro p hp
    rcases List.mem_append.mp hp with hp | hp
    · refine ⟨?_, part_ne hp⟩
      obtain ⟨v, _, rfl⟩ := part_mem hp
      exact List.filter_sublist.trans (ih g (by simp)).1
    · exact ih p (by simp [hp])
  | perm _ p ih => exact fun g hg => ih g (p.mem_iff.mpr hg)
theorem reach_cover {ls : List Log} {gs : List (List Log)} (r : Reach ls gs) : ∀ l ∈ ls, ∃ g ∈ gs, l ∈ g := by
  induction r with
  | init => exact fun l hl => ⟨ls, by simp, hl⟩
  | @step g r x _ hx ih =>
    intro l hl
    obtain ⟨g', hg, h⟩ := ih l hl
    rcases List.mem_cons.mp hg with rfl | hg
    · exact ⟨_, List.mem_append_left _ (part_of h), List.mem_filter.mpr ⟨h, decide_eq_true rfl⟩⟩
    · exact ⟨g', List.mem_append_right _ hg, h⟩
  | perm _ p ih =>
    intro l hl
    obtain ⟨g, hg, h⟩ := ih l hl
    exact ⟨g, p.mem_iff.mp hg, h⟩
theorem reach_sum {ls : List Log} {gs : List (List Log)} (r : Reach ls gs) : (gs.map List.length).sum = ls.length := by
  induction r with
  | init => simp
  | @step g r x _ hx ih =>
    rw [List.map_cons, List.sum_cons] at ih
    rw [List.map_append, List.sum_append, parts_sum]
    exact ih
  | perm _ p ih => rw [← ih]; exact ((p.map _).sum_nat).symm
theorem reach_len {ls : List Log} (ne : ls ≠ []) {gs : List (List Log)} (r : Reach ls gs) : gs.length ≤ ls.length := by
  have s := reach_sum r
  have h := reach_sub ne r
  rw [← s]
  clear s r
  induction gs with
  | nil => simp
  | cons g gs ih =>
    have := ih fun q hq => h q (by simp [hq])
    have h1 := (h g (by simp)).2
    have : 0 < g.length := List.length_pos_iff.mpr h1
    rw [List.map_cons, List.sum_cons, List.length_cons]
    omega
/-- no log in two groups -/
theorem reach_apart {ls : List Log} {gs : List (List Log)} (r : Reach ls gs) : gs.Pairwise fun a b => ∀ l, l ∈ a → l ∉ b := by
  have pp : ∀ (x : Str) (g : List Log), ((partsN x g).map (·.2)).Pairwise fun a b => ∀ l, l ∈ a → l ∉ b := fun x g => by
    unfold partsN
    rw [List.map_map, List.pairwise_map]
    refine ((sortI_perm _).nodup_iff.mpr (nub_nodup (g.map (valX x)))).imp fun {v w} ne l h1 h2 => ?_
    have e1 := (List.mem_filter.mp h1).2
    have e2 := (List.mem_filter.mp h2).2
    simp at e1 e2
    exact ne (e1.symm.trans e2)
  induction r with
  | init => simp
  | @step g r x _ hx ih =>
    rw [List.pairwise_cons] at ih
    refine List.pairwise_append.mpr ⟨pp x g, ih.2, fun a ha b hb l h1 => ?_⟩
    obtain ⟨v, _, rfl⟩ := part_mem ha
    exact ih.1 b hb l (List.mem_filter.mp h1).1
  | perm _ p ih => exact p.pairwise ih (fun {a b} h l h1 h2 => h l h2 h1)
theorem reach_nodup {ls : List Log} (ne : ls ≠ []) {gs : List (List Log)} (r : Reach ls gs) : gs.Nodup := by
  have sub := reach_sub ne r
  have ap := reach_apart r
  unfold List.Nodup
  refine List.Pairwise.imp_of_mem (fun {a b} ha hb h e => ?_) ap
  subst e
  obtain ⟨_, q⟩ := sub a ha
  cases a with
  | nil => exact q rfl
  | cons l r => exact h l (by simp) (by simp)
/-- sublists of one list without twins are told by their members -/
theorem sub_ext {α : Type} {l a b : List α} (nd : l.Nodup) (ha : a.Sublist l) (hb : b.Sublist l) (h : ∀ x, x ∈ a ↔ x ∈ b) : a = b := by
  induction l generalizing a b with
  | nil => rw [List.sublist_nil.mp ha, List.sublist_nil.mp hb]
  | cons x l ih =>
    rw [List.nodup_cons] at nd
    cases ha with
    | cons _ ha =>
      have nx : x ∉ b := fun z => nd.1 (ha.subset ((h x).mpr z))
      cases hb with
      | cons _ hb => exact ih nd.2 ha hb h
      | cons_cons _ hb => exact absurd List.mem_cons_self nx
    | cons_cons _ ha =>
      have xb : x ∈ b := (h x).mp List.mem_cons_self
      cases hb with
      | cons _ hb => exact absurd (hb.subset xb) nd.1
      | cons_cons _ hb =>
        congr 1
        refine ih nd.2 ha hb fun y => ?_
        have q := h y
        rw [List.mem_cons, List.mem_cons] at q
        constructor
        · intro hy
          rcases q.mp (.inr hy) with z | z
          · subst z; exact absurd (ha.subset hy) nd.1
          · exact z
        · intro hy
          rcases q.mpr (.inr hy) with z | z
          · subst z; exact absurd (hb.subset hy) nd.1
          · exact z
/-- two ways of splitting to the end give the same groups -/
theorem reach_same {ls : List Log} (ne : ls ≠ []) (nd : ls.Nodup) {as bs : List (List Log)} (ra : Reach ls as) (rb : Reach ls bs) (wa : ∀ g ∈ as, Whole g) (wb : ∀ g ∈ bs, Whole g) : as.Perm bs := by
  have key : ∀ {as bs : List (List Log)}, Reach ls as → Reach ls bs → (∀ g ∈ as, Whole g) → (∀ g ∈ bs, Whole g) → ∀ g ∈ as, g ∈ bs := by
    intro as bs ra rb wa wb g hg
    obtain ⟨sg, ng⟩ := reach_sub ne ra g hg
    obtain ⟨b, hb, gb⟩ := reach_whole (wa g hg) (fun l hl => sg.subset hl) ng rb
    obtain ⟨sb, nb⟩ := reach_sub ne rb b hb
    obtain ⟨a, ha, ba⟩ := reach_whole (wb b hb) (fun l hl => sb.subset hl) nb ra
    have ag : a = g := by
      refine Classical.byContradiction fun z => ?_
      obtain ⟨l, hl⟩ : ∃ l, l ∈ g := by cases g with | nil => exact absurd rfl ng | cons l r => exact ⟨l, by simp⟩
      have far := reach_apart ra
      have : ∀ {gs : List (List Log)}, (gs.Pairwise fun a b => ∀ l, l ∈ a → l ∉ b) → a ∈ gs → g ∈ gs → l ∈ a → False := by
        intro gs pw
        induction pw with
        | nil => intro h; cases h
        | @cons c cs h1 h2 ih =>
          intro h3 h4 h5
          rcases List.mem_cons.mp h3 with e3 | h3
          · rcases List.mem_cons.mp h4 with e4 | h4
            · exact z (e3.trans e4.symm)
            · exact h1 g h4 l (e3 ▸ h5) hl
          · rcases List.mem_cons.mp h4 with e4 | h4
            · exact h1 a h3 l (e4 ▸ hl) h5
            · exact ih h3 h4 h5
      exact this far ha hg (ba l (gb l hl))
    subst ag
    have e : a = b := sub_ext nd sg sb fun l => ⟨gb l, ba l⟩
    rw [e]; exact hb
  exact (List.perm_ext_iff_of_nodup (reach_nodup ne ra) (reach_nodup ne rb)).mpr fun g => ⟨key ra rb wa wb g, key rb ra wb wa g⟩
end Pv.X

/-! QaF: blocks: the contract. -/
set_option linter.all false
set_option maxRecDepth 100000
set_option maxHeartbeats 2000000
namespace Pv.X
open PySem

theorem GLogs.sub {ls g : List Log} (h : GLogs ls) (s : g.Sublist ls) : GLogs g := ⟨fun l hl => h.log l (s.subset hl), Nat.lt_of_le_of_lt s.length_le h.few⟩
theorem alike_grps : ∀ (g h : List Log), PySem.W.alikeAll (g.map logD) (h.map logD) = true
  | [], _ => by simp [PySem.W.alikeAll]
  | _ :: _, [] => by simp [PySem.W.alikeAll]
  | a :: g, b :: h => by
    have e : PySem.W.alike (logD a) (logD b) = true := by
      unfold logD
      rw [PySem.W.alike]
      exact alike_lists a b
    rw [List.map_cons, List.map_cons, PySem.W.alikeAll, e, alike_grps g h]
    rfl
theorem alike_log (a b : Log) : PySem.W.alike (logD a) (logD b) = true := by
  unfold logD
  rw [PySem.W.alike]
  exact alike_lists a b
theorem depth_log (l : Log) : (logD l).depth ≤ 2 := by
  unfold logD
  rw [depth_tuple]
  have : PyData.depthAll (l.map pairP) ≤ 1 := depthAll_le.mpr fun d hd => by
    obtain ⟨p, _, rfl⟩ := List.mem_map.mp hd
    rw [depth_pair]
    exact Nat.le_refl _
  omega
theorem depth_grp (g : List Log) : (grpD g).depth ≤ 3 := by
  unfold grpD
  rw [depth_tuple]
  have : PyData.depthAll (g.map logD) ≤ 2 := depthAll_le.mpr fun d hd => by
    obtain ⟨p, _, rfl⟩ := List.mem_map.mp hd
    exact depth_log p
  omega
theorem sort_logs_ok {ls : List Log} (h : ls.length ≤ most) : sortOk (ls.map logD) = true := by
  unfold sortOk
  have h1 : (ls.map logD).all (fun a => (ls.map logD).all fun b => PySem.W.alike a b) = true := by
    simp only [List.all_map, List.all_eq_true, Function.comp_apply]
    exact fun a _ b _ => alike_log a b
  have h2 : (ls.map logD).all (fun d => decide (d.depth ≤ deepest)) = true := by
    simp only [List.all_map, List.all_eq_true, Function.comp_apply, decide_eq_true_eq]
    exact fun a _ => Nat.le_trans (depth_log a) (by decide)
  simp only [Bool.and_eq_true, Bool.or_eq_true, decide_eq_true_eq]
  refine ⟨⟨⟨h1, h2⟩, by simpa using h⟩, .inl (List.all_eq_true.mpr fun d hd => ?_)⟩
  obtain ⟨p, _, rfl⟩ := List.mem_map.mp hd
  rfl
theorem sort_grps_ok {gs : List (List Log)} (h : gs.length ≤ most) : sortOk (gs.map grpD) = true := by
  unfold sortOk
  have h1 : (gs.map grpD).all (fun a => (gs.map grpD).all fun b => PySem.W.alike a b) = true := by
    simp only [List.all_map, List.all_eq_true, Function.comp_apply]
    intro a _ b _
    unfold grpD
    rw [PySem.W.alike]
    exact alike_grps a b
  have h2 : (gs.map grpD).all (fun d => decide (d.depth ≤ deepest)) = true := by
    simp only [List.all_map, List.all_eq_true, Function.comp_apply, decide_eq_true_eq]
    exact fun a _ => Nat.le_trans (depth_grp a) (by decide)
  simp only [Bool.and_eq_true, Bool.or_eq_true, decide_eq_true_eq]
  refine ⟨⟨⟨h1, h2⟩, by simpa using h⟩, .inl (List.all_eq_true.mpr fun d hd => ?_)⟩
  obtain ⟨p, _, rfl⟩ := List.mem_map.mp hd
  rfl
def wgt (gs : List (List Log)) : Nat := (gs.map fun g => 2 * g.length - 1).sum
theorem wgt_app (a b : List (List Log)) : wgt (a ++ b) = wgt a + wgt b := by
  unfold wgt
  rw [List.map_append, List.sum_append]
theorem wgt_parts {x : Str} {g : List Log} (h : x ∈ splitN g) : wgt ((partsN x g).map (·.2)) < 2 * g.length - 1 := by
  have s := parts_sum (x := x) (g := g)
  have t := parts_two h
  have key : ∀ ps : List (List Log), (∀ p ∈ ps, p ≠ []) → wgt ps + ps.length = 2 * (ps.map List.length).sum := by
    intro ps
    induction ps with
    | nil => intro _; rfl
    | cons p ps ih =>
      intro h
      have h1 : 0 < p.length := List.length_pos_iff.mpr (h p (by simp))
      have h2 := ih fun q hq => h q (by simp [hq])
      unfold wgt at h2 ⊢
      rw [List.map_cons, List.sum_cons, List.map_cons, List.sum_cons, List.length_cons]
      omega
  have k := key ((partsN x g).map (·.2)) fun p hp => part_ne hp
  omega
def Fblocks (sp pa : Nat) : Fn := ⟨7, 1, [], [(.par 1 2 (.lst []) (.lst [])), (.ifs (.cmp .gt (.prim .len [(.var 0)]) (.cst (.int (0)))) [(.append 2 (.var 0))] []), (.whl (.cmp .ne (.var 2) (.lst [])) [(.asg (.name 3) (.pop 2)), (.asg (.name 4) (.call sp [0] [(.val (.var 3))])), (.ifs (.cmp .eq (.var 4) (.tup [])) [(.append 1 (.var 3))] [(.extend 2 (.comp [5, 6] (.it (.call pa [0, 1] [(.val (.var 3)), (.val (.idx (.var 4) (.cst (.int (0)))))])) (.tup [(.name 5), (.name 6)]) [] (.var 6)))])]), (.ret (.prim .tuple [(.prim .sorted [(.var 1)])]))]⟩
def BlocksOk (Φ : Nat → List Val → CR) (i : Nat) : Prop := ∀ (ls : List Log) (Q : Val → List MO → Prop) (E : Exn → List MO → Prop), GLogs ls → (ls = [] → Q (.sh (.tuple [])) []) →
  (∀ found : List (List Log), ls ≠ [] → Reach ls found → (∀ g ∈ found, Whole g) → Q (.sh (.tuple (sortD (found.map grpD)))) []) → WC (Φ i [.sh (grpD ls)]) Q E
theorem blocks_ok (Φ Φ' : Nat → List Val → CR) (i sp pa : Nat) (h : ∀ args, Φ i args = (Fblocks sp pa).run Φ' args) (S : SplitOk Φ' sp) (P : PartsOk Φ' pa) : BlocksOk Φ i := by
  intro ls Q E g hQ0 hQ
  rw [h]
  refine wc_run (by rfl) ?_
  have fw := g.few
  cases hls : ls with
  | nil =>
    simp [Fblocks, Fn.start, grpD, most]
    refine wr_while (fun n en => en = [some (.sh (.tuple [])), some (.ow (.lst [])), some (.ow (.lst [])), none, none, none, none]) 0 rfl ?_
    rintro n en rfl
    have e1 : primD .sorted [.list []] = some (.ow (.lst [])) := by
      show (if sortOk [] = true then some (Val.ow (.lst (sortD []))) else none) = _
      simp [sortOk, sortD]
    simp [most, e1, owPos, lentAll]
    exact hQ0 hls
  | cons l0 r0 =>
  have ne : ls ≠ [] := by rw [hls]; simp
  rw [← hls]
  have lpos : 0 < ls.length := by rw [hls]; simp
  simp [Fblocks, Fn.start, grpD, most, lpos]
  refine wr_while (fun n en => ∃ (found st : List (List Log)) (u3 u4 : Option Val), en = [some (.sh (.tuple (ls.map logD))), some (.ow (.lst (found.map grpD))), some (.ow (.lst (st.map grpD))), u3, u4, none, none] ∧ n = wgt st ∧ Reach ls (found ++ st) ∧ ∀ g ∈ found, Whole g) (wgt [ls])
    ⟨[], [ls], none, none, rfl, rfl, .init, by simp⟩ ?_
  rintro n en ⟨found, st, u3, u4, rfl, rfl, rc, wh⟩
  have total := reach_len ne rc
  rw [List.length_append] at total
  rcases List.eq_nil_or_concat st with rfl | ⟨st', gr, rfl⟩
  · have ok := sort_grps_ok (gs := found) (by unfold most; simp at total; omega)
    have e1 : primD .sorted [.list (found.map grpD)] = some (.ow (.lst (sortD (found.map grpD)))) := if_pos ok
    simp [most, e1, owPos, lentAll]
    exact hQ found ne (by simpa using rc) wh
  · have rc2 : Reach ls (gr :: (found ++ st')) := rc.perm (by
      rw [List.concat_eq_append, ← List.append_assoc]
      exact List.perm_append_singleton gr _)
    have sub := (reach_sub ne rc2 gr (by simp))
    have gg := g.sub sub.1
    have em : ∀ z : PyData, (st'.map grpD ++ [z]).isEmpty = false := fun z => by cases st' <;> rfl
    have fl : found.length < 16777216 := by omega
    have gpos : 0 < gr.length := List.length_pos_iff.mpr sub.2
    have w0 : wgt (st' ++ [gr]) = wgt st' + (2 * gr.length - 1) := by rw [wgt_app]; simp [wgt]
    simp [most, em]
    have S' := S gr
    unfold grpD at S'
    simp only [grpD]
    refine S' _ _ gg ?_
    cases hsp : splitN gr with
    | nil =>
      simp [fl, most]
      refine ⟨wgt st', by rw [w0]; omega, found ++ [gr], st', by simp [grpD], rfl, ?_, fun p hp => ?_⟩
      · exact rc2.perm (by
          have : (found ++ [gr]) ++ st' = found ++ ([gr] ++ st') := by simp
          rw [this]
          exact List.perm_middle.symm)
      · rcases List.mem_append.mp hp with hp | hp
        · exact wh p hp
        · simp at hp; rw [hp]; exact hsp
    | cons x xs =>
      have hx : x ∈ splitN gr := by rw [hsp]; simp
      have hxs := (mem_split.mp hx).1
      simp [most]
      refine wr_map ?_
      simp
      have P' := P gr x
      unfold grpD at P'
      refine P' _ _ gg sub.2 hxs ?_
      simp
      have pl : (partsN x gr).length ≤ 64 := by
        unfold partsN
        rw [List.length_map, (sortI_perm _).length_eq]
        have := nub_le (gr.map (valX x))
        rw [List.length_map] at this
        have := gg.few
        omega
      have rc3 := rc2.step hx
      have tot3 := reach_len ne rc3
      rw [List.length_append, List.length_append] at tot3
      refine Keep.mk ⟨by rw [List.length_map]; unfold most; omega, snd2, fun d => [some (.sh (.tuple (ls.map logD))), some (.ow (.lst (found.map grpD))), some (.ow (.lst (st'.map grpD))), some (.sh (.tuple (gr.map logD))), some (.sh (.tuple (.str x :: xs.map .str))), some (.sh (match d with | .tuple [a, _] => a | _ => .none)), some (.sh (snd2 d))], rfl, fun d hd => ?_, ?_⟩
      · obtain ⟨p, hp, rfl⟩ := List.mem_map.mp hd
        simp [partD, snd2_p]
      · have e2 : ((partsN x gr).map partD).map snd2 = ((partsN x gr).map (·.2)).map grpD := by
          rw [List.map_map, List.map_map]
          exact List.map_congr_left fun p _ => rfl
        rw [e2]
        have wp := wgt_parts hx
        generalize (partsN x gr).map (·.2) = new at rc3 tot3 wp
        have fits : st'.length + new.length ≤ 16777216 := by omega
        simp [fits, most]
        refine ⟨wgt (st' ++ new), by rw [wgt_app, w0]; omega, found, st' ++ new, by simp, rfl, ?_, wh⟩
        exact rc3.perm (by
          rw [← List.append_assoc found st' new]
          exact List.perm_append_comm)
end Pv.X

/-! QaG: sorting logs and groups in plain words. -/
set_option linter.all false
set_option maxRecDepth 100000
set_option maxHeartbeats 1000000
namespace Pv.X
open PySem

theorem toks_pair (p : Str × Int) : PySem.W.keyToks (pairP p) = [.inl 1, .inr p.1.cps.toList, .inl 1, .inl p.2, .inl 0] := by
  simp [pairP, PySem.W.keyToks, PySem.W.keyToksAll]
theorem toks_log : ∀ (a b : Log) (l m : List (Int ⊕ List Nat)), PySem.W.keyToksAll (a.map pairP) ++ l = PySem.W.keyToksAll (b.map pairP) ++ m → a = b ∧ l = m
  | [], [], l, m, h => by simp [PySem.W.keyToksAll] at h; exact ⟨rfl, h⟩
  | [], _ :: _, l, m, h => by simp [PySem.W.keyToksAll] at h
  | _ :: _, [], l, m, h => by simp [PySem.W.keyToksAll] at h
  | p :: a, q :: b, l, m, h => by
    simp only [List.map_cons, PySem.W.keyToksAll, toks_pair, List.cons_append, List.nil_append, List.append_assoc, List.cons.injEq, Sum.inl.injEq, Sum.inr.injEq, true_and] at h
    obtain ⟨h1, h2, h3⟩ := h
    obtain ⟨h4, h5⟩ := toks_log a b l m h3
    refine ⟨?_, h5⟩
    have e : p = q := Prod.ext (PySem.W.str_of_cps h1) h2
    rw [e, h4]
theorem toks_grp : ∀ (a b : List Log), PySem.W.keyToksAll (a.map logD) = PySem.W.keyToksAll (b.map logD) → a = b
  | [], [], _ => rfl
  | [], _ :: _, h => by simp [PySem.W.keyToksAll] at h
  | _ :: _, [], h => by simp [PySem.W.keyToksAll] at h
  | p :: a, q :: b, h => by
    simp only [List.map_cons, PySem.W.keyToksAll, logD, PySem.W.keyToks, List.cons.injEq, true_and] at h
    obtain ⟨h1, h2⟩ := toks_log p q _ _ h
    rw [h1, toks_grp a b h2]
def cmpL (a b : Log) : Bool := !PySem.W.dataLt (logD b) (logD a)
def cmpG (a b : List Log) : Bool := !PySem.W.dataLt (grpD b) (grpD a)
theorem cmpL_anti {a b : Log} (h1 : cmpL a b = true) (h2 : cmpL b a = true) : a = b := by
  unfold cmpL PySem.W.dataLt at h1 h2
  simp only [Bool.not_eq_true'] at h1 h2
  have q := PyProof.Rows.lex_total (O := PyProof.Rows.itemOrd) _ _ h2 h1
  have := toks_log a b [] [] (by simpa [logD, PySem.W.keyToks] using q)
  exact this.1
theorem cmpG_anti {a b : List Log} (h1 : cmpG a b = true) (h2 : cmpG b a = true) : a = b := by
  unfold cmpG PySem.W.dataLt at h1 h2
  simp only [Bool.not_eq_true'] at h1 h2
  have q := PyProof.Rows.lex_total (O := PyProof.Rows.itemOrd) _ _ h2 h1
  exact toks_grp a b (by simpa [grpD, PySem.W.keyToks] using q)
def sortL (ls : List Log) : List Log := ls.mergeSort cmpL
def sortG (gs : List (List Log)) : List (List Log) := gs.mergeSort cmpG
theorem sortL_perm (ls : List Log) : (sortL ls).Perm ls := List.mergeSort_perm _ _
theorem sortG_perm (gs : List (List Log)) : (sortG gs).Perm gs := List.mergeSort_perm _ _
theorem sortL_pw (ls : List Log) : (sortL ls).Pairwise fun a b => cmpL a b = true :=
  List.pairwise_mergeSort (le := cmpL) (fun _ _ _ h1 h2 => lt_cmp h1 h2) (fun a b => lt_tot _ _) ls
theorem sortG_pw (gs : List (List Log)) : (sortG gs).Pairwise fun a b => cmpG a b = true :=
  List.pairwise_mergeSort (le := cmpG) (fun _ _ _ h1 h2 => lt_cmp h1 h2) (fun a b => lt_tot _ _) gs
theorem sortD_logs (ls : List Log) : sortD (ls.map logD) = (sortL ls).map logD := by
  unfold sortD sortL
  exact (List.map_mergeSort (f := logD) (r := cmpL) (s := fun a b => !PySem.W.dataLt b a) fun a _ b _ => rfl).symm
theorem sortD_grps (gs : List (List Log)) : sortD (gs.map grpD) = (sortG gs).map grpD := by
  unfold sortD sortG
  exact (List.map_mergeSort (f := grpD) (r := cmpG) (s := fun a b => !PySem.W.dataLt b a) fun a _ b _ => rfl).symm
theorem sortL_eq {ls ms : List Log} (h : ls.Perm ms) (pw : ms.Pairwise fun a b => cmpL a b = true) : sortL ls = ms :=
  ((sortL_perm ls).trans h).eq_of_pairwise (le := fun a b => cmpL a b = true) (fun a b _ _ h1 h2 => cmpL_anti h1 h2) (sortL_pw ls) pw
theorem sortG_eq {gs hs : List (List Log)} (h : gs.Perm hs) : sortG gs = sortG hs :=
  (((sortG_perm gs).trans h).trans (sortG_perm hs).symm).eq_of_pairwise (le := fun a b => cmpG a b = true) (fun a b _ _ h1 h2 => cmpG_anti h1 h2) (sortG_pw gs) (sortG_pw hs)
/-- the logs of all groups are the logs -/
theorem reach_flat {ls : List Log} (ne : ls ≠ []) (nd : ls.Nodup) {gs : List (List Log)} (r : Reach ls gs) : gs.flatten.Perm ls := by
  have sub := reach_sub ne r
  have ndf : gs.flatten.Nodup := by
    unfold List.Nodup
    rw [List.pairwise_flatten]
    exact ⟨fun g hg => (sub g hg).1.nodup nd, (reach_apart r).imp fun {a b} h x hx y hy => fun (e : x = y) => h x hx (by rw [e]; exact hy)⟩
  refine (List.perm_ext_iff_of_nodup ndf nd).mpr fun l => ?_
  rw [List.mem_flatten]
  exact ⟨fun ⟨g, hg, hl⟩ => (sub g hg).1.subset hl, fun hl => reach_cover r l hl⟩
end Pv.X

/-! QaH: the laws' own blocks. -/
set_option linter.all false
set_option maxRecDepth 100000
set_option maxHeartbeats 2000000
namespace Pv.X
open PySem

section
variable {Φ : Nat → List Val → CR} {bor : List Nat} {env env1 : Env} {i : Nat} {ds : List PyData}
/-- a comprehension over the keys of a dict, as one over their list -/
theorem wr_comk {own : List Nat} {t : Tgt} {cs : List Ex} {e : Ex} {Q : Val → Env → Prop} {E : Exn → Env → Prop} (h : keysAt i env = .ok ds env1) (w : WR (ev Φ bor (.comp own (.it (.cst (.list ds))) t cs e) env1) Q E) : WR (ev Φ bor (.comk own i t cs e) env) Q E := by
  refine Eq.mp (congrArg (fun r => WR r Q E) ?_) w
  rw [ev, ev, h, evS_it, ev]
  rfl
end
def lstD (g : List Log) : PyData := .list (g.map logD)
/-- a dict's value -/
def atD1 (ps : List (PyData × PyData)) (k : PyData) : PyData := ((keyD k).bind (lookD ps)).getD .none
theorem grp_vals (x : Str) (g : List Log) : ((grpDic x g).map Prod.fst).map (atD1 (grpDic x g)) = ((nubI (g.map (valX x))).map fun v => g.filter fun l => decide (valX x l = v)).map lstD := by
  have e : (grpDic x g).map Prod.fst = (nubI (g.map (valX x))).map .int := by
    rw [grpDic_eq, List.map_map]; rfl
  rw [e, List.map_map, List.map_map]
  refine List.map_congr_left fun v hv => ?_
  simp only [Function.comp_apply, atD1, keyD_int, Option.bind_some, look_grp hv, Option.getD_some]
  rfl
theorem parts_perm (x : Str) (g : List Log) : ((nubI (g.map (valX x))).map fun v => g.filter fun l => decide (valX x l = v)).Perm ((partsN x g).map (·.2)) := by
  unfold partsN
  rw [List.map_map]
  exact (sortI_perm _).symm.map _
theorem wgt_perm {a b : List (List Log)} (p : a.Perm b) : wgt a = wgt b := by
  unfold wgt
  exact (p.map _).sum_nat
def Fown (sp pa of : Nat) : Fn := ⟨8, 2, [0], [(.par 2 3 (.lst []) (.lst [(.prim .list [(.var 1)])])), (.whl (.cmp .ne (.var 3) (.lst [])) [(.asg (.name 4) (.pop 3)), (.asg (.name 5) (.call sp [0] [(.val (.var 4))])), (.ifs (.cmp .eq (.var 5) (.lst [])) [(.append 2 (.prim .tuple [(.prim .sorted [(.var 4)])]))] [(.asg (.name 6) (.call pa [0, 1] [(.val (.var 4)), (.val (.call of [0, 1] [(.lend 0), (.val (.var 5))]))])), (.extend 3 (.comk [7] 6 (.name 7) [] (.idx (.var 6) (.var 7))))])]), (.ret (.prim .tuple [(.prim .sorted [(.var 2)])]))]⟩
def OwnOk (Φ : Nat → List Val → CR) (i : Nat) : Prop := ∀ (b : List PyData) (m : Nat) (ls : List Log) (Q : Val → List MO → Prop) (E : Exn → List MO → Prop), GB m b → m + 200 < 2 ^ 100 → GLogs ls → ls ≠ [] → (ls.Pairwise fun a b => cmpL a b = true) →
  (∀ (found : List (List Log)) (b' : List PyData), GB (m + 128) b' → Reach ls found → (∀ g ∈ found, Whole g) → Q (.sh (.tuple (sortD (found.map grpD)))) [.lst b']) → WC (Φ i [.ow (.lst b), .sh (grpD ls)]) Q E
theorem own_ok (Φ Φ' : Nat → List Val → CR) (i sp pa of : Nat) (h : ∀ args, Φ i args = (Fown sp pa of).run Φ' args) (S : LSplitOk Φ' sp) (P : LPartsOk Φ' pa) (O : OfOk Φ' of) : OwnOk Φ i := by
  intro b m ls Q E hb hm g ne pw hQ
  rw [h]
  refine wc_run (by rfl) ?_
  have fw := g.few
  have lpos : 0 < ls.length := List.length_pos_iff.mpr ne
  simp [Fown, Fn.start, grpD, most]
  refine wr_while (fun n en => ∃ (b1 : List PyData) (found st : List (List Log)) (u4 u5 u6 : Option Val), en = [some (.ow (.lst b1)), some (.sh (.tuple (ls.map logD))), some (.ow (.lst (found.map grpD))), some (.ow (.lst (st.map lstD))), u4, u5, u6, none] ∧ n = wgt st ∧ Reach ls (found ++ st) ∧ (∀ g ∈ found, Whole g) ∧ wgt st ≤ 2 * ls.length - 1 ∧ GB (m + (2 * ls.length - 1 - wgt st)) b1) (wgt [ls])
    ⟨b, [], [ls], none, none, none, rfl, rfl, .init, by simp, by simp [wgt], hb.mono (by omega)⟩ ?_
  rintro n en ⟨b1, found, st, u4, u5, u6, rfl, rfl, rc, wh, wl, hb1⟩
  have total := reach_len ne rc
  rw [List.length_append] at total
  rcases List.eq_nil_or_concat st with rfl | ⟨st', gr, rfl⟩
  · have ok := sort_grps_ok (gs := found) (by unfold most; simp at total; omega)
    have e1 : primD .sorted [.list (found.map grpD)] = some (.ow (.lst (sortD (found.map grpD)))) := if_pos ok
    simp [most, e1, owPos, lentAll]
    exact hQ found b1 (hb1.mono (by simp [wgt]; omega)) (by simpa using rc) wh
  · have rc2 : Reach ls (gr :: (found ++ st')) := rc.perm (by
      rw [List.concat_eq_append, ← List.append_assoc]
      exact List.perm_append_singleton gr _)
    have sub := (reach_sub ne rc2 gr (by simp))
    have gg := g.sub sub.1
    have em : ∀ z : PyData, (st'.map lstD ++ [z]).isEmpty = false := fun z => by cases st' <;> rfl
    have fl : found.length < 16777216 := by omega
    have gpos : 0 < gr.length := List.length_pos_iff.mpr sub.2
    have w0 : wgt (st' ++ [gr]) = wgt st' + (2 * gr.length - 1) := by rw [wgt_app]; simp [wgt]
    rw [List.concat_eq_append] at wl hb1
    rw [w0] at wl hb1
    simp [most, em]
    refine S (lstD gr) gr _ _ (.inr rfl) gg sub.2 ?_
    cases hsp : splitN gr with
    | nil =>
      have so : primD .sorted [lstD gr] = some (.ow (.lst (sortD (gr.map logD)))) := if_pos (sort_logs_ok (by have := gg.few; unfold most; omega))
      have se : sortD (gr.map logD) = gr.map logD := by
        rw [sortD_logs, sortL_eq (List.Perm.refl gr) (pw.sublist sub.1)]
      simp [most, so, se, fl]
      refine ⟨wgt st', by rw [w0]; omega, b1, found ++ [gr], st', ⟨rfl, by simp [grpD], rfl⟩, rfl, ?_, fun p hp => ?_, by omega, hb1.mono (by omega)⟩
      · exact rc2.perm (by
          have : (found ++ [gr]) ++ st' = found ++ ([gr] ++ st') := by simp
          rw [this]
          exact List.perm_middle.symm)
      · rcases List.mem_append.mp hp with hp | hp
        · exact wh p hp
        · simp at hp; rw [hp]; exact hsp
    | cons x0 xs =>
      rw [← hsp]
      have hne : (splitN gr).map PyData.str ≠ [] := by rw [hsp]; simp
      have hne2 : ((splitN gr).map PyData.str).isEmpty = false := by rw [hsp]; rfl
      have hsl : ((splitN gr).map PyData.str).length < 1073741824 := by
        rw [List.length_map]
        refine Nat.lt_of_le_of_lt (List.length_filter_le _ _) ?_
        have := shared_len gg
        omega
      simp [most, hne2]
      refine (O b1 _ ((splitN gr).map PyData.str) _ _ hb1 (by omega) hne hsl fun d b2 hb2 hd => ?_).1
      obtain ⟨x, hx, rfl⟩ := List.mem_map.mp hd
      have hxs := (mem_split.mp hx).1
      simp [most]
      refine P (lstD gr) gr x _ _ (.inr rfl) gg sub.2 hxs ?_
      simp
      refine wr_comk rfl ?_
      refine wr_map ?_
      simp
      have kl : (grpDic x gr).length ≤ 64 := by
        rw [grpDic_len]
        have := nub_le (gr.map (valX x))
        rw [List.length_map] at this
        have := gg.few
        omega
      have rc3 := (rc2.step hx).perm ((parts_perm x gr).symm.append_right _)
      have tot3 := reach_len ne rc3
      rw [List.length_append, List.length_append] at tot3
      refine Keep.mk ⟨by simp; unfold most; omega, atD1 (grpDic x gr), fun d => [some (.ow (.lst b2)), some (.sh (.tuple (ls.map logD))), some (.ow (.lst (found.map grpD))), some (.ow (.lst (st'.map lstD))), some (.sh (lstD gr)), some (.sh (.list ((splitN gr).map .str))), some (.sh (.dict (grpDic x gr))), some (.sh d)], rfl, fun d hd => ?_, ?_⟩
      · obtain ⟨v, hv, rfl⟩ : ∃ v ∈ nubI (gr.map (valX x)), d = .int v := by
          rw [grpDic_eq, List.map_map] at hd
          obtain ⟨v, hv, rfl⟩ := List.mem_map.mp hd
          exact ⟨v, hv, rfl⟩
        simp [look_grp hv, atD1]
      · have e2 := grp_vals x gr
        have wp := wgt_parts hx
        rw [← wgt_perm (parts_perm x gr)] at wp
        rw [e2]
        generalize ((nubI (gr.map (valX x))).map fun v => gr.filter fun l => decide (valX x l = v)) = new at rc3 tot3 wp
        have fits : st'.length + new.length ≤ 16777216 := by omega
        simp [fits, most]
        refine ⟨wgt (st' ++ new), by rw [wgt_app, w0]; omega, b2, found, st' ++ new, ⟨rfl, rfl, by simp⟩, rfl, ?_, wh, by rw [wgt_app]; omega, hb2.mono (by rw [wgt_app]; omega)⟩
        exact rc3.perm (by
          rw [← List.append_assoc found st' new]
          exact List.perm_append_comm)
end Pv.X

/-! QaI: the leaves of a drawn tree: distinct logs. -/
set_option linter.all false
set_option maxRecDepth 100000
set_option maxHeartbeats 2000000
namespace Pv.X
open PySem

structure FineL (A : Str → Prop) (h : Nat) (l : Log) : Prop where
  nd : (l.map (·.1)).Nodup
  inA : ∀ x ∈ l.map (·.1), A x
  few : l.length ≤ h
  val : ∀ p ∈ l, 0 ≤ p.2 ∧ p.2 ≤ 1000000000
structure LogsPost (A : Str → Prop) (h n : Nat) (ls : List Log) : Prop where
  ne : ls ≠ []
  few : ls.length ≤ n
  pw : ls.Pairwise fun a b => cmpL a b = true
  nd : ls.Nodup
  fine : ∀ l ∈ ls, FineL A h l
def sortP (l : Log) : Log := l.mergeSort fun a b => !PySem.W.dataLt (pairP b) (pairP a)
theorem sortP_perm (l : Log) : (sortP l).Perm l := List.mergeSort_perm _ _
theorem sortD_pairs (l : Log) : sortD (l.map pairP) = (sortP l).map pairP := by
  unfold sortD sortP
  exact (List.map_mergeSort (f := pairP) (r := fun a b => !PySem.W.dataLt (pairP b) (pairP a)) (s := fun a b => !PySem.W.dataLt b a) fun a _ b _ => rfl).symm
theorem FineL.perm {A : Str → Prop} {h : Nat} {a b : Log} (f : FineL A h a) (p : b.Perm a) : FineL A h b :=
  ⟨(p.map (·.1)).nodup_iff.mpr f.nd, fun x hx => f.inA x ((p.map (·.1)).mem_iff.mp hx), by rw [p.length_eq]; exact f.few, fun q hq => f.val q (p.mem_iff.mp hq)⟩
/-- the two differ at a cell -/
def conf (a b : Log) : Prop := ∃ x v w, (x, v) ∈ a ∧ (x, w) ∈ b ∧ v ≠ w
theorem conf.symm {a b : Log} (h : conf a b) : conf b a := by
  obtain ⟨x, v, w, h1, h2, h3⟩ := h
  exact ⟨x, w, v, h2, h1, fun e => h3 e.symm⟩
theorem conf.mono {a b a' b' : Log} (h : conf a b) (h1 : ∀ p ∈ a, p ∈ a') (h2 : ∀ p ∈ b, p ∈ b') : conf a' b' := by
  obtain ⟨x, v, w, q1, q2, q3⟩ := h
  exact ⟨x, v, w, h1 _ q1, h2 _ q2, q3⟩
theorem nd_val : ∀ {l : Log} {x : Str} {v w : Int}, (l.map (·.1)).Nodup → (x, v) ∈ l → (x, w) ∈ l → v = w
  | p :: l, x, v, w, nd, h1, h2 => by
    rw [List.map_cons, List.nodup_cons] at nd
    rcases List.mem_cons.mp h1 with e1 | h1 <;> rcases List.mem_cons.mp h2 with e2 | h2
    · rw [← e1] at e2; exact (Prod.mk.inj e2).2.symm
    · exact absurd (by rw [← e1]; exact List.mem_map_of_mem (f := (·.1)) h2) nd.1
    · exact absurd (by rw [← e2]; exact List.mem_map_of_mem (f := (·.1)) h1) nd.1
    · exact nd_val nd.2 h1 h2
theorem conf_nodup {A : Str → Prop} {h : Nat} {ls : List Log} (pw : ls.Pairwise conf) (f : ∀ l ∈ ls, FineL A h l) : ls.Nodup := by
  unfold List.Nodup
  refine List.Pairwise.imp_of_mem (fun {a b} ha hb q e => ?_) pw
  subst e
  obtain ⟨x, v, w, h1, h2, h3⟩ := q
  exact h3 (nd_val (f a ha).nd h1 h2)
theorem subs_pw {A : Str → Prop} : ∀ (bs : Bs) {p : Int}, bs.Good A p → (bs.subs.Pairwise fun a b => a.1 < b.1) ∧ ∀ q ∈ bs.subs, p < q.1 ∧ q.1 ≤ 1000000000
  | .nil, _, _ => by unfold Bs.subs; simp
  | .cons v t r, p, g => by
    unfold Bs.Good at g
    obtain ⟨h1, h2⟩ := subs_pw r g.2.2.2
    unfold Bs.subs
    refine ⟨List.pairwise_cons.mpr ⟨fun q hq => (h2 q hq).1, h1⟩, fun q hq => ?_⟩
    rcases List.mem_cons.mp hq with rfl | hq
    · exact ⟨g.1, g.2.1⟩
    · have := h2 q hq
      exact ⟨by have := g.1; omega, this.2⟩
def Leaves2Ok (Φ : Nat → List Val → CR) (i : Nat) : Prop := ∀ (t : Tr) (A : Str → Prop) (Q : Val → List MO → Prop) (E : Exn → List MO → Prop), t.Good A → t.height ≤ 100 → t.leaves ≤ 1000 →
  (∀ ls : List Log, LogsPost A t.height t.leaves ls → Q (.sh (grpD ls)) []) → WC (Φ i [.sh t.data]) Q E
theorem leaves2_ok (Φ Φ' : Nat → List Val → CR) (i : Nat) (h : ∀ args, Φ i args = Fleaves.run Φ' args) : Leaves2Ok Φ i := by
  intro t A Q E g hh hl hQ
  rw [h]
  refine wc_run (by rfl) ?_
  simp [Fleaves, Fn.start, most]
  refine wr_while (fun n en => ∃ (found : List Log) (st : List (Tr × List (Str × Int))) (u3 u4 : Option Val), en = [some (.sh t.data), some (.ow (.lst (found.map logD))), some (.ow (.lst (st.map itemD))), u3, u4, none, none] ∧ n = (st.map fun p => p.1.size).sum ∧
    (∀ p ∈ st, Item t A p.1 p.2 ∧ p.2.length + p.1.height ≤ t.height ∧ ∀ q ∈ p.2, 0 ≤ q.2 ∧ q.2 ≤ 1000000000) ∧ (∀ l ∈ found, FineL A t.height l) ∧ found.length + (st.map fun p => p.1.leaves).sum = t.leaves ∧ (found ++ st.map (·.2)).Pairwise conf) t.size
    ⟨[], [(t, [])], none, none, rfl, by simp, ?_, by simp, by simp, by simp⟩ ?_
  · intro p hp
    simp at hp
    subst hp
    exact ⟨⟨Tr.Good.mono _ (fun y hy => ⟨hy, by simp⟩) g, by simp, fun ps hp => hp, by simp⟩, by simp, by simp⟩
  rintro n en ⟨found, st, u3, u4, rfl, rfl, hst, hf, hc, hpw⟩
  rcases List.eq_nil_or_concat st with rfl | ⟨st', ⟨u, pre⟩, rfl⟩
  · simp at hc hpw
    have ok := sort_logs_ok (ls := found) (by unfold most; omega)
    have e1 : primD .sorted [.list (found.map logD)] = some (.ow (.lst (sortD (found.map logD)))) := if_pos ok
    simp [e1, owPos, lentAll]
    rw [sortD_logs]
    have pm := sortL_perm found
    refine hQ (sortL found) ⟨fun z => ?_, by rw [pm.length_eq]; omega, sortL_pw _, pm.nodup_iff.mpr (conf_nodup hpw hf), fun l hl2 => hf l (pm.mem_iff.mp hl2)⟩
    have l1 := (tr_leaf t g).2
    have := pm.length_eq
    rw [z] at this
    simp at this
    omega
  · obtain ⟨it, hp, hv⟩ := hst (u, pre) (by simp)
    simp at hc
    have fs : found.length < 16777216 := by omega
    replace hp : pre.length + u.height ≤ t.height := hp
    replace hv : ∀ q ∈ pre, 0 ≤ q.2 ∧ q.2 ≤ 1000000000 := hv
    have em : ∀ z : PyData, (st'.map itemD ++ [z]).isEmpty = false := fun z => by cases st' <;> rfl
    have hpw2 : (pre :: (found ++ st'.map (·.2))).Pairwise conf := by
      refine List.Perm.pairwise (l := found ++ (st'.concat (u, pre)).map (·.2)) ?_ hpw (fun {a b} => conf.symm)
      rw [List.concat_eq_append, List.map_append, ← List.append_assoc]
      exact List.perm_append_singleton pre _
    rw [List.pairwise_cons] at hpw2
    cases u with
    | leaf =>
      have e1 : primD .sorted [.tuple (pre.map pairP)] = some (.ow (.lst (sortD (pre.map pairP)))) := if_pos (sort_pairs_ok (by unfold most; omega))
      rw [sortD_pairs] at e1
      simp [itemD, Tr.data, e1, fs, most, em]
      have pm := sortP_perm pre
      refine ⟨(st'.map fun p => p.1.size).sum, by simp [Tr.size], found ++ [sortP pre], st', ⟨by simp [logD], rfl⟩, rfl, fun a b hab => have q := hst (a, b) (by simp [hab]); ⟨q.1, q.2.1, fun x v hx => q.2.2 (x, v) hx⟩, fun e he => ?_, ?_, ?_⟩
      · rcases List.mem_append.mp he with he | he
        · exact hf e he
        · simp at he
          subst he
          exact (show FineL A t.height pre from ⟨it.nd, it.inA, by omega, hv⟩).perm pm
      · rw [Tr.leaves] at hc
        simp
        omega
      · refine List.Perm.pairwise (l := sortP pre :: (found ++ st'.map (·.2))) ?_ (List.pairwise_cons.mpr ⟨fun b hb => (hpw2.1 b hb).mono (fun p hp => pm.mem_iff.mpr hp) fun p hp => hp, hpw2.2⟩) (fun {a b} => conf.symm)
        have : (found ++ [sortP pre]) ++ st'.map (·.2) = found ++ ([sortP pre] ++ st'.map (·.2)) := by simp
        rw [this]
        exact List.perm_middle.symm
    | node x bs =>
      have gg := it.good
      rw [Tr.Good] at gg
      have lb := bs_len bs gg.2.2
      rw [Tr.leaves] at hc
      rw [Tr.height] at hp
      simp [itemD, Tr.data, most, em]
      refine wr_map ?_
      simp
      have lp : (pre.map pairP).length + [PyData.tuple [.str x, .int 0]].length ≤ most := by simp [most]; omega
      refine Keep.mk ⟨by unfold most; omega, fun d => match d with
        | .tuple [v, t'] => .tuple [t', .tuple (pre.map pairP ++ [.tuple [.str x, v]])]
        | _ => .none, fun d => [some (.sh t.data), some (.ow (.lst (found.map logD))), some (.ow (.lst (st'.map itemD))), some (.sh (.tuple [.str x, .tuple bs.datas])), some (.sh (.tuple (pre.map pairP))), some (.sh (match d with | .tuple [v, _] => v | _ => .none)), some (.sh (snd2 d))], rfl, fun d hd => ?_, ?_⟩
      · obtain ⟨w, dt, rfl⟩ := bs_pair bs gg.2.2 d hd
        have lp2 : (pre.map pairP).length + [PyData.tuple [.str x, .int w]].length ≤ most := lp
        simp [snd2_p, bin_addT lp2, most]
      · have ed : ∀ (f : PyData → PyData), (∀ q ∈ bs.subs, f (.tuple [.int q.1, q.2.data]) = itemD (q.2, pre ++ [(x, q.1)])) → bs.datas.map f = (bs.subs.map fun q => (q.2, pre ++ [(x, q.1)])).map itemD := fun f hf2 => by
          rw [subs_datas, List.map_map, List.map_map]
          exact List.map_congr_left fun q hq => hf2 q hq
        rw [ed _ (fun q _ => by simp [itemD, pairP])]
        have bound : (st'.map itemD).length + ((bs.subs.map fun q => (q.2, pre ++ [(x, q.1)])).map itemD).length ≤ most := by
          have l1 : st'.length ≤ (st'.map fun p => p.1.leaves).sum := by
            have := sub_len (st := st') fun p hp => (tr_leaf p.1 (hst p (by simp [hp])).1.good).2
            exact this
          have l2 : bs.subs.length = bs.datas.length := by rw [subs_datas, List.length_map]
          simp only [List.length_map, l2]
          unfold most
          omega
        have b2 : st'.length + bs.subs.length ≤ 16777216 := by simpa [most] using bound
        simp only [at_consS, at_cons0]
        have szs : ((bs.subs.map fun q => (q.2, pre ++ [(x, q.1)])).map fun p => p.1.size).sum = bs.size := by
          rw [List.map_map]
          exact subs_size bs
        have lvs : ((bs.subs.map fun q => (q.2, pre ++ [(x, q.1)])).map fun p => p.1.leaves).sum = bs.leaves := by
          rw [List.map_map]
          exact subs_leaves bs
        obtain ⟨sp, sv⟩ := subs_pw bs gg.2.2
        have cpw : ((bs.subs.map fun q => (q.2, pre ++ [(x, q.1)])).map (·.2)).Pairwise conf := by
          rw [List.map_map, List.pairwise_map]
          refine sp.imp fun {a b} lt => ⟨x, a.1, b.1, by simp, by simp, by omega⟩
        have cot : ∀ a ∈ (bs.subs.map fun q => (q.2, pre ++ [(x, q.1)])).map (·.2), ∀ b ∈ found ++ st'.map (·.2), conf a b := fun a ha b hb => by
          rw [List.map_map] at ha
          obtain ⟨q, hq, rfl⟩ := List.mem_map.mp ha
          exact (hpw2.1 b hb).mono (fun p hp => List.mem_append_left _ hp) fun p hp => hp
        generalize hnew : (bs.subs.map fun q => (q.2, pre ++ [(x, q.1)])) = new at szs lvs bound cpw cot ⊢
        have b3 : st'.length + new.length ≤ 16777216 := by simpa [most] using bound
        simp [b3]
        refine ⟨((st' ++ new).map fun p => p.1.size).sum, ?_, found, st' ++ new, ⟨rfl, by simp⟩, rfl, fun a b hab => ?_, hf, ?_, ?_⟩
        · rw [List.map_append, List.sum_append, szs, Tr.size]
          omega
        · rcases List.mem_append.mp hab with hab | hab
          · exact have q := hst (a, b) (by simp [hab]); ⟨q.1, q.2.1, fun x v hx => q.2.2 (x, v) hx⟩
          · rw [← hnew] at hab
            obtain ⟨q, hq, e⟩ := List.mem_map.mp hab
            cases e
            have e := subs_get bs gg.2.2 q hq
            obtain ⟨_, g2, _⟩ := get_good bs gg.2.2 e
            refine ⟨item_sub it hq, ?_, fun r s hr => ?_⟩
            · simp
              omega
            · rcases List.mem_append.mp hr with hr | hr
              · exact hv (r, s) hr
              · simp at hr
                have := sv q hq
                rw [hr.2]
                omega
        · rw [List.map_append, List.sum_append, lvs]
          omega
        · refine List.Perm.pairwise (l := new.map (·.2) ++ (found ++ st'.map (·.2))) ?_ (List.pairwise_append.mpr ⟨cpw, hpw2.2, cot⟩) (fun {a b} => conf.symm)
          rw [List.map_append, ← List.append_assoc found]
          exact List.perm_append_comm
end Pv.X

/-! QaJ: drawn logs without a tree. -/
set_option linter.all false
set_option maxRecDepth 100000
set_option maxHeartbeats 2000000
namespace Pv.X
open PySem

theorem eqv_pair {p q : Str × Int} : PyData.eqv (pairP p) (pairP q) = decide (p = q) := by
  obtain ⟨x, v⟩ := p
  obtain ⟨y, w⟩ := q
  rw [Bool.eq_iff_iff]
  simp [pairP, PyData.eqv, PyData.eqvAll]
theorem eqv_pairs : ∀ {a b : Log}, PyData.eqvAll (a.map pairP) (b.map pairP) = decide (a = b)
  | [], [] => by simp [PyData.eqvAll]
  | [], _ :: _ => by simp [PyData.eqvAll]
  | _ :: _, [] => by simp [PyData.eqvAll]
  | p :: a, q :: b => by
    rw [List.map_cons, List.map_cons, PyData.eqvAll, eqv_pair, eqv_pairs, Bool.eq_iff_iff]
    simp
theorem eqv_log {a b : Log} : PyData.eqv (logD a) (logD b) = decide (a = b) := by
  unfold logD
  rw [PyData.eqv, eqv_pairs]
theorem eqv_logs : ∀ {a b : List Log}, PyData.eqvAll (a.map logD) (b.map logD) = decide (a = b)
  | [], [] => by simp [PyData.eqvAll]
  | [], _ :: _ => by simp [PyData.eqvAll]
  | _ :: _, [] => by simp [PyData.eqvAll]
  | p :: a, q :: b => by
    rw [List.map_cons, List.map_cons, PyData.eqvAll, eqv_log, eqv_logs, Bool.eq_iff_iff]
    simp
theorem aln_pairs : ∀ {a b : Log}, alnAll (a.map pairP) (b.map pairP) = true
  | [], b => by simp [alnAll]
  | _ :: _, [] => by simp [alnAll]
  | p :: a, q :: b => by
    rw [List.map_cons, List.map_cons, alnAll, aln_pairs]
    simp [pairP, aln, alnAll]
theorem aln_logs : ∀ {a b : List Log}, alnAll (a.map logD) (b.map logD) = true
  | [], b => by simp [alnAll]
  | _ :: _, [] => by simp [alnAll]
  | p :: a, q :: b => by
    rw [List.map_cons, List.map_cons, alnAll, aln_logs]
    simp [logD, aln, aln_pairs]
theorem eqOk_log {a b : Log} : eqOk (logD a) (logD b) = true := by
  unfold eqOk
  rw [Bool.and_eq_true, decide_eq_true_eq]
  refine ⟨by simp [logD, aln, aln_pairs], Nat.le_trans (Nat.min_le_left _ _) (Nat.le_trans (depth_log a) (by decide))⟩
theorem in_logs {a : Log} {ls : List Log} : inD (logD a) (ls.map logD) = some (decide (a ∈ ls)) := by
  unfold inD
  rw [if_pos (by rw [List.all_map, List.all_eq_true]; exact fun x _ => eqOk_log), List.any_map]
  congr 1
  rw [Bool.eq_iff_iff, List.any_eq_true]
  simp only [Function.comp_apply, eqv_log, decide_eq_true_eq]
  exact ⟨fun ⟨x, h1, h2⟩ => h2 ▸ h1, fun h => ⟨a, h, rfl⟩⟩
theorem eq_grp {a b : List Log} : eqD (grpD a) (grpD b) = some (decide (a = b)) := by
  unfold eqD
  rw [if_pos]
  · unfold grpD
    rw [PyData.eqv, eqv_logs]
  · unfold eqOk
    rw [Bool.and_eq_true, decide_eq_true_eq]
    refine ⟨by simp [grpD, aln, aln_logs], Nat.le_trans (Nat.min_le_left _ _) (Nat.le_trans (depth_grp a) (by decide))⟩
theorem rep_one {x : PyData} {c : Prop} [Decidable c] : binD .mul (.list [x]) (.int (if c then 0 else 1)) = some (.ow (.lst (if c then [] else [x]))) := by
  by_cases h : c
  · rw [if_pos h, if_pos h]
    refine (if_pos ⟨by decide, by decide, by simp [most]⟩).trans ?_
    simp
  · rw [if_neg h, if_neg h]
    refine (if_pos ⟨by decide, by decide, by simp [most]⟩).trans ?_
    simp
/-- one more log, unless it is there -/
theorem snoc_nodup {ls : List Log} {l : Log} (nd : ls.Nodup) : (ls ++ if l ∈ ls then [] else [l]).Nodup := by
  split
  · simpa using nd
  · rename_i h
    rw [List.nodup_append]
    exact ⟨nd, by simp, fun a ha b hb e => by simp at hb; rw [hb] at e; exact h (e ▸ ha)⟩
def Floose (t : Nat) : Fn := ⟨7, 3, [0], [(.asg (.name 3) (.lst [])), (.loop (.rng (.var 2)) (.name 4) [(.asg (.name 5) (.prim .tuple [(.prim .sorted [(.comp [6] (.it (.var 1)) (.name 6) [(.cmp .gt (.call t [0, 1] [(.lend 0), (.val (.cst (.int (3))))]) (.cst (.int (0))))] (.tup [(.var 6), (.call t [0, 1] [(.lend 0), (.val (.cst (.int (3))))])]))])])), (.extend 3 (.bin .mul (.lst [(.var 5)]) (.prim .int [(.cmp .nin (.var 5) (.var 3))])))]), (.ret (.prim .tuple [(.prim .sorted [(.var 3)])]))]⟩
def LogsDraw (Φ : Nat → List Val → CR) (i : Nat) (c : Nat) : Prop := ∀ (b : List PyData) (m : Nat) (xs : List Str) (n : Nat) (Q : Val → List MO → Prop) (E : Exn → List MO → Prop), GB m b → m + c + 100 < 2 ^ 100 → xs.length ≤ 5 → xs.Nodup → 1 ≤ n → n ≤ 8 →
  (∀ (ls : List Log) (b' : List PyData), GB (m + c) b' → LogsPost (· ∈ xs) 5 8 ls → Q (.sh (grpD ls)) [.lst b']) → WC (Φ i [.ow (.lst b), .sh (.list (xs.map .str)), .sh (.int n)]) Q E
theorem loose_ok (Φ Φ' : Nat → List Val → CR) (i t : Nat) (h : ∀ args, Φ i args = (Floose t).run Φ' args) (T : TakeOk Φ' t) : LogsDraw Φ i 100 := by
  intro b m xs n Q E hb hm hx nd n1 n8 hQ
  rw [h]
  refine wc_run (by rfl) ?_
  simp [Floose, Fn.start, most]
  refine wr_loop ?_
  simp [range2_of (i := 0) (j := n) (by omega)]
  refine ⟨fun rest en => ∃ (b1 : List PyData) (found : List Log) (u4 u5 : Option Val), en = [some (.ow (.lst b1)), some (.sh (.list (xs.map .str))), some (.sh (.int n)), some (.ow (.lst (found.map logD))), u4, u5, none] ∧ rest.length ≤ n ∧ found.length ≤ n - rest.length ∧ (rest.length < n → found ≠ []) ∧ (∀ l ∈ found, FineL (· ∈ xs) 5 l) ∧ found.Nodup ∧ GB (m + (n - rest.length) * 10) b1,
    ⟨b, [], none, none, rfl, by simp, by simp, by simp, by simp, by simp, by simpa using hb⟩, ?_, ?_⟩
  · rintro d rest en ⟨b1, found, u4, u5, rfl, hr, hl, hne, hf, hnd, hb1⟩
    simp only [List.length_cons] at hr hl hb1
    simp
    refine wr_comp ?_
    simp
    refine ⟨by unfold most; omega, fun rest2 ys en => ∃ (b2 : List PyData) (dn tl : List Str) (es : Log) (u6 : Option Val), en = [some (.ow (.lst b2)), some (.sh (.list (xs.map .str))), some (.sh (.int n)), some (.ow (.lst (found.map logD))), some (.sh d), u5, u6] ∧
      rest2 = tl.map .str ∧ dn ++ tl = xs ∧ ys = es.map pairP ∧ (es.map (·.1)).Sublist dn ∧ (∀ p ∈ es, 0 ≤ p.2 ∧ p.2 ≤ 1000000000) ∧ GB (m + (n - (rest.length + 1)) * 10 + 2 * dn.length) b2,
      ⟨b1, [], xs, [], none, rfl, rfl, rfl, rfl, by simp, by simp, by simpa using hb1⟩, ?_, ?_⟩
    · rintro d2 rest2 ys en ⟨b2, dn, tl, es, u6, rfl, hr2, hd2, rfl, hs, hv, hb2⟩
      cases tl with
      | nil => cases hr2
      | cons x tl =>
        obtain ⟨rfl, rfl⟩ := List.cons.inj hr2
        have dl : dn.length + tl.length + 1 = xs.length := by rw [← hd2]; simp; omega
        simp
        refine T b2 _ 3 _ _ hb2 (by omega) (by decide) (by decide) fun r b3 hb3 r0 r1 => ?_
        by_cases hr0 : 0 < r
        · simp [hr0]
          refine T b3 _ 3 _ _ hb3 (by omega) (by decide) (by decide) fun v b4 hb4 v0 v1 => ?_
          simp [most]
          refine ⟨dn ++ [x], tl, rfl, by simpa using hd2, es ++ [(x, v)], by simp [pairP], ?_, ?_, hb4.mono (by simp; omega)⟩
          · rw [List.map_append]
            exact hs.append (List.Sublist.refl _)
          · intro y w hw
            rcases List.mem_append.mp hw with hw | hw
            · exact hv (y, w) hw
            · simp at hw
              rw [hw.2]; omega
        · simp [hr0]
          exact ⟨dn ++ [x], tl, rfl, by simpa using hd2, es, rfl, hs.trans (List.sublist_append_left _ _), fun y w hw => hv (y, w) hw, hb3.mono (by simp; omega)⟩
    · rintro ys en ⟨b2, dn, tl, es, u6, rfl, hr2, hd2, rfl, hs, hv, hb2⟩
      have etl : tl = [] := by simpa using hr2.symm
      subst etl
      rw [List.append_nil] at hd2
      subst hd2
      have lel : es.length ≤ dn.length := by have := hs.length_le; simpa using this
      have so : primD .sorted [.list (es.map pairP)] = some (.ow (.lst (sortD (es.map pairP)))) := if_pos (sort_pairs_ok (by unfold most; omega))
      rw [sortD_pairs] at so
      have fe : FineL (· ∈ dn) 5 (sortP es) := (show FineL (· ∈ dn) 5 es from ⟨nd.sublist hs, fun x hx2 => hs.subset hx2, by omega, hv⟩).perm (sortP_perm es)
      have il := in_logs (a := sortP es) (ls := found)
      have sl : ∀ c : Bool, (if c = true then [logD (sortP es)] else []).length ≤ 1 := fun c => by cases c <;> simp
      simp [so]
      generalize sortP es = e at fe il
      have il2 : inD (.tuple (e.map pairP)) (found.map logD) = some (decide (e ∈ found)) := il
      simp [il2, most, rep_one]
      have lf : found.length ≤ 8 := by omega
      have nn := snoc_nodup (l := e) hnd
      by_cases hin : e ∈ found
      · have lf2 : found.length ≤ 16777216 := by omega
        simp [hin, most, lf2]
        exact ⟨b2, found, ⟨rfl, rfl⟩, by omega, by omega, fun _ z => (by rw [z] at hin; cases hin), hf, hnd, hb2.mono (by omega)⟩
      · have lf2 : found.length + 1 ≤ 16777216 := by omega
        rw [if_neg hin] at nn
        simp [hin, most, lf2]
        refine ⟨b2, found ++ [e], ⟨rfl, by simp [logD]⟩, by omega, by simp; omega, fun _ => by simp, fun l hl2 => ?_, nn, hb2.mono (by omega)⟩
        rcases List.mem_append.mp hl2 with hl2 | hl2
        · exact hf l hl2
        · simp at hl2; rw [hl2]; exact fe
  · rintro en ⟨b1, found, u4, u5, rfl, hr, hl, hne, hf, hnd, hb1⟩
    simp at hl hne
    have ok := sort_logs_ok (ls := found) (by unfold most; omega)
    have e1 : primD .sorted [.list (found.map logD)] = some (.ow (.lst (sortD (found.map logD)))) := if_pos ok
    rw [sortD_logs] at e1
    simp [e1, owPos, lentAll]
    have pm := sortL_perm found
    refine hQ (sortL found) b1 (hb1.mono (by simp; omega)) ⟨fun z => ?_, by rw [pm.length_eq]; omega, sortL_pw _, pm.nodup_iff.mpr hnd, fun l hl2 => hf l (pm.mem_iff.mp hl2)⟩
    have := pm.length_eq
    rw [z] at this
    have h0 := hne (by omega)
    cases found with
    | nil => exact h0 rfl
    | cons _ _ => simp at this
end Pv.X

/-! QaK: drawn logs. -/
set_option linter.all false
set_option maxRecDepth 100000
set_option maxHeartbeats 2000000
namespace Pv.X
open PySem

theorem cut_one {α : Type} {xs : List α} {k : Nat} (h : k ≤ xs.length) : cutL xs (some (k : Int)) (some ((k : Int) + 1)) = (xs.drop k).take 1 := by
  unfold cutL
  rw [show ((k : Int) + 1) = ((k + 1 : Nat) : Int) by omega, HT.sIx_nat, HT.sIx_nat, Nat.min_eq_left h]
  by_cases q : k + 1 ≤ xs.length
  · rw [Nat.min_eq_left q]
    congr 1
    omega
  · have e : k = xs.length := by omega
    subst e
    simp
theorem cut_from {α : Type} {xs : List α} {k : Nat} : cutL xs (some ((k : Int) + 1)) none = xs.drop (k + 1) := by
  unfold cutL
  rw [show ((k : Int) + 1) = ((k + 1 : Nat) : Int) by omega, HT.sIx_nat, HT.sIx_none]
  by_cases q : k + 1 ≤ xs.length
  · rw [Nat.min_eq_left q, ← List.length_drop, List.take_length]
  · rw [Nat.min_eq_right (by omega), List.drop_of_length_le (Nat.le_refl _), List.drop_of_length_le (by omega)]
    simp
def bump (p : Str × Int) : Str × Int := (p.1, (p.2 + 1) % 1000000000)
/-- a log with one value changed -/
def bent (l : Log) (k : Nat) : Log := l.take k ++ ((l.drop k).take 1).map bump ++ l.drop (k + 1)
theorem bent_names (l : Log) (k : Nat) : (bent l k).map (·.1) = l.map (·.1) := by
  unfold bent
  have e : (((l.drop k).take 1).map bump).map (·.1) = ((l.drop k).take 1).map (·.1) := by
    rw [List.map_map]; rfl
  rw [List.map_append, List.map_append, e, ← List.map_append, ← List.map_append, List.append_assoc]
  congr 1
  rw [show l.drop (k + 1) = (l.drop k).drop 1 by rw [List.drop_drop], List.take_append_drop, List.take_append_drop]
theorem bent_fine {A : Str → Prop} {h : Nat} {l : Log} (f : FineL A h l) (k : Nat) : FineL A h (bent l k) := by
  refine ⟨by rw [bent_names]; exact f.nd, fun x hx => f.inA x (by rw [bent_names] at hx; exact hx), ?_, fun p hp => ?_⟩
  · have := congrArg List.length (bent_names l k)
    simp only [List.length_map] at this
    rw [this]; exact f.few
  · unfold bent at hp
    rcases List.mem_append.mp hp with hp | hp
    · rcases List.mem_append.mp hp with hp | hp
      · exact f.val p (List.mem_of_mem_take hp)
      · obtain ⟨q, hq, rfl⟩ := List.mem_map.mp hp
        unfold bump
        have h1 := Int.emod_nonneg (q.2 + 1) (show (1000000000 : Int) ≠ 0 by decide)
        have h2 := Int.emod_lt_of_pos (q.2 + 1) (show (0 : Int) < 1000000000 by decide)
        exact ⟨h1, by omega⟩
    · exact f.val p (List.mem_of_mem_drop hp)
theorem bent_cut {e : Log} {k : Nat} (hk : k ≤ e.length) : ∃ A B C : Log, slcD (.tuple (e.map pairP)) (some (k : Int)) (some ((k : Int) + 1)) = some (.sh (.tuple (B.map pairP))) ∧ slcD (.tuple (e.map pairP)) none (some (k : Int)) = some (.sh (.tuple (A.map pairP))) ∧
    slcD (.tuple (e.map pairP)) (some ((k : Int) + 1)) none = some (.sh (.tuple (C.map pairP))) ∧ A.length + B.length + C.length = e.length ∧ bent e k = A ++ (B.map bump ++ C) := by
  refine ⟨e.take k, (e.drop k).take 1, e.drop (k + 1), ?_, ?_, ?_, ?_, ?_⟩
  · show some (Val.sh (.tuple (cutL (e.map pairP) (some (k : Int)) (some ((k : Int) + 1))))) = _
    rw [cut_one (by simpa using hk), List.map_take, List.map_drop]
  · show some (Val.sh (.tuple (cutL (e.map pairP) none (some (k : Int))))) = _
    rw [cut_take (by simpa using hk), List.map_take]
  · show some (Val.sh (.tuple (cutL (e.map pairP) (some ((k : Int) + 1)) none))) = _
    rw [cut_from, List.map_drop]
  · simp
    omega
  · unfold bent
    rw [List.append_assoc]
theorem in_tup {a : Log} {ls : List Log} : inD (.tuple (a.map pairP)) (ls.map logD) = some (decide (a ∈ ls)) := in_logs
def bumpD : PyData → PyData
  | .tuple [x, .int v] => .tuple [x, .int ((v + 1) % 1000000000)]
  | _ => .none
theorem bumpD_pair (p : Str × Int) : bumpD (pairP p) = pairP (bump p) := rfl
def Flogs (t lo le tr : Nat) : Fn := ⟨11, 3, [0], [(.asg (.name 3) (.call t [0, 1] [(.lend 0), (.val (.cst (.int (6))))])), (.ifs (.cmp .eq (.var 3) (.cst (.int (0)))) [(.ret (.call lo [0, 1, 2] [(.lend 0), (.val (.var 1)), (.val (.bin .add (.cst (.int (1))) (.call t [0, 1] [(.lend 0), (.val (.var 2))])))]))] []), (.asg (.name 4) (.prim .list [(.call le [0] [(.val (.call tr [0, 1, 2] [(.lend 0), (.val (.var 1)), (.val (.var 2))]))])])), (.ifs (.and [(.cmp .eq (.var 3) (.cst (.int (1)))), (.cmp .ne (.idx (.var 4) (.cst (.int (0)))) (.tup []))]) [(.asg (.name 5) (.call t [0, 1] [(.lend 0), (.val (.prim .len [(.var 4)]))])), (.asg (.name 6) (.popAt 4 (.var 5))), (.asg (.name 7) (.ife (.cmp .ne (.var 6) (.tup [])) (.call t [0, 1] [(.lend 0), (.val (.prim .len [(.var 6)]))]) (.cst (.int (0))))), (.asg (.name 8) (.prim .tuple [(.comp [9, 10] (.it (.slc (.var 6) (some (.var 7)) (some (.bin .add (.var 7) (.cst (.int (1))))))) (.tup [(.name 9), (.name 10)]) [] (.tup [(.var 9), (.bin .mod (.bin .add (.var 10) (.cst (.int (1)))) (.bin .pow (.cst (.int (10))) (.cst (.int (9)))))]))])), (.asg (.name 6) (.bin .add (.bin .add (.slc (.var 6) none (some (.var 7))) (.var 8)) (.slc (.var 6) (some (.bin .add (.var 7) (.cst (.int (1))))) none))), (.extend 4 (.bin .mul (.lst [(.var 6)]) (.prim .int [(.cmp .nin (.var 6) (.var 4))])))] []), (.ret (.prim .tuple [(.prim .sorted [(.var 4)])]))]⟩
theorem logs_ok (Φ Φ' : Nat → List Val → CR) (i t lo le tr : Nat) (h : ∀ args, Φ i args = (Flogs t lo le tr).run Φ' args) (T : TakeOk Φ' t) (LO : LogsDraw Φ' lo 100) (LE : Leaves2Ok Φ' le) (TR : TreeOk Φ' tr 5) : LogsDraw Φ i 40000 := by
  intro b m xs n Q E hb hm hx nd n1 n8 hQ
  rw [h]
  refine wc_run (by rfl) ?_
  simp [Flogs, Fn.start, most]
  refine T b m 6 _ _ hb (by omega) (by decide) (by decide) fun way b1 hb1 w0 w1 => ?_
  by_cases hw : way = 0
  · subst hw
    simp
    refine T b1 _ n _ _ hb1 (by omega) (by omega) (by omega) fun k b2 hb2 k0 k1 => ?_
    obtain ⟨q, hq⟩ : ∃ q : Nat, 1 + k = q := ⟨(1 + k).toNat, by omega⟩
    simp [hq]
    refine LO b2 _ xs q _ _ hb2 (by omega) hx nd (by omega) (by omega) fun ls b3 hb3 hls => ?_
    simp [owPos, lentAll]
    exact hQ ls b3 (hb3.mono (by omega)) hls
  simp [hw]
  refine TR b1 _ xs n _ _ hb1 (by unfold treeCost; omega) hx (by omega) nd (by omega) fun tt b2 hb2 tg tl tl1 th => ?_
  unfold treeCost at hb2
  simp
  refine LE tt (· ∈ xs) _ _ tg (by omega) (by omega) fun ls hls => ?_
  have fin : ∀ (found : List Log) (b3 : List PyData), GB (m + 40000) b3 → found ≠ [] → found.length ≤ 8 → found.Nodup → (∀ l ∈ found, FineL (· ∈ xs) 5 l) → primD .sorted [.list (found.map logD)] = some (.ow (.lst ((sortL found).map logD))) ∧ Q (.sh (grpD (sortL found))) [.lst b3] := fun found b3 hb3 ne fe nd2 fi => by
    have ok := sort_logs_ok (ls := found) (by unfold most; omega)
    have e1 : primD .sorted [.list (found.map logD)] = some (.ow (.lst (sortD (found.map logD)))) := if_pos ok
    rw [sortD_logs] at e1
    have pm := sortL_perm found
    refine ⟨e1, hQ _ b3 hb3 ⟨fun z => ?_, by rw [pm.length_eq]; omega, sortL_pw _, pm.nodup_iff.mpr nd2, fun l hl2 => fi l (pm.mem_iff.mp hl2)⟩⟩
    have := pm.length_eq
    rw [z] at this
    cases found with
    | nil => exact ne rfl
    | cons _ _ => simp at this
  have lsf : ∀ l ∈ ls, FineL (· ∈ xs) 5 l := fun l hl => have f := hls.fine l hl; ⟨f.nd, f.inA, Nat.le_trans f.few (by omega), f.val⟩
  have ls8 : ls.length ≤ 8 := by have := hls.few; omega
  have f0 := fin ls b2 (hb2.mono (by omega)) hls.ne ls8 hls.nd lsf
  simp [grpD]
  by_cases h1 : way = 1
  rotate_left
  · simp [h1, f0.1, owPos, lentAll]
    exact f0.2
  subst h1
  obtain ⟨l0, r0, hls0⟩ : ∃ l r, ls = l :: r := by
    cases hq : ls with
    | nil => exact absurd hq hls.ne
    | cons l r => exact ⟨l, r, rfl⟩
  have a0 : L2.atI (ls.map logD) 0 = some (.tuple (l0.map pairP)) := by rw [hls0, at_get (by decide) (by simp)]; rfl
  have lpos : 0 < ls.length := by rw [hls0]; simp
  simp [a0, most]
  cases hl0 : l0.isEmpty with
  | true =>
    simp [hl0, f0.1, owPos, lentAll]
    exact f0.2
  | false =>
  simp [hl0]
  refine T b2 _ ls.length _ _ hb2 (by omega) (by omega) (by omega) fun r b3 hb3 r0' r1 => ?_
  obtain ⟨r, rfl⟩ : ∃ k : Nat, r = k := ⟨r.toNat, by omega⟩
  have hr : r < ls.length := by omega
  have ls16 : ls.length ≤ 16777216 := by omega
  simp [ixN_ok r0' (show ((r : Nat) : Int) < (ls.length : Nat) by omega), most, hr, ls16]
  rw [eraseIdx_map']
  have fe := lsf _ (List.getElem_mem hr)
  have er8 : (ls.eraseIdx r).length ≤ 7 := by rw [List.length_eraseIdx_of_lt hr]; omega
  have ernd : (ls.eraseIdx r).Nodup := hls.nd.sublist (List.eraseIdx_sublist ..)
  have erf : ∀ l ∈ ls.eraseIdx r, FineL (· ∈ xs) 5 l := fun l hl => lsf l ((List.eraseIdx_sublist ..).subset hl)
  generalize ls[r] = e at fe
  generalize ls.eraseIdx r = er at er8 ernd erf
  have e4 : binD .pow (.int 10) (.int 9) = some (.sh (.int 1000000000)) := by
    rw [bin_pow (by decide)]
    rfl
  have e5 : ∀ j : Int, binD .mod (.int j) (.int 1000000000) = some (.sh (.int (j % 1000000000))) := fun j => bin_mod (by decide)
  simp [logD]
  have ern : er.length ≤ 16777216 := by omega
  have ern1 : er.length + 1 ≤ 16777216 := by omega
  have last : ∀ (e2 : Log) (b4 : List PyData), GB (m + 39000) b4 → FineL (· ∈ xs) 5 e2 → (e2 ∈ er → primD .sorted [.list (er.map logD)] = some (.ow (.lst ((sortL er).map logD))) ∧ Q (.sh (grpD (sortL er))) [.lst b4]) ∧
      (e2 ∉ er → primD .sorted [.list ((er ++ [e2]).map logD)] = some (.ow (.lst ((sortL (er ++ [e2])).map logD))) ∧ Q (.sh (grpD (sortL (er ++ [e2])))) [.lst b4]) := fun e2 b4 hb4 f2 => by
    have nn := snoc_nodup (l := e2) ernd
    constructor
    · intro hin
      exact fin er b4 (hb4.mono (by omega)) (fun z => by rw [z] at hin; cases hin) (by omega) ernd erf
    · intro hin
      rw [if_neg hin] at nn
      refine fin (er ++ [e2]) b4 (hb4.mono (by omega)) (by simp) (by simp; omega) nn fun l hl2 => ?_
      rcases List.mem_append.mp hl2 with hl2 | hl2
      · exact erf l hl2
      · simp at hl2; rw [hl2]; exact f2
  cases hee : e.isEmpty with
  | true =>
    obtain rfl : e = [] := by simpa using hee
    have c1 : slcD (.tuple []) (some 0) (some 1) = some (.sh (.tuple [])) := rfl
    have c2 : slcD (.tuple []) none (some 0) = some (.sh (.tuple [])) := rfl
    have c3 : slcD (.tuple []) (some 1) none = some (.sh (.tuple [])) := rfl
    simp
    refine wr_map ?_
    simp [c1]
    refine Keep.mk ⟨by decide, bumpD, fun d => [], rfl, fun d hd => absurd hd (by simp), ?_⟩
    have it : inD (.tuple []) (er.map logD) = some (decide (([] : Log) ∈ er)) := in_tup (a := [])
    obtain ⟨q1, q2⟩ := last [] b3 (hb3.mono (by omega)) ⟨by simp, by simp, by simp, by simp⟩
    have z0 : binD .add (.tuple []) (.tuple []) = some (.sh (.tuple [])) := rfl
    simp [c2, c3, z0, it, rep_one, most]
    by_cases hin : [] ∈ er
    · obtain ⟨q3, q4⟩ := q1 hin
      simp [hin, ern, most, q3, owPos, lentAll]
      exact q4
    · obtain ⟨q3, q4⟩ := q2 hin
      simp [logD] at q3
      simp [hin, ern1, most, q3, owPos, lentAll]
      exact q4
  | false =>
    have epos : 0 < e.length := by cases e with | nil => cases hee | cons _ _ => simp
    have e5l := fe.few
    simp [hee]
    refine T b3 _ e.length _ _ hb3 (by omega) (by omega) (by omega) fun k b4 hb4 k0 k1 => ?_
    obtain ⟨k, rfl⟩ : ∃ k' : Nat, k = k' := ⟨k.toNat, by omega⟩
    obtain ⟨A, B, C, c1, c2, c3, c4, c5⟩ := bent_cut (e := e) (k := k) (by omega)
    have fb := bent_fine fe k
    obtain ⟨q1, q2⟩ := last (bent e k) b4 (hb4.mono (by omega)) fb
    rw [c5] at q1 q2
    simp
    refine wr_map ?_
    simp [c1]
    refine Keep.mk ⟨by rw [List.length_map]; unfold most; omega, bumpD, fun d => [some (.ow (.lst b4)), some (.sh (.list (xs.map .str))), some (.sh (.int n)), some (.sh (.int 1)), some (.ow (.lst (er.map logD))), some (.sh (.int r)), some (.sh (.tuple (e.map pairP))), some (.sh (.int k)), none, some (.sh (match d with | .tuple [a, _] => a | _ => .none)), some (.sh (snd2 d))], rfl, fun d hd => ?_, ?_⟩
    · obtain ⟨p, hp, rfl⟩ := List.mem_map.mp hd
      simp [pairP, snd2_p, e4, e5, bumpD, most]
    · have eb : (B.map pairP).map bumpD = (B.map bump).map pairP := by
        rw [List.map_map, List.map_map]
        exact List.map_congr_left fun p _ => bumpD_pair p
      rw [eb]
      have lb : (B.map bump).length = B.length := List.length_map _
      generalize B.map bump = B' at q1 q2 lb
      have a1 : binD .add (.tuple (A.map pairP)) (.tuple (B'.map pairP)) = some (.sh (.tuple ((A ++ B').map pairP))) := by
        rw [bin_addT (by simp [most]; omega), List.map_append]
      have a2 : binD .add (.tuple ((A ++ B').map pairP)) (.tuple (C.map pairP)) = some (.sh (.tuple ((A ++ (B' ++ C)).map pairP))) := by
        rw [bin_addT (by simp [most]; omega), ← List.map_append, List.append_assoc]
      generalize A ++ B' = AB at a1 a2
      generalize A ++ (B' ++ C) = ABC at a2 q1 q2
      have it := in_tup (a := ABC) (ls := er)
      simp [c2, c3, a1, a2, it, rep_one, most]
      by_cases hin : ABC ∈ er
      · obtain ⟨q3, q4⟩ := q1 hin
        simp [hin, ern, most, q3, owPos, lentAll]
        exact q4
      · obtain ⟨q3, q4⟩ := q2 hin
        simp [logD] at q3
        simp [hin, ern1, most, q3, owPos, lentAll]
        exact q4
end Pv.X

/-! QaL: k10: right. -/
set_option linter.all false
set_option maxRecDepth 100000
set_option maxHeartbeats 2000000
namespace Pv.X
open PySem

theorem FineL.to {A B : Str → Prop} {h : Nat} {l : Log} (f : FineL A h l) (ab : ∀ x, A x → B x) : FineL B h l := ⟨f.nd, fun x hx => ab x (f.inA x hx), f.few, f.val⟩
theorem LogsPost.to {A B : Str → Prop} {h n : Nat} {ls : List Log} (f : LogsPost A h n ls) (ab : ∀ x, A x → B x) : LogsPost B h n ls := ⟨f.ne, f.few, f.pw, f.nd, fun l hl => (f.fine l hl).to ab⟩
theorem LogsPost.glogs {A : Str → Prop} {ls : List Log} (f : LogsPost A 5 8 ls) : GLogs ls := ⟨fun l hl => ⟨(f.fine l hl).nd, by have := (f.fine l hl).few; omega⟩, by have := f.few; omega⟩
theorem log_sz {l : Log} (f : FineL IsCell 5 l) : okI 1000000000 (logD l) = true ∧ sz (logD l) ≤ 60 := by
  have key : ∀ l : Log, (∀ x ∈ l.map (·.1), IsCell x) → (∀ p ∈ l, 0 ≤ p.2 ∧ p.2 ≤ 1000000000) → okAll 1000000000 (l.map pairP) = true ∧ szAll (l.map pairP) ≤ l.length * 11 := by
    intro l
    induction l with
    | nil => intro _ _; simp [okAll, szAll]
    | cons p l ih =>
      intro h1 h2
      obtain ⟨a, b⟩ := ih (fun x hx => h1 x (by rw [List.map_cons]; exact List.mem_cons_of_mem _ hx)) fun q hq => h2 q (List.mem_cons_of_mem _ hq)
      have hp := h2 p List.mem_cons_self
      have hc := h1 p.1 (by simp)
      have h3 := (cell_short hc).1
      have h3' := okI.mono (Nat.zero_le 1000000000) _ h3
      rw [List.map_cons, okAll, szAll, a, List.length_cons]
      refine ⟨?_, ?_⟩
      · rw [Bool.and_true]
        simp only [pairP, okI, okAll, Bool.and_true, Bool.and_eq_true, decide_eq_true_eq]
        refine ⟨by simpa only [okI] using h3', by omega⟩
      · simp only [pairP, sz, szAll]
        have := hc.2.1
        omega
  obtain ⟨a, b⟩ := key l f.inA f.val
  have := f.few
  unfold logD
  refine ⟨by simp only [okI]; exact a, by rw [sz]; omega⟩
theorem grp_sz {g : List Log} (f : ∀ l ∈ g, FineL IsCell 5 l) : okI 1000000000 (grpD g) = true ∧ sz (grpD g) ≤ 1 + g.length * 60 := by
  have key : okAll 1000000000 (g.map logD) = true ∧ szAll (g.map logD) ≤ g.length * 60 := by
    induction g with
    | nil => simp [okAll, szAll]
    | cons p l ih =>
      obtain ⟨a, b⟩ := ih fun q hq => f q (List.mem_cons_of_mem _ hq)
      obtain ⟨c, d⟩ := log_sz (f p List.mem_cons_self)
      rw [List.map_cons, okAll, szAll, a, c, List.length_cons]
      exact ⟨rfl, by omega⟩
  unfold grpD
  refine ⟨by simp only [okI]; exact key.1, by rw [sz]; omega⟩
theorem grps_sz {gs : List (List Log)} (f : ∀ g ∈ gs, ∀ l ∈ g, FineL IsCell 5 l) (n : ∀ g ∈ gs, g.length ≤ 8) : okI 1000000000 (.tuple (gs.map grpD)) = true ∧ sz (.tuple (gs.map grpD)) ≤ 1 + gs.length * 481 := by
  have key : okAll 1000000000 (gs.map grpD) = true ∧ szAll (gs.map grpD) ≤ gs.length * 481 := by
    induction gs with
    | nil => simp [okAll, szAll]
    | cons p l ih =>
      obtain ⟨a, b⟩ := ih (fun q hq => f q (List.mem_cons_of_mem _ hq)) fun q hq => n q (List.mem_cons_of_mem _ hq)
      obtain ⟨c, d⟩ := grp_sz (f p List.mem_cons_self)
      have := n p List.mem_cons_self
      rw [List.map_cons, okAll, szAll, a, c, List.length_cons]
      exact ⟨rfl, by omega⟩
  refine ⟨by simp only [okI]; exact key.1, by rw [sz]; omega⟩
theorem grps_depth (gs : List (List Log)) : PyData.depth (.tuple (gs.map grpD)) ≤ 4 := by
  rw [depth_tuple]
  have : PyData.depthAll (gs.map grpD) ≤ 3 := depthAll_le.mpr fun d hd => by
    obtain ⟨p, _, rfl⟩ := List.mem_map.mp hd
    exact depth_grp p
  omega
theorem repr_strs {xs : List Str} (h : ∀ x ∈ xs, IsCell x) (hl : xs.length ≤ 100) : primD .repr [.tuple (xs.map .str)] = some (.sh (.str (PyData.shown (.tuple (xs.map .str))))) := by
  obtain ⟨a, b, c⟩ := strs_sz fun x hx => cell_short (h x hx)
  refine pr_repr (B := 0) (by decide) (by simp only [okI]; exact a) (by rw [sz]; omega) (by rw [depth_tuple, c]; decide)
theorem repr_grps {gs : List (List Log)} (f : ∀ g ∈ gs, ∀ l ∈ g, FineL IsCell 5 l) (n : ∀ g ∈ gs, g.length ≤ 8) (hl : gs.length ≤ 8) : primD .repr [.tuple (gs.map grpD)] = some (.sh (.str (PyData.shown (.tuple (gs.map grpD))))) := by
  obtain ⟨a, b⟩ := grps_sz f n
  exact pr_repr (B := 1000000000) (by decide) a (by omega) (Nat.le_trans (grps_depth gs) (by decide))
theorem split_cell {ls : List Log} (ne : ls ≠ []) (f : ∀ l ∈ ls, FineL IsCell 5 l) : ∀ x ∈ splitN ls, IsCell x := fun x hx => by
  cases ls with
  | nil => exact absurd rfl ne
  | cons l r => exact (f l (by simp)).inA x ((mem_split.mp hx).1 l (by simp))
theorem split_len {ls : List Log} (g : GLogs ls) : (splitN ls).length ≤ 100 := Nat.le_trans (List.length_filter_le _ _) (shared_len g)
def Fright10 (sp ss st bl ow : Nat) : Fn := ⟨6, 2, [0], [(.asg (.name 2) (.call sp [0] [(.val (.var 1))])), (.ifs (.cmp .ne (.prim .repr [(.call ss [0] [(.val (.var 1))])]) (.prim .repr [(.prim .tuple [(.var 2)])])) [(.ret (.cst (.bool false)))] []), (.ifs (.cmp .ne (.prim .repr [(.call st [0] [(.val (.var 1))])]) (.prim .repr [(.and [(.cmp .gt (.prim .len [(.var 1)]) (.cst (.int (1)))), (.cmp .eq (.var 2) (.lst []))])])) [(.ret (.cst (.bool false)))] []), (.asg (.name 3) (.call bl [0] [(.val (.var 1))])), (.ifs (.or [(.cmp .ne (.prim .repr [(.var 3)]) (.prim .repr [(.call ow [0, 1] [(.lend 0), (.val (.var 1))])])), (.cmp .ne (.prim .repr [(.call bl [0] [(.val (.var 1))])]) (.prim .repr [(.var 3)]))]) [(.ret (.cst (.bool false)))] []), (.asg (.name 4) (.lst [])), (.loop (.it (.var 3)) (.name 5) [(.extend 4 (.prim .list [(.var 5)]))]), (.ret (.cmp .eq (.prim .tuple [(.prim .sorted [(.var 4)])]) (.var 1)))]⟩
def Right10Ok (Φ : Nat → List Val → CR) (i : Nat) : Prop := ∀ (b : List PyData) (m : Nat) (ls : List Log) (Q : Val → List MO → Prop) (E : Exn → List MO → Prop), GB m b → m + 400 < 2 ^ 100 → LogsPost IsCell 5 8 ls → (∀ b' : List PyData, GB (m + 200) b' → Q (.sh (.bool true)) [.lst b']) → WC (Φ i [.ow (.lst b), .sh (grpD ls)]) Q E
theorem right10_ok (Φ Φ' : Nat → List Val → CR) (i sp ss st bl ow : Nat) (h : ∀ args, Φ i args = (Fright10 sp ss st bl ow).run Φ' args) (SP : LSplitOk Φ' sp) (SS : SplitOk Φ' ss) (ST : StuckOk Φ' st) (BL : BlocksOk Φ' bl) (OW : OwnOk Φ' ow) : Right10Ok Φ i := by
  intro b m ls Q E hb hm lp hQ
  rw [h]
  refine wc_run (by rfl) ?_
  have g := lp.glogs
  have ne := lp.ne
  have rs := repr_strs (split_cell ne lp.fine) (split_len g)
  have bx : ∀ found : List (List Log), Reach ls found → primD .repr [.tuple ((sortG found).map grpD)] = some (.sh (.str (PyData.shown (.tuple ((sortG found).map grpD))))) := fun found rc => by
    have pm := sortG_perm found
    refine repr_grps (fun q hq l hl => lp.fine l ((reach_sub ne rc q (pm.mem_iff.mp hq)).1.subset hl)) (fun q hq => Nat.le_trans (reach_sub ne rc q (pm.mem_iff.mp hq)).1.length_le lp.few) ?_
    rw [pm.length_eq]
    exact Nat.le_trans (reach_len ne rc) lp.few
  simp [Fright10, Fn.start]
  refine SP (grpD ls) ls _ _ (.inl rfl) g ne ?_
  simp
  refine SS ls _ _ g ?_
  simp [rs]
  refine ST ls _ _ g ?_
  have gl : primD .len [grpD ls] = some (.sh (.int ls.length)) := pr_lenT.trans (by simp)
  have gl16 : ls.length ≤ 16777216 := by have := lp.few; omega
  have tail : ∀ u2 : Val, WR (execs Φ' [0] [(.asg (.name 3) (.call bl [0] [(.val (.var 1))])), (.ifs (.or [(.cmp .ne (.prim .repr [(.var 3)]) (.prim .repr [(.call ow [0, 1] [(.lend 0), (.val (.var 1))])])), (.cmp .ne (.prim .repr [(.call bl [0] [(.val (.var 1))])]) (.prim .repr [(.var 3)]))]) [(.ret (.cst (.bool false)))] []), (.asg (.name 4) (.lst [])), (.loop (.it (.var 3)) (.name 5) [(.extend 4 (.prim .list [(.var 5)]))]), (.ret (.cmp .eq (.prim .tuple [(.prim .sorted [(.var 4)])]) (.var 1)))] [some (.ow (.lst b)), some (.sh (grpD ls)), some u2, none, none, none]) (fun fl env => match fl with
    | .ret v => match lentAll env (owPos 0 [.ow (.lst b), .sh (grpD ls)]) with
      | some ms => Q v ms
      | none => False
    | .next => match lentAll env (owPos 0 [.ow (.lst b), .sh (grpD ls)]) with
      | some ms => Q (.sh .none) ms
      | none => False
    | _ => False) (fun x env => match lentAll env (owPos 0 [.ow (.lst b), .sh (grpD ls)]) with
      | some ms => E x ms
      | none => False) := fun u2 => by
    simp
    refine BL ls _ _ g (fun z => absurd z ne) fun found _ rc wh => ?_
    rw [sortD_grps]
    have bf := bx found rc
    simp [bf]
    refine OW b m ls _ _ hb (by omega) g ne lp.pw fun found2 b2 hb2 rc2 wh2 => ?_
    rw [sortD_grps, sortG_eq (reach_same ne lp.nd rc2 rc wh2 wh)]
    simp [bf]
    refine BL ls _ _ g (fun z => absurd z ne) fun found3 _ rc3 wh3 => ?_
    rw [sortD_grps, sortG_eq (reach_same ne lp.nd rc3 rc wh3 wh)]
    simp [bf, most]
    refine wr_loop ?_
    simp
    have pm := sortG_perm found
    have fl := (pm.flatten).trans (reach_flat ne lp.nd rc)
    refine ⟨fun rest en => ∃ (dn tl : List (List Log)) (all : List Log) (u5 : Option Val), en = [some (.ow (.lst b2)), some (.sh (grpD ls)), some u2, some (.sh (.tuple ((sortG found).map grpD))), some (.ow (.lst (all.map logD))), u5] ∧ all = dn.flatten ∧ rest = tl.map grpD ∧ dn ++ tl = sortG found, ⟨[], sortG found, [], none, rfl, rfl, rfl, rfl⟩, ?_, ?_⟩
    · rintro d rest en ⟨dn, tl, all, u5, rfl, ha, hr, hd⟩
      cases tl with
      | nil => cases hr
      | cons q tl =>
        obtain ⟨rfl, rfl⟩ := List.cons.inj hr
        have e0 : primD .list [grpD q] = some (.ow (.lst (q.map logD))) := rfl
        have tot : dn.flatten.length + q.length ≤ 8 := by
          have q1 := fl.length_eq
          rw [← hd, List.flatten_append, List.flatten_cons, List.length_append, List.length_append] at q1
          have := lp.few
          omega
        rw [← ha] at tot
        have t2 : all.length + q.length ≤ 16777216 := by omega
        simp [e0, most, t2]
        exact ⟨dn ++ [q], tl, all ++ q, by simp, by rw [ha]; simp, rfl, by simpa using hd⟩
    · rintro en ⟨dn, tl, all, u5, rfl, ha, hr, hd⟩
      have etl : tl = [] := by simpa using hr.symm
      subst etl
      rw [List.append_nil] at hd
      rw [hd] at ha
      rw [← ha] at fl
      have so : primD .sorted [.list (all.map logD)] = some (.ow (.lst (sortD (all.map logD)))) := if_pos (sort_logs_ok (by rw [fl.length_eq]; have := lp.few; unfold most; omega))
      rw [sortD_logs, sortL_eq fl lp.pw] at so
      have eg : eqD (.tuple (ls.map logD)) (grpD ls) = some true := (eq_grp (a := ls) (b := ls)).trans (by simp)
      simp [so, eg, owPos, lentAll]
      exact hQ b2 (hb2.mono (by omega))
  by_cases h2 : (1 : Int) < (ls.length : Int)
  · have h3 : 1 < ls.length := by omega
    simp [pr_reprb, gl, h2, h3, most]
    have q := tail (.ow (.lst ((splitN ls).map .str)))
    simp at q
    exact q
  · have h3 : ¬ 1 < ls.length := by omega
    simp [pr_reprb, gl, h2, h3, most]
    have q := tail (.ow (.lst ((splitN ls).map .str)))
    simp at q
    exact q
end Pv.X

/-! QaM0: how many boxes. -/
set_option linter.all false
namespace Pv.X
theorem cnt3 (n : Nat) : ∃ k : Nat, (if 1 < (if (n : Int) < 3 then (n : Int) else 3) then (if (n : Int) < 3 then (n : Int) else 3) else 1) = (k : Int) ∧ k ≤ 3 := by
  by_cases q : (n : Int) < 3
  · rw [if_pos q]
    by_cases q2 : 1 < (n : Int)
    · exact ⟨n, by rw [if_pos q2], by omega⟩
    · exact ⟨1, by rw [if_neg q2]; rfl, by omega⟩
  · rw [if_neg q]
    exact ⟨3, by rfl, by omega⟩
end Pv.X

/-! QaM: k10: the drawn logs of a box; the law. -/
set_option linter.all false
set_option maxRecDepth 100000
set_option maxHeartbeats 2000000
namespace Pv.X
open PySem

def Fdrawn (t ce lg : Nat) : Fn := ⟨1, 1, [0], [(.ret (.call lg [0, 1, 2] [(.lend 0), (.val (.call ce [0, 1] [(.lend 0), (.val (.bin .add (.cst (.int (1))) (.call t [0, 1] [(.lend 0), (.val (.cst (.int (5))))])))])), (.val (.bin .add (.cst (.int (1))) (.call t [0, 1] [(.lend 0), (.val (.cst (.int (8))))])))]))]⟩
def DrawnOk (Φ : Nat → List Val → CR) (i : Nat) : Prop := ∀ (b : List PyData) (m : Nat) (Q : Val → List MO → Prop) (E : Exn → List MO → Prop), GB m b → m + 50000 < 2 ^ 100 → (∀ (ls : List Log) (b' : List PyData), GB (m + 41000) b' → LogsPost IsCell 5 8 ls → Q (.sh (grpD ls)) [.lst b']) → WC (Φ i [.ow (.lst b)]) Q E
theorem drawn_ok (Φ Φ' : Nat → List Val → CR) (i t ce lg : Nat) (h : ∀ args, Φ i args = (Fdrawn t ce lg).run Φ' args) (T : TakeOk Φ' t) (CE : CellsOk Φ' ce) (LG : LogsDraw Φ' lg 40000) : DrawnOk Φ i := by
  intro b m Q E hb hm hQ
  rw [h]
  refine wc_run (by rfl) ?_
  simp [Fdrawn, Fn.start]
  refine T b m 5 _ _ hb (by omega) (by decide) (by decide) fun r b1 hb1 r0 r1 => ?_
  obtain ⟨n, hn⟩ : ∃ n : Nat, 1 + r = n := ⟨(1 + r).toNat, by omega⟩
  simp [hn]
  refine CE b1 _ n _ _ hb1 (by omega) (by omega) fun xs b2 hb2 hxs => ?_
  obtain ⟨x1, x2, x3⟩ := hxs
  simp
  refine T b2 _ 8 _ _ hb2 (by omega) (by decide) (by decide) fun s b3 hb3 s0 s1 => ?_
  obtain ⟨k, hk⟩ : ∃ k : Nat, 1 + s = k := ⟨(1 + s).toNat, by omega⟩
  simp [hk]
  refine LG b3 _ xs k _ _ hb3 (by omega) (by omega) x2 (by omega) (by omega) fun ls b4 hb4 hls => ?_
  simp [owPos, lentAll]
  exact hQ ls b4 (hb4.mono (by omega)) (hls.to x3)
theorem LogsPost.sub {A : Str → Prop} {h n : Nat} {ls es : List Log} (f : LogsPost A h n ls) (s : es.Sublist ls) (ne : es ≠ []) : LogsPost A h n es :=
  ⟨ne, Nat.le_trans s.length_le f.few, f.pw.sublist s, f.nd.sublist s, fun l hl => f.fine l (s.subset hl)⟩
def Flaw10 (ss st bl bx t dr ri : Nat) : Fn := ⟨7, 1, [], [(.ifs (.cmp .ne (.prim .repr [(.lst [(.call ss [0] [(.val (.tup []))]), (.call st [0] [(.val (.tup []))]), (.call bl [0] [(.val (.tup []))])])]) (.prim .repr [(.lst [(.tup []), (.cst (.bool false)), (.tup [])])])) [(.ret (.cst (.bool false)))] []), (.loop (.rng (.prim .max2 [(.cst (.int (1))), (.prim .min2 [(.cst (.int (3))), (.prim .len [(.var 0)])])])) (.name 1) [(.asg (.name 2) (.call bx [0, 1] [(.val (.var 0)), (.val (.var 1))])), (.loop (.rng (.cst (.int (3)))) (.name 3) [(.asg (.name 4) (.call dr [0] [(.lend 2)])), (.asg (.name 5) (.prim .tuple [(.comp [6] (.it (.var 4)) (.name 6) [(.cmp .gt (.call t [0, 1] [(.lend 2), (.val (.cst (.int (3))))]) (.cst (.int (0))))] (.var 6))])), (.ifs (.or [(.not (.call ri [0, 1] [(.lend 2), (.val (.var 4))])), (.and [(.cmp .ne (.var 5) (.tup [])), (.not (.call ri [0, 1] [(.lend 2), (.val (.var 5))]))])]) [(.ret (.cst (.bool false)))] [])])]), (.ret (.cst (.bool true)))]⟩
theorem law10_ok (Φ Φ' : Nat → List Val → CR) (i ss st bl bx t dr ri : Nat) (h : ∀ args, Φ i args = (Flaw10 ss st bl bx t dr ri).run Φ' args)
    (SS : SplitOk Φ' ss) (ST : StuckOk Φ' st) (BL : BlocksOk Φ' bl) (BX : BoxOk Φ' bx) (T : TakeOk Φ' t) (DR : DrawnOk Φ' dr) (RI : Right10Ok Φ' ri) (ns : List Int) : Φ i [.scr ns] = .ok (.sh (.bool true)) [] := by
  refine wc_eq fun Q E hQ => ?_
  rw [h]
  refine wc_run (by rfl) ?_
  have g0 : GLogs [] := ⟨by simp, by simp⟩
  have rp : primD .repr [.list [.tuple [], .bool false, .tuple []]] = some (.sh (.str (PyData.shown (.list [.tuple [], .bool false, .tuple []])))) := pr_repr (B := 0) (by decide) (by simp [okI, okAll]) (by simp [sz, szAll]) (by simp [PyData.depth, PyData.depthAll])
  simp [Flaw10, Fn.start, most]
  refine SS [] _ _ g0 ?_
  simp [splitN, sharedN]
  refine ST [] _ _ g0 ?_
  simp [splitN, sharedN]
  refine BL [] _ _ g0 (fun _ => ?_) (fun _ z => absurd rfl z)
  simp [rp, most]
  refine wr_loop ?_
  obtain ⟨nn, hnn, n3⟩ := cnt3 ns.length
  simp [hnn, range2_of (i := 0) (j := nn) (by omega)]
  refine ⟨fun rest en => ∃ (u1 u2 u3 u4 u5 : Option Val), en = [some (.scr ns), u1, u2, u3, u4, u5, none] ∧ ∀ d ∈ rest, ∃ k : Nat, d = .int k ∧ k < 3, ⟨none, none, none, none, none, rfl, fun d hd => ?_⟩, ?_, ?_⟩
  · obtain ⟨k, hk, rfl⟩ := List.mem_map.mp hd
    have := List.mem_range.mp hk
    exact ⟨k, rfl, by omega⟩
  · rintro d rest en ⟨u1, u2, u3, u4, u5, rfl, hr⟩
    obtain ⟨k, rfl, hk⟩ := hr d List.mem_cons_self
    simp
    refine BX ns k _ _ (by omega) (by omega) fun b0 hb0 => ?_
    simp
    refine wr_loop ?_
    simp [range2_of (i := 0) (j := 3) (by decide)]
    refine ⟨fun rest2 en => ∃ (b3 : List PyData) (u3 u4 u5 : Option Val), en = [some (.scr ns), some (.sh (.int k)), some (.ow (.lst b3)), u3, u4, u5, none] ∧ rest2.length ≤ 3 ∧ GB ((3 - rest2.length) * 100000) b3, ⟨b0, u3, u4, u5, rfl, by simp, by simpa using hb0⟩, ?_, ?_⟩
    · rintro d2 rest2 en ⟨b3, u3, u4, u5, rfl, hl3, hb3⟩
      simp only [List.length_cons] at hl3 hb3
      simp
      refine DR b3 _ _ _ hb3 (by omega) fun ls b4 hb4 hls => ?_
      simp
      refine wr_comp ?_
      have l8 := hls.few
      simp [grpD]
      refine ⟨by unfold most; omega, fun rest3 ys en => ∃ (b5 : List PyData) (dn tl es : List Log) (u6 : Option Val), en = [some (.scr ns), some (.sh (.int k)), some (.ow (.lst b5)), some (.sh d2), some (.sh (.tuple (ls.map logD))), u5, u6] ∧
        rest3 = tl.map logD ∧ dn ++ tl = ls ∧ ys = es.map logD ∧ es.Sublist dn ∧ GB ((3 - (rest2.length + 1)) * 100000 + 41000 + dn.length) b5, ⟨b4, [], ls, [], none, rfl, rfl, rfl, rfl, by simp, by simpa using hb4⟩, ?_, ?_⟩
      · rintro d3 rest3 ys en ⟨b5, dn, tl, es, u6, rfl, hr3, hd3, rfl, hs, hb5⟩
        cases tl with
        | nil => cases hr3
        | cons l tl =>
          obtain ⟨rfl, rfl⟩ := List.cons.inj hr3
          have dl : dn.length + tl.length + 1 = ls.length := by rw [← hd3]; simp; omega
          simp
          refine T b5 _ 3 _ _ hb5 (by omega) (by decide) (by decide) fun r b6 hb6 r0 r1 => ?_
          by_cases hr0 : 0 < r
          · simp [hr0]
            exact ⟨dn ++ [l], tl, rfl, by simpa using hd3, es ++ [l], by simp, hs.append (List.Sublist.refl _), hb6.mono (by simp; omega)⟩
          · simp [hr0]
            exact ⟨dn ++ [l], tl, rfl, by simpa using hd3, es, rfl, hs.trans (List.sublist_append_left _ _), hb6.mono (by simp; omega)⟩
      · rintro ys en ⟨b5, dn, tl, es, u6, rfl, hr3, hd3, rfl, hs, hb5⟩
        have etl : tl = [] := by simpa using hr3.symm
        subst etl
        rw [List.append_nil] at hd3
        subst hd3
        have RI1 := RI b5 ((3 - (rest2.length + 1)) * 100000 + 41000 + dn.length) dn
        unfold grpD at RI1
        simp [most]
        refine RI1 _ _ hb5 (by omega) hls fun b6 hb6 => ?_
        simp
        cases hee : es.isEmpty with
        | true =>
          obtain rfl : es = [] := by simpa using hee
          simp
          exact ⟨by omega, hb6.mono (by omega)⟩
        | false =>
          have ene : es ≠ [] := by intro z; subst z; cases hee
          have RI2 := RI b6 ((3 - (rest2.length + 1)) * 100000 + 41000 + dn.length + 200) es
          unfold grpD at RI2
          simp [hee, ene]
          refine RI2 _ _ hb6 (by omega) (hls.sub hs ene) fun b7 hb7 => ?_
          simp
          exact ⟨by omega, hb7.mono (by omega)⟩
    · rintro en ⟨b3, u3, u4, u5, rfl, hl3, hb3⟩
      simp
      exact fun d hd => hr d (List.mem_cons_of_mem _ hd)
  · rintro en ⟨u1, u2, u3, u4, u5, rfl, hr⟩
    simp [owPos, lentAll]
    exact hQ
end Pv.X

/-! K10: all levels of k10 put together. -/
set_option linter.all false
set_option maxRecDepth 100000
set_option maxHeartbeats 4000000
namespace Lw_k10
open PySem Pv Pv.X
theorem take_l (k : Nat) : TakeOk (callAt Pn (k + 1)) 6 := take_ok _ (callAt Pn k) 6 fun _ => rfl
theorem of_l (k : Nat) : OfOk (callAt Pn (k + 2)) 7 := of_ok _ (callAt Pn (k + 1)) 7 6 (fun _ => rfl) (take_l k)
theorem box_l (k : Nat) : BoxOk (callAt Pn (k + 1)) 5 := box_ok _ (callAt Pn k) 5 fun _ => rfl
theorem cells_l (k : Nat) : CellsOk (callAt Pn (k + 3)) 8 :=
  cells_ok (Str.ofString "abcdefghijklmnopqrstuvwxyz") (Str.ofString "") letters_list (by decide +kernel) _ (callAt Pn (k + 2)) 8 6 7 (fun _ => rfl) (take_l (k + 1)) (of_l k) (of_str _ (callAt Pn (k + 1)) 7 6 (fun _ => rfl) (take_l k))
theorem values_l (k : Nat) : ValuesOk (callAt Pn (k + 2)) 9 := values_ok _ (callAt Pn (k + 1)) 9 6 (fun _ => rfl) (take_l k)
theorem tree_l : ∀ (c k : Nat), TreeOk (callAt Pn (c + k + 4)) 10 c
  | 0, k => tree_step (callAt Pn (0 + k + 4)) (callAt Pn (0 + k + 3)) 10 6 9 10 0 (fun _ => rfl) (take_l _) (values_l _) fun c' e => by cases e
  | c + 1, k => by
    have q := tree_step (callAt Pn ((c + k + 4) + 1)) (callAt Pn (c + k + 4)) 10 6 9 10 (c + 1) (fun _ => rfl) (take_l (c + k + 3)) (values_l (c + k + 2)) fun c' e => by cases e; exact tree_l c k
    rw [show c + 1 + k + 4 = (c + k + 4) + 1 by omega]
    exact q
theorem leaves_l (k : Nat) : Leaves2Ok (callAt Pn (k + 1)) 11 := leaves2_ok _ (callAt Pn k) 11 fun _ => rfl
theorem loose_l (k : Nat) : LogsDraw (callAt Pn (k + 2)) 12 100 := loose_ok _ (callAt Pn (k + 1)) 12 6 (fun _ => rfl) (take_l k)
theorem logs_l (k : Nat) : LogsDraw (callAt Pn (5 + k + 4 + 1)) 13 40000 := logs_ok _ (callAt Pn (5 + k + 4)) 13 6 12 11 10 (fun _ => rfl) (take_l _) (loose_l _) (leaves_l _) (tree_l 5 k)
theorem drawn_l (k : Nat) : DrawnOk (callAt Pn (5 + k + 4 + 1 + 1)) 18 := drawn_ok _ (callAt Pn (5 + k + 4 + 1)) 18 6 8 13 (fun _ => rfl) (take_l _) (cells_l _) (logs_l k)
theorem shared_l (k : Nat) : SharedOk (callAt Pn (k + 1)) 0 := shared_ok _ (callAt Pn k) 0 fun _ => rfl
theorem parts_l (k : Nat) : PartsOk (callAt Pn (k + 1)) 1 := parts_ok _ (callAt Pn k) 1 fun _ => rfl
theorem split_l (k : Nat) : SplitOk (callAt Pn (k + 2)) 2 := split_ok _ (callAt Pn (k + 1)) 2 0 (fun _ => rfl) (shared_l k)
theorem stuck_l (k : Nat) : StuckOk (callAt Pn (k + 3)) 3 := stuck_ok _ (callAt Pn (k + 2)) 3 2 (fun _ => rfl) (split_l k)
theorem blocks_l (k : Nat) : BlocksOk (callAt Pn (k + 3)) 4 := blocks_ok _ (callAt Pn (k + 2)) 4 2 1 (fun _ => rfl) (split_l k) (parts_l (k + 1))
theorem lshared_l (k : Nat) : LSharedOk (callAt Pn (k + 1)) 14 := lshared_ok _ (callAt Pn k) 14 fun _ => rfl
theorem lparts_l (k : Nat) : LPartsOk (callAt Pn (k + 1)) 15 := lparts_ok _ (callAt Pn k) 15 fun _ => rfl
theorem lsplit_l (k : Nat) : LSplitOk (callAt Pn (k + 2)) 16 := lsplit_ok _ (callAt Pn (k + 1)) 16 14 15 (fun _ => rfl) (lshared_l k) (lparts_l k)
theorem own_l (k : Nat) : OwnOk (callAt Pn (k + 3)) 17 := own_ok _ (callAt Pn (k + 2)) 17 16 15 7 (fun _ => rfl) (lsplit_l k) (lparts_l (k + 1)) (of_l k)
theorem right_l (k : Nat) : Right10Ok (callAt Pn (k + 4)) 19 := right10_ok _ (callAt Pn (k + 3)) 19 16 2 3 4 17 (fun _ => rfl) (lsplit_l (k + 1)) (split_l (k + 1)) (stuck_l k) (blocks_l k) (own_l k)
theorem law_l (ns : List Int) : callAt Pn 40 20 [.scr ns] = .ok (.sh (.bool true)) [] :=
  law10_ok (callAt Pn 40) (callAt Pn 39) 20 2 3 4 5 6 18 19 (fun _ => rfl) (split_l 37) (stuck_l 36) (blocks_l 36) (box_l 38) (take_l 38) (drawn_l 28) (right_l 35) ns
end Lw_k10
theorem PySem.Challenge.cw_readorder_k10_blocks_of_logs_holds : PySem.Challenge.rw_readorder_k10_blocks_of_logs.Holds := by
  exact Lw_k10.holds_of fun ns _ => Lw_k10.law_l ns

