import PyProof.Rows.All
import Wide.All
import OpenK.AllK
import Wide.FinOn
import HandS.ForMost
import HandS.Deep
import HandS.IsInst
import HandS.TupAny
import HandS.TupMul
import HandS.Style
import HandS.Zip
import HandS.Conv
import HandS.Wide
import HandS.Flow
import HandS.Rev
import HandS.Flt
import HandS.TupSets
import KE.SortData
import HandS.Text
import KE.KEqNest
import KE.KEqDict
import PyProof.TupleOfSeq
import KE.KDictKeyed
import PyProof.Rows.SeqRoads
import PyProof.Rows.SortShellAny
import HandS.More
import KE.KDictPairs
import KE.GoesMore
import HandS.DictComp
import HandS.Exc
import HandS.SetFor
import HandS.Strs
import HandS.Finally
import HandS.DictTup
import KE.GoesEnumKw
import HandS.GenList
import HandS.ListItems
import KE.KDictItemsList
import KE.KDictCopyH
import KE.KDictWalk
import HandS.Iter
import HandS.ExcField
import HandS.ExcInit
import HandS.ExcIs
import HandS.ExcOwn
import HandS.TryMany
import HandS.Codes
import KE.KExcIs
import HandS.ExcValue
import PySem.Challenge.RW_anycritical_k02_errors_by_hand
set_option Elab.async false
set_option linter.all false
set_option maxRecDepth 100000
namespace MP
open PySem L2
inductive D where
  | non | bl (b : Bool) | int (i : Int) | str (x : Str)
  | tup (xs : List D) | lst (xs : List D)
  | dK (kvs : List (Key × D)) | dT (kvs : List (List Key × D))
  | obj (n : Nat)
  | scr (ns : List Int)
  deriving Inhabited
inductive Cell where
  | lst (ds : List D)
  | dK (kvs : List (Key × D)) | dT (kvs : List (List Key × D))
  | ins (x : Str) (fs : List (Str × D))
  | exc (C : Str) (vs : List D)
  | gone
  deriving Inhabited
abbrev MH := List Cell
inductive Mode where
  | sh | fr | bo | br
  deriving DecidableEq
inductive Slot where
  | un | sh (d : D) | ow (d : D) | bw (d : D)
  deriving Inhabited
abbrev Env := List Slot
inductive Res (α : Type) where
  | ok (a : α) (m : MH)
  | bad
def Res.bind {α β : Type} : Res α → (α → MH → Res β) → Res β
  | .ok a m, f => f a m
  | .bad, _ => .bad
@[simp] theorem Res.bind_ok {α β : Type} (a : α) (m : MH) (f : α → MH → Res β) : (Res.ok a m).bind f = f a m := rfl
@[simp] theorem Res.bind_bad {α β : Type} (f : α → MH → Res β) : (Res.bad : Res α).bind f = .bad := rfl
inductive Op where | add | sub | mul | mod | fdiv | pow
  deriving DecidableEq
inductive Cm where | eq | ne | lt | le | gt | ge | is | isN | inn | nin
  deriving DecidableEq
inductive Ty where | int | bool | str | tuple | list | dict
  deriving DecidableEq
inductive Bi where
  | len | sorted | list | tuple | all | any | sum | max1 | min1 | max2 | min2 | repr | int | max3 | min3 | dict
  deriving DecidableEq
inductive ItK where | plain | rng | enu | zip (st : Bool) | rev
  deriving DecidableEq
inductive T where
  | nm (i : Nat) | tup (ts : List T)
inductive E where
  | v (i : Nat)
  | c (d : D)
  | tup (es : List E) | lst (es : List E)
  | op (o : Op) (a b : E)
  | neg (a : E)
  | cmp (o : Cm) (a b : E)
  | ch (o p : Cm) (a b c : E)
  | ch3 (o p q : Cm) (a b c d : E)
  | lit (k : ItK) (es : List E)
  | and (a b : E) | or (a b : E) | not (a : E)
  | ite (c a b : E)
  | ix (a b : E)
  | sl (a : E) (lo hi : List E)
  | rv (a : E)
  | sset (a : E)
  | call (f : Nat) (es : List E)
  | bi (b : Bi) (es : List E)
  | isi (one : Bool) (ts : List Ty) (a : E)
  | lc (elt : E) (own : List Nat) (t : T) (k : ItK) (its : List E) (ifs : List E)
  | idx (a b : E)
  | join (a b : E)
  | hasN (a : E)
  | hasNN (a : E)
  | its (a : E)
  | box (e : E)
  | callZ (f : Nat) (es : List E)
  | fld (x : Str) (e : E) (f : Str)
  | get (e k : E) (dv : List E)
  | cmO (o : Cm) (a b : E)
  | biO (b : Bi) (e : E)
  | meth (x h : Str) (f : Nat) (e : E) (es : List E)
  | make (x : Str) (f : Nat) (es : List E)
  | callI (f : Nat) (es : List E)
  | popE (e : E)
  | dsp (ps : List E)
  | dc (kx vx : E) (own : List Nat) (t : T) (k : ItK) (its : List E) (ifs : List E)
  | lcD (elt : E) (own : List Nat) (t : T) (i : Nat) (ifs : List E)
  | lcP (elt : E) (own : List Nat) (t : T) (i c : Nat) (ifs : List E)
  | lc2 (elt : E) (own : List Nat) (t : T) (k : ItK) (its : List E) (ifs : List E) (own1 : List Nat) (t1 : T) (k1 : ItK) (its1 : List E) (ifs1 : List E)
  | dc2 (kx vx : E) (own : List Nat) (t : T) (k : ItK) (its : List E) (ifs : List E) (own1 : List Nat) (t1 : T) (k1 : ItK) (its1 : List E) (ifs1 : List E)
  | ev (a : E)
  | ssetI (a : E)
  | sits (a : E)
  | itsT (a : E)
  | vals (a : E)
  | eqI (ne : Bool) (x : Str) (f : Nat) (a b : E)
  | isC (x : Str) (a : E)
  | slO (a : E) (lo hi : List E)
  | makeX (x : Str) (f : Nat) (es : List E)
  | fldX (f : Str) (a : E)
  | isX (h : Str) (a : E)
  | mkX (C : Str) (es : List E)
  | lcO (elt : E) (own : List Nat) (t : T) (a : E) (ifs : List E)
  | lcQ (elt : E) (own : List Nat) (t : T) (i c : Nat) (ifs : List E)
  | callIB (f : Nat) (es : List E)
  | cmZ (o : Cm) (a b : E)
  | isG (y : Str) (zs : List Str) (a : E)
  | eqG (ne : Bool) (cs : List (Str × Nat)) (a b : E)
inductive PX where
  | c (d : D) | f (k : Nat) | tup (ps : List PX)
inductive XS where
  | ret (p : PX) | asg (j : Nat) (p : PX) | cell (j : Nat)
inductive S where
  | pass
  | ex (e : E)
  | asg (t : T) (e : E)
  | par (i j : Nat) (a b : E)
  | par3 (i j l : Nat) (a b d : E)
  | setIx (i : Nat) (k e : E)
  | aug (i : Nat) (o : Op) (e : E)
  | augIx (i : Nat) (o : Op) (k e : E)
  | app (i : Nat) (e : E)
  | ext (i : Nat) (e : E)
  | ret (e : E)
  | iff (c : E) (a b : List S)
  | for_ (t : T) (k : ItK) (its : List E) (b : List S)
  | while_ (c : E) (b : List S)
  | brk | cnt
  | frz (i : Nat) | pub (i : Nat)
  | popAt (j i : Nat) (e : E)
  | appP (j i : Nat) (e : E)
  | appE (e x : E)
  | bad
  | setF (y : Str) (e : E) (f : Str) (x : E)
  | dput (i : Nat) (k e : E)
  | dputE (d k e : E)
  | forF (t : T) (y : Str) (i : Nat) (f : Str) (b : List S)
  | frzA (i : Nat) (f : Str)
  | forD (t : T) (i : Nat) (b : List S)
  | clr (i : Nat) | dpop (i : Nat) (k : E) | upd (i : Nat) (e : E) | dpopE (d k : E)
  | forP (t : T) (i c : Nat) (b : List S)
  | ins0 (i : Nat) (e : E)
  | asgF (i : Nat) (y : Str) (o : E) (f : Str) (e : E)
  | tryB (b : List S)
  | parN (is : List Nat) (es : List E)
  | clrE (e : E)
  | popL (i : Nat)
  | tryX (b : List S) (r : E) (i : Nat) (hs : List (Str × XS))
  | asgFF (i : Nat) (y : Str) (o : E) (f g : Str) (e : E)
section
variable {κ : Type} [DecidableEq κ]
def valD (kvs : List (κ × D)) (k : κ) : Option D := (kvs.find? fun kv => decide (kv.1 = k)).map (·.2)
def putD (kvs : List (κ × D)) (k : κ) (v : D) : List (κ × D) :=
  if (kvs.any fun kv => decide (kv.1 = k)) = true then kvs.map (fun kv => if kv.1 = k then (kv.1, v) else kv) else kvs ++ [(k, v)]
def dropD (kvs : List (κ × D)) (k : κ) : List (κ × D) := kvs.filter fun kv => decide (kv.1 ≠ k)
def mergeD (kvs more : List (κ × D)) : List (κ × D) := more.foldl (fun acc kv => putD acc kv.1 kv.2) kvs
end
def asKey : D → Option Key
  | .int i => some (.inl i)
  | .str x => some (.inr x)
  | _ => none
def asKeys : List D → Option (List Key)
  | [] => some []
  | d :: r => (asKey d).bind fun k => (asKeys r).map fun ks => k :: ks
def keyD : Key → D
  | .inl i => .int i
  | .inr x => .str x
def keysD (ks : List Key) : D := .tup (ks.map keyD)
def getD? : D → D → Option (Option D)
  | .dK kvs, k => (asKey k).map fun k => valD kvs k
  | .dT kvs, .tup ks => (asKeys ks).map fun ks => valD kvs ks
  | _, _ => none
def dTrue : D → Option Bool
  | .non => some false
  | .bl b => some b
  | .int i => some (i != 0)
  | .str x => if x.length ≤ 16777216 then some ((x.length : Int) != 0) else none
  | .tup xs => some (!xs.isEmpty)
  | .lst xs => some (!xs.isEmpty)
  | .dK _ => none
  | .dT _ => none
  | .obj _ => none
  | .scr _ => none
def dks (k : Key) : PyData := match k with | .inl i => PyData.int i | .inr x => PyData.str x
mutual
def D.py : D → PyData
  | .non => .none
  | .bl b => .bool b
  | .int i => .int i
  | .str x => .str x
  | .tup xs => .tuple (pys xs)
  | .lst xs => .list (pys xs)
  | .dK kvs => .dict (pyK kvs)
  | .dT _ => .dict []
  | .obj _ => .dict []
  | .scr _ => .dict []
def pys : List D → List PyData
  | [] => []
  | x :: xs => x.py :: pys xs
def pyK : List (Key × D) → List (PyData × PyData)
  | [] => []
  | (k, d) :: r => (dks k, d.py) :: pyK r
end
def flat (d : D) : Bool := SeqAt.shaped d.py
def eqv (a b : D) : Bool := PyData.eqv a.py b.py
def small (i : Int) : Bool := Nat.ble i.natAbs 4611686018427387903
def opD : Op → D → D → Option D
  | .add, .int i, .int j => some (.int (i + j))
  | .add, .str a, .str b => if a.length + b.length ≤ 16777216 then some (.str (a ++ b)) else none
  | .add, .tup xs, .tup ys => if xs.length + ys.length ≤ 16777216 then some (.tup (xs ++ ys)) else none
  | .add, .lst xs, .lst ys => if xs.length + ys.length ≤ 16777216 then some (.lst (xs ++ ys)) else none
  | .sub, .int i, .int j => some (.int (i - j))
  | .mul, .int i, .int j => if i.natAbs < 18446744073709551616 ∨ j.natAbs < 18446744073709551616 then some (.int (i * j)) else none
  | .mul, .tup xs, .int k => if k = 0 ∧ xs ≠ [] then some (.tup []) else if k = 1 ∧ xs ≠ [] then some (.tup xs) else if 2 ≤ k ∧ k ≤ 1000 ∧ xs.length ≤ 1000 ∧ xs ≠ [] then some (.tup (List.replicate k.toNat xs).flatten) else none
  | .mul, .lst xs, .int k => if 0 ≤ k ∧ k ≤ 1000 ∧ xs.length ≤ 1000 then some (.lst (List.replicate k.toNat xs).flatten) else none
  | .mod, .int i, .int j => if 0 < j then some (.int (i % j)) else none
  | .fdiv, .int i, .int j => if 0 < j ∧ j.natAbs < 1073741824 then some (.int (i / j)) else none
  | .pow, .int i, .int j => if 0 ≤ j ∧ j.natAbs ≤ 1000000 ∧ i.natAbs < 18446744073709551616 then some (.int (i ^ j.toNat)) else none
  | _, _, _ => none
def allX (f : D → D → Option Bool) : List D → List D → Option Bool
  | [], [] => some true
  | x :: xs, y :: ys => (f x y).bind fun b => (allX f xs ys).map fun r => b && r
  | _, _ => some false
def hitX {κ : Type} [DecidableEq κ] (f : D → D → Option Bool) (ls : List (κ × D)) : List (κ × D) → Option Bool
  | [] => some true
  | kv :: r => match valD ls kv.1 with
    | none => some false
    | some u => (f kv.2 u).bind fun b => (hitX f ls r).map fun c => b && c
def eqR (f : D → D → Option Bool) : D → D → Option Bool
  | .tup xs, .tup ys => allX f xs ys
  | .lst xs, .lst ys => allX f xs ys
  | .dK ks, .dK ls => if ks.length = ls.length then hitX f ls ks else some false
  | .dT ks, .dT ls => if ks.length = ls.length then hitX f ls ks else some false
  | _, _ => none
def eqX : Nat → D → D → Option Bool
  | 0, _, _ => none
  | n + 1, a, b => if flat a && flat b then some (eqv a b) else eqR (eqX n) a b
def eqDD : D → D → Option Bool
  | .dK ks, .dK ls => eqR (eqX 8) (.dK ks) (.dK ls)
  | .dT ks, .dT ls => eqR (eqX 8) (.dT ks) (.dT ls)
  | .lst xs, .lst ys => if xs.length = ys.length then none else some false
  | _, _ => none
def D.isNon : D → Bool
  | .non => true
  | _ => false
def memD (x : D) (xs : List D) : Bool := xs.any fun z => eqv z x
def cmD : Cm → D → D → Option Bool
  | .eq, .str a, .str b => some (a == b)
  | .ne, .str a, .str b => some (!(a == b))
  | .eq, a, b => if flat a && flat b then some (eqv a b) else eqR (eqX 8) a b
  | .ne, a, b => if flat a && flat b then some (!eqv a b) else (eqDD a b).map fun r => !r
  | .lt, .int i, .int j => some (decide (i < j))
  | .le, .int i, .int j => some (decide (i ≤ j))
  | .gt, .int i, .int j => some (decide (j < i))
  | .ge, .int i, .int j => some (decide (j ≤ i))
  | .is, a, .non => some a.isNon
  | .isN, a, .non => some (!a.isNon)
  | .is, .bl a, .bl b => some (decide (a = b))
  | .isN, .bl a, .bl b => some (!decide (a = b))
  | .inn, x, .lst ys => if flat x && flat (.lst ys) then some (memD x ys) else none
  | .nin, x, .lst ys => if flat x && flat (.lst ys) then some (!memD x ys) else none
  | .inn, x, .tup ys => if flat x && flat (.tup ys) then some (memD x ys) else none
  | .nin, x, .tup ys => if flat x && flat (.tup ys) then some (!memD x ys) else none
  | .inn, x, .dK kvs => (getD? (.dK kvs) x).map fun o => o.isSome
  | .nin, x, .dK kvs => (getD? (.dK kvs) x).map fun o => !o.isSome
  | .inn, x, .dT kvs => (getD? (.dT kvs) x).map fun o => o.isSome
  | .nin, x, .dT kvs => (getD? (.dT kvs) x).map fun o => !o.isSome
  | _, _, _ => none
def isTy : Ty → D → Bool
  | .int, .int _ => true
  | .int, .bl _ => true
  | .bool, .bl _ => true
  | .str, .str _ => true
  | .tuple, .tup _ => true
  | .list, .lst _ => true
  | .dict, .dK _ => true
  | .dict, .dT _ => true
  | _, _ => false
def isD (ts : List Ty) : D → Option Bool
  | .obj _ => none
  | .scr _ => none
  | d => some (ts.any fun t => isTy t d)
mutual
def okPy : D → Bool
  | .dT _ => false
  | .obj _ => false
  | .scr _ => false
  | .tup xs => okPys xs
  | .lst xs => okPys xs
  | .dK kvs => okPyK kvs
  | _ => true
def okPys : List D → Bool
  | [] => true
  | x :: xs => okPy x && okPys xs
def okPyK : List (Key × D) → Bool
  | [] => true
  | (_, x) :: xs => okPy x && okPyK xs
end
mutual
def noLst : D → Bool
  | .lst _ => false
  | .tup xs => noLsts xs
  | .dK kvs => noLstK kvs
  | _ => true
def noLsts : List D → Bool
  | [] => true
  | x :: xs => noLst x && noLsts xs
def noLstK : List (Key × D) → Bool
  | [] => true
  | (_, x) :: xs => noLst x && noLstK xs
end
def okRepr (d : D) : Bool := okPy d && (!d.py.hasDict || true) && d.py.showable && decide (d.py.depth ≤ 64) && decide (d.py.shown.length ≤ 16777216)
def deref (m : MH) : D → D
  | .obj n => match m[n]? with
    | some (.lst ds) => .lst ds
    | some (.dK kvs) => .dK kvs
    | some (.dT kvs) => .dT kvs
    | _ => .obj n
  | d => d
def ixD : D → D → Option D
  | .tup xs, .int i => atI xs i
  | .lst xs, .int i => atI xs i
  | .scr ns, .int i => (atI ns i).map D.int
  | .dK kvs, k => (getD? (.dK kvs) k).bind id
  | .dT kvs, k => (getD? (.dT kvs) k).bind id
  | _, _ => none
def cutD {α : Type} (xs : List α) (lo hi : Option Int) : List α := (xs.drop (HT.sIx xs.length 0 lo)).take (HT.sIx xs.length xs.length hi - HT.sIx xs.length 0 lo)
def slD : D → Option Int → Option Int → Option D
  | .tup xs, lo, hi => some (.tup (cutD xs lo hi))
  | .lst xs, lo, hi => some (.lst (cutD xs lo hi))
  | .scr ns, lo, hi => some (.lst ((cutD ns lo hi).map D.int))
  | _, _, _ => none
def ev0 {α : Type} : List α → List α
  | [] => []
  | [a] => [a]
  | a :: _ :: l => a :: ev0 l
def ev2 {α : Type} (l : List α) : List α := ev0 (l.drop 2)
def evD : D → Option D
  | .tup xs => some (.tup (ev2 xs))
  | _ => none
def lenD : D → Option Nat
  | .tup xs => some xs.length
  | .lst xs => some xs.length
  | .str x => if x.length ≤ 16777216 then some x.length else none
  | .dK kvs => some kvs.length
  | .dT kvs => some kvs.length
  | .scr ns => some ns.length
  | _ => none
def asInts : List D → Option (List Int)
  | [] => some []
  | .int i :: r => (asInts r).map (i :: ·)
  | _ :: _ => none
def asBools : List D → Option (List Bool)
  | [] => some []
  | .bl i :: r => (asBools r).map (i :: ·)
  | _ :: _ => none
def maxI : Int → List Int → Int
  | m, [] => m
  | m, x :: r => maxI (if m < x then x else m) r
def minI : Int → List Int → Int
  | m, [] => m
  | m, x :: r => minI (if x < m then x else m) r
def intKeys : List (Key × D) → Option (List Int)
  | [] => some []
  | (.inl i, _) :: r => (intKeys r).map (i :: ·)
  | (.inr _, _) :: _ => none
def keyInts : List Key → Option (List Int)
  | [] => some []
  | .inl i :: r => (keyInts r).map (i :: ·)
  | .inr _ :: _ => none
def keysInts : List (List Key) → Option (List (List Int))
  | [] => some []
  | k :: r => (keyInts k).bind fun i => (keysInts r).map (i :: ·)
def hashT (is : List Int) : Int := reduceHash (Builtin.Tuple.tupleHashOf (is.map hashInt))
def hashApart (ks : List (List Key)) : Bool := match keysInts ks with
  | some l => decide (l.map hashT).Nodup
  | none => false
def sortD (xs : List D) : List D := xs.mergeSort fun a b => PySem.W.dataLe false D.py a b
def neTup : D → Bool
  | .tup (_ :: _) => true
  | _ => false
def notTup : D → Bool
  | .tup _ => false
  | .non => false
  | _ => true
def oneTup : List D → Bool
  | [.tup _] => true
  | _ => false
def okSort (xs : List D) : Bool := (xs.all fun a => xs.all fun b => PySem.W.alike a.py b.py) && (xs.all neTup || (xs.all notTup || oneTup xs)) && (xs.all fun a => decide (a.py.depth ≤ 64) && a.py.canLay0) && decide (xs.length ≤ 16777216)
def pairKV : List D → Option (List (Key × D))
  | [] => some []
  | .tup [k, v] :: r => (asKey k).bind fun kk => (pairKV r).map fun t => (kk, v) :: t
  | _ => none
def pairKT : List D → Option (List (List Key × D))
  | [] => some []
  | .tup [.tup ks, v] :: r => (asKeys ks).bind fun kk => (pairKT r).map fun t => (kk, v) :: t
  | _ => none
def dictPT (xs : List D) : Option D := (pairKT xs).bind fun kvs => if (kvs.map (·.1)).Nodup then some (.dT kvs) else none
def biD : Bi → List D → Option D
  | .len, [d] => (lenD d).map fun (n : Nat) => D.int (n : Int)
  | .list, [.tup xs] => some (.lst xs)
  | .list, [.lst xs] => some (.lst xs)
  | .list, [.dK kvs] => if kvs.length ≤ 16777216 then some (.lst (kvs.map fun kv => keyD kv.1)) else none
  | .list, [.dT kvs] => if kvs.length ≤ 16777216 then some (.lst (kvs.map fun kv => keysD kv.1)) else none
  | .dict, [.dK kvs] => some (.dK kvs)
  | .dict, [.dT kvs] => if hashApart (kvs.map (·.1)) then some (.dT kvs) else none
  | .dict, [.lst xs] => match pairKV xs with
    | some kvs => some (.dK (mergeD [] kvs))
    | none => dictPT xs
  | .sorted, [.dT kvs] => if okSort (kvs.map fun kv => keysD kv.1) then some (.lst (sortD (kvs.map fun kv => keysD kv.1))) else none
  | .sorted, [.dK kvs] => (intKeys kvs).bind fun is => if is.length ≤ 16777216 then some (.lst ((is.mergeSort fun a b => decide (a ≤ b)).map D.int)) else none
  | .tuple, [.tup xs] => some (.tup xs)
  | .tuple, [.lst xs] => some (.tup xs)
  | .sorted, [.lst xs] => if okSort xs then some (.lst (sortD xs)) else none
  | .sorted, [.tup xs] => if okSort xs then some (.lst (sortD xs)) else none
  | .repr, [d] => if okRepr d then some (.str d.py.shown) else none
  | .all, [.lst xs] => (asBools xs).map fun bs => .bl (bs.all id)
  | .any, [.lst xs] => (asBools xs).map fun bs => .bl (bs.any id)
  | .sum, [.lst xs] => (asInts xs).map fun is => .int is.sum
  | .max1, [.lst xs] => match asInts xs with | some (i :: r) => some (.int (maxI i r)) | _ => none
  | .min1, [.lst xs] => match asInts xs with | some (i :: r) => some (.int (minI i r)) | _ => none
  | .max2, [.int i, .int j] => some (.int (if j > i then j else i))
  | .min2, [.int i, .int j] => some (.int (if j < i then j else i))
  | .max3, [.int i, .int j, .int k] => some (.int (if (if i < j then j else i) < k then k else (if i < j then j else i)))
  | .min3, [.int i, .int j, .int k] => some (.int (if k < (if j < i then j else i) then k else (if j < i then j else i)))
  | .int, [.int i] => some (.int i)
  | .int, [.bl b] => some (.int (if b then 1 else 0))
  | _, _ => none
def asPr : D → Option (Int × Int)
  | .tup [.int a, .int b] => some (a, b)
  | _ => none
def asPairs : List D → Option (List (Int × Int))
  | [] => some []
  | d :: r => (asPr d).bind fun p => (asPairs r).map fun ps => p :: ps
def okPr (p : Int × Int) : Bool := decide (0 ≤ p.1) && decide (p.1 < 64) && decide (0 ≤ p.2) && decide (p.2 < 64)
def cP (p : Int × Int) : Int := p.1 * 64 + p.2
def insP (p : Int × Int) : List (Int × Int) → List (Int × Int)
  | [] => [p]
  | q :: r => if p = q then q :: r else if cP p < cP q then p :: q :: r else q :: insP p r
def setSort (ps : List (Int × Int)) : List (Int × Int) := ps.foldr insP []
def ofPr (p : Int × Int) : D := .tup [.int p.1, .int p.2]
def insI (x : Int) : List Int → List Int
  | [] => [x]
  | y :: l => if x < y then x :: y :: l else if x = y then y :: l else y :: insI x l
def setSortI : List Int → List Int
  | [] => []
  | x :: l => insI x (setSortI l)
def ssetID : D → Option D
  | .tup xs => (asInts xs).bind fun ns => if ns.length < 64 then some (.lst ((setSortI ns).map D.int)) else none
  | _ => none
def ssetD : D → Option D
  | .lst xs => (asPairs xs).bind fun ps => if ps.length < 64 ∧ ps.all okPr = true then some (.lst ((setSort ps).map ofPr)) else none
  | .tup xs => (asPairs xs).bind fun ps => if ps.length < 64 ∧ ps.all okPr = true then some (.lst ((setSort ps).map ofPr)) else none
  | _ => none
def findD (x : D) : List D → Option Nat
  | [] => none
  | z :: zs => if eqv z x then some 0 else (findD x zs).map (· + 1)
def idxD : D → D → Option D
  | .lst xs, y => if flat (.lst xs) && flat y then (findD y xs).map fun n => .int (n : Nat) else none
  | _, _ => none
def asStrs : List D → Option (List Str)
  | [] => some []
  | .str x :: r => (asStrs r).map (x :: ·)
  | _ :: _ => none
def nonTup : D → Bool
  | .non => true
  | .tup _ => true
  | _ => false
def hasN : D → Option Bool
  | .lst ds => if ds.all nonTup = true then some (ds.any D.isNon) else none
  | _ => none
def joinD : D → D → Option D
  | .str a, .lst xs => (asStrs xs).bind fun ys => if (ys.map (·.length)).sum + ys.length * a.length ≤ 16777216 then some (.str (Txt.join a ys)) else none
  | _, _ => none
def itsD : D → Option D
  | .dK kvs => if kvs.length ≤ 16777216 then some (.lst (kvs.map fun kv => .tup [keyD kv.1, kv.2])) else none
  | _ => none
def itsTD : D → Option D
  | .dT kvs => if kvs.length ≤ 16777216 then some (.lst (kvs.map fun kv => .tup [keysD kv.1, kv.2])) else none
  | _ => none
def sitsD : D → Option D
  | .dK kvs => if okSort (kvs.map fun kv => .tup [keyD kv.1, kv.2]) then some (.lst (sortD (kvs.map fun kv => .tup [keyD kv.1, kv.2]))) else none
  | _ => none
def valsD : D → Option D
  | .dK kvs => if kvs.length ≤ 16777216 then some (.lst (kvs.map fun kv => kv.2)) else none
  | .dT kvs => if kvs.length ≤ 16777216 then some (.lst (kvs.map fun kv => kv.2)) else none
  | _ => none
mutual
def noObj : D → Bool
  | .obj _ => false
  | .tup xs => noObjs xs
  | .lst xs => noObjs xs
  | .dK kvs => noObjK kvs
  | .dT kvs => noObjT kvs
  | _ => true
def noObjs : List D → Bool
  | [] => true
  | x :: xs => noObj x && noObjs xs
def noObjK : List (Key × D) → Bool
  | [] => true
  | (_, x) :: xs => noObj x && noObjK xs
def noObjT : List (List Key × D) → Bool
  | [] => true
  | (_, x) :: xs => noObj x && noObjT xs
end
mutual
def dz (m : MH) : D → Option D
  | .obj n => match m[n]? with
    | some (.lst ds) => if noObjs ds then some (.lst ds) else none
    | some (.dK ds) => if noObjK ds then some (.dK ds) else none
    | some (.dT ds) => if noObjT ds then some (.dT ds) else none
    | _ => none
  | .tup xs => (dzs m xs).map .tup
  | .lst xs => (dzs m xs).map .lst
  | .dK kvs => if noObjK kvs then some (.dK kvs) else none
  | .dT kvs => if noObjT kvs then some (.dT kvs) else none
  | .non => some .non
  | .bl b => some (.bl b)
  | .int i => some (.int i)
  | .str x => some (.str x)
  | .scr ns => some (.scr ns)
def dzs (m : MH) : List D → Option (List D)
  | [] => some []
  | x :: xs => (dz m x).bind fun y => (dzs m xs).map fun ys => y :: ys
end
def dzA (m : MH) : List (D × Bool) → Option (List (D × Bool))
  | [] => some []
  | (d, b) :: r => if b = true then none else (dz m d).bind fun y => (dzA m r).map fun ys => (y, false) :: ys
def plainD : D → Bool
  | .non => true | .bl _ => true | .int _ => true | .str _ => true
  | _ => false
def apL (xs ds : List D) : Bool := (ds.length != xs.length) || (match xs, ds with | .tup _ :: _, .int _ :: _ => true | _, _ => false)
mutual
def noL (xs : List D) : D → Bool
  | .lst ds => apL xs ds && noLs xs ds
  | .scr _ => false
  | .tup ds => noLs xs ds
  | .dK kvs => noLK xs kvs
  | .dT kvs => noLT xs kvs
  | _ => true
def noLs (xs : List D) : List D → Bool
  | [] => true
  | d :: ds => noL xs d && noLs xs ds
def noLK (xs : List D) : List (Key × D) → Bool
  | [] => true
  | (_, d) :: ds => noL xs d && noLK xs ds
def noLT (xs : List D) : List (List Key × D) → Bool
  | [] => true
  | (_, d) :: ds => noL xs d && noLT xs ds
end
mutual
def noDc : D → Bool
  | .dK _ => false
  | .dT _ => false
  | .tup xs => noDs xs
  | .lst xs => noDs xs
  | _ => true
def noDs : List D → Bool
  | [] => true
  | x :: xs => noDc x && noDs xs
end
def celL (xs : List D) : Cell → Bool
  | .lst ds => noLs xs ds
  | .dK kvs => noLK xs kvs
  | .dT kvs => noLT xs kvs
  | .ins _ fs => fs.all fun p => noL xs p.2
  | .exc _ vs => noLs xs vs
  | .gone => true
def celD : Cell → Bool
  | .lst ds => noDs ds
  | .dK kvs => kvs.all fun p => noDc p.2
  | .dT kvs => kvs.all fun p => noDc p.2
  | .ins _ fs => fs.all fun p => noDc p.2
  | .exc _ vs => noDs vs
  | .gone => true
def Env.at (env : Env) (i : Nat) : Slot := env.getD i .un
def modeOf (d : D) : Mode := match d with | .lst _ => .fr | .dK _ => .fr | .dT _ => .fr | _ => .sh
abbrev Arg := D × Bool
def lent : Mode → Bool | .bo => true | .br => true | _ => false
def owns : Mode → Bool | .bo => false | .br => false | _ => true
def walkable : Mode → Bool | .bo => false | _ => true
def optD : Option D → MH → Res (D × Mode)
  | some d, m => .ok (d, modeOf d) m
  | none, _ => .bad
def optB : Option Bool → MH → Res (D × Mode)
  | some b, m => .ok (.bl b, .sh) m
  | none, _ => .bad
mutual
def bindT : T → D → Env → Option Env
  | .nm i, d, env => match env[i]? with | some _ => some (env.set i (.sh d)) | none => none
  | .tup ts, .tup ds, env => bindTs ts ds env
  | .tup _, _, _ => none
def bindTs : List T → List D → Env → Option Env
  | [], [], env => some env
  | t :: ts, d :: ds, env => (bindT t d env).bind fun e => bindTs ts ds e
  | _, _, _ => none
end
mutual
def tslots : T → List Nat
  | .nm i => [i]
  | .tup ts => tslotss ts
def tslotss : List T → List Nat
  | [] => []
  | t :: ts => tslots t ++ tslotss ts
end
def itemsD : D → Option (List D)
  | .tup xs => some xs
  | .lst xs => some xs
  | _ => none
def enumD (xs : List D) : List D := (List.range xs.length).zip xs |>.map fun p => .tup [.int (p.1 : Nat), p.2]
def zipD (xs ys : List D) : List D := (xs.zip ys).map fun p => .tup [p.1, p.2]
def zip3D (xs ys zs : List D) : List D := (xs.zip (ys.zip zs)).map fun p => .tup [p.1, p.2.1, p.2.2]
def rngD (lo : Int) (n : Nat) : List D := (List.range n).map fun i => .int (lo + (i : Nat))
def dnD (lo : Int) (n : Nat) : List D := (List.range n).map fun i => .int (lo - (i : Nat))
def itD : ItK → List D → Option (List D)
  | .plain, [d] => itemsD d
  | .rng, [.int j] => if small j then some (rngD 0 j.toNat) else none
  | .rng, [.int i, .int j] => if small i && small j then some (rngD i (j - i).toNat) else none
  | .rng, [.int i, .int j, .int k] => if small i && small j && decide (k = -1) then some (dnD i (i - j).toNat) else none
  | .enu, [.lst xs] => some (enumD xs)
  | .enu, [.tup xs] => some (enumD xs)
  | .rev, [.lst xs] => some xs.reverse
  | .rev, [.tup xs] => some xs.reverse
  | .zip st, [.lst xs, .lst ys] => if (st && xs.length != ys.length) = true then none else some (zipD xs ys)
  | .zip st, [.tup xs, .tup ys] => if (st && xs.length != ys.length) = true then none else some (zipD xs ys)
  | .zip st, [.lst xs, .tup ys] => if (st && xs.length != ys.length) = true then none else some (zipD xs ys)
  | .zip st, [.tup xs, .lst ys] => if (st && xs.length != ys.length) = true then none else some (zipD xs ys)
  | .zip false, [.lst xs, .tup ys, .lst zs] => some (zip3D xs ys zs)
  | _, _ => none
def lcLoop (t : T) (ifs : Env → MH → Res Bool) (elt : Env → MH → Res D) (env : Env) : List D → MH → Res (List D)
  | [], m => .ok [] m
  | x :: xs, m => match bindT t x env with
    | none => .bad
    | some e => (ifs e m).bind fun b m1 => if b = true then (elt e m1).bind fun d m2 => (lcLoop t ifs elt env xs m2).bind fun r m3 => .ok (d :: r) m3 else lcLoop t ifs elt env xs m1
def wipeE (env : Env) : List Nat → Option Env
  | [] => some env
  | i :: r => (wipeE env r).bind fun e => match env[i]? with | some (.ow _) => none | some (.bw _) => none | some _ => some (e.set i .un) | none => none
def dcLoop (t : T) (ifs : Env → MH → Res Bool) (kx vx : Env → MH → Res D) (env : Env) : List D → List (Key × D) → MH → Res (List (Key × D))
  | [], acc, m => .ok acc m
  | x :: xs, acc, m => match bindT t x env with
    | none => .bad
    | some e => (ifs e m).bind fun b m1 => if b = true then (kx e m1).bind fun k m2 => (vx e m2).bind fun v m3 => match asKey k with
        | some k => if acc.length < 16777216 then dcLoop t ifs kx vx env xs (putD acc k v) m3 else .bad
        | none => .bad
      else dcLoop t ifs kx vx env xs acc m1
def lcIn (t : T) (ifs : Env → MH → Res Bool) (elt : Env → MH → Res D) (env : Env) : List D → List D → MH → Res (List D)
  | [], acc, m => .ok acc m
  | x :: xs, acc, m => match bindT t x env with
    | none => .bad
    | some e => (ifs e m).bind fun b m1 => if b = true then (elt e m1).bind fun d m2 => if acc.length < 16777216 then lcIn t ifs elt env xs (acc ++ [d]) m2 else .bad else lcIn t ifs elt env xs acc m1
def dtIn (t : T) (ifs : Env → MH → Res Bool) (kx vx : Env → MH → Res D) (env : Env) : List D → List (List Key × D) → MH → Res (List (List Key × D))
  | [], acc, m => .ok acc m
  | x :: xs, acc, m => match bindT t x env with
    | none => .bad
    | some e => (ifs e m).bind fun b m1 => if b = true then (kx e m1).bind fun k m2 => (vx e m2).bind fun v m3 => match k with
        | .tup ks => match asKeys ks with
          | some ks => if acc.length < 16777216 then dtIn t ifs kx vx env xs (putD acc ks v) m3 else .bad
          | none => .bad
        | _ => .bad
      else dtIn t ifs kx vx env xs acc m1
def outLoop {α : Type} (t : T) (ifs : Env → MH → Res Bool) (inn : Env → MH → Res (List D × Env)) (run : Env → List D → α → MH → Res α) (env : Env) : List D → α → MH → Res α
  | [], acc, m => .ok acc m
  | x :: xs, acc, m => match bindT t x env with
    | none => .bad
    | some e => (ifs e m).bind fun b m1 => if b = true then (inn e m1).bind fun p m2 => (run p.2 p.1 acc m2).bind fun acc' m3 => outLoop t ifs inn run env xs acc' m3 else outLoop t ifs inn run env xs acc m1
def fldR (x : Str) (d : D) (f : Str) (m : MH) : Res (D × Mode) := match d with
  | .obj n => match m[n]? with
    | some (.ins y fs) => if y = x then match fs.lookup f with | some d => .ok (d, .sh) m | none => .bad else .bad
    | _ => .bad
  | _ => .bad
def isDct : D → Bool
  | .dK _ => true
  | .dT _ => true
  | _ => false
def getR (d k : D) (dv : List D) (m : MH) : Res (D × Mode) := match getD? d k with
  | some (some d) => .ok (d, .sh) m
  | some none => match dv with
    | [] => .ok (.non, .sh) m
    | [z] => .ok (z, .sh) m
    | _ => .bad
  | none => .bad
def outR (m2 : MH) (r : D × Bool) : Option (D × Mode) := match r.1 with
  | .obj n => match m2[n]? with
    | some (.lst ds) => if noObjs ds = true then some (.lst ds, .fr) else none
    | _ => none
  | d => if noObj d = true then some (d, if r.2 then .fr else .sh) else none
def outB (m2 : MH) : D → Option (Cell × Cell)
  | .tup [.obj a, .obj b] => if a = b then none else match m2[a]?, m2[b]? with
    | some (.dT k1), some (.dT k2) => if noObjT k1 && noObjT k2 then some (.dT k1, .dT k2) else none
    | _, _ => none
  | _ => none
def popR (d : D) (m : MH) : Res (D × Mode) := match d with
  | .obj n => match m[n]? with
    | some (.lst ds) => match ds.getLast? with | some d => .ok (d, .sh) (m.set n (.lst ds.dropLast)) | none => .bad
    | _ => .bad
  | _ => .bad
def insOf (m : MH) : D → Option (Nat × Str × List (Str × D))
  | .obj n => match m[n]? with
    | some (.ins x fs) => some (n, x, fs)
    | _ => none
  | _ => none
def xfl (C : Str) : List Str :=
  if C = "InvalidTask" then ["task"] else if C = "InvalidDuration" then ["duration"] else if C = "Refuted" then ["refutation"] else if C = "InvalidTick" then ["ended"] else if C = "InvalidLimit" then ["limit"]
  else if C = "InvalidNarrowing" then ["task", "low", "high"] else []
def subX (C h : Str) : Bool := C == h || (h == "AnycriticalError" || h == "ValueError")
def fieldX (m : MH) (f : Str) : D → Option D
  | .obj n => match m[n]? with
    | some (.exc C vs) => ((xfl C).zip vs).lookup f
    | _ => none
  | _ => none
def isXD (m : MH) (h : Str) : D → Option Bool
  | .obj n => match m[n]? with
    | some (.exc C _) => if (xfl C).isEmpty then none else some (subX C h)
    | _ => none
  | .scr _ => none
  | _ => some false
def isCD (m : MH) (y : Str) : D → Option Bool
  | .obj n => match m[n]? with
    | some (.ins z _) => if z = y then some true else none
    | _ => none
  | _ => none
def isGD (m : MH) (y : Str) (zs : List Str) : D → Option Bool
  | .obj n => match m[n]? with
    | some (.ins z _) => if z = y then some true else if zs.contains z = true then some false else none
    | _ => none
  | .scr _ => none
  | _ => some false
def putFD (f : Str) (v : D) : List (Str × D) → List (Str × D)
  | [] => [(f, v)]
  | (g, x) :: r => if g = f then (g, v) :: r else (g, x) :: putFD f v r
def frzR (d : D) (f : Str) (m : MH) : Option MH := match insOf m d with
  | some (k, x, fs) => match fs.lookup f with
    | some (.obj n) => match m[n]? with
      | some (.dK kvs) => if fs.length < 1000 then some ((m.set n .gone).set k (.ins x (putFD f (.dK kvs) fs))) else none
      | some (.dT kvs) => if fs.length < 1000 then some ((m.set n .gone).set k (.ins x (putFD f (.dT kvs) fs))) else none
      | some (.lst ds) => if fs.length < 1000 then some ((m.set n .gone).set k (.ins x (putFD f (.lst ds) fs))) else none
      | _ => none
    | _ => none
  | none => none
def dctS : Slot → Option D
  | .sh d => some d
  | .bw d => some d
  | _ => none
def dctC (s : Slot) (c : Nat) : Option D := match s with
  | .sh (.tup ds) => ds[c]?
  | _ => none
def dictItems : D → Option (List D)
  | .dK kvs => some (kvs.map fun kv => keyD kv.1)
  | .dT kvs => some (kvs.map fun kv => keysD kv.1)
  | _ => none
abbrev CallF := Nat → List Arg → MH → Res (D × Bool)
section
variable (F : CallF)
mutual
def evalE : E → Env → MH → Res (D × Mode)
  | .v i, env, m => match env.at i with | .sh d => .ok (d, .sh) m | .ow d => .ok (d, .bo) m | .bw d => .ok (d, .br) m | .un => .bad
  | .c d, _, m => .ok (d, modeOf d) m
  | .tup es, env, m => (evalEs es env m).bind fun ds m1 => if ds.length ≤ 16777216 then .ok (.tup ds, .sh) m1 else .bad
  | .lst es, env, m => (evalEs es env m).bind fun ds m1 => if ds.length ≤ 16777216 then .ok (.lst ds, .fr) m1 else .bad
  | .op o a b, env, m => (evalE a env m).bind fun x m1 => (evalE b env m1).bind fun y m2 => optD (opD o x.1 y.1) m2
  | .neg a, env, m => (evalE a env m).bind fun x m1 => match x.1 with | .int i => .ok (.int (-i), .sh) m1 | _ => .bad
  | .cmp o a b, env, m => (evalE a env m).bind fun x m1 => (evalE b env m1).bind fun y m2 => optB (cmD o x.1 y.1) m2
  | .ch o p a b c, env, m => (evalE a env m).bind fun x m1 => (evalE b env m1).bind fun y m2 => match cmD o x.1 y.1 with
    | some true => (evalE c env m2).bind fun z m3 => optB (cmD p y.1 z.1) m3
    | some false => .ok (.bl false, .sh) m2
    | none => .bad
  | .ch3 o p q a b c d, env, m => (evalE a env m).bind fun x m1 => (evalE b env m1).bind fun y m2 => match cmD o x.1 y.1 with
    | some true => (evalE c env m2).bind fun z m3 => match cmD p y.1 z.1 with
      | some true => (evalE d env m3).bind fun u m4 => optB (cmD q z.1 u.1) m4
      | some false => .ok (.bl false, .sh) m3
      | none => .bad
    | some false => .ok (.bl false, .sh) m2
    | none => .bad
  | .lit k es, env, m => (evalPs es env m).bind fun ds m1 => match itD k (ds.map (·.1)) with
    | some xs => if xs.length ≤ 16777216 then .ok (.lst xs, .fr) m1 else .bad
    | none => .bad
  | .and a b, env, m => (evalE a env m).bind fun x m1 => match dTrue x.1 with | some true => evalE b env m1 | some false => .ok x m1 | none => .bad
  | .or a b, env, m => (evalE a env m).bind fun x m1 => match dTrue x.1 with | some true => .ok x m1 | some false => evalE b env m1 | none => .bad
  | .not a, env, m => (evalE a env m).bind fun x m1 => match dTrue x.1 with | some b => .ok (.bl (!b), .sh) m1 | none => .bad
  | .ite c a b, env, m => (evalE c env m).bind fun x m1 => match dTrue x.1 with | some true => evalE a env m1 | some false => evalE b env m1 | none => .bad
  | .ix a b, env, m => (evalE a env m).bind fun x m1 => (evalE b env m1).bind fun y m2 => match ixD (deref m2 x.1) y.1 with | some d => .ok (d, .sh) m2 | none => .bad
  | .sl a lo hi, env, m => (evalE a env m).bind fun x m1 => (evalO lo env m1).bind fun l m2 => (evalO hi env m2).bind fun h m3 => optD (slD x.1 l h) m3
  | .ssetI a, env, m => (evalE a env m).bind fun x m1 => optD (ssetID x.1) m1
  | .ev a, env, m => (evalE a env m).bind fun x m1 => optD (evD x.1) m1
  | .rv a, env, m => (evalE a env m).bind fun x m1 => match deref m1 x.1 with | .tup xs => .ok (.tup xs.reverse, .sh) m1 | .lst xs => .ok (.lst xs.reverse, .fr) m1 | _ => .bad
  | .sset a, env, m => (evalE a env m).bind fun x m1 => optD (ssetD x.1) m1
  | .call f es, env, m => (evalAs es env m).bind fun ds m1 => (F f ds m1).bind fun r m2 => .ok (r.1, if r.2 then .fr else .sh) m2
  | .bi b es, env, m => (evalPs es env m).bind fun ds m1 => optD (biD b (ds.map (·.1))) m1
  | .isi _ ts a, env, m => (evalE a env m).bind fun x m1 => optB (isD ts x.1) m1
  | .lc elt own t k its ifs, env, m => if (tslots t).all (own.contains ·) = false then .bad else (evalPs its env m).bind fun ds m1 => match itD k (ds.map (·.1)), wipeE env own with
    | none, _ => .bad
    | _, none => .bad
    | some xs, some e => (lcLoop t (fun e' m' => evalT ifs e' m') (fun e' m' => (evalE elt e' m').bind fun x m'' => if owns x.2 then .ok x.1 m'' else .bad) e xs m1).bind fun ds m2 =>
      if ds.length ≤ 16777216 then .ok (.lst ds, .fr) m2 else .bad
  | .hasN a, env, m => (evalE a env m).bind fun x m1 => optB (hasN x.1) m1
  | .hasNN a, env, m => (evalE a env m).bind fun x m1 => optB ((hasN x.1).map fun c => !c) m1
  | .join a b, env, m => (evalE a env m).bind fun x m1 => (evalE b env m1).bind fun y m2 => optD (joinD x.1 y.1) m2
  | .its a, env, m => (evalE a env m).bind fun x m1 => optD (itsD (deref m1 x.1)) m1
  | .sits a, env, m => (evalE a env m).bind fun x m1 => optD (sitsD (deref m1 x.1)) m1
  | .itsT a, env, m => (evalE a env m).bind fun x m1 => optD (itsTD (deref m1 x.1)) m1
  | .vals a, env, m => (evalE a env m).bind fun x m1 => optD (valsD (deref m1 x.1)) m1
  | .eqI ne y f a b, env, m => (evalE a env m).bind fun o m1 => (evalE b env m1).bind fun z m2 => match insOf m2 o.1, insOf m2 z.1 with
    | some (n, y1, _), some (k, y2, _) => if y1 = y ∧ y2 = y then (F f [(.obj n, false), (.obj k, false)] m2).bind fun r m3 => match r.1 with
        | .bl t => if r.2 = false then .ok (.bl (ne != t), .sh) m3 else .bad
        | _ => .bad
      else .bad
    | _, _ => .bad
  | .makeX y f es, env, m => (evalAs es env m).bind fun ds m1 => (F f ((.obj m1.length, false) :: ds) (m1 ++ [.ins y []])).bind fun r m2 => .ok (r.1, .sh) m2
  | .fldX f a, env, m => (evalE a env m).bind fun x m1 => match fieldX m1 f x.1 with | some d => .ok (d, .sh) m1 | none => .bad
  | .isX h a, env, m => (evalE a env m).bind fun x m1 => optB (isXD m1 h x.1) m1
  | .mkX C es, env, m => (evalEs es env m).bind fun ds m1 => if ds.length = (xfl C).length ∧ ds ≠ [] then .ok (.obj m1.length, .sh) (m1 ++ [.exc C ds]) else .bad
  | .lcO elt own t a ifs, env, m => if (tslots t).all (own.contains ·) = false then .bad else (evalE a env m).bind fun x m1 => match x.1 with
    | .obj n => (match m1[n]?, wipeE env own with
      | some (.lst xs), some e => if xs = [] then .ok (.lst [], .fr) m1 else (lcLoop t (fun e' m' => evalT ifs e' m') (fun e' m' => (evalE elt e' m').bind fun x m'' => if owns x.2 then .ok x.1 m'' else .bad) e xs (m1.set n .gone)).bind fun ds m2 => match m2[n]? with
        | some .gone => if ds.length ≤ 16777216 ∧ m2.length = m1.length ∧ m2.all (celL xs) = true ∧ noLs xs ds = true then .ok (.lst ds, .fr) (m2.set n (.lst xs)) else .bad
        | _ => .bad
      | _, _ => .bad)
    | _ => .bad
  | .lcQ elt own t i c ifs, env, m => if (tslots t).all (own.contains ·) = false ∨ own.contains i = true then .bad else match env.at i with
    | .sh (.tup ds) => (match ds[c]? with
      | some (.obj n) => (match m[n]? with
        | some (.dT kvs) => (match wipeE (env.set i (.sh (.tup (ds.set c (.dT kvs))))) own with
          | some e => (lcLoop t (fun e' m' => evalT ifs e' m') (fun e' m' => (evalE elt e' m').bind fun x m'' => if owns x.2 then .ok x.1 m'' else .bad) e (kvs.map fun kv => keysD kv.1) (m.set n .gone)).bind fun rs m2 => match m2[n]? with
            | some .gone => if rs.length ≤ 16777216 ∧ m2.length = m.length ∧ m2.all celD = true ∧ noDs rs = true then .ok (.lst rs, .fr) (m2.set n (.dT kvs)) else .bad
            | _ => .bad
          | none => .bad)
        | _ => .bad)
      | _ => .bad)
    | _ => .bad
  | .callIB f es, env, m => (evalEs es env m).bind fun ds m1 => if noObjs ds = true then (F f (ds.map fun d => (d, false)) []).bind fun r m2 => match outB m2 r.1 with
    | some (c1, c2) => .ok (.tup [.obj m1.length, .obj (m1.length + 1)], .sh) (m1 ++ [c1, c2])
    | none => (match outR m2 r with
      | some x => .ok x m1
      | none => .bad)
    else .bad
  | .isC y a, env, m => (evalE a env m).bind fun x m1 => optB (isCD m1 y x.1) m1
  | .isG y zs a, env, m => (evalE a env m).bind fun x m1 => optB (isGD m1 y zs x.1) m1
  | .cmZ o a b, env, m => (evalE a env m).bind fun x m1 => (evalE b env m1).bind fun y m2 => if (owns x.2 && owns y.2) = true then (match dz m2 x.1, dz m2 y.1 with
    | some d, some e => optB (cmD o d e) m2
    | _, _ => .bad)
    else .bad
  | .eqG ne cs a b, env, m => (evalE a env m).bind fun o m1 => (evalE b env m1).bind fun z m2 => if o.2 = .sh ∧ z.2 = .sh then (match insOf m2 o.1 with
      | some (n, y1, _) => (match cs.lookup y1 with
        | some f => if (isGD m2 y1 (cs.map (·.1)) z.1).isSome = true then (F f [(.obj n, false), (z.1, false)] m2).bind fun r m3 => match r.1 with
            | .bl t => if r.2 = false then .ok (.bl (ne != t), .sh) m3 else .bad
            | _ => .bad
          else .bad
        | none => .bad)
      | none => (match insOf m2 z.1 with
        | some (k, y2, _) => (match cs.lookup y2 with
          | some f => if ne = false ∧ (isGD m2 y2 [] o.1).isSome = true then (F f [(.obj k, false), (o.1, false)] m2).bind fun r m3 => match r.1 with
              | .bl t => if r.2 = false then .ok (.bl t, .sh) m3 else .bad
              | _ => .bad
            else .bad
          | none => .bad)
        | none => .bad))
    else .bad
  | .slO a lo hi, env, m => (evalE a env m).bind fun x m1 => (evalO lo env m1).bind fun l m2 => (evalO hi env m2).bind fun h m3 => optD (slD (deref m3 x.1) l h) m3
  | .idx a b, env, m => (evalE a env m).bind fun x m1 => (evalE b env m1).bind fun y m2 => optD (idxD x.1 y.1) m2
  | .box e, env, m => (evalE e env m).bind fun x m1 => match x with
    | (.lst ds, .fr) => .ok (.obj m1.length, .sh) (m1 ++ [.lst ds])
    | (.dK ds, .fr) => .ok (.obj m1.length, .sh) (m1 ++ [.dK ds])
    | (.dT ds, .fr) => .ok (.obj m1.length, .sh) (m1 ++ [.dT ds])
    | _ => .bad
  | .callZ f es, env, m => (evalAs es env m).bind fun ds m1 => match dzA m1 ds with
    | none => .bad
    | some as => (F f as []).bind fun r m2 => if m2.isEmpty = true ∧ plainD r.1 = true then .ok (r.1, .sh) m1 else .bad
  | .fld y e f, env, m => (evalE e env m).bind fun x m1 => fldR y x.1 f m1
  | .get e k dv, env, m => (evalE e env m).bind fun x m1 => if isDct (deref m1 x.1) = true then (evalE k env m1).bind fun y m2 => (evalEs dv env m2).bind fun zs m3 => getR (deref m3 x.1) y.1 zs m3 else .bad
  | .cmO o a b, env, m => (evalE a env m).bind fun x m1 => (evalE b env m1).bind fun y m2 => optB (cmD o (deref m2 x.1) (deref m2 y.1)) m2
  | .biO b e, env, m => (evalE e env m).bind fun x m1 => optD (biD b [deref m1 x.1]) m1
  | .meth x h f e es, env, m => (evalE e env m).bind fun o m1 => match insOf m1 o.1 with
    | some (n, y, fs) => if y = x ∧ (fs.lookup h).isNone = true then (evalAs es env m1).bind fun ds m2 => (F f ((.obj n, false) :: ds) m2).bind fun r m3 => .ok (r.1, if r.2 then .fr else .sh) m3 else .bad
    | none => .bad
  | .make x f es, env, m => (evalAs es env m).bind fun ds m1 => (F f ((.obj m1.length, false) :: ds) (m1 ++ [.ins x []])).bind fun r m2 => match r.1 with
    | .non => .ok (.obj m1.length, .sh) m2
    | _ => .bad
  | .callI f es, env, m => (evalEs es env m).bind fun ds m1 => if noObjs ds = true then (F f (ds.map fun d => (d, false)) []).bind fun r m2 => match outR m2 r with
    | some x => .ok x m1
    | none => .bad
    else .bad
  | .popE e, env, m => (evalE e env m).bind fun x m1 => popR x.1 m1
  | .dsp ps, env, m => (evalKV ps env m).bind fun kvs m1 => if kvs.length ≤ 15 ∧ kvs ≠ [] then .ok (.dK (mergeD [] kvs), .fr) m1 else .bad
  | .dc kx vx own t k its ifs, env, m => if (tslots t).all (own.contains ·) = false then .bad else (evalPs its env m).bind fun ds m1 => match itD k (ds.map (·.1)), wipeE env own with
    | none, _ => .bad
    | _, none => .bad
    | some xs, some e => (dcLoop t (fun e' m' => evalT ifs e' m') (fun e' m' => (evalE kx e' m').bind fun x m'' => .ok x.1 m'') (fun e' m' => (evalE vx e' m').bind fun x m'' => if owns x.2 then .ok x.1 m'' else .bad) e xs [] m1).bind fun kvs m2 => .ok (.dK kvs, .fr) m2
  | .lcD elt own t i ifs, env, m => if (tslots t).all (own.contains ·) = false ∨ own.contains i = true then .bad else match dctS (env.at i) with
    | some d => match dictItems d, wipeE env own with
      | none, _ => .bad
      | _, none => .bad
      | some xs, some e => (lcLoop t (fun e' m' => evalT ifs e' m') (fun e' m' => (evalE elt e' m').bind fun x m'' => if owns x.2 then .ok x.1 m'' else .bad) e xs m).bind fun ds m2 =>
        if ds.length ≤ 16777216 then .ok (.lst ds, .fr) m2 else .bad
    | none => .bad
  | .lcP elt own t i c ifs, env, m => if (tslots t).all (own.contains ·) = false ∨ own.contains i = true then .bad else match dctC (env.at i) c with
    | some d => match dictItems d, wipeE env own with
      | none, _ => .bad
      | _, none => .bad
      | some xs, some e => (lcLoop t (fun e' m' => evalT ifs e' m') (fun e' m' => (evalE elt e' m').bind fun x m'' => if owns x.2 then .ok x.1 m'' else .bad) e xs m).bind fun ds m2 =>
        if ds.length ≤ 16777216 then .ok (.lst ds, .fr) m2 else .bad
    | none => .bad
  | .lc2 elt own t k its ifs own1 t1 k1 its1 ifs1, env, m => if (tslots t).all (own.contains ·) = false ∨ own1.all (own.contains ·) = false ∨ (tslots t1).all (own1.contains ·) = false then .bad else (evalPs its env m).bind fun ds m1 => match itD k (ds.map (·.1)), wipeE env own with
    | none, _ => .bad
    | _, none => .bad
    | some xs, some e => (outLoop t (fun e' m' => evalT ifs e' m') (fun e' m' => (evalPs its1 e' m').bind fun ds' m'' => if ds'.all (fun x => walkable x.2) = false then .bad else match itD k1 (ds'.map (·.1)), wipeE e' own1 with
        | some ys, some e1 => .ok (ys, e1) m''
        | _, _ => .bad)
      (fun e' ys acc m' => lcIn t1 (fun e'' m'' => evalT ifs1 e'' m'') (fun e'' m'' => (evalE elt e'' m'').bind fun x m3 => if owns x.2 then .ok x.1 m3 else .bad) e' ys acc m') e xs [] m1).bind fun ds m2 => .ok (.lst ds, .fr) m2
  | .dc2 kx vx own t k its ifs own1 t1 k1 its1 ifs1, env, m => if (tslots t).all (own.contains ·) = false ∨ own1.all (own.contains ·) = false ∨ (tslots t1).all (own1.contains ·) = false then .bad else (evalPs its env m).bind fun ds m1 => match itD k (ds.map (·.1)), wipeE env own with
    | none, _ => .bad
    | _, none => .bad
    | some xs, some e => (outLoop t (fun e' m' => evalT ifs e' m') (fun e' m' => (evalPs its1 e' m').bind fun ds' m'' => if ds'.all (fun x => walkable x.2) = false then .bad else match itD k1 (ds'.map (·.1)), wipeE e' own1 with
        | some ys, some e1 => .ok (ys, e1) m''
        | _, _ => .bad)
      (fun e' ys acc m' => dtIn t1 (fun e'' m'' => evalT ifs1 e'' m'') (fun e'' m'' => (evalE kx e'' m'').bind fun x m3 => if owns x.2 then .ok x.1 m3 else .bad) (fun e'' m'' => (evalE vx e'' m'').bind fun x m3 => if owns x.2 then .ok x.1 m3 else .bad) e' ys acc m') e xs [] m1).bind fun kvs m2 => .ok (.dT kvs, .fr) m2
def evalKV : List E → Env → MH → Res (List (Key × D))
  | [], _, m => .ok [] m
  | k :: v :: r, env, m => (evalE k env m).bind fun x m1 => (evalE v env m1).bind fun y m2 => match asKey x.1 with
    | some k => if owns y.2 then (evalKV r env m2).bind fun r m3 => .ok ((k, y.1) :: r) m3 else .bad
    | none => .bad
  | _, _, _ => .bad
def evalEs : List E → Env → MH → Res (List D)
  | [], _, m => .ok [] m
  | e :: es, env, m => (evalE e env m).bind fun x m1 => if owns x.2 then (evalEs es env m1).bind fun r m2 => .ok (x.1 :: r) m2 else .bad
def evalAs : List E → Env → MH → Res (List Arg)
  | [], _, m => .ok [] m
  | e :: es, env, m => (evalE e env m).bind fun x m1 => (evalAs es env m1).bind fun r m2 => .ok ((x.1, lent x.2) :: r) m2
def evalPs : List E → Env → MH → Res (List (D × Mode))
  | [], _, m => .ok [] m
  | e :: es, env, m => (evalE e env m).bind fun x m1 => (evalPs es env m1).bind fun r m2 => .ok (x :: r) m2
def evalO : List E → Env → MH → Res (Option Int)
  | [], _, m => .ok none m
  | e :: _, env, m => (evalE e env m).bind fun x m1 => match x.1 with | .int i => .ok (some i) m1 | _ => .bad
def evalT : List E → Env → MH → Res Bool
  | [], _, m => .ok true m
  | e :: _, env, m => (evalE e env m).bind fun x m1 => match dTrue x.1 with | some b => .ok b m1 | none => .bad
end
end
def isV : E → Bool | .v _ => true | _ => false
inductive SR where
  | nx (env : Env) (m : MH)
  | ret (d : D) (fresh : Bool) (m : MH)
  | brk (env : Env) (m : MH)
  | cnt (env : Env) (m : MH)
  | bad
def SR.then : SR → (Env → MH → SR) → SR
  | .nx e m, f => f e m
  | r, _ => r
def put (env : Env) (i : Nat) (x : D × Mode) : Option Env :=
  match env[i]?, x.2 with
  | none, _ => none
  | _, .bo => none
  | _, .br => none
  | some _, .fr => some (env.set i (.ow x.1))
  | some _, .sh => some (env.set i (.sh x.1))
def putT : T → D × Mode → Env → Option Env
  | .nm i, x, env => put env i x
  | .tup ts, x, env => if owns x.2 then bindT (.tup ts) x.1 env else none
def putL (env : Env) : List Nat → List (D × Mode) → Option Env
  | [], [] => some env
  | i :: is, x :: xs => (put env i x).bind fun e => putL e is xs
  | _, _ => none
def forLoop (t : T) (body : Env → MH → SR) : List D → Env → MH → SR
  | [], env, m => .nx env m
  | x :: xs, env, m => match bindT t x env with
    | none => .bad
    | some e => match body e m with
      | .nx e1 m1 => forLoop t body xs e1 m1
      | .cnt e1 m1 => forLoop t body xs e1 m1
      | .brk e1 m1 => .nx e1 m1
      | r => r
def whileLoop (c : Env → MH → Res Bool) (body : Env → MH → SR) : Nat → Env → MH → SR
  | 0, _, _ => .bad
  | n + 1, env, m => match c env m with
    | .bad => .bad
    | .ok false m1 => .nx env m1
    | .ok true m1 => match body env m1 with
      | .nx e1 m2 => whileLoop c body n e1 m2
      | .cnt e1 m2 => whileLoop c body n e1 m2
      | .brk e1 m2 => .nx e1 m2
      | r => r
def setAt (env : Env) (m : MH) (i : Nat) (f : List D → Option (List D)) : SR :=
  match env.at i with
  | .ow (.lst ds) => match f ds with | some es => .nx (env.set i (.ow (.lst es))) m | none => .bad
  | .sh (.obj n) => match m[n]? with
    | some (.lst ds) => match f ds with | some es => .nx env (m.set n (.lst es)) | none => .bad
    | _ => .bad
  | _ => .bad
def lstC : Option Cell → Bool
  | some (.lst _) => true
  | _ => false
def lstS (s : Slot) (m : MH) : Bool := match s with
  | .sh (.obj n) => lstC m[n]?
  | _ => true
def putIx (ds : List D) (k v : D) : Option (List D) :=
  match k with
  | .int i => (ixN ds.length i).map fun j => ds.set j v
  | _ => none
def appD (ds : List D) (v : D) : Option (List D) := if ds.length < 16777216 then some (ds ++ [v]) else none
def extD (ds : List D) (v : D) : Option (List D) := match v with
  | .lst es => if ds.length + es.length ≤ 16777216 then some (ds ++ es) else none
  | _ => none
def par3R (i j l : Nat) : List D → Env → MH → SR
  | [x, y, z], env, m => if i < env.length ∧ j < env.length ∧ l < env.length then .nx (((env.set i (.sh x)).set j (.sh y)).set l (.sh z)) m else .bad
  | _, _, _ => .bad
def putR (d k v : D) : Option D := match d, k with
  | .dK kvs, k => (asKey k).bind fun k => if kvs.length < 16777216 then some (.dK (putD kvs k v)) else none
  | .dT kvs, .tup ks => (asKeys ks).bind fun k => if kvs.length < 16777216 then some (.dT (putD kvs k v)) else none
  | _, _ => none
def dropR (d k : D) : Option D := match d, k with
  | .dK kvs, k => (asKey k).bind fun k => if (valD kvs k).isSome = true then some (.dK (dropD kvs k)) else none
  | .dT kvs, .tup ks => (asKeys ks).bind fun k => if (valD kvs k).isSome = true then some (.dT (dropD kvs k)) else none
  | _, _ => none
def clrR : D → Option D
  | .lst _ => some (.lst [])
  | .dK _ => some (.dK [])
  | .dT _ => some (.dT [])
  | _ => none
def updR (d x : D) : Option D := match d, x with
  | .dK kvs, .dK more => if kvs.length + more.length ≤ 16777216 then some (.dK (mergeD kvs more)) else none
  | _, _ => none
def cellD : D → Option Cell
  | .dK kvs => some (.dK kvs)
  | .dT kvs => some (.dT kvs)
  | _ => none
def putCell (m : MH) (d k v : D) : Option MH := match d with
  | .obj n => match m[n]? with
    | some (.dK kvs) => (putR (.dK kvs) k v).bind fun d => (cellD d).map fun c => m.set n c
    | some (.dT kvs) => (putR (.dT kvs) k v).bind fun d => (cellD d).map fun c => m.set n c
    | _ => none
  | _ => none
def clrCell (m : MH) (d : D) : Option MH := match d with
  | .obj n => match m[n]? with
    | some (.dK _) => some (m.set n (.dK []))
    | some (.dT _) => some (m.set n (.dT []))
    | _ => none
  | _ => none
def isCellD (d : D) (m : MH) : Bool := match d with
  | .obj n => match m[n]? with
    | some (.dK _) => true
    | some (.dT _) => true
    | _ => false
  | _ => false
def dropCell (m : MH) (d k : D) : Option MH := match d with
  | .obj n => match m[n]? with
    | some (.dK kvs) => (dropR (.dK kvs) k).bind fun d => (cellD d).map fun c => m.set n c
    | some (.dT kvs) => (dropR (.dT kvs) k).bind fun d => (cellD d).map fun c => m.set n c
    | _ => none
  | _ => none
def payD : D → Option (Str × List D)
  | .tup [.str C, .tup vs] => some (C, vs)
  | _ => none
mutual
def evPX (vs : List D) : PX → Option D
  | .c d => if plainD d = true then some d else none
  | .f k => vs[k]?
  | .tup ps => (evPXs vs ps).map .tup
def evPXs (vs : List D) : List PX → Option (List D)
  | [] => some []
  | p :: ps => (evPX vs p).bind fun d => (evPXs vs ps).map fun ds => d :: ds
end
def runXS (C : Str) (vs : List D) (env : Env) (m : MH) : XS → SR
  | .ret p => match evPX vs p with | some d => .ret d false m | none => .bad
  | .asg j p => match evPX vs p with
    | some d => (match put env j (d, .sh) with | some e => .nx e m | none => .bad)
    | none => .bad
  | .cell j => match put env j (.obj m.length, .sh) with
    | some e => if vs.length = (xfl C).length then .nx e (m ++ [.exc C vs]) else .bad
    | none => .bad
def catchX (hs : List (Str × XS)) (env : Env) (m : MH) (x : D) : SR := match payD x with
  | some (C, vs) => match hs.find? fun h => subX C h.1 with
    | some h => runXS C vs env m h.2
    | none => .bad
  | none => .bad
section
variable (F : CallF) (W : Nat)
mutual
def evalS : S → Env → MH → SR
  | .pass, env, m => .nx env m
  | .ex e, env, m => match evalE F e env m with | .ok _ m1 => .nx env m1 | .bad => .bad
  | .asg t e, env, m => match evalE F e env m with
    | .ok x m1 => match putT t x env with | some e1 => .nx e1 m1 | none => .bad
    | .bad => .bad
  | .par i j a b, env, m => match evalE F a env m with
    | .ok x m1 => match evalE F b env m1 with
      | .ok y m2 => match put env i x with
        | some e1 => match put e1 j y with | some e2 => .nx e2 m2 | none => .bad
        | none => .bad
      | .bad => .bad
    | .bad => .bad
  | .par3 i j l a b d, env, m => match evalEs F [a, b, d] env m with
    | .ok ds m1 => par3R i j l ds env m1
    | .bad => .bad
  | .setIx i k e, env, m => match evalE F e env m with
    | .ok x m1 => match evalE F k env m1 with
      | .ok y m2 => if owns x.2 then setAt env m2 i fun ds => putIx ds y.1 x.1 else .bad
      | .bad => .bad
    | .bad => .bad
  | .aug i o e, env, m => match env.at i with
    | .sh x => match evalE F e env m with
      | .ok y m1 => match x, y.1 with
        | .int a, .int b => match opD o (.int a) (.int b) with | some z => .nx (env.set i (.sh z)) m1 | none => .bad
        | _, _ => .bad
      | .bad => .bad
    | _ => .bad
  | .augIx i o k e, env, m => match evalE F k env m with
    | .ok y m1 => match env.at i with
      | .ow (.lst ds) => match ixD (.lst ds) y.1 with
        | some (.int a) => match evalE F e env m1 with
          | .ok z m2 => match z.1 with
            | .int b => match opD o (.int a) (.int b) with
              | some w => setAt env m2 i fun ds => putIx ds y.1 w
              | none => .bad
            | _ => .bad
          | .bad => .bad
        | _ => .bad
      | _ => .bad
    | .bad => .bad
  | .app i e, env, m => if lstS (env.at i) m = true then match evalE F e env m with
    | .ok x m1 => if owns x.2 then setAt env m1 i fun ds => appD ds x.1 else .bad
    | .bad => .bad
    else .bad
  | .popL i, env, m => if lstS (env.at i) m = true then setAt env m i (fun ds => if ds = [] then none else some ds.dropLast) else .bad
  | .ext i e, env, m => if lstS (env.at i) m = true then match evalE F e env m with
    | .ok x m1 => setAt env m1 i fun ds => extD ds x.1
    | .bad => .bad
    else .bad
  | .ret e, env, m => match e with
    | .v i => match env.at i with | .sh d => .ret d false m | .ow d => .ret d true m | _ => .bad
    | e => match evalE F e env m with
      | .ok x m1 => match x.2 with | .sh => .ret x.1 false m1 | .fr => .ret x.1 true m1 | _ => .bad
      | .bad => .bad
  | .iff c a b, env, m => match evalE F c env m with
    | .ok x m1 => match dTrue x.1 with | some true => evalSs a env m1 | some false => evalSs b env m1 | none => .bad
    | .bad => .bad
  | .for_ t k its b, env, m => match evalPs F its env m with
    | .ok ds m1 => if ds.all (fun x => walkable x.2) = false then .bad else match itD k (ds.map (·.1)) with
      | some xs => forLoop t (fun e' m' => evalSs b e' m') xs env m1
      | none => .bad
    | .bad => .bad
  | .while_ c b, env, m => whileLoop (fun e' m' => (evalE F c e' m').bind fun x m1 => match dTrue x.1 with | some b => .ok b m1 | none => .bad) (fun e' m' => evalSs b e' m') W env m
  | .brk, env, m => .brk env m
  | .cnt, env, m => .cnt env m
  | .frz i, env, m => match env.at i with | .ow d => .nx (env.set i (.sh d)) m | _ => .nx env m
  | .pub i, env, m => match env.at i with
    | .ow (.lst ds) => .nx (env.set i (.sh (.obj m.length))) (m ++ [.lst ds])
    | .ow (.dK ds) => .nx (env.set i (.sh (.obj m.length))) (m ++ [.dK ds])
    | .ow (.dT ds) => .nx (env.set i (.sh (.obj m.length))) (m ++ [.dT ds])
    | _ => .bad
  | .popAt j i e, env, m => match evalE F e env m with
    | .ok x m1 => match env.at i, x.1 with
      | .ow (.lst ds), .int k => match ixN ds.length k with
        | some n => match ds[n]? with
          | some d => if j ≠ i ∧ j < env.length ∧ small k = true then .nx ((env.set i (.ow (.lst (ds.eraseIdx n)))).set j (.sh d)) m1 else .bad
          | none => .bad
        | none => .bad
      | _, _ => .bad
    | .bad => .bad
  | .appP j i e, env, m => match env.at j with
    | .ow (.lst es) => match evalE F e env m with
      | .ok x m1 => match env.at i, x.1 with
        | .ow (.lst ds), .int k => match ixN ds.length k with
          | some n => match ds[n]? with
            | some d => if j ≠ i ∧ small k = true then match appD es d with
              | some fs => .nx ((env.set i (.ow (.lst (ds.eraseIdx n)))).set j (.ow (.lst fs))) m1
              | none => .bad
              else .bad
            | none => .bad
          | none => .bad
        | _, _ => .bad
      | .bad => .bad
    | _ => .bad
  | .appE e x, env, m => match evalE F e env m with
    | .ok o m1 => match o.1 with
      | .obj n => if lstC m1[n]? = true then match evalE F x env m1 with
        | .ok y m2 => if owns y.2 then match m2[n]? with
            | some (.lst ds) => match appD ds y.1 with | some es => .nx env (m2.set n (.lst es)) | none => .bad
            | _ => .bad
          else .bad
        | .bad => .bad
        else .bad
      | _ => .bad
    | .bad => .bad
  | .bad, _, _ => .bad
  | .clrE e, env, m => match evalE F e env m with
    | .ok o m1 => match clrCell m1 o.1 with | some m2 => .nx env m2 | none => .bad
    | .bad => .bad
  | .tryB b, env, m => evalSs b env m
  | .tryX b r i hs, env, m => match evalSs b env m with
    | .bad => (match env[i]? with
      | some .un => (match evalE F r env m with
        | .ok x m1 => catchX hs env m1 x.1
        | .bad => .bad)
      | _ => .bad)
    | z => z
  | .asgFF i y eo f g ee, env, m => match evalE F ee env m with
    | .ok x m1 => if owns x.2 = true then match x.1 with
      | .tup [a, b, c] => if i < env.length then match evalE F eo (env.set i (.sh a)) m1 with
        | .ok ob m2 => match insOf m2 ob.1 with
          | some (n, z, fs) => if z = y ∧ fs.length < 1000 then match evalE F eo (env.set i (.sh a)) (m2.set n (.ins z (putFD f b fs))) with
            | .ok ob3 m3 => match insOf m3 ob3.1 with
              | some (n3, z3, fs3) => if z3 = y ∧ fs3.length < 1000 then .nx (env.set i (.sh a)) (m3.set n3 (.ins z3 (putFD g c fs3))) else .bad
              | none => .bad
            | .bad => .bad
            else .bad
          | none => .bad
        | .bad => .bad
        else .bad
      | _ => .bad
      else .bad
    | .bad => .bad
  | .asgF i y eo f ee, env, m => match evalE F ee env m with
    | .ok x m1 => if owns x.2 = true then match x.1 with
      | .tup [a, b] => if i < env.length then match evalE F eo (env.set i (.sh a)) m1 with
        | .ok ob m2 => match insOf m2 ob.1 with
          | some (n, z, fs) => if z = y ∧ fs.length < 1000 then .nx (env.set i (.sh a)) (m2.set n (.ins z (putFD f b fs))) else .bad
          | none => .bad
        | .bad => .bad
        else .bad
      | _ => .bad
      else .bad
    | .bad => .bad
  | .setF z e f x, env, m => match evalE F x env m with
    | .ok v m1 => if owns v.2 then match evalE F e env m1 with
      | .ok o m2 => match insOf m2 o.1 with
        | some (n, y, fs) => if y = z ∧ fs.length < 1000 then .nx env (m2.set n (.ins y (putFD f v.1 fs))) else .bad
        | none => .bad
      | .bad => .bad
      else .bad
    | .bad => .bad
  | .dput i k e, env, m => match evalE F e env m with
    | .ok x m1 => match evalE F k env m1 with
      | .ok y m2 => if owns x.2 && owns y.2 then match env.at i with
        | .ow d => match putR d y.1 x.1 with | some d' => .nx (env.set i (.ow d')) m2 | none => .bad
        | _ => .bad
        else .bad
      | .bad => .bad
    | .bad => .bad
  | .dputE d k e, env, m => match evalE F e env m with
    | .ok x m1 => if owns x.2 then match evalE F d env m1 with
      | .ok o m2 => match evalE F k env m2 with
        | .ok y m3 => if owns y.2 then match putCell m3 o.1 y.1 x.1 with | some m4 => .nx env m4 | none => .bad else .bad
        | .bad => .bad
      | .bad => .bad
      else .bad
    | .bad => .bad
  | .forF t y i f b, env, m => match env.at i with
    | .sh d => match fldR y d f m with
      | .ok x _ => match dictItems x.1 with
        | some xs => forLoop t (fun e' m' => evalSs b e' m') xs env m
        | none => .bad
      | .bad => .bad
    | _ => .bad
  | .frzA i f, env, m => match env.at i with
    | .sh d => match frzR d f m with
      | some m' => .nx env m'
      | none => .bad
    | _ => .bad
  | .forD t i b, env, m => match dctS (env.at i) with
    | some d => match dictItems d with
      | some xs => forLoop t (fun e' m' => evalSs b e' m') xs env m
      | none => .bad
    | none => .bad
  | .forP t i c b, env, m => match dctC (env.at i) c with
    | some d => match dictItems d with
      | some xs => forLoop t (fun e' m' => evalSs b e' m') xs env m
      | none => .bad
    | none => .bad
  | .clr i, env, m => match env.at i with
    | .ow d => match clrR d with | some d' => .nx (env.set i (.ow d')) m | none => .bad
    | _ => .bad
  | .dpop i k, env, m => match evalE F k env m with
    | .ok y m1 => if owns y.2 then match env.at i with
      | .ow d => match dropR d y.1 with | some d' => .nx (env.set i (.ow d')) m1 | none => .bad
      | _ => .bad
      else .bad
    | .bad => .bad
  | .dpopE d k, env, m => match evalE F d env m with
    | .ok o m1 => if isCellD o.1 m1 = true then match evalE F k env m1 with
      | .ok y m2 => if owns y.2 then match dropCell m2 o.1 y.1 with | some m3 => .nx env m3 | none => .bad else .bad
      | .bad => .bad
      else .bad
    | .bad => .bad
  | .upd i e, env, m => match evalE F e env m with
    | .ok y m1 => if owns y.2 then match env.at i with
      | .ow d => match updR d y.1 with | some d' => .nx (env.set i (.ow d')) m1 | none => .bad
      | _ => .bad
      else .bad
    | .bad => .bad
  | .ins0 i e, env, m => if lstS (env.at i) m = true then match evalE F e env m with
    | .ok x m1 => if owns x.2 then setAt env m1 i fun ds => if ds.length < 16777216 then some (x.1 :: ds) else none else .bad
    | .bad => .bad
    else .bad
  | .parN is es, env, m => match evalPs F es env m with
    | .ok xs m1 => match putL env is xs with
      | some e1 => .nx e1 m1
      | none => .bad
    | .bad => .bad
def evalSs : List S → Env → MH → SR
  | [], env, m => .nx env m
  | s :: ss, env, m => match evalS s env m with
    | .nx e m1 => evalSs ss e m1
    | r => r
end
end
structure FD where
  np : Nat
  nl : Nat
  body : List S
  deriving Inhabited
def slotOf (a : Arg) : Slot := if a.2 then .bw a.1 else .sh a.1
def startEnv (fd : FD) (as : List Arg) : Env := as.map slotOf ++ List.replicate (fd.nl - as.length) .un
def finish : SR → Res (D × Bool)
  | .nx _ m => .ok (.non, false) m
  | .ret d f m => .ok (d, f) m
  | _ => .bad
def callF (FT : Nat → Option FD) (W : Nat) : Nat → CallF
  | 0, _, _, _ => .bad
  | n + 1, f, as, m => match FT f with
    | none => .bad
    | some fd => if as.length = fd.np then finish (evalSs (callF FT W n) W fd.body (startEnv fd as) m) else .bad
end MP
namespace MP
open PySem L2
structure CA where
  a : Addr
  sub : List Addr := []
  dead : Bool := false
def CA.ft (c : CA) : List Addr := if c.dead then c.sub else c.a :: c.sub
def foot (ρ : List CA) : List Addr := ρ.flatMap CA.ft
def ScrAt (K : PySem.W.Frag) (a : Addr) (xs : List V) : Prop :=
  ∃ (o : Obj) (its : Array Value) (n : Nat), K.lookup a = some o ∧ o.cls = .type "list" ∧ o.dict = none ∧ o.data = .seq its n ∧ its.size ≤ sizeLine ∧ Vals xs its.toList
section
variable (K : PySem.W.Frag) (H : Hp) (A : Addr → Prop) (ρ : List CA)
mutual
def RelD : D → V → Prop
  | .non, v => v = .non
  | .bl b, v => v = .bl b
  | .int i, v => v = .int i
  | .str x, v => v = .str x
  | .tup ds, v => ∃ a xs, v = .ref a ∧ H a = some (.tup xs) ∧ RelDs ds xs
  | .lst ds, v => ∃ a xs, v = .ref a ∧ H a = some (.lst xs) ∧ ¬ A a ∧ RelDs ds xs
  | .dK kvs, v => ∃ a ws, v = .ref a ∧ Rd H a (.dK ws) ∧ ¬ A a ∧ RelK kvs ws
  | .dT kvs, v => ∃ a ws, v = .ref a ∧ Rd H a (.dT ws) ∧ ¬ A a ∧ RelT kvs ws
  | .obj n, v => ∃ c, ρ[n]? = some c ∧ v = .ref c.a
  | .scr ns, v => ∃ a, v = .ref a ∧ ((∃ o, H a = some (.frz o (.lst (ns.map V.int))) ∧ ¬ A a) ∨ ScrAt K a (ns.map V.int))
def RelDs : List D → List V → Prop
  | [], vs => vs = []
  | d :: ds, vs => ∃ v r, vs = v :: r ∧ RelD d v ∧ RelDs ds r
def RelK : List (Key × D) → List (Key × V) → Prop
  | [], ws => ws = []
  | (k, d) :: r, ws => ∃ v q, ws = (k, v) :: q ∧ RelD d v ∧ RelK r q
def RelT : List (List Key × D) → List (List Key × V) → Prop
  | [], ws => ws = []
  | (k, d) :: r, ws => ∃ v q, ws = (k, v) :: q ∧ RelD d v ∧ RelT r q
end
def RelF (K : PySem.W.Frag) (H : Hp) (A : Addr → Prop) (ρ : List CA) : List (Str × D) → List (Str × V) → Prop := Paired fun p q => p.1 = q.1 ∧ RelD K H A ρ p.2 q.2
def OwnAt (p : Addr) : D → Prop
  | .lst ds => ∃ xs, H p = some (.lst xs) ∧ RelDs K H A ρ ds xs
  | .dK kvs => ∃ ws, H p = some (.dK ws) ∧ RelK K H A ρ kvs ws
  | .dT kvs => ∃ ws, H p = some (.dT ws) ∧ RelT K H A ρ kvs ws
  | _ => False
def PeekAt (p : Addr) : D → Prop
  | .lst ds => ∃ xs, H p = some (.lst xs) ∧ RelDs K H A ρ ds xs
  | .dK kvs => ∃ ws, Rd H p (.dK ws) ∧ RelK K H A ρ kvs ws
  | .dT kvs => ∃ ws, Rd H p (.dT ws) ∧ RelT K H A ρ kvs ws
  | _ => False
def Pk (d : D) (v : V) : Prop := RelD K H A ρ d v ∨ ∃ p, v = .ref p ∧ A p ∧ p ∉ foot ρ ∧ PeekAt K H A ρ p d
end
structure Ext (H0 : Hp) (ρ0 ρ : List CA) : Prop where
  le : ρ0.length ≤ ρ.length
  same : ∀ (n : Nat) (c0 : CA), ρ0[n]? = some c0 → ∃ c : CA, ρ[n]? = some c ∧ c.a = c0.a
  new : ∀ p ∈ foot ρ, p ∈ foot ρ0 ∨ H0 p = none
  sub : ∀ (n : Nat) (c0 c : CA), ρ0[n]? = some c0 → ρ[n]? = some c → c.sub = c0.sub
theorem Ext.refl {H : Hp} {ρ : List CA} : Ext H ρ ρ := ⟨Nat.le_refl _, fun n c e => ⟨c, e, rfl⟩, fun p hp => .inl hp, fun n c0 c e e' => by rw [e] at e'; cases e'; rfl⟩
structure Keeps (H H' : Hp) (ρ : List CA) : Prop where
  keep : ∀ a o, H a = some o → a ∉ foot ρ → H' a = some o
  dom : ∀ a, H a ≠ none → H' a ≠ none
theorem Keeps.refl {H : Hp} {ρ : List CA} : Keeps H H ρ := ⟨fun _ _ e _ => e, fun _ e => e⟩
theorem Ext.trans {H H1 : Hp} {ρ ρ1 ρ2 : List CA} (a : Ext H ρ ρ1) (k : ∀ a o, H a = some o → a ∉ foot ρ → H1 a = some o) (dm : ∀ a, H a ≠ none → H1 a ≠ none) (b : Ext H1 ρ1 ρ2) : Ext H ρ ρ2 where
  le := Nat.le_trans a.le b.le
  same := fun n c0 e => by
    obtain ⟨c, e1, q1⟩ := a.same n c0 e
    obtain ⟨c2, e2, q2⟩ := b.same n c e1
    exact ⟨c2, e2, q2.trans q1⟩
  new := fun p hp => by
    rcases b.new p hp with z | z
    · exact a.new p z
    · by_cases hf : p ∈ foot ρ
      · exact .inl hf
      · right
        cases e : H p with
        | none => rfl
        | some o => rw [k p o e hf] at z; cases z
  sub := fun n c0 c e0 e => by
    obtain ⟨c1, e1, _⟩ := a.same n c0 e0
    exact (b.sub n c1 c e1 e).trans (a.sub n c0 c1 e0 e1)
theorem Keeps.trans {H H1 H2 : Hp} {ρ ρ1 : List CA} (k : Keeps H H1 ρ) (e : Ext H ρ ρ1) (k2 : Keeps H1 H2 ρ1) : Keeps H H2 ρ := by
  refine ⟨fun a o h n => ?_, fun a h => k2.dom a (k.dom a h)⟩
  refine k2.keep a o (k.keep a o h n) fun z => ?_
  rcases e.new a z with q | q
  · exact n q
  · rw [q] at h; cases h
structure Stays (A : Addr → Prop) (H H' : Hp) : Prop where
  tup : ∀ a xs, H a = some (.tup xs) → H' a = some (.tup xs)
  rest : ∀ a o, ¬ A a → H a = some o → H' a = some o
section
variable {K : PySem.W.Frag} {H H' : Hp} {A A' : Addr → Prop} {ρ ρ' : List CA}
mutual
theorem RelD.mono (st : Stays A H H') (ha : ∀ a, A' a → A a ∨ H a = none) (he : ∀ (n : Nat) (c : CA), ρ[n]? = some c → ∃ c', ρ'[n]? = some c' ∧ c'.a = c.a) : ∀ (d : D) (v : V), RelD K H A ρ d v → RelD K H' A' ρ' d v
  | .non, v, h => h
  | .bl _, v, h => h
  | .int _, v, h => h
  | .str _, v, h => h
  | .tup ds, v, h => by
    obtain ⟨a, xs, e, h1, h2⟩ := h
    exact ⟨a, xs, e, st.tup a xs h1, RelDs.mono st ha he ds xs h2⟩
  | .lst ds, v, h => by
    obtain ⟨a, xs, e, h1, n, h2⟩ := h
    exact ⟨a, xs, e, st.rest a _ n h1, (fun z => (ha a z).elim n fun q => by rw [q] at h1; cases h1), RelDs.mono st ha he ds xs h2⟩
  | .dK kvs, v, h => by
    obtain ⟨a, ws, e, h1, n, h2⟩ := h
    refine ⟨a, ws, e, ?_, fun z => (ha a z).elim n fun q => ?_, RelK.mono st ha he kvs ws h2⟩
    · rcases h1 with h1 | ⟨o, h1⟩
      · exact .inl (st.rest a _ n h1)
      · exact .inr ⟨o, st.rest a _ n h1⟩
    · rcases h1 with h1 | ⟨o, h1⟩ <;> (rw [q] at h1; cases h1)
  | .dT kvs, v, h => by
    obtain ⟨a, ws, e, h1, n, h2⟩ := h
    refine ⟨a, ws, e, ?_, fun z => (ha a z).elim n fun q => ?_, RelT.mono st ha he kvs ws h2⟩
    · rcases h1 with h1 | ⟨o, h1⟩
      · exact .inl (st.rest a _ n h1)
      · exact .inr ⟨o, st.rest a _ n h1⟩
    · rcases h1 with h1 | ⟨o, h1⟩ <;> (rw [q] at h1; cases h1)
  | .obj n, v, h => by
    obtain ⟨c, e, h⟩ := h
    obtain ⟨c', e', q⟩ := he n c e
    exact ⟨c', e', by rw [q]; exact h⟩
  | .scr ns, v, h => by
    obtain ⟨a, e, h⟩ := h
    refine ⟨a, e, ?_⟩
    rcases h with ⟨o, h1, n⟩ | h
    · exact .inl ⟨o, st.rest a _ n h1, (fun z => (ha a z).elim n fun q => by rw [q] at h1; cases h1)⟩
    · exact .inr h
theorem RelDs.mono (st : Stays A H H') (ha : ∀ a, A' a → A a ∨ H a = none) (he : ∀ (n : Nat) (c : CA), ρ[n]? = some c → ∃ c', ρ'[n]? = some c' ∧ c'.a = c.a) : ∀ (ds : List D) (vs : List V), RelDs K H A ρ ds vs → RelDs K H' A' ρ' ds vs
  | [], _, h => h
  | d :: ds, _, h => by
    obtain ⟨v, r, e, h1, h2⟩ := h
    exact ⟨v, r, e, RelD.mono st ha he d v h1, RelDs.mono st ha he ds r h2⟩
theorem RelK.mono (st : Stays A H H') (ha : ∀ a, A' a → A a ∨ H a = none) (he : ∀ (n : Nat) (c : CA), ρ[n]? = some c → ∃ c', ρ'[n]? = some c' ∧ c'.a = c.a) : ∀ (ds : List (Key × D)) (vs : List (Key × V)), RelK K H A ρ ds vs → RelK K H' A' ρ' ds vs
  | [], _, h => h
  | (k, d) :: ds, _, h => by
    obtain ⟨v, r, e, h1, h2⟩ := h
    exact ⟨v, r, e, RelD.mono st ha he d v h1, RelK.mono st ha he ds r h2⟩
theorem RelT.mono (st : Stays A H H') (ha : ∀ a, A' a → A a ∨ H a = none) (he : ∀ (n : Nat) (c : CA), ρ[n]? = some c → ∃ c', ρ'[n]? = some c' ∧ c'.a = c.a) : ∀ (ds : List (List Key × D)) (vs : List (List Key × V)), RelT K H A ρ ds vs → RelT K H' A' ρ' ds vs
  | [], _, h => h
  | (k, d) :: ds, _, h => by
    obtain ⟨v, r, e, h1, h2⟩ := h
    exact ⟨v, r, e, RelD.mono st ha he d v h1, RelT.mono st ha he ds r h2⟩
end
theorem OwnAt.mono (st : Stays A H H') (ha : ∀ a, A' a → A a ∨ H a = none) (he : ∀ (n : Nat) (c : CA), ρ[n]? = some c → ∃ c', ρ'[n]? = some c' ∧ c'.a = c.a) {p : Addr} (hp : ∀ o, H p = some o → H' p = some o) :
    ∀ {d : D}, OwnAt K H A ρ p d → OwnAt K H' A' ρ' p d
  | .lst ds, h => let ⟨xs, e, r⟩ := h; ⟨xs, hp _ e, r.mono st ha he⟩
  | .dK _, h => let ⟨xs, e, r⟩ := h; ⟨xs, hp _ e, r.mono st ha he⟩
  | .dT _, h => let ⟨xs, e, r⟩ := h; ⟨xs, hp _ e, r.mono st ha he⟩
  | .non, h => h.elim
  | .bl _, h => h.elim
  | .int _, h => h.elim
  | .str _, h => h.elim
  | .tup _, h => h.elim
  | .obj _, h => h.elim
  | .scr _, h => h.elim
theorem PeekAt.mono (st : Stays A H H') (ha : ∀ a, A' a → A a ∨ H a = none) (he : ∀ (n : Nat) (c : CA), ρ[n]? = some c → ∃ c', ρ'[n]? = some c' ∧ c'.a = c.a) {p : Addr} (hp : ∀ o, H p = some o → H' p = some o) :
    ∀ {d : D}, PeekAt K H A ρ p d → PeekAt K H' A' ρ' p d
  | .lst ds, h => let ⟨xs, e, r⟩ := h; ⟨xs, hp _ e, r.mono st ha he⟩
  | .dK _, h => let ⟨xs, e, r⟩ := h; ⟨xs, e.elim (fun q => .inl (hp _ q)) (fun ⟨o, q⟩ => .inr ⟨o, hp _ q⟩), r.mono st ha he⟩
  | .dT _, h => let ⟨xs, e, r⟩ := h; ⟨xs, e.elim (fun q => .inl (hp _ q)) (fun ⟨o, q⟩ => .inr ⟨o, hp _ q⟩), r.mono st ha he⟩
  | .non, h => h.elim
  | .bl _, h => h.elim
  | .int _, h => h.elim
  | .str _, h => h.elim
  | .tup _, h => h.elim
  | .obj _, h => h.elim
  | .scr _, h => h.elim
theorem OwnAt.pk {p : Addr} : ∀ {d : D}, OwnAt K H A ρ p d → PeekAt K H A ρ p d
  | .lst ds, h => h
  | .dK _, h => let ⟨xs, e, r⟩ := h; ⟨xs, .inl e, r⟩
  | .dT _, h => let ⟨xs, e, r⟩ := h; ⟨xs, .inl e, r⟩
  | .non, h => h.elim
  | .bl _, h => h.elim
  | .int _, h => h.elim
  | .str _, h => h.elim
  | .tup _, h => h.elim
  | .obj _, h => h.elim
  | .scr _, h => h.elim
theorem OwnAt.there {p : Addr} : ∀ {d : D}, OwnAt K H A ρ p d → H p ≠ none
  | .lst ds, h => let ⟨xs, e, r⟩ := h; by rw [e]; exact fun z => nomatch z
  | .dK _, h => let ⟨xs, e, r⟩ := h; by rw [e]; exact fun z => nomatch z
  | .dT _, h => let ⟨xs, e, r⟩ := h; by rw [e]; exact fun z => nomatch z
  | .non, h => h.elim
  | .bl _, h => h.elim
  | .int _, h => h.elim
  | .str _, h => h.elim
  | .tup _, h => h.elim
  | .obj _, h => h.elim
  | .scr _, h => h.elim
theorem PeekAt.there {p : Addr} : ∀ {d : D}, PeekAt K H A ρ p d → H p ≠ none
  | .lst ds, h => let ⟨xs, e, r⟩ := h; by rw [e]; exact fun z => nomatch z
  | .dK _, h => let ⟨xs, e, r⟩ := h; by rcases e with e | ⟨o, e⟩ <;> (rw [e]; exact fun z => nomatch z)
  | .dT _, h => let ⟨xs, e, r⟩ := h; by rcases e with e | ⟨o, e⟩ <;> (rw [e]; exact fun z => nomatch z)
  | .non, h => h.elim
  | .bl _, h => h.elim
  | .int _, h => h.elim
  | .str _, h => h.elim
  | .tup _, h => h.elim
  | .obj _, h => h.elim
  | .scr _, h => h.elim
theorem OwnAt.rel {p : Addr} (n : ¬ A p) : ∀ {d : D}, OwnAt K H A ρ p d → RelD K H A ρ d (.ref p)
  | .lst ds, h => let ⟨xs, e, r⟩ := h; ⟨p, xs, rfl, e, n, r⟩
  | .dK _, h => let ⟨xs, e, r⟩ := h; ⟨p, xs, rfl, .inl e, n, r⟩
  | .dT _, h => let ⟨xs, e, r⟩ := h; ⟨p, xs, rfl, .inl e, n, r⟩
  | .non, h => h.elim
  | .bl _, h => h.elim
  | .int _, h => h.elim
  | .str _, h => h.elim
  | .tup _, h => h.elim
  | .obj _, h => h.elim
  | .scr _, h => h.elim
theorem RelDs.length : ∀ {ds : List D} {vs : List V}, RelDs K H A ρ ds vs → ds.length = vs.length
  | [], _, h => by cases h; rfl
  | d :: ds, _, h => by obtain ⟨v, r, rfl, _, h2⟩ := h; simp [RelDs.length h2]
theorem RelDs.get : ∀ {ds : List D} {vs : List V} {i : Nat} {d : D}, RelDs K H A ρ ds vs → ds[i]? = some d → ∃ v, vs[i]? = some v ∧ RelD K H A ρ d v
  | [], _, _, _, h, e => by simp at e
  | d :: ds, _, 0, _, h, e => by obtain ⟨v, r, rfl, h1, h2⟩ := h; simp at e; subst e; exact ⟨v, rfl, h1⟩
  | d :: ds, _, i + 1, _, h, e => by obtain ⟨v, r, rfl, h1, h2⟩ := h; exact RelDs.get (i := i) h2 (by simpa using e)
theorem RelDs.append : ∀ {ds es : List D} {vs ws : List V}, RelDs K H A ρ ds vs → RelDs K H A ρ es ws → RelDs K H A ρ (ds ++ es) (vs ++ ws)
  | [], _, _, _, h, h' => by cases h; exact h'
  | d :: ds, _, _, _, h, h' => by obtain ⟨v, r, rfl, h1, h2⟩ := h; exact ⟨v, _, rfl, h1, RelDs.append h2 h'⟩
theorem RelDs.set : ∀ {ds : List D} {vs : List V} {i : Nat} {d : D} {v : V}, RelDs K H A ρ ds vs → RelD K H A ρ d v → RelDs K H A ρ (ds.set i d) (vs.set i v)
  | [], _, _, _, _, h, _ => by cases h; rfl
  | d :: ds, _, 0, _, _, h, q => by obtain ⟨v, r, rfl, h1, h2⟩ := h; exact ⟨_, _, rfl, q, h2⟩
  | d :: ds, _, i + 1, _, _, h, q => by obtain ⟨v, r, rfl, h1, h2⟩ := h; exact ⟨_, _, rfl, h1, RelDs.set (i := i) h2 q⟩
theorem RelDs.take : ∀ {ds : List D} {vs : List V} (n : Nat), RelDs K H A ρ ds vs → RelDs K H A ρ (ds.take n) (vs.take n)
  | [], _, n, h => by cases h; simp; rfl
  | d :: ds, _, 0, h => by rfl
  | d :: ds, _, n + 1, h => by obtain ⟨v, r, rfl, h1, h2⟩ := h; exact ⟨_, _, rfl, h1, RelDs.take n h2⟩
theorem RelDs.drop : ∀ {ds : List D} {vs : List V} (n : Nat), RelDs K H A ρ ds vs → RelDs K H A ρ (ds.drop n) (vs.drop n)
  | [], _, n, h => by cases h; simp; rfl
  | d :: ds, _, 0, h => h
  | d :: ds, _, n + 1, h => by obtain ⟨v, r, rfl, h1, h2⟩ := h; exact RelDs.drop n h2
theorem RelDs.reverse : ∀ {ds : List D} {vs : List V}, RelDs K H A ρ ds vs → RelDs K H A ρ ds.reverse vs.reverse
  | [], _, h => by cases h; rfl
  | d :: ds, _, h => by
    obtain ⟨v, r, rfl, h1, h2⟩ := h
    rw [List.reverse_cons, List.reverse_cons]
    exact (RelDs.reverse h2).append ⟨v, [], rfl, h1, rfl⟩
theorem RelDs.rep {ds : List D} {vs : List V} (h : RelDs K H A ρ ds vs) : ∀ k : Nat, RelDs K H A ρ (List.replicate k ds).flatten (List.replicate k vs).flatten
  | 0 => rfl
  | k + 1 => by rw [List.replicate_succ, List.replicate_succ, List.flatten_cons, List.flatten_cons]; exact h.append (RelDs.rep h k)
end
abbrev Lo := Nat → Option Addr
def aA (av : Addr → Prop) (ρ : List CA) (lo : Lo) : Addr → Prop := fun a => av a ∨ a ∈ foot ρ ∨ ∃ i, lo i = some a
def SlotOk (K : PySem.W.Frag) (H : Hp) (A av : Addr → Prop) (ρ : List CA) (σi : Option (Option V)) (loi : Option Addr) : Slot → Prop
  | .un => loi = none
  | .sh d => loi = none ∧ ∃ v, σi = some (some v) ∧ RelD K H A ρ d v
  | .ow d => ∃ p, loi = some p ∧ σi = some (some (.ref p)) ∧ OwnAt K H A ρ p d
  | .bw d => loi = none ∧ ∃ p, σi = some (some (.ref p)) ∧ av p ∧ PeekAt K H A ρ p d
def ExOd (cls : Value) (d a : Addr) : HO := .ext fun h => ∃ (oe : Obj) (vs : Array Value), h.get? a = some oe ∧ oe.cls = cls ∧ oe.dict = some d ∧ oe.data = .fields vs
def CellOk (K : PySem.W.Frag) (H : Hp) (A : Addr → Prop) (ρ : List CA) (c : CA) : Cell → Prop
  | .lst ds => (c.sub = [] ∧ c.dead = false) ∧ ∃ xs, H c.a = some (.lst xs) ∧ RelDs K H A ρ ds xs
  | .dK ds => (c.sub = [] ∧ c.dead = false) ∧ ∃ xs, H c.a = some (.dK xs) ∧ RelK K H A ρ ds xs
  | .dT ds => (c.sub = [] ∧ c.dead = false) ∧ ∃ xs, H c.a = some (.dT xs) ∧ RelT K H A ρ ds xs
  | .ins x fs => ∃ C dx ws, PySem.W.nsIn K mainGlobals x = some (some (.ref C)) ∧ (c.sub = [dx] ∧ c.dead = false) ∧ H c.a = some (.ins C dx ws) ∧ RelF K H A ρ fs ws
  | .exc C vs => (c.dead = true ∧ ¬ A c.a) ∧ ∃ (Ca dx : Addr) (fs : List (Str × V)) (ws : List V), PySem.W.nsIn K mainGlobals C = some (some (.ref Ca)) ∧ ¬ A dx ∧ H c.a = some (ExOd (.ref Ca) dx c.a) ∧ H dx = some (.xd fs) ∧ RelDs K H A ρ vs ws ∧
    ∀ (k : Nat) (f : Str) (w : V), (xfl C)[k]? = some f → ws[k]? = some w → fs.lookup f = some w
  | .gone => (c.dead = true ∧ ¬ A c.a) ∧ ∃ u, H c.a = some u ∧ ∀ zs, u ≠ .tup zs
structure Stt (K : PySem.W.Frag) (av : Addr → Prop) (H0 : Hp) (ρ0 ρ : List CA) (lo : Lo) (σ : St) (H : Hp) (env : Env) (m : MH) : Prop where
  len : env.length = σ.length
  slot : ∀ (i : Nat) (s : Slot), env[i]? = some s → SlotOk K H (aA av ρ lo) av ρ (σ[i]?) (lo i) s
  inj : ∀ i j p, lo i = some p → lo j = some p → i = j
  loF : ∀ i p, lo i = some p → ¬ av p ∧ p ∉ foot ρ ∧ H0 p = none ∧ H p ≠ none ∧ ∀ xs, H p ≠ some (.tup xs)
  fnd : (foot ρ).Nodup
  fav : ∀ p ∈ foot ρ, ¬ av p ∧ (∀ xs, H p ≠ some (.tup xs)) ∧ H p ≠ none
  avd : ∀ p, av p → H0 p ≠ none
  ml : m.length = ρ.length
  cells : ∀ (n : Nat) (c : CA) (x : Cell), ρ[n]? = some c → m[n]? = some x → CellOk K H (aA av ρ lo) ρ c x
  ext : Ext H0 ρ0 ρ
  keep : Keeps H0 H ρ0
end MP
namespace MP
open PySem L2
structure MkRel (K : PySem.W.Frag) (H : Hp) (A : Addr → Prop) (ρ : List CA) (d : D) (v : V) (H' : Hp) : Prop where
  kept : ∀ a o, H a = some o → H' a = some o
  val : match modeOf d with
    | .fr => ∃ p, v = .ref p ∧ H p = none ∧ OwnAt K H' (fun a => A a ∨ a = p) ρ p d
    | _ => RelD K H' A ρ d v
def VOk (K : PySem.W.Frag) (H : Hp) (A av : Addr → Prop) (ρ : List CA) (lo : Lo) (n : Nat) (x : D × Mode) (v : V) : Prop :=
  match x.2 with
  | .sh => RelD K H A ρ x.1 v
  | .fr => ∃ p, v = .ref p ∧ lo n = some p ∧ OwnAt K H A ρ p x.1
  | .bo => ∃ p, v = .ref p ∧ (av p ∨ ∃ i, i ≠ n ∧ lo i = some p) ∧ OwnAt K H A ρ p x.1
  | .br => ∃ p, v = .ref p ∧ av p ∧ PeekAt K H A ρ p x.1
structure Step (K : PySem.W.Frag) (av : Addr → Prop) (H0 : Hp) (ρ0 : List CA) (σ : St) (env : Env) (ρ : List CA) (lo : Lo) (H : Hp) (ρ' : List CA) (lo' : Lo) (H' : Hp) (m' : MH) : Prop where
  st : Stt K av H0 ρ0 ρ' lo' σ H' env m'
  lo : ∀ i, i ≠ env.length → lo' i = lo i
  lon : ∀ p, lo' env.length = some p → H p = none
  kp : Keeps H H' ρ
  ex : Ext H ρ ρ'
section
variable {K : PySem.W.Frag} {av : Addr → Prop} {H0 H H1 H2 H' : Hp} {ρ0 ρ ρ1 ρ2 ρ' : List CA} {σ : St} {env : Env} {lo lo1 lo2 lo' : Lo} {m m1 m2 m' : MH}
theorem Stt.stays (s : Stt K av H0 ρ0 ρ lo σ H env m) (k : Keeps H H' ρ) : Stays (aA av ρ lo) H H' where
  tup := fun a xs e => k.keep a _ e fun z => (s.fav a z).2.1 xs e
  rest := fun a o n e => k.keep a o e fun z => n (.inr (.inl z))
theorem Ext.he (e : Ext H ρ ρ') : ∀ (n : Nat) (c : CA), ρ[n]? = some c → ∃ c', ρ'[n]? = some c' ∧ c'.a = c.a := e.same
theorem Step.ha (s : Step K av H0 ρ0 σ env ρ lo H ρ' lo' H' m') : ∀ a, aA av ρ' lo' a → aA av ρ lo a ∨ H a = none := fun a z => by
  rcases z with z | z | ⟨i, z⟩
  · exact .inl (.inl z)
  · rcases s.ex.new a z with z | z
    · exact .inl (.inr (.inl z))
    · exact .inr z
  · by_cases hi : i = env.length
    · subst hi; exact .inr (s.lon a z)
    · rw [s.lo i hi] at z; exact .inl (.inr (.inr ⟨i, z⟩))
theorem Step.rel (s0 : Stt K av H0 ρ0 ρ lo σ H env m) (s : Step K av H0 ρ0 σ env ρ lo H ρ' lo' H' m') {d : D} {v : V} (r : RelD K H (aA av ρ lo) ρ d v) : RelD K H' (aA av ρ' lo') ρ' d v :=
  r.mono (s0.stays s.kp) s.ha s.ex.same
theorem Step.rels (s0 : Stt K av H0 ρ0 ρ lo σ H env m) (s : Step K av H0 ρ0 σ env ρ lo H ρ' lo' H' m') {d : List D} {v : List V} (r : RelDs K H (aA av ρ lo) ρ d v) : RelDs K H' (aA av ρ' lo') ρ' d v :=
  r.mono (s0.stays s.kp) s.ha s.ex.same
theorem Step.own (s0 : Stt K av H0 ρ0 ρ lo σ H env m) (s : Step K av H0 ρ0 σ env ρ lo H ρ' lo' H' m') {d : D} {p : Addr} (hp : p ∉ foot ρ) (r : OwnAt K H (aA av ρ lo) ρ p d) : OwnAt K H' (aA av ρ' lo') ρ' p d :=
  r.mono (s0.stays s.kp) s.ha s.ex.same fun o e => s.kp.keep p o e hp
theorem Step.peeked (s0 : Stt K av H0 ρ0 ρ lo σ H env m) (s : Step K av H0 ρ0 σ env ρ lo H ρ' lo' H' m') {d : D} {p : Addr} (hp : p ∉ foot ρ) (r : PeekAt K H (aA av ρ lo) ρ p d) : PeekAt K H' (aA av ρ' lo') ρ' p d :=
  r.mono (s0.stays s.kp) s.ha s.ex.same fun o e => s.kp.keep p o e hp
theorem Step.refl (s : Stt K av H0 ρ0 ρ lo σ H env m) (h : lo env.length = none) : Step K av H0 ρ0 σ env ρ lo H ρ lo H m :=
  ⟨s, fun _ _ => rfl, fun p e => (by rw [h] at e; cases e), Keeps.refl, Ext.refl⟩
theorem Step.trans (a : Step K av H0 ρ0 σ env ρ lo H ρ1 lo1 H1 m1) (b : Step K av H0 ρ0 σ env ρ1 lo1 H1 ρ2 lo2 H2 m2) : Step K av H0 ρ0 σ env ρ lo H ρ2 lo2 H2 m2 where
  st := b.st
  lo := fun i hi => (b.lo i hi).trans (a.lo i hi)
  lon := fun p e => by
    have z := b.lon p e
    cases q : H p with
    | none => rfl
    | some o => exact absurd z (a.kp.dom p (by rw [q]; exact fun z => nomatch z))
  kp := a.kp.trans a.ex b.kp
  ex := a.ex.trans (fun p o e n => a.kp.keep p o e n) a.kp.dom b.ex
theorem Stays.of (k : ∀ a o, H a = some o → H' a = some o) {A : Addr → Prop} : Stays A H H' := ⟨fun a xs e => k a _ e, fun a o _ e => k a o e⟩
theorem dom_of (k : ∀ a o, H a = some o → H' a = some o) : ∀ a, H a ≠ none → H' a ≠ none := fun a h => by
  cases e : H a with
  | none => exact absurd e h
  | some o => rw [k a o e]; exact fun z => nomatch z
theorem SlotOk.mono {A A' : Addr → Prop} (st : Stays A H H') (ha : ∀ a, A' a → A a ∨ H a = none) (he : ∀ (n : Nat) (c : CA), ρ[n]? = some c → ∃ c', ρ'[n]? = some c' ∧ c'.a = c.a) {σi : Option (Option V)} {l l' : Option Addr}
    (hp : ∀ p o, (l = some p ∨ av p) → H p = some o → H' p = some o) (hl : l' = l) : ∀ {s : Slot}, SlotOk K H A av ρ σi l s → SlotOk K H' A' av ρ' σi l' s
  | .un, h => hl.trans h
  | .sh d, h => let ⟨n, v, e, r⟩ := h; ⟨hl.trans n, v, e, r.mono st ha he⟩
  | .ow d, h => let ⟨p, e, e2, r⟩ := h; ⟨p, hl.trans e, e2, r.mono st ha he fun o q => hp p o (.inl e) q⟩
  | .bw d, h => let ⟨n, p, e, e2, r⟩ := h; ⟨hl.trans n, p, e, e2, r.mono st ha he fun o q => hp p o (.inr e2) q⟩
theorem RelF.mono {A A' : Addr → Prop} (st : Stays A H H') (ha : ∀ a, A' a → A a ∨ H a = none) (he : ∀ (n : Nat) (c : CA), ρ[n]? = some c → ∃ c', ρ'[n]? = some c' ∧ c'.a = c.a) {fs : List (Str × D)} {ws : List (Str × V)} (h : RelF K H A ρ fs ws) : RelF K H' A' ρ' fs ws :=
  Paired.mapP h fun p q z => ⟨z.1, RelD.mono st ha he p.2 q.2 z.2⟩
theorem CellOk.mono {A A' : Addr → Prop} (st : Stays A H H') (ha : ∀ a, A' a → A a ∨ H a = none) (he : ∀ (n : Nat) (c : CA), ρ[n]? = some c → ∃ c', ρ'[n]? = some c' ∧ c'.a = c.a) {c : CA}
    (hp : ∀ o, H c.a = some o → H' c.a = some o) : ∀ {x : Cell}, CellOk K H A ρ c x → CellOk K H' A' ρ' c x
  | .lst ds, h => let ⟨e, xs, e2, r⟩ := h; ⟨e, xs, hp _ e2, r.mono st ha he⟩
  | .dK ds, h => let ⟨e, xs, e2, r⟩ := h; ⟨e, xs, hp _ e2, r.mono st ha he⟩
  | .dT ds, h => let ⟨e, xs, e2, r⟩ := h; ⟨e, xs, hp _ e2, r.mono st ha he⟩
  | .ins x fs, h => let ⟨C, dx, ws, e, e2, e3, r⟩ := h; ⟨C, dx, ws, e, e2, hp _ e3, r.mono st ha he⟩
  | .exc C vs, h => let ⟨⟨e, n⟩, Ca, dx, fs, ws, h1, h2, h3, h4, h5, h6⟩ := h
    ⟨⟨e, fun z => (ha _ z).elim n fun q => by rw [q] at h3; cases h3⟩, Ca, dx, fs, ws, h1, (fun z => (ha _ z).elim h2 fun q => by rw [q] at h4; cases h4), hp _ h3, st.rest dx _ h2 h4, h5.mono st ha he, h6⟩
  | .gone, h => let ⟨⟨e, n⟩, u, e2, r⟩ := h; ⟨⟨e, fun z => (ha _ z).elim n fun q => by rw [q] at e2; cases e2⟩, u, hp _ e2, r⟩
theorem mem_foot {n : Nat} {c : CA} (e : ρ[n]? = some c) (hd : c.dead = false) : c.a ∈ foot ρ := by
  unfold foot
  rw [List.mem_flatMap]
  refine ⟨c, List.mem_of_getElem? e, ?_⟩
  unfold CA.ft
  rw [hd]
  exact List.mem_cons_self
theorem CellOk.life {A : Addr → Prop} {c : CA} {x : Cell} (h : CellOk K H A ρ c x) : c.dead = false ∨ (c.dead = true ∧ ¬ A c.a) := by
  cases x with
  | lst _ => exact .inl h.1.2
  | dK _ => exact .inl h.1.2
  | dT _ => exact .inl h.1.2
  | ins _ _ => obtain ⟨_, _, _, _, e, _⟩ := h; exact .inl e.2
  | exc _ _ => exact .inr h.1
  | gone => exact .inr h.1
theorem CellOk.apart {A : Addr → Prop} {n : Nat} {c : CA} {x : Cell} (h : CellOk K H A ρ c x) (e : ρ[n]? = some c) {p : Addr} (hp : A p) (hf : p ∉ foot ρ) : c.a ≠ p := fun z => by
  rcases h.life with q | ⟨_, q⟩
  · exact hf (z ▸ mem_foot e q)
  · exact q (z ▸ hp)
theorem Stt.grow (s : Stt K av H0 ρ0 ρ lo σ H env m) (k : ∀ a o, H a = some o → H' a = some o) : Stt K av H0 ρ0 ρ lo σ H' env m where
  len := s.len
  slot := fun i x e => (s.slot i x e).mono (Stays.of k) (fun a z => .inl z) (fun n c e => ⟨c, e, rfl⟩) (fun p o _ q => k p o q) rfl
  inj := s.inj
  loF := fun i p e => by
    obtain ⟨h1, h2, h3, h4, h5⟩ := s.loF i p e
    refine ⟨h1, h2, h3, dom_of k p h4, fun xs z => ?_⟩
    cases q : H p with
    | none => exact h4 q
    | some o => rw [k p o q] at z; cases z; exact h5 xs q
  fnd := s.fnd
  fav := fun p hp => by
    obtain ⟨h1, h2, h3⟩ := s.fav p hp
    refine ⟨h1, fun xs z => ?_, dom_of k p h3⟩
    cases q : H p with
    | none => exact h3 q
    | some o => rw [k p o q] at z; cases z; exact h2 xs q
  avd := s.avd
  ml := s.ml
  cells := fun n c x e1 e2 => (s.cells n c x e1 e2).mono (Stays.of k) (fun a z => .inl z) (fun n c e => ⟨c, e, rfl⟩) fun o q => k _ o q
  ext := s.ext
  keep := ⟨fun a o e n => k a o (s.keep.keep a o e n), fun a h => dom_of k a (s.keep.dom a h)⟩
def loC (lo : Lo) (i : Nat) : Lo := fun j => if j = i then none else lo j
def loS (lo : Lo) (i : Nat) (p : Addr) : Lo := fun j => if j = i then some p else lo j
theorem loC_same {i : Nat} : loC lo i i = none := if_pos rfl
theorem loC_ne {i j : Nat} (h : j ≠ i) : loC lo i j = lo j := if_neg h
theorem loS_same {i : Nat} {p : Addr} : loS lo i p i = some p := if_pos rfl
theorem loS_ne {i j : Nat} {p : Addr} (h : j ≠ i) : loS lo i p j = lo j := if_neg h
theorem aA_loC {i : Nat} {a : Addr} (z : aA av ρ (loC lo i) a) : aA av ρ lo a := by
  rcases z with z | z | ⟨j, z⟩
  · exact .inl z
  · exact .inr (.inl z)
  · by_cases h : j = i
    · subst h; rw [loC_same] at z; cases z
    · rw [loC_ne h] at z; exact .inr (.inr ⟨j, z⟩)
theorem aA_loS {i : Nat} {p a : Addr} (z : aA av ρ (loS lo i p) a) : aA av ρ lo a ∨ a = p := by
  rcases z with z | z | ⟨j, z⟩
  · exact .inl (.inl z)
  · exact .inl (.inr (.inl z))
  · by_cases h : j = i
    · subst h; rw [loS_same] at z; cases z; exact .inr rfl
    · rw [loS_ne h] at z; exact .inl (.inr (.inr ⟨j, z⟩))
theorem Stays.refl {A : Addr → Prop} : Stays A H H := Stays.of fun _ _ e => e
theorem Stt.drop (s : Stt K av H0 ρ0 ρ lo σ H env m) {i : Nat} (hi : ∀ d, env[i]? ≠ some (.ow d)) : Stt K av H0 ρ0 ρ (loC lo i) σ H env m where
  len := s.len
  slot := fun j x e => by
    refine (s.slot j x e).mono Stays.refl (fun a z => .inl (aA_loC z)) (fun n c e => ⟨c, e, rfl⟩) (fun _ _ _ e => e) ?_
    by_cases h : j = i
    · subst h
      have q := s.slot j x e
      rw [loC_same]
      cases x with
      | un => exact q.symm
      | ow d => exact absurd e (hi d)
      | sh d => exact q.1.symm
      | bw d => exact q.1.symm
    · exact loC_ne h
  inj := fun j k p e1 e2 => by
    by_cases h1 : j = i
    · subst h1; rw [loC_same] at e1; cases e1
    by_cases h2 : k = i
    · subst h2; rw [loC_same] at e2; cases e2
    rw [loC_ne h1] at e1
    rw [loC_ne h2] at e2
    exact s.inj j k p e1 e2
  loF := fun j p e => by
    by_cases h1 : j = i
    · subst h1; rw [loC_same] at e; cases e
    rw [loC_ne h1] at e
    exact s.loF j p e
  fnd := s.fnd
  fav := s.fav
  avd := s.avd
  ml := s.ml
  cells := fun n c x e1 e2 => (s.cells n c x e1 e2).mono Stays.refl (fun a z => .inl (aA_loC z)) (fun n c e => ⟨c, e, rfl⟩) fun o q => q
  ext := s.ext
  keep := s.keep
theorem none_at_len {α : Type} (l : List α) (x : α) : l[l.length]? ≠ some x := by
  rw [List.getElem?_eq_none (Nat.le_refl _)]; exact fun z => nomatch z
theorem Stt.fresh (s : Stt K av H0 ρ0 ρ lo σ H env m) (hl : lo env.length = none) {p : Addr} (hp : H p = none) (k : ∀ a o, H a = some o → H' a = some o) (hp' : H' p ≠ none) (ht : ∀ xs, H' p ≠ some (.tup xs)) :
    Stt K av H0 ρ0 ρ (loS lo env.length p) σ H' env m := by
  have s' := s.grow k
  have hA : ∀ a, aA av ρ (loS lo env.length p) a → aA av ρ lo a ∨ H a = none := fun a z => (aA_loS z).imp id fun e => by rw [e]; exact hp
  have hpo : ∀ j, lo j ≠ some p := fun j e => (s.loF j p e).2.2.2.1 hp
  refine ⟨s.len, fun j x e => ?_, fun j k' q e1 e2 => ?_, fun j q e => ?_, s.fnd, s'.fav, s.avd, s.ml, fun n c x e1 e2 => ?_, s.ext, s'.keep⟩
  · refine (s.slot j x e).mono (Stays.of k) hA (fun n c e => ⟨c, e, rfl⟩) (fun q o _ e => k q o e) ?_
    have h : j ≠ env.length := fun z => by subst z; exact none_at_len _ _ e
    exact loS_ne h
  · by_cases h1 : j = env.length
    · by_cases h2 : k' = env.length
      · rw [h1, h2]
      · rw [h1, loS_same] at e1; cases e1
        rw [loS_ne h2] at e2
        exact absurd e2 (hpo _)
    · rw [loS_ne h1] at e1
      by_cases h2 : k' = env.length
      · rw [h2, loS_same] at e2; cases e2; exact absurd e1 (hpo _)
      · rw [loS_ne h2] at e2; exact s.inj j k' q e1 e2
  · by_cases h1 : j = env.length
    · rw [h1, loS_same] at e; cases e
      refine ⟨fun z => s.keep.dom p (s.avd p z) hp, fun z => (s.fav p z).2.2 hp, ?_, hp', ht⟩
      cases q : H0 p with
      | none => rfl
      | some o => exact absurd hp (s.keep.dom p (by rw [q]; exact fun z => nomatch z))
    · rw [loS_ne h1] at e
      exact s'.loF j q e
  · exact (s.cells n c x e1 e2).mono (Stays.of k) hA (fun n c e => ⟨c, e, rfl⟩) fun o q => k _ o q
theorem OwnAt.notTup {A : Addr → Prop} {p : Addr} : ∀ {d : D}, OwnAt K H A ρ p d → ∀ xs, H p ≠ some (.tup xs)
  | .lst ds, h, ys => let ⟨xs, e, r⟩ := h; by rw [e]; exact fun z => nomatch z
  | .dK _, h, ys => let ⟨xs, e, r⟩ := h; by rw [e]; exact fun z => nomatch z
  | .dT _, h, ys => let ⟨xs, e, r⟩ := h; by rw [e]; exact fun z => nomatch z
  | .non, h, _ => h.elim
  | .bl _, h, _ => h.elim
  | .int _, h, _ => h.elim
  | .str _, h, _ => h.elim
  | .tup _, h, _ => h.elim
  | .obj _, h, _ => h.elim
  | .scr _, h, _ => h.elim
theorem Stt.made (s : Stt K av H0 ρ0 ρ lo σ H env m) (hl : lo env.length = none) {d : D} {v : V} (r : MkRel K H (aA av ρ lo) ρ d v H') :
    ∃ lo', Step K av H0 ρ0 σ env ρ lo H ρ lo' H' m ∧ VOk K H' (aA av ρ lo') av ρ lo' env.length (d, modeOf d) v := by
  obtain ⟨k, hv⟩ := r
  unfold VOk
  cases hm : modeOf d with
  | sh =>
    rw [hm] at hv
    exact ⟨lo, ⟨s.grow k, fun _ _ => rfl, fun p e => (by rw [hl] at e; cases e), ⟨fun a o e _ => k a o e, dom_of k⟩, Ext.refl⟩, hv⟩
  | bo =>
    exfalso
    unfold modeOf at hm
    split at hm <;> cases hm
  | br =>
    exfalso
    unfold modeOf at hm
    split at hm <;> cases hm
  | fr =>
    rw [hm] at hv
    obtain ⟨p, rfl, hp, o⟩ := hv
    refine ⟨loS lo env.length p, ⟨s.fresh hl hp k o.there o.notTup, fun i h => loS_ne h, fun q e => ?_, ⟨fun a o e _ => k a o e, dom_of k⟩, Ext.refl⟩, p, rfl, loS_same, ?_⟩
    · rw [loS_same] at e; cases e; exact hp
    · exact o.mono Stays.refl (fun a z => .inl (aA_loS z)) (fun n c e => ⟨c, e, rfl⟩) fun _ e => e
theorem Step.share (s : Step K av H0 ρ0 σ env ρ lo H ρ' lo' H' m') {x : D × Mode} {v : V} (r : VOk K H' (aA av ρ' lo') av ρ' lo' env.length x v) (h : owns x.2 = true) :
    ∃ lo1, Step K av H0 ρ0 σ env ρ lo H ρ' lo1 H' m' ∧ lo1 env.length = none ∧ RelD K H' (aA av ρ' lo1) ρ' x.1 v := by
  refine ⟨loC lo' env.length, ⟨s.st.drop fun d => none_at_len _ _, fun i hi => (loC_ne hi).trans (s.lo i hi), fun p e => (by rw [loC_same] at e; cases e), s.kp, s.ex⟩, loC_same, ?_⟩
  obtain ⟨d, md⟩ := x
  cases md with
  | bo => cases h
  | br => cases h
  | sh => exact RelD.mono Stays.refl (fun a z => .inl (aA_loC z)) (fun n c e => ⟨c, e, rfl⟩) d v r
  | fr =>
    obtain ⟨p, rfl, e, o⟩ := r
    obtain ⟨h1, h2, h3, h4⟩ := s.st.loF _ _ e
    refine OwnAt.rel (fun z => ?_) (o.mono Stays.refl (fun a z => .inl (aA_loC z)) (fun n c e => ⟨c, e, rfl⟩) fun _ e => e)
    rcases z with z | z | ⟨j, z⟩
    · exact h1 z
    · exact h2 z
    · by_cases hj : j = env.length
      · subst hj; rw [loC_same] at z; cases z
      · rw [loC_ne hj] at z; exact hj (s.st.inj _ _ _ z e)
theorem Step.lend (s : Step K av H0 ρ0 σ env ρ lo H ρ' lo' H' m') {d : D} {md : Mode} {v : V} (r : VOk K H' (aA av ρ' lo') av ρ' lo' env.length (d, md) v) (hm : owns md = false) :
    ∃ lo1, Step K av H0 ρ0 σ env ρ lo H ρ' lo1 H' m' ∧ lo1 env.length = none ∧ ∃ p, v = .ref p ∧ aA av ρ' lo1 p ∧ p ∉ foot ρ' ∧ PeekAt K H' (aA av ρ' lo1) ρ' p d := by
  refine ⟨loC lo' env.length, ⟨s.st.drop fun d => none_at_len _ _, fun i hi => (loC_ne hi).trans (s.lo i hi), fun p e => (by rw [loC_same] at e; cases e), s.kp, s.ex⟩, loC_same, ?_⟩
  obtain ⟨p, rfl, e, o⟩ : ∃ p, v = .ref p ∧ (av p ∨ ∃ i, i ≠ env.length ∧ lo' i = some p) ∧ PeekAt K H' (aA av ρ' lo') ρ' p d := by
    cases md with
    | sh => cases hm
    | fr => cases hm
    | bo => obtain ⟨p, e, h, o⟩ := r; exact ⟨p, e, h, o.pk⟩
    | br => obtain ⟨p, e, h, o⟩ := r; exact ⟨p, e, .inl h, o⟩
  refine ⟨p, rfl, ?_, ?_, o.mono Stays.refl (fun a z => .inl (aA_loC z)) (fun n c e => ⟨c, e, rfl⟩) fun _ e => e⟩
  · rcases e with e | ⟨i, hi, e⟩
    · exact .inl e
    · exact .inr (.inr ⟨i, by rw [loC_ne hi]; exact e⟩)
  · rcases e with e | ⟨i, hi, e⟩
    · exact fun z => (s.st.fav p z).1 e
    · exact (s.st.loF _ _ e).2.1
theorem Step.peek (s : Step K av H0 ρ0 σ env ρ lo H ρ' lo' H' m') {x : D × Mode} {v : V} (r : VOk K H' (aA av ρ' lo') av ρ' lo' env.length x v) :
    ∃ lo1, Step K av H0 ρ0 σ env ρ lo H ρ' lo1 H' m' ∧ lo1 env.length = none ∧ Pk K H' (aA av ρ' lo1) ρ' x.1 v := by
  cases h : owns x.2 with
  | true =>
    obtain ⟨lo1, a, b, c⟩ := s.share r h
    exact ⟨lo1, a, b, .inl c⟩
  | false =>
    obtain ⟨d, md⟩ := x
    obtain ⟨lo1, a, b, c⟩ := s.lend r h
    exact ⟨lo1, a, b, .inr c⟩
theorem Step.pk (s0 : Stt K av H0 ρ0 ρ lo σ H env m) (s : Step K av H0 ρ0 σ env ρ lo H ρ' lo' H' m') (hl : lo env.length = none) {d : D} {v : V} (r : Pk K H (aA av ρ lo) ρ d v) : Pk K H' (aA av ρ' lo') ρ' d v := by
  rcases r with r | ⟨p, rfl, e, n, o⟩
  · exact .inl (s.rel s0 r)
  · refine .inr ⟨p, rfl, ?_, fun z => ?_, s.peeked s0 n o⟩
    · rcases e with e | e | ⟨i, e⟩
      · exact .inl e
      · exact absurd e n
      · by_cases hi : i = env.length
        · subst hi; rw [hl] at e; cases e
        · exact .inr (.inr ⟨i, (s.lo i hi).trans e⟩)
    · rcases s.ex.new p z with z | z
      · exact n z
      · exact o.there z
end
end MP
set_option maxHeartbeats 4000000
namespace MP
open PySem PySem.Spec PyProof.Rows L2
theorem tup_mul1 (l : Addr) (items : Array Value) (n : Nat) (dd : Option Addr) (sl : Array (Option Value)) (u : Tok) :
    Meets (Builtin.«tuple.__mul__» ⟨[.ref l, .int 1 u], []⟩) (fun _ R s => s.heap.get? l = some { cls := .type "tuple", dict := dd, data := .seq items n, slots := sl } ∧ R (.ok (.ret (Value.ref l))) s) :=
  .of_wp fun prog w A R s h => by
    obtain ⟨hp, g, d, tk, os⟩ := s
    obtain ⟨hl, h⟩ := h
    have f1 := AutoSeq1.idx_int
    have c1 : (items.isEmpty || (1 : Int) == 1) = true := by simp
    wp_walk using wpAny_loadPart' hl
    repeat (first
      | (refine wpAny_ite_true (decide_eq_true c1) ?_; wp_walk using wpAny_loadPart' hl)
      | (refine wpAny_ite_true (by simpa using c1) ?_; wp_walk using wpAny_loadPart' hl))
    exact ⟨_, rfl, h⟩
theorem tup_mul0 (l : Addr) (items : Array Value) (n : Nat) (dd : Option Addr) (sl : Array (Option Value)) (u : Tok) (c1 : (items.isEmpty || (0 : Int) == 1) = false) :
    Meets (Builtin.«tuple.__mul__» ⟨[.ref l, .int 0 u], []⟩) (fun _ R s => s.heap.get? l = some { cls := .type "tuple", dict := dd, data := .seq items n, slots := sl } ∧
      R (.ok (.ret (Value.ref s.heap.objs.size))) { s with heap := s.heap.push { cls := Value.type "tuple", data := Data.seq #[] }, toks := s.toks }) :=
  .of_wp fun prog w A R s h => by
    obtain ⟨hp, g, d, tk, os⟩ := s
    obtain ⟨hl, h⟩ := h
    have f1 := AutoSeq1.idx_int
    have c2 : (decide ((0 : Int) ≤ 0) || items.isEmpty) = true := by simp
    wp_walk using wpAny_loadPart' hl
    repeat (first
      | (refine wpAny_ite_false (decide_eq_false (by rw [c1]; exact Bool.false_ne_true)) ?_; wp_walk using wpAny_loadPart' hl)
      | (refine wpAny_ite_true (decide_eq_true c2) ?_; wp_walk using wpAny_loadPart' hl))
    exact ⟨_, rfl, h⟩
def rRep01 (K : PySem.W.Frag) : R2 := fun x y H Q => ∃ l k xs, x = .ref l ∧ y = .int k ∧ SqT K H l xs ∧ xs ≠ [] ∧ ((k = 1 ∧ Q (.ref l) H) ∨ (k = 0 ∧ ∀ p, H p = none → Q (.ref p) (upd H p (.tup []))))
theorem op_rep01 {X : Cx} : OpR X (binaryOp .Mult) (rRep01 X.K) := by
  intro pins s σ H x y v u Q I rx ry h
  obtain ⟨l, k, xs, rfl, rfl, hT, hne, q⟩ := h
  cases rx
  obtain ⟨t, rfl⟩ := ry
  obtain ⟨its, r, ⟨⟨cls, dd, data, sl⟩, ho, hc, n, hd⟩, hs⟩ := I.tuple hT
  simp only at hc hd
  subst hc hd
  have hle : its.length = xs.length := r.length.symm
  have hn : its ≠ [] := fun e => hne (by
    rw [e] at hle
    exact List.eq_nil_of_length_eq_zero hle.symm)
  have hi : its.toArray.isEmpty = false := by
    cases its with
    | nil => exact absurd rfl hn
    | cons a b => rfl
  rcases q with ⟨rfl, q⟩ | ⟨rfl, q⟩
  · refine wpAny_binaryOp_repeat_ref (T := "tuple") (U := "int") (by decide) ⟨_, ho, rfl⟩ (fun s' => typeIs_int s' 1 t) noFill_tuple_mul F.fills_int_mul F.slot_int_rmul repeat_tuple F.slot_int_index.lookup
      (call_meets F.slot_int_rmul (typeIs_int s 1 t) F.entry_int_rmul (F.args_int_rmul_2 _ _) (int_rmul_tuple 1 t l its.toArray n dd sl)
        ⟨ho, rfl, ⟨_, ho, rfl⟩, call_meets F.slot_tuple_mul ⟨_, ho, rfl⟩ F.entry_tuple_mul (F.args_tuple_mul_2 _ _) (tup_mul1 l its.toArray n dd sl t) ⟨ho, ?_⟩⟩)
    exact ⟨.ref l, H, I, rfl, q⟩
  · refine wpAny_binaryOp_repeat_ref (T := "tuple") (U := "int") (by decide) ⟨_, ho, rfl⟩ (fun s' => typeIs_int s' 0 t) noFill_tuple_mul F.fills_int_mul F.slot_int_rmul repeat_tuple F.slot_int_index.lookup
      (call_meets F.slot_int_rmul (typeIs_int s 0 t) F.entry_int_rmul (F.args_int_rmul_2 _ _) (int_rmul_tuple 0 t l its.toArray n dd sl)
        ⟨ho, rfl, ⟨_, ho, rfl⟩, call_meets F.slot_tuple_mul ⟨_, ho, rfl⟩ F.entry_tuple_mul (F.args_tuple_mul_2 _ _) (tup_mul0 l its.toArray n dd sl t (by rw [hi]; rfl)) ⟨ho, ?_⟩⟩)
    refine ⟨.ref s.heap.objs.size, _, I.laid (t' := s.toks) (o := .tup []) (fun b ob q => Heap.get?_push_of_some _ q) (Nat.le_refl _) ?_, rfl, q _ (I.hok.fresh (Nat.le_refl _))⟩
    exact ⟨by rw [sizeLine_eq]; decide, [], .nil, IsTup.new _ _⟩
end MP
namespace MP
open PySem PySem.Spec PyProof.Rows L2
open PySem.SeqAt (EqIn EqAt rcIn_lists rcIn_tuples)
open PySem.W (KeqHitsIn)
section
variable {prog : Program} {w : World} {κ : Type} [DecidableEq κ] {knd : HeapKind prog w κ} {A : Around} {E : Value → Shared → Prop} {s : Shared}
def prsH (xs : List (κ × Addr × Value)) : List (κ × Value) := xs.map fun x => (x.1, x.2.2)
theorem val_at (xs : List (κ × Addr × Value)) (k : κ) : valueAt (prsH xs) k = (atKey xs k).map (·.2) := by
  unfold valueAt atKey prsH
  rw [List.find?_map]
  show Option.map _ (Option.map _ (List.find? (fun x => decide (x.1 = k)) xs)) = _
  cases List.find? (fun x => decide (x.1 = k)) xs <;> rfl
theorem pairs_heap {nm : String} {a b : Addr} {ka kb : List (κ × Addr × Value)} {r : Bool} {Q : Bool → Shared → Prop} (hu : knd.room A) (ha : (a == sysModules) = false) (hb : (b == sysModules) = false)
    (da : s.heap.DictOfH knd a ka) (db : s.heap.DictOfH knd b kb) (hits : ka.length = kb.length → KeqHitsIn prog w A s (prsH kb) (prsH ka) r) (h : Q (ka.length == kb.length && r) s) :
    wpAny (model prog w) A (Builtin.Dict.samePairs nm a b) Q E s := by
  obtain ⟨oa, es, ep, hoa, _, hda, hea, hka, _⟩ := da
  obtain ⟨ob, es', ep', hob, _, hdb, heb, hkb, hnb⟩ := db
  have hla : ka.length = es.size := (size_of_entries hea).symm
  have hlb : kb.length = es'.size := (size_of_entries heb).symm
  rw [hla, hlb] at h
  unfold Builtin.Dict.samePairs Builtin.Dict.showsAll
  rw [if_neg (show ¬ (a == sysModules) = true by rw [ha]; exact Bool.false_ne_true), if_neg (show ¬ (b == sysModules) = true by rw [hb]; exact Bool.false_ne_true)]
  refine wpAny_bind (wpAny_pure (wpAny_bind (wpAny_pure ?_)))
  refine wpAny_bind (wpAny_dictEntries hoa hda ?_)
  dsimp only
  refine wpAny_bind (wpAny_dictEntries hob hdb ?_)
  by_cases hsz : es.size = es'.size
  case neg =>
    rw [if_pos (by simpa using hsz)]
    have hbf : (es.size == es'.size) = false := by simpa using hsz
    rw [hbf, Bool.false_and] at h
    exact wpAny_bind (wpAny_rule (wpAny_pure h))
  case pos =>
    have h' : Q r s := by simpa [hsz] using h
    have hits' := hits (by rw [hla, hlb]; exact hsz)
    have hpl : (prsH ka).length = es.size := by unfold prsH; rw [List.length_map]; exact hla
    rw [if_neg (by rw [hsz]; simp)]
    refine wpAny_bind (wpAny_dictEpoch hoa hda ?_)
    refine wpAny_bind ?_
    rw [Std.Legacy.Range.forIn_eq_forIn_range']
    simp only [Std.Legacy.Range.size, Nat.sub_zero, Nat.add_sub_cancel, Nat.div_one]
    refine wpAny_forIn_list _
      (fun rest q s' => s' = s ∧ q = (none, ()) ∧ ∃ i, rest = List.range' i (es.size - i) ∧ i ≤ es.size ∧ KeqHitsIn prog w A s (prsH kb) ((prsH ka).drop i) r)
      _ ?_ ?_ _ _ ⟨rfl, rfl, 0, by simp, Nat.zero_le _, hits'⟩
    · rintro x rest q s' ⟨rfl, rfl, i, hr, hi, hpre⟩
      have hlt : i < es.size := by
        rcases Nat.lt_or_ge i es.size with h | h
        · exact h
        · rw [Nat.sub_eq_zero_of_le h] at hr; simp at hr
      obtain ⟨rfl, hrest⟩ : x = i ∧ rest = List.range' (i + 1) (es.size - (i + 1)) := by
        have e : es.size - i = (es.size - (i + 1)) + 1 := by omega
        rw [e, List.range'_succ] at hr
        injection hr with h1 h2
        exact ⟨h1, h2⟩
      refine wpAny_bind (wpAny_dictEntries hoa hda ?_)
      have hlt' : x < ka.length := by rw [hla]; exact hlt
      obtain ⟨k, c, v, hkv⟩ : ∃ k c v, ka[x] = (k, c, v) := ⟨_, _, _, rfl⟩
      have hkx : ka[x]? = some (k, c, v) := by rw [List.getElem?_eq_getElem hlt', hkv]
      have hex : es[x]? = some ⟨knd.hash k, .ref c, v⟩ := by rw [entry_at hea x, hkx]; rfl
      have hdrop : (prsH ka).drop x = (k, v) :: (prsH ka).drop (x + 1) := by
        have h3 : x < (prsH ka).length := by rw [hpl]; exact hlt
        have e : (prsH ka)[x] = (k, v) := by
          have : (prsH ka)[x]? = some (k, v) := by unfold prsH; rw [List.getElem?_map, hkx]; rfl
          rw [List.getElem?_eq_getElem h3] at this
          exact Option.some.inj this
        rw [← e]; exact List.drop_eq_getElem_cons h3
      have hkc : knd.is s'.heap k c := hka _ (List.mem_of_getElem? hkx)
      rw [hex]
      dsimp only
      rw [hdrop] at hpre
      refine wpAny_bind (wpAny_holding (wpAny_bind (wpAny_dictFind_heap (k := k) hu hkc hob hdb heb hkb hnb (fun hno => ?_) (fun j p hj => ?_))))
      · have hn : valueAt (prsH kb) k = none := by rw [val_at, atKey_none_of_get hno]; rfl
        rcases hpre.inv with ⟨_, er⟩ | ⟨y, _, _, hy, _⟩
        · rw [er] at h'
          refine wpAny_pure ?_
          show wpAny _ _ (if (!false) = true then _ else _) _ _ _
          rw [if_pos (by decide)]
          exact wpAny_pure (wpAny_pure h')
        · rw [hn] at hy; exact nomatch hy
      · have hv' : valueAt (prsH kb) k = some p.2 := by rw [val_at, atKey_of_get hnb hj]; rfl
        refine wpAny_bind (wpAny_dictEntries hob hdb ?_)
        rw [entry_at heb j, hj]
        rcases hpre.inv with ⟨hn, _⟩ | ⟨y, e, b', hy, he, hrr, er⟩
        · rw [hv'] at hn; exact nomatch hn
        · have ey : p.2 = y := Option.some.inj (hv'.symm.trans hy)
          subst ey
          refine wpAny_holding (he _ _ ?_)
          cases e with
          | false =>
            rw [er, Bool.false_and] at h'
            show wpAny _ _ (if (!false) = true then _ else _) _ _ _
            rw [if_pos (by decide)]
            exact wpAny_pure (wpAny_pure h')
          | true =>
            rw [Bool.true_and] at er
            rw [← er] at hrr
            show wpAny _ _ (if (!true) = true then _ else _) _ _ _
            rw [if_neg (by decide)]
            refine wpAny_bind (wpAny_dictEpoch hoa hda ?_)
            rw [if_neg (by simp)]
            exact wpAny_pure ⟨rfl, rfl, x + 1, hrest, hlt, hrr⟩
    · rintro q s' ⟨rfl, rfl, i, hr, hi, hpre⟩
      have hin : i = es.size := by
        rcases Nat.lt_or_ge i es.size with h | h
        · have e : es.size - i = (es.size - (i + 1)) + 1 := by omega
          rw [e, List.range'_succ] at hr; exact nomatch hr
        · exact Nat.le_antisymm hi h
      refine wpAny_pure ?_
      rw [hin, ← hpl, List.drop_length] at hpre
      cases hpre
      exact h'
theorem eq_heap {a b : Addr} {ka kb : List (κ × Addr × Value)} {r : Bool} {Q : Value → Shared → Prop} (hr : knd.room A.in1) (ha : (a == sysModules) = false) (hb : (b == sysModules) = false)
    (da : s.heap.DictOfH knd a ka) (db : s.heap.DictOfH knd b kb) (hu : A.units < cLine) (hits : ka.length = kb.length → KeqHitsIn prog w A.in1 s (prsH kb) (prsH ka) r) (h : Q (.bool (ka.length == kb.length && r)) s) :
    wpAny (model prog w) A (richCompare .Eq (.ref a) (.ref b)) Q E s := by
  refine wpAny_richCompare_same_room (op := .Eq) da.typeIs db.typeIs PySem.F.slot_dict_eq (wpAny_call_entry PySem.F.slot_dict_eq da.typeIs PySem.F.entry_dict_eq ?_ (PySem.F.args_dict_eq_2 _ _)) hu
  show wpAny _ _ (Builtin.Dict.dictSlotArgs "__eq__" ⟨[.ref a, .ref b], []⟩ >>= _) _ _ s
  refine wpAny_bind ?_
  unfold Builtin.Dict.dictSlotArgs
  refine wpAny_bind (wpAny_notOrdered_dict da.typeIs ?_)
  show wpAny _ _ (pure (Value.ref a, Value.ref b)) _ _ s
  refine wpAny_pure ?_
  refine wpAny_bind (wpAny_isInstance (T := "dict") db.typeIs PySem.F.sub_dict_dict ?_)
  simp only [Bool.not_true, Bool.false_eq_true, if_false]
  refine wpAny_bind (wpAny_pure (wpAny_bind (wpAny_pure ?_)))
  refine wpAny_bind (pairs_heap hr ha hb da db hits ?_)
  refine wpAny_pure ⟨_, rfl, ?_, ?_⟩
  · exact fun x => nomatch x
  · simpa using h
theorem ne_heap {a b : Addr} {ka kb : List (κ × Addr × Value)} {r : Bool} {Q : Value → Shared → Prop} (hr : knd.room A.in1) (ha : (a == sysModules) = false) (hb : (b == sysModules) = false)
    (da : s.heap.DictOfH knd a ka) (db : s.heap.DictOfH knd b kb) (hu : A.units < cLine) (hits : ka.length = kb.length → KeqHitsIn prog w A.in1 s (prsH kb) (prsH ka) r) (h : Q (.bool (!(ka.length == kb.length && r))) s) :
    wpAny (model prog w) A (richCompare .NotEq (.ref a) (.ref b)) Q E s := by
  refine wpAny_richCompare_same_room (op := .NotEq) da.typeIs db.typeIs PySem.F.slot_dict_ne (wpAny_call_entry PySem.F.slot_dict_ne da.typeIs PySem.F.entry_dict_ne ?_ (PySem.F.args_dict_ne_2 _ _)) hu
  show wpAny _ _ (Builtin.Dict.dictSlotArgs "__ne__" ⟨[.ref a, .ref b], []⟩ >>= _) _ _ s
  refine wpAny_bind ?_
  unfold Builtin.Dict.dictSlotArgs
  refine wpAny_bind (wpAny_notOrdered_dict da.typeIs ?_)
  show wpAny _ _ (pure (Value.ref a, Value.ref b)) _ _ s
  refine wpAny_pure ?_
  refine wpAny_bind (wpAny_isInstance (T := "dict") db.typeIs PySem.F.sub_dict_dict ?_)
  simp only [Bool.not_true, Bool.false_eq_true, if_false]
  refine wpAny_bind (wpAny_pure (wpAny_bind (wpAny_pure ?_)))
  refine wpAny_bind (pairs_heap hr ha hb da db hits ?_)
  refine wpAny_pure ⟨_, rfl, ?_, ?_⟩
  · exact fun x => nomatch x
  · simpa using h
end
section
variable {prog : Program} {w : World} {κ : Type} [DecidableEq κ] {knd : KeyKind prog w κ} {A : Around} {E : Value → Shared → Prop} {s : Shared}
theorem neK_heap {a b : Addr} {ka kb : List (κ × Value)} {r : Bool} {Q : Value → Shared → Prop} (ha : (a == sysModules) = false) (hb : (b == sysModules) = false)
    (da : s.heap.DictOf knd a ka) (db : s.heap.DictOf knd b kb) (hu : A.units < cLine) (hits : ka.length = kb.length → KeqHitsIn prog w A.in1 s kb ka r) (h : Q (.bool (!(ka.length == kb.length && r))) s) :
    wpAny (model prog w) A (richCompare .NotEq (.ref a) (.ref b)) Q E s := by
  refine wpAny_richCompare_same_room (op := .NotEq) da.typeIs db.typeIs PySem.F.slot_dict_ne (wpAny_call_entry PySem.F.slot_dict_ne da.typeIs PySem.F.entry_dict_ne ?_ (PySem.F.args_dict_ne_2 _ _)) hu
  show wpAny _ _ (Builtin.Dict.dictSlotArgs "__ne__" ⟨[.ref a, .ref b], []⟩ >>= _) _ _ s
  refine wpAny_bind ?_
  unfold Builtin.Dict.dictSlotArgs
  refine wpAny_bind (wpAny_notOrdered_dict da.typeIs ?_)
  show wpAny _ _ (pure (Value.ref a, Value.ref b)) _ _ s
  refine wpAny_pure ?_
  refine wpAny_bind (wpAny_isInstance (T := "dict") db.typeIs PySem.F.sub_dict_dict ?_)
  simp only [Bool.not_true, Bool.false_eq_true, if_false]
  refine wpAny_bind (wpAny_pure (wpAny_bind (wpAny_pure ?_)))
  refine wpAny_bind (PySem.W.keq_samePairsIn ha hb da db hits ?_)
  refine wpAny_pure ⟨_, rfl, ?_, ?_⟩
  · exact fun x => nomatch x
  · simpa using h
end
abbrev NoA : Addr → Prop := fun _ => False
section
variable {K : PySem.W.Frag} {H : Hp} {A : Addr → Prop} {ρ : List CA}
mutual
theorem RelD.dpX : ∀ (d : D) (v : V), d.py.canLay0 = true → RelD K H A ρ d v → Dp K H v d.py
  | .non, _, _, h => by cases h; exact .non
  | .bl b, _, _, h => by cases h; exact .bl b
  | .int i, _, _, h => by cases h; exact .int i
  | .str x, _, _, h => by cases h; exact .str x
  | .tup ds, _, c, h => by obtain ⟨a, xs, rfl, h1, h2⟩ := h; exact .tup (SqT.of h1) (RelDs.dpX ds xs c h2)
  | .lst ds, _, c, h => by obtain ⟨a, xs, rfl, h1, _, h2⟩ := h; exact .lst (SqL.of h1) (RelDs.dpX ds xs c h2)
  | .dK kvs, _, c, h => nomatch c
  | .dT _, _, c, h => nomatch c
  | .obj _, _, c, h => nomatch c
  | .scr _, _, c, h => nomatch c
theorem RelDs.dpX : ∀ (ds : List D) (vs : List V), PyData.canLayAll0 (pys ds) = true → RelDs K H A ρ ds vs → DpAll K H vs (pys ds)
  | [], _, _, h => by cases h; exact .nil
  | d :: ds, _, c, h => by
    obtain ⟨v, r, rfl, h1, h2⟩ := h
    have c' : d.py.canLay0 = true ∧ PyData.canLayAll0 (pys ds) = true := by simpa [pys, PyData.canLayAll0] using c
    exact .cons (RelD.dpX d v c'.1 h1) (RelDs.dpX ds r c'.2 h2)
end
mutual
theorem seeD : ∀ (d : D) (v : V), RelD K H A ρ d v → RelD K H NoA ρ d v
  | .non, _, h => h
  | .bl _, _, h => h
  | .int _, _, h => h
  | .str _, _, h => h
  | .tup ds, _, h => by obtain ⟨a, xs, e, h1, h2⟩ := h; exact ⟨a, xs, e, h1, seeDs ds xs h2⟩
  | .lst ds, _, h => by obtain ⟨a, xs, e, h1, _, h2⟩ := h; exact ⟨a, xs, e, h1, id, seeDs ds xs h2⟩
  | .dK ds, _, h => by obtain ⟨a, xs, e, h1, _, h2⟩ := h; exact ⟨a, xs, e, h1, id, seeK ds xs h2⟩
  | .dT ds, _, h => by obtain ⟨a, xs, e, h1, _, h2⟩ := h; exact ⟨a, xs, e, h1, id, seeT ds xs h2⟩
  | .obj n, _, h => h
  | .scr ns, _, h => by
    obtain ⟨a, e, h⟩ := h
    rcases h with ⟨o, h1, _⟩ | h
    · exact ⟨a, e, .inl ⟨o, h1, id⟩⟩
    · exact ⟨a, e, .inr h⟩
theorem seeDs : ∀ (ds : List D) (vs : List V), RelDs K H A ρ ds vs → RelDs K H NoA ρ ds vs
  | [], _, h => h
  | d :: ds, _, h => by obtain ⟨v, r, e, h1, h2⟩ := h; exact ⟨v, r, e, seeD d v h1, seeDs ds r h2⟩
theorem seeK : ∀ (ds : List (Key × D)) (vs : List (Key × V)), RelK K H A ρ ds vs → RelK K H NoA ρ ds vs
  | [], _, h => h
  | (k, d) :: ds, _, h => by obtain ⟨v, r, e, h1, h2⟩ := h; exact ⟨v, r, e, seeD d v h1, seeK ds r h2⟩
theorem seeT : ∀ (ds : List (List Key × D)) (vs : List (List Key × V)), RelT K H A ρ ds vs → RelT K H NoA ρ ds vs
  | [], _, h => h
  | (k, d) :: ds, _, h => by obtain ⟨v, r, e, h1, h2⟩ := h; exact ⟨v, r, e, seeD d v h1, seeT ds r h2⟩
end
def RelP {κ : Type} (K : PySem.W.Frag) (H : Hp) (A : Addr → Prop) (ρ : List CA) : List (κ × D) → List (κ × V) → Prop := Paired fun p q => p.1 = q.1 ∧ RelD K H A ρ p.2 q.2
theorem RelK.p : ∀ {kvs : List (Key × D)} {ws : List (Key × V)}, RelK K H A ρ kvs ws → RelP K H A ρ kvs ws
  | [], _, h => by cases h; exact .nil
  | (k, d) :: r, _, h => by obtain ⟨v, q, rfl, h1, h2⟩ := h; exact .cons ⟨rfl, h1⟩ (RelK.p h2)
theorem RelT.p : ∀ {kvs : List (List Key × D)} {ws : List (List Key × V)}, RelT K H A ρ kvs ws → RelP K H A ρ kvs ws
  | [], _, h => by cases h; exact .nil
  | (k, d) :: r, _, h => by obtain ⟨v, q, rfl, h1, h2⟩ := h; exact .cons ⟨rfl, h1⟩ (RelT.p h2)
theorem RelP.val {κ : Type} [DecidableEq κ] {kvs : List (κ × D)} {ws : List (κ × V)} (r : RelP K H A ρ kvs ws) (k : κ) : (valD kvs k = none ∧ valV ws k = none) ∨ ∃ d v, valD kvs k = some d ∧ valV ws k = some v ∧ RelD K H A ρ d v := by
  unfold RelP at r
  induction r with
  | nil => exact .inl ⟨rfl, rfl⟩
  | @cons p q ps qs h t ih =>
    obtain ⟨h1, h2⟩ := h
    by_cases e : p.1 = k
    · have e' : q.1 = k := h1.symm.trans e
      have b : valD (p :: ps) k = some p.2 := by simp [valD, List.find?_cons, e]
      rw [b, valV_pos e']; exact .inr ⟨_, _, rfl, rfl, h2⟩
    · have e' : ¬ q.1 = k := fun z => e (h1.trans z)
      have b : valD (p :: ps) k = valD ps k := by simp [valD, List.find?_cons, e]
      rw [b, valV_neg e']; exact ih
theorem RelDs.item : ∀ {ds : List D} {vs : List V}, RelDs K H A ρ ds vs → ds.length = vs.length ∧ ∀ (j : Nat) (d : D) (v : V), ds[j]? = some d → vs[j]? = some v → RelD K H A ρ d v
  | [], _, h => by cases h; exact ⟨rfl, fun j d v e => by simp at e⟩
  | x :: ds, _, h => by
    obtain ⟨v, r, rfl, h1, h2⟩ := h
    obtain ⟨l, g⟩ := RelDs.item h2
    refine ⟨by rw [List.length_cons, List.length_cons, l], fun j d u e1 e2 => ?_⟩
    cases j with
    | zero => cases e1; cases e2; exact h1
    | succ j => exact g j d u (by simpa using e1) (by simpa using e2)
end
theorem allX_ok {f : D → D → Option Bool} : ∀ {xs ys : List D} {r : Bool}, allX f xs ys = some r → ∃ e : Nat → Bool, (∀ (j : Nat) (x y : D), xs[j]? = some x → ys[j]? = some y → f x y = some (e j)) ∧ r = ((List.range (min xs.length ys.length)).all e && xs.length == ys.length)
  | [], [], r, h => by
    cases h
    exact ⟨fun _ => true, fun j x y e => by simp at e, rfl⟩
  | [], _ :: _, r, h => by
    cases h
    exact ⟨fun _ => true, fun j x y e => by simp at e, by simp⟩
  | _ :: _, [], r, h => by
    cases h
    exact ⟨fun _ => true, fun j x y _ e => by simp at e, by simp⟩
  | x :: xs, y :: ys, r, h => by
    simp only [allX, Option.bind_eq_some_iff, Option.map_eq_some_iff] at h
    obtain ⟨b, h1, c, h2, rfl⟩ := h
    obtain ⟨e, g, rfl⟩ := allX_ok h2
    refine ⟨fun j => match j with | 0 => b | j + 1 => e j, fun j x' y' e1 e2 => ?_, ?_⟩
    · cases j with
      | zero => cases e1; cases e2; exact h1
      | succ j => exact g j x' y' (by simpa using e1) (by simpa using e2)
    · have hm : min (x :: xs).length (y :: ys).length = min xs.length ys.length + 1 := by simp only [List.length_cons]; omega
      rw [hm, List.range_succ_eq_map, List.all_cons, List.all_map, Bool.and_assoc]
      have : ((x :: xs).length == (y :: ys).length) = (xs.length == ys.length) := by simp
      rw [this]
      rfl
section
variable {X : Cx} {pins : List (Addr × Obj)} {σ : L2.St} {H : Hp} {s : Shared} {ρ : List CA}
theorem nodupK (I : Inv X pins σ H s) {p : Addr} {ws : List (Key × V)} (h : Rd H p (.dK ws)) : (ws.map (·.1)).Nodup := by
  obtain ⟨_, _, vs, rel, _, _, _, _, _, _, _, _, hn⟩ := dk_rd I.hok h
  rw [rel.keys]
  exact hn
theorem kt_keys {vs : List (List Key × V)} {us : List (List Key × Addr × Value)} (h : KT H vs us) : vs.map (·.1) = us.map (·.1) := by
  unfold KT at h
  induction h with
  | nil => rfl
  | cons q _ ih => rw [List.map_cons, List.map_cons, ih, q.1]
theorem nodupT (I : Inv X pins σ H s) {p : Addr} {ws : List (List Key × V)} (h : Rd H p (.dT ws)) : (ws.map (·.1)).Nodup := by
  obtain ⟨_, _, xs, rel, _, _, _, _, _, _, _, _, hn⟩ := dt_rd I.hok h
  rw [kt_keys rel]
  exact hn
theorem rd_one {p : Addr} {u w : HO} (h : Rd H p u) (h' : Rd H p w) (hu : ∀ o x, u ≠ .frz o x) (hw : ∀ o x, w ≠ .frz o x) : u = w := by
  rcases h with h | ⟨o, h⟩ <;> rcases h' with h' | ⟨o', h'⟩
  · rw [h] at h'; exact Option.some.inj h'
  · rw [h] at h'; exact absurd (Option.some.inj h') (hu _ _)
  · rw [h] at h'; exact absurd (Option.some.inj h').symm (hw _ _)
  · rw [h] at h'; cases h'; rfl
theorem val_mem {κ : Type} [DecidableEq κ] : ∀ {ws : List (κ × V)} {k : κ} {v : V}, (ws.map (·.1)).Nodup → (k, v) ∈ ws → valV ws k = some v
  | (k', v') :: ws, k, v, hn, hm => by
    rw [List.map_cons, List.nodup_cons] at hn
    rcases List.mem_cons.mp hm with e | hm
    · cases e
      exact valV_pos rfl
    · have : k' ≠ k := fun z => hn.1 (by subst z; exact List.mem_map.mpr ⟨_, hm, rfl⟩)
      rw [valV_neg this]
      exact val_mem hn.2 hm
theorem hit_same {κ : Type} [DecidableEq κ] {f : D → D → Option Bool} (ih : ∀ a b v r, f a b = some r → RelD X.K H NoA ρ a v → RelD X.K H NoA ρ b v → (∃ u, RelV v u) → r = true) {ws : List (κ × V)} (hn : (ws.map (·.1)).Nodup) (hu : ∀ q ∈ ws, ∃ u, RelV q.2 u) {ls : List (κ × D)} (rl : RelP X.K H NoA ρ ls ws) :
    ∀ {ks : List (κ × D)} {us : List (κ × V)} {r : Bool}, RelP X.K H NoA ρ ks us → (∀ q ∈ us, q ∈ ws) → hitX f ls ks = some r → r = true
  | [], _, r, _, _, h => by cases h; rfl
  | p :: ks, _, r, rk, hs, h => by
    cases rk with
    | @cons _ q _ qs h1 h2 =>
      obtain ⟨e1, e2⟩ := h1
      have hq := hs _ List.mem_cons_self
      have hv : valV ws p.1 = some q.2 := by
        rw [e1]
        exact val_mem hn hq
      simp only [hitX] at h
      rcases rl.val p.1 with ⟨_, z'⟩ | ⟨d, v, z1, z2, z3⟩
      · rw [hv] at z'; cases z'
      · rw [hv] at z2
        cases z2
        rw [z1] at h
        simp only [Option.bind_eq_some_iff, Option.map_eq_some_iff] at h
        obtain ⟨b, h3, c, h4, rfl⟩ := h
        rw [ih _ _ _ _ h3 e2 z3 (hu _ hq), hit_same ih hn hu rl h2 (fun x hx => hs x (List.mem_cons_of_mem _ hx)) h4]
        rfl
theorem all_same {f : D → D → Option Bool} (ih : ∀ a b v r, f a b = some r → RelD X.K H NoA ρ a v → RelD X.K H NoA ρ b v → (∃ u, RelV v u) → r = true) : ∀ {xs ys : List D} {vs : List V} {r : Bool}, RelDs X.K H NoA ρ xs vs → RelDs X.K H NoA ρ ys vs → (∀ v ∈ vs, ∃ u, RelV v u) → allX f xs ys = some r → r = true
  | [], ys, vs, r, h1, h2, hu, h => by
    cases h1
    cases ys with
    | nil => cases h; rfl
    | cons y ys => obtain ⟨_, _, e, _⟩ := h2; cases e
  | x :: xs, ys, vs, r, h1, h2, hu, h => by
    obtain ⟨v, q, rfl, a1, a2⟩ := h1
    cases ys with
    | nil => cases h2
    | cons y ys =>
      obtain ⟨v', q', e, b1, b2⟩ := h2
      cases e
      simp only [allX, Option.bind_eq_some_iff, Option.map_eq_some_iff] at h
      obtain ⟨b, h3, c, h4, rfl⟩ := h
      rw [ih _ _ _ _ h3 a1 b1 (hu _ List.mem_cons_self), all_same ih a2 b2 (fun v hv => hu v (List.mem_cons_of_mem _ hv)) h4]
      rfl
theorem vals_ex {vs : List V} {us : List Value} (h : Vals vs us) : ∀ v ∈ vs, ∃ u, RelV v u := by
  induction h with
  | nil => exact fun v hv => nomatch hv
  | cons h _ ih =>
    intro v hv
    rcases List.mem_cons.mp hv with e | hv
    · subst e; exact ⟨_, h⟩
    · exact ih v hv
theorem kv_ex {κ : Type} {vs : List (κ × V)} {us : List (κ × Value)} (h : KV vs us) : ∀ v ∈ vs, ∃ u, RelV v.2 u := by
  unfold KV at h
  induction h with
  | nil => exact fun v hv => nomatch hv
  | cons h _ ih =>
    intro v hv
    rcases List.mem_cons.mp hv with e | hv
    · subst e; exact ⟨_, h.2⟩
    · exact ih v hv
theorem kt_ex {vs : List (List Key × V)} {us : List (List Key × Addr × Value)} (h : KT H vs us) : ∀ v ∈ vs, ∃ u, RelV v.2 u := by
  unfold KT at h
  induction h with
  | nil => exact fun v hv => nomatch hv
  | cons h _ ih =>
    intro v hv
    rcases List.mem_cons.mp hv with e | hv
    · subst e; exact ⟨_, h.2.2⟩
    · exact ih v hv
theorem eqX_same (I : Inv X pins σ H s) : ∀ (n : Nat) (a b : D) (v : V) (r : Bool), eqX n a b = some r → RelD X.K H NoA ρ a v → RelD X.K H NoA ρ b v → (∃ u, RelV v u) → r = true
  | 0, _, _, _, _, h, _, _, _ => nomatch h
  | n + 1, a, b, v, r, h, ra, rb, ⟨u, rv⟩ => by
    have ih := eqX_same I n
    simp only [eqX] at h
    split at h
    · rename_i hf
      cases h
      rw [Bool.and_eq_true] at hf
      have la := SeqAt.canLay_of_shaped hf.1
      have lb := SeqAt.canLay_of_shaped hf.2
      obtain ⟨as, r1⟩ := Dp.reads I _ v u (RelD.dpX a v la ra) rv
      obtain ⟨bs, r2⟩ := Dp.reads I _ v u (RelD.dpX b v lb rb) rv
      have e := SeqAt.Reads.unique _ _ _ _ _ la r1 r2
      unfold eqv
      rw [← e]
      exact SeqAt.eqv_refl _ la
    · unfold eqR at h
      split at h
      · obtain ⟨p, xs, rfl, h1, h2⟩ := ra
        obtain ⟨p', xs', e, h1', h2'⟩ := rb
        cases e
        rw [h1] at h1'
        cases h1'
        obtain ⟨its, rv', _⟩ := I.tuple (SqT.of h1)
        exact all_same ih h2 h2' (vals_ex rv') h
      · obtain ⟨p, xs, rfl, h1, _, h2⟩ := ra
        obtain ⟨p', xs', e, h1', _, h2'⟩ := rb
        cases e
        rw [h1] at h1'
        cases h1'
        obtain ⟨its, rv', _⟩ := I.list (SqL.of h1)
        exact all_same ih h2 h2' (vals_ex rv') h
      · obtain ⟨p, ws, rfl, h1, _, h2⟩ := ra
        obtain ⟨p', ws', e, h1', _, h2'⟩ := rb
        cases e
        cases rd_one h1 h1' (fun _ _ z => nomatch z) (fun _ _ z => nomatch z)
        obtain ⟨_, _, vs, rel, _⟩ := dk_rd I.hok h1
        rw [if_pos ((Paired.length h2.p).trans (Paired.length h2'.p).symm)] at h
        exact hit_same ih (nodupK I h1) (kv_ex rel) h2'.p h2.p (fun _ hq => hq) h
      · obtain ⟨p, ws, rfl, h1, _, h2⟩ := ra
        obtain ⟨p', ws', e, h1', _, h2'⟩ := rb
        cases e
        cases rd_one h1 h1' (fun _ _ z => nomatch z) (fun _ _ z => nomatch z)
        obtain ⟨_, _, xs, rel, _⟩ := dt_rd I.hok h1
        rw [if_pos ((Paired.length h2.p).trans (Paired.length h2'.p).symm)] at h
        exact hit_same ih (nodupT I h1) (kt_ex rel) h2'.p h2.p (fun _ hq => hq) h
      · cases h
theorem item_run {F : D → D → Option Bool} {A : Around} (ih : ∀ (a b : D) (v u : V) (x y : Value) (r : Bool), F a b = some r → RelD X.K H NoA ρ a v → RelD X.K H NoA ρ b u → RelV v x → RelV u y → EqIn X.prog X.w A s x y r)
    {xs ys : List D} {vs us : List V} {its its' : List Value} (h1 : RelDs X.K H NoA ρ xs vs) (h2 : RelDs X.K H NoA ρ ys us) (r1 : Vals vs its) (r2 : Vals us its') {e : Nat → Bool} (he : ∀ (j : Nat) (x y : D), xs[j]? = some x → ys[j]? = some y → F x y = some (e j)) :
    ∀ j (g1 : j < its.toArray.size) (g2 : j < its'.toArray.size), EqIn X.prog X.w A s its.toArray[j] its'.toArray[j] (e j) := by
  intro j g1 g2
  have l1 := r1.length
  have l2 := r2.length
  have i1 := h1.item
  have i2 := h2.item
  have k1 : j < its.length := by simpa using g1
  have k2 : j < its'.length := by simpa using g2
  have ex := List.getElem?_eq_getElem (show j < xs.length by omega)
  have ey := List.getElem?_eq_getElem (show j < ys.length by omega)
  have ev := List.getElem?_eq_getElem (show j < vs.length by omega)
  have eu := List.getElem?_eq_getElem (show j < us.length by omega)
  have at_ : ∀ {vs : List V} {us : List Value}, Vals vs us → ∀ (j : Nat) (v : V) (u : Value), vs[j]? = some v → us[j]? = some u → RelV v u := by
    intro vs us h
    induction h with
    | nil => intro j v u e; simp at e
    | cons h _ ih =>
      intro j v u e1 e2
      cases j with
      | zero => cases e1; cases e2; exact h
      | succ j => exact ih j v u (by simpa using e1) (by simpa using e2)
  have q := ih _ _ _ _ _ _ _ (he j _ _ ex ey) (i1.2 j _ _ ex ev) (i2.2 j _ _ ey eu) (at_ r1 j _ _ ev (List.getElem?_eq_getElem k1)) (at_ r2 j _ _ eu (List.getElem?_eq_getElem k2))
  simpa using q
theorem hit_run {κ : Type} [DecidableEq κ] {F : D → D → Option Bool} {A : Around} (ih : ∀ (a b : D) (v u : V) (x y : Value) (r : Bool), F a b = some r → RelD X.K H NoA ρ a v → RelD X.K H NoA ρ b u → RelV v x → RelV u y → EqIn X.prog X.w A s x y r)
    {ls : List (κ × D)} {ul : List (κ × V)} {kb : List (κ × Value)} (hl : RelP X.K H NoA ρ ls ul) (hb : ∀ k, RelO (valV ul k) (valueAt kb k)) :
    ∀ {ks : List (κ × D)} {uk : List (κ × V)} {ka : List (κ × Value)} {r : Bool}, RelP X.K H NoA ρ ks uk → Paired (fun (p : κ × V) (q : κ × Value) => p.1 = q.1 ∧ RelV p.2 q.2) uk ka → hitX F ls ks = some r → KeqHitsIn X.prog X.w A s kb ka r
  | [], _, _, r, rk, ra, h => by
    cases rk
    cases ra
    cases h
    exact .nil
  | p :: ks, _, _, r, rk, ra, h => by
    cases rk with
    | cons h1 h2 =>
      cases ra with
      | @cons q k9 qs ks9 g1 g2 =>
        obtain ⟨e1, e2⟩ := h1
        obtain ⟨f1, f2⟩ := g1
        obtain ⟨kk, kv⟩ := k9
        have f1 : _ = kk := f1
        have ek : p.1 = kk := e1.trans f1
        have hk := hb p.1
        simp only [hitX] at h
        rw [ek] at h hk
        have hl' := hl.val kk
        rcases hl' with ⟨z1, z2⟩ | ⟨d, v, z1, z2, z3⟩
        · rw [z1] at h
          cases h
          rw [z2] at hk
          refine .miss ?_
          cases e : valueAt kb kk with
          | none => rfl
          | some _ => rw [e] at hk; exact hk.elim
        · rw [z1] at h
          simp only [Option.bind_eq_some_iff, Option.map_eq_some_iff] at h
          obtain ⟨b, h3, c, h4, rfl⟩ := h
          rw [z2] at hk
          obtain ⟨y, hy, ry⟩ := hk.some_of
          exact .hit hy (ih _ _ _ _ _ _ _ h3 e2 z3 f2 ry) (hit_run ih hl hb h2 g2 h4)
theorem kt_pairs {ws : List (List Key × V)} {va : List (List Key × Addr × Value)} (h : KT H ws va) : Paired (fun (p : List Key × V) (q : List Key × Value) => p.1 = q.1 ∧ RelV p.2 q.2) ws (prsH va) := by
  unfold KT at h
  induction h with
  | nil => exact .nil
  | cons q _ ih => exact .cons ⟨q.1, q.2.2⟩ ih
theorem eqR_run (I : Inv X pins σ H s) {F : D → D → Option Bool} {A : Around} (hu : A.units + 2 < cLine) (ih : ∀ (a b : D) (v u : V) (x y : Value) (r : Bool), F a b = some r → RelD X.K H NoA ρ a v → RelD X.K H NoA ρ b u → RelV v x → RelV u y → EqIn X.prog X.w A.in1 s x y r)
    {a b : D} {v u : V} {x y : Value} {r : Bool} (h : eqR F a b = some r) (ra : RelD X.K H NoA ρ a v) (rb : RelD X.K H NoA ρ b u) (rv : RelV v x) (ru : RelV u y) :
    ∃ p q, x = .ref p ∧ y = .ref q ∧ v = .ref p ∧ u = .ref q ∧ ∀ (E Q : Value → Shared → Prop), Q (.bool r) s → wpAny (model X.prog X.w) A (richCompare .Eq x y) Q E s := by
  unfold eqR at h
  split at h
  · rename_i ds es
    obtain ⟨p, xs, rfl, h1, h2⟩ := ra
    obtain ⟨q, ys, rfl, g1, g2⟩ := rb
    cases rv
    cases ru
    obtain ⟨its, r1, t1, _⟩ := I.tuple (SqT.of h1)
    obtain ⟨its', r2, t2, _⟩ := I.tuple (SqT.of g1)
    obtain ⟨e, he, rfl⟩ := allX_ok h
    refine ⟨p, q, rfl, rfl, rfl, rfl, fun E Q hq => rcIn_tuples t1 t2 (by omega) (item_run ih h2 g2 r1 r2 he) ?_⟩
    have l1 : its.toArray.size = ds.length := by rw [List.size_toArray, ← r1.length, ← h2.item.1]
    have l2 : its'.toArray.size = es.length := by rw [List.size_toArray, ← r2.length, ← g2.item.1]
    rw [l1, l2]
    exact hq
  · rename_i ds es
    obtain ⟨p, xs, rfl, h1, _, h2⟩ := ra
    obtain ⟨q, ys, rfl, g1, _, g2⟩ := rb
    cases rv
    cases ru
    obtain ⟨its, r1, t1, _⟩ := I.list (SqL.of h1)
    obtain ⟨its', r2, t2, _⟩ := I.list (SqL.of g1)
    obtain ⟨e, he, rfl⟩ := allX_ok h
    have l1 : its.toArray.size = ds.length := by rw [List.size_toArray, ← r1.length, ← h2.item.1]
    have l2 : its'.toArray.size = es.length := by rw [List.size_toArray, ← r2.length, ← g2.item.1]
    refine ⟨p, q, rfl, rfl, rfl, rfl, fun E Q hq => ?_⟩
    by_cases hsz : its.toArray.size = its'.toArray.size
    · refine rcIn_lists t1.isList t2.isList hsz (by omega) (item_run ih h2 g2 r1 r2 he) ?_
      have e2 := l1.symm.trans (hsz.trans l2)
      rw [e2, Nat.min_self, beq_self_eq_true, Bool.and_true] at hq
      rw [hsz, l2]
      exact hq
    · have hne : (its.toArray.size != its'.toArray.size) = true := by simpa using hsz
      have e2 : (ds.length == es.length) = false := by
        rw [beq_eq_false_iff_ne]
        rw [l1, l2] at hsz
        exact hsz
      rw [e2, Bool.and_false] at hq
      exact SeqAt.RcAt.lists_lengths t1.isList t2.isList hne (by omega) X.prog X.w E Q hq
  · rename_i ds es
    obtain ⟨p, ws, rfl, h1, _, h2⟩ := ra
    obtain ⟨q, ws', rfl, g1, _, g2⟩ := rb
    cases rv
    cases ru
    obtain ⟨_, ya, va, k1, da⟩ := dk_rd I.hok h1
    obtain ⟨_, yb, vb, k2, db⟩ := dk_rd I.hok g1
    refine ⟨p, q, rfl, rfl, rfl, rfl, fun E Q hq => ?_⟩
    have la := (Paired.length h2.p).trans k1.length
    have lb := (Paired.length g2.p).trans k2.length
    by_cases hl : ds.length = es.length
    · rw [if_pos hl] at h
      refine PySem.W.keq_eqIn (knd := mixKind X.prog X.w) (r := r) ya yb da db (by omega) (fun _ => hit_run ih g2.p (fun k => k2.val k) h2.p k1 h) ?_
      rw [← la, ← lb, hl, beq_self_eq_true, Bool.true_and]
      exact hq
    · rw [if_neg hl] at h
      cases h
      refine PySem.W.keq_eqIn (knd := mixKind X.prog X.w) (r := true) ya yb da db (by omega) (fun z => absurd (by rw [← la, ← lb] at z; exact z) hl) ?_
      rw [← la, ← lb, beq_eq_false_iff_ne.mpr hl, Bool.false_and]
      exact hq
  · rename_i ds es
    obtain ⟨p, ws, rfl, h1, _, h2⟩ := ra
    obtain ⟨q, ws', rfl, g1, _, g2⟩ := rb
    cases rv
    cases ru
    obtain ⟨_, ya, va, k1, da⟩ := dt_rd I.hok h1
    obtain ⟨_, yb, vb, k2, db⟩ := dt_rd I.hok g1
    refine ⟨p, q, rfl, rfl, rfl, rfl, fun E Q hq => ?_⟩
    have la := (Paired.length h2.p).trans (Paired.length k1)
    have lb := (Paired.length g2.p).trans (Paired.length k2)
    have kp := kt_pairs k1
    have hb : ∀ k, RelO (valV ws' k) (valueAt (prsH vb) k) := fun k => by rw [val_at]; exact k2.val k
    by_cases hl : ds.length = es.length
    · rw [if_pos hl] at h
      refine eq_heap (knd := tupleKind (mixKind X.prog X.w)) (r := r) (tupleKind_room_in1 (by omega)) ya yb da db (by omega) (fun _ => hit_run ih g2.p hb h2.p kp h) ?_
      rw [← la, ← lb, hl, beq_self_eq_true, Bool.true_and]
      exact hq
    · rw [if_neg hl] at h
      cases h
      refine eq_heap (knd := tupleKind (mixKind X.prog X.w)) (r := true) (tupleKind_room_in1 (by omega)) ya yb da db (by omega) (fun z => absurd (by rw [← la, ← lb] at z; exact z) hl) ?_
      rw [← la, ← lb, beq_eq_false_iff_ne.mpr hl, Bool.false_and]
      exact hq
  · cases h
theorem eqX_run (I : Inv X pins σ H s) : ∀ (n : Nat) (A : Around), A.units + n + 66 < cLine → ∀ (a b : D) (v u : V) (x y : Value) (r : Bool), eqX n a b = some r → RelD X.K H NoA ρ a v → RelD X.K H NoA ρ b u → RelV v x → RelV u y → EqIn X.prog X.w A s x y r
  | 0, _, _, _, _, _, _, _, _, _, h, _, _, _, _ => nomatch h
  | n + 1, A, hu, a, b, v, u, x, y, r, h, ra, rb, rv, ru => by
    have same : v = u → r = true := fun e => by
      subst e
      exact eqX_same I (n + 1) a b v r h ra rb ⟨x, rv⟩
    simp only [eqX] at h
    split at h
    · rename_i hf
      cases h
      rw [Bool.and_eq_true] at hf
      have la := SeqAt.canLay_of_shaped hf.1
      have lb := SeqAt.canLay_of_shaped hf.2
      obtain ⟨as, r1⟩ := Dp.reads I _ v x (RelD.dpX a v la ra) rv
      obtain ⟨bs, r2⟩ := Dp.reads I _ u y (RelD.dpX b u lb rb) ru
      exact (SeqAt.eqAt_reads a.py b.py A s x y as bs r1 r2 la lb (SeqAt.room_of_shaped hf.1 (by omega))).inModel _ _
    · obtain ⟨p, q, ex, ey, ev, eu, g⟩ := eqR_run I (A := A) (by omega) (eqX_run I n A.in1 (by show A.units + 1 + n + 66 < cLine; omega)) h ra rb rv ru
      subst ex
      subst ey
      by_cases e : p = q
      · subst e
        rw [same (ev.trans eu.symm)]
        exact (SeqAt.EqAt.same _).inModel _ _
      · exact EqIn.of_refs e g
theorem neD_run (I : Inv X pins σ H s) {A : Around} (hu : A.units + 80 < cLine) {a b : D} {v u : V} {x y : Value} {r : Bool} (h : eqDD a b = some r) (ra : RelD X.K H NoA ρ a v) (rb : RelD X.K H NoA ρ b u) (rv : RelV v x) (ru : RelV u y)
    (E Q : Value → Shared → Prop) (hq : Q (.bool (!r)) s) : wpAny (model X.prog X.w) A (richCompare .NotEq x y) Q E s := by
  have ih := eqX_run (ρ := ρ) I 8 A.in1 (by show A.units + 1 + 8 + 66 < cLine; omega)
  unfold eqDD at h
  split at h
  · rename_i ds es
    unfold eqR at h
    obtain ⟨p, ws, rfl, h1, _, h2⟩ := ra
    obtain ⟨q, ws', rfl, g1, _, g2⟩ := rb
    cases rv
    cases ru
    obtain ⟨_, ya, va, k1, da⟩ := dk_rd I.hok h1
    obtain ⟨_, yb, vb, k2, db⟩ := dk_rd I.hok g1
    have la := (Paired.length h2.p).trans k1.length
    have lb := (Paired.length g2.p).trans k2.length
    simp only at h
    by_cases hl : ds.length = es.length
    · rw [if_pos hl] at h
      refine neK_heap ya yb da db (r := r) (by omega) (fun _ => hit_run ih g2.p (fun k => k2.val k) h2.p k1 h) ?_
      rw [← la, ← lb, hl, beq_self_eq_true, Bool.true_and]
      exact hq
    · rw [if_neg hl] at h
      cases h
      refine neK_heap ya yb da db (r := true) (by omega) (fun z => absurd (by rw [← la, ← lb] at z; exact z) hl) ?_
      rw [← la, ← lb, beq_eq_false_iff_ne.mpr hl, Bool.false_and]
      exact hq
  · rename_i ds es
    unfold eqR at h
    obtain ⟨p, ws, rfl, h1, _, h2⟩ := ra
    obtain ⟨q, ws', rfl, g1, _, g2⟩ := rb
    cases rv
    cases ru
    obtain ⟨_, ya, va, k1, da⟩ := dt_rd I.hok h1
    obtain ⟨_, yb, vb, k2, db⟩ := dt_rd I.hok g1
    have la := (Paired.length h2.p).trans (Paired.length k1)
    have lb := (Paired.length g2.p).trans (Paired.length k2)
    have kp := kt_pairs k1
    have hb : ∀ k, RelO (valV ws' k) (valueAt (prsH vb) k) := fun k => by rw [val_at]; exact k2.val k
    simp only at h
    by_cases hl : ds.length = es.length
    · rw [if_pos hl] at h
      refine ne_heap (knd := tupleKind (mixKind X.prog X.w)) (r := r) (tupleKind_room_in1 (by omega)) ya yb da db (by omega) (fun _ => hit_run ih g2.p hb h2.p kp h) ?_
      rw [← la, ← lb, hl, beq_self_eq_true, Bool.true_and]
      exact hq
    · rw [if_neg hl] at h
      cases h
      refine ne_heap (knd := tupleKind (mixKind X.prog X.w)) (r := true) (tupleKind_room_in1 (by omega)) ya yb da db (by omega) (fun z => absurd (by rw [← la, ← lb] at z; exact z) hl) ?_
      rw [← la, ← lb, beq_eq_false_iff_ne.mpr hl, Bool.false_and]
      exact hq
  · rename_i ds es
    by_cases hl : ds.length = es.length
    · rw [if_pos hl] at h; cases h
    · rw [if_neg hl] at h
      cases h
      obtain ⟨p, xs, rfl, h1, _, h2⟩ := ra
      obtain ⟨q, ys, rfl, g1, _, g2⟩ := rb
      cases rv
      cases ru
      obtain ⟨its, r1, t1, _⟩ := I.list (SqL.of h1)
      obtain ⟨its', r2, t2, _⟩ := I.list (SqL.of g1)
      have l1 : its.toArray.size = ds.length := by rw [List.size_toArray, ← r1.length, ← h2.item.1]
      have l2 : its'.toArray.size = es.length := by rw [List.size_toArray, ← r2.length, ← g2.item.1]
      have hne : (its.toArray.size != its'.toArray.size) = true := by rw [l1, l2]; simpa using hl
      exact SeqAt.RcNeAt.lists_lengths t1.isList t2.isList hne (by omega) X.prog X.w E Q hq
  · cases h
end
end MP
namespace MP
open PySem L2
section
variable {K : PySem.W.Frag} {H H' : Hp} {A : Addr → Prop} {ρ : List CA} {v w : V}
theorem Pk.int {i : Int} (h : Pk K H A ρ (.int i) v) : v = .int i := h.elim id fun ⟨_, _, _, _, h⟩ => h.elim
theorem Pk.bl {i : Bool} (h : Pk K H A ρ (.bl i) v) : v = .bl i := h.elim id fun ⟨_, _, _, _, h⟩ => h.elim
theorem Pk.non (h : Pk K H A ρ .non v) : v = .non := h.elim id fun ⟨_, _, _, _, h⟩ => h.elim
theorem Pk.str {i : Str} (h : Pk K H A ρ (.str i) v) : v = .str i := h.elim id fun ⟨_, _, _, _, h⟩ => h.elim
theorem Pk.tup {ds : List D} (h : Pk K H A ρ (.tup ds) v) : ∃ a xs, v = .ref a ∧ H a = some (.tup xs) ∧ RelDs K H A ρ ds xs := h.elim id fun ⟨_, _, _, _, h⟩ => h.elim
theorem Pk.lst {ds : List D} (h : Pk K H A ρ (.lst ds) v) : ∃ a xs, v = .ref a ∧ H a = some (.lst xs) ∧ RelDs K H A ρ ds xs := by
  rcases h with ⟨a, xs, e, h1, _, h2⟩ | ⟨p, e, _, _, xs, h1, h2⟩
  · exact ⟨a, xs, e, h1, h2⟩
  · exact ⟨p, xs, e, h1, h2⟩
theorem Pk.dK {ds} (h : Pk K H A ρ (.dK ds) v) : ∃ a xs, v = .ref a ∧ Rd H a (.dK xs) ∧ RelK K H A ρ ds xs := by
  rcases h with ⟨a, xs, e, h1, _, h2⟩ | ⟨p, e, _, _, xs, h1, h2⟩
  · exact ⟨a, xs, e, h1, h2⟩
  · exact ⟨p, xs, e, h1, h2⟩
theorem Pk.dT {ds} (h : Pk K H A ρ (.dT ds) v) : ∃ a xs, v = .ref a ∧ Rd H a (.dT xs) ∧ RelT K H A ρ ds xs := by
  rcases h with ⟨a, xs, e, h1, _, h2⟩ | ⟨p, e, _, _, xs, h1, h2⟩
  · exact ⟨a, xs, e, h1, h2⟩
  · exact ⟨p, xs, e, h1, h2⟩
theorem Pk.obj {n : Nat} (h : Pk K H A ρ (.obj n) v) : ∃ c, ρ[n]? = some c ∧ v = .ref c.a := h.elim id fun ⟨_, _, _, _, h⟩ => h.elim
theorem Pk.scr {ns : List Int} (h : Pk K H A ρ (.scr ns) v) : ∃ a, v = .ref a ∧ SqL K H a (ns.map V.int) := by
  rcases h with ⟨a, e, h⟩ | ⟨_, _, _, _, h⟩
  · refine ⟨a, e, ?_⟩
    rcases h with ⟨o, h, _⟩ | h
    · exact .inl (.inr ⟨o, h⟩)
    · exact .inr h
  · exact h.elim
def Lk (K : PySem.W.Frag) (H : Hp) (A : Addr → Prop) (ρ : List CA) (d : D) (v : V) : Prop := RelD K H A ρ d v ∨ ∃ p, v = .ref p ∧ PeekAt K H A ρ p d
theorem Pk.lk {d : D} (h : Pk K H A ρ d v) : Lk K H A ρ d v := by
  rcases h with h | ⟨p, e, _, _, h⟩
  · exact .inl h
  · exact .inr ⟨p, e, h⟩
theorem Lk.int {i : Int} (h : Lk K H A ρ (.int i) v) : v = .int i := h.elim id fun ⟨_, _, h⟩ => h.elim
theorem Lk.bl {i : Bool} (h : Lk K H A ρ (.bl i) v) : v = .bl i := h.elim id fun ⟨_, _, h⟩ => h.elim
theorem Lk.non (h : Lk K H A ρ .non v) : v = .non := h.elim id fun ⟨_, _, h⟩ => h.elim
theorem Lk.str {i : Str} (h : Lk K H A ρ (.str i) v) : v = .str i := h.elim id fun ⟨_, _, h⟩ => h.elim
theorem Lk.tup {ds : List D} (h : Lk K H A ρ (.tup ds) v) : ∃ a xs, v = .ref a ∧ H a = some (.tup xs) ∧ RelDs K H A ρ ds xs := h.elim id fun ⟨_, _, h⟩ => h.elim
theorem Lk.lst {ds : List D} (h : Lk K H A ρ (.lst ds) v) : ∃ a xs, v = .ref a ∧ H a = some (.lst xs) ∧ RelDs K H A ρ ds xs := by
  rcases h with ⟨a, xs, e, h1, _, h2⟩ | ⟨p, e, xs, h1, h2⟩
  · exact ⟨a, xs, e, h1, h2⟩
  · exact ⟨p, xs, e, h1, h2⟩
theorem Lk.dK {ds} (h : Lk K H A ρ (.dK ds) v) : ∃ a xs, v = .ref a ∧ Rd H a (.dK xs) ∧ RelK K H A ρ ds xs := by
  rcases h with ⟨a, xs, e, h1, _, h2⟩ | ⟨p, e, xs, h1, h2⟩
  · exact ⟨a, xs, e, h1, h2⟩
  · exact ⟨p, xs, e, h1, h2⟩
theorem Lk.dT {ds} (h : Lk K H A ρ (.dT ds) v) : ∃ a xs, v = .ref a ∧ Rd H a (.dT xs) ∧ RelT K H A ρ ds xs := by
  rcases h with ⟨a, xs, e, h1, _, h2⟩ | ⟨p, e, xs, h1, h2⟩
  · exact ⟨a, xs, e, h1, h2⟩
  · exact ⟨p, xs, e, h1, h2⟩
theorem Lk.obj {n : Nat} (h : Lk K H A ρ (.obj n) v) : ∃ c, ρ[n]? = some c ∧ v = .ref c.a := h.elim id fun ⟨_, _, h⟩ => h.elim
theorem Lk.scr {ns : List Int} (h : Lk K H A ρ (.scr ns) v) : ∃ a, v = .ref a ∧ SqL K H a (ns.map V.int) := by
  rcases h with h | ⟨_, _, h⟩
  · exact Pk.scr (.inl h)
  · exact h.elim
section
variable {κ : Type} [DecidableEq κ]
def RelOD (K : PySem.W.Frag) (H : Hp) (A : Addr → Prop) (ρ : List CA) : Option D → Option V → Prop
  | some d, ov => ∃ v, ov = some v ∧ RelD K H A ρ d v
  | none, ov => ov = none
theorem RelOD.isSome {o : Option D} {ov : Option V} (h : RelOD K H A ρ o ov) : ov.isSome = o.isSome := by
  cases o with
  | none => have h : ov = none := h; rw [h]; rfl
  | some d => obtain ⟨v, h, _⟩ := h; rw [h]; rfl
def RelG (K : PySem.W.Frag) (H : Hp) (A : Addr → Prop) (ρ : List CA) : List (κ × D) → List (κ × V) → Prop := Paired fun p q => p.1 = q.1 ∧ RelD K H A ρ p.2 q.2
theorem RelG.val {kvs : List (κ × D)} {ws : List (κ × V)} (r : RelG K H A ρ kvs ws) (k : κ) : RelOD K H A ρ (valD kvs k) (valV ws k) := by
  unfold RelG at r
  induction r with
  | nil => exact rfl
  | @cons p q ps qs h t ih =>
    obtain ⟨h1, h2⟩ := h
    by_cases e : p.1 = k
    · have e' : q.1 = k := h1.symm.trans e
      have b : valD (p :: ps) k = some p.2 := by simp [valD, List.find?_cons, e]
      rw [b, valV_pos e']; exact ⟨_, rfl, h2⟩
    · have e' : ¬ q.1 = k := fun z => e (h1.trans z)
      have b : valD (p :: ps) k = valD ps k := by simp [valD, List.find?_cons, e]
      rw [b, valV_neg e']; exact ih
theorem RelG.any {kvs : List (κ × D)} {ws : List (κ × V)} (r : RelG K H A ρ kvs ws) (k : κ) : (kvs.any fun kv => decide (kv.1 = k)) = ws.any fun kv => decide (kv.1 = k) := by
  unfold RelG at r
  induction r with
  | nil => rfl
  | cons h t ih => rw [List.any_cons, List.any_cons, ih, h.1]
theorem RelG.put {kvs : List (κ × D)} {ws : List (κ × V)} (r : RelG K H A ρ kvs ws) (k : κ) {d : D} {y : V} (ry : RelD K H A ρ d y) : RelG K H A ρ (putD kvs k d) (putK ws k y) := by
  have hany := r.any k
  unfold putD putK
  rw [hany]
  by_cases e : (ws.any fun kv => decide (kv.1 = k)) = true
  · rw [if_pos e, if_pos e]
    clear hany e
    unfold RelG at r ⊢
    induction r with
    | nil => exact .nil
    | @cons p q ps qs h t ih =>
      rw [List.map_cons, List.map_cons]
      refine .cons ?_ ih
      obtain ⟨h1, h2⟩ := h
      by_cases e : p.1 = k
      · rw [if_pos e, if_pos (h1.symm.trans e)]; exact ⟨h1, ry⟩
      · rw [if_neg e, if_neg (fun z => e (h1.trans z))]; exact ⟨h1, h2⟩
  · rw [if_neg e, if_neg e]; exact Paired.snoc r ⟨rfl, ry⟩
theorem RelG.length {kvs : List (κ × D)} {ws : List (κ × V)} (r : RelG K H A ρ kvs ws) : kvs.length = ws.length := Paired.length r
theorem RelG.keys {kvs : List (κ × D)} {ws : List (κ × V)} (r : RelG K H A ρ kvs ws) : kvs.map (·.1) = ws.map (·.1) := by
  unfold RelG at r
  induction r with
  | nil => rfl
  | cons h t ih => rw [List.map_cons, List.map_cons, ih, h.1]
end
theorem RelK.g : ∀ {kvs : List (Key × D)} {ws : List (Key × V)}, RelK K H A ρ kvs ws → RelG K H A ρ kvs ws
  | [], _, h => by cases h; exact .nil
  | (k, d) :: r, _, h => by obtain ⟨v, q, rfl, h1, h2⟩ := h; exact .cons ⟨rfl, h1⟩ (RelK.g h2)
theorem RelK.of : ∀ {kvs : List (Key × D)} {ws : List (Key × V)}, RelG K H A ρ kvs ws → RelK K H A ρ kvs ws
  | [], _, h => by cases h; rfl
  | (k, d) :: r, _, h => by
    cases h with
    | @cons a b as bs h t =>
      obtain ⟨e1, e2⟩ := h
      obtain ⟨kb, vb⟩ := b
      have e1 : k = kb := e1
      subst e1
      exact ⟨vb, bs, rfl, e2, RelK.of t⟩
theorem RelT.g : ∀ {kvs : List (List Key × D)} {ws : List (List Key × V)}, RelT K H A ρ kvs ws → RelG K H A ρ kvs ws
  | [], _, h => by cases h; exact .nil
  | (k, d) :: r, _, h => by obtain ⟨v, q, rfl, h1, h2⟩ := h; exact .cons ⟨rfl, h1⟩ (RelT.g h2)
theorem RelT.of : ∀ {kvs : List (List Key × D)} {ws : List (List Key × V)}, RelG K H A ρ kvs ws → RelT K H A ρ kvs ws
  | [], _, h => by cases h; rfl
  | (k, d) :: r, _, h => by
    cases h with
    | @cons a b as bs h t =>
      obtain ⟨e1, e2⟩ := h
      obtain ⟨kb, vb⟩ := b
      have e1 : k = kb := e1
      subst e1
      exact ⟨vb, bs, rfl, e2, RelT.of t⟩
theorem asKey_ok {d : D} {k : Key} (e : asKey d = some k) : d = keyD k := by
  cases d <;> simp only [asKey] at e <;> first | (cases e; done) | (cases e; rfl)
theorem asKeys_ok : ∀ {ds : List D} {ks : List Key}, asKeys ds = some ks → ds = ks.map keyD
  | [], _, e => by cases e; rfl
  | d :: r, _, e => by
    simp only [asKeys, Option.bind_eq_some_iff, Option.map_eq_some_iff] at e
    obtain ⟨k, e1, ks, e2, rfl⟩ := e
    rw [asKey_ok e1, asKeys_ok e2]; rfl
theorem keyD_rel {k : Key} : RelD K H A ρ (keyD k) v ↔ v = kV k := by cases k <;> exact Iff.rfl
theorem keyD_lk {k : Key} (h : Lk K H A ρ (keyD k) v) : v = kV k := by cases k <;> first | exact h.int | exact h.str
theorem keys_rel : ∀ {ks : List Key} {vs : List V}, RelDs K H A ρ (ks.map keyD) vs → vs = ks.map kV
  | [], _, h => h
  | k :: ks, _, h => by
    obtain ⟨v, r, rfl, h1, h2⟩ := h
    rw [keyD_rel.mp h1, keys_rel h2]; rfl
theorem keys_of {ks : List Key} : RelDs K H A ρ (ks.map keyD) (ks.map kV) := by
  induction ks with
  | nil => rfl
  | cons k ks ih => exact ⟨kV k, _, rfl, keyD_rel.mpr rfl, ih⟩
theorem getD_ok {d k : D} {x y : V} {o : Option D} (hd : Lk K H A ρ d x) (hk : Lk K H A ρ k y) (e : getD? d k = some o) : ∃ a ov, x = .ref a ∧ DGet H a y ov ∧ RelOD K H A ρ o ov := by
  cases d <;> first | (cases e; done) | skip
  · rename_i kvs
    simp only [getD?, Option.map_eq_some_iff] at e
    obtain ⟨kk, e1, rfl⟩ := e
    obtain ⟨a, ws, rfl, h1, h2⟩ := hd.dK
    rw [asKey_ok e1] at hk
    exact ⟨a, valV ws kk, rfl, .inl ⟨ws, kk, h1, keyD_lk hk, rfl⟩, h2.g.val kk⟩
  · rename_i kvs
    cases k <;> first | (cases e; done) | skip
    rename_i ks
    simp only [getD?, Option.map_eq_some_iff] at e
    obtain ⟨kk, e1, rfl⟩ := e
    obtain ⟨a, ws, rfl, h1, h2⟩ := hd.dT
    obtain ⟨b, vs, rfl, h3, h4⟩ := hk.tup
    rw [asKeys_ok e1] at h4
    rw [keys_rel h4] at h3
    exact ⟨a, valV ws kk, rfl, .inr ⟨ws, kk, b, h1, rfl, h3, rfl⟩, h2.g.val kk⟩
mutual
theorem RelD.dp : ∀ (d : D) (v : V), d.py.canLay0 = true → RelD K H A ρ d v → Dp K H v d.py
  | .non, _, _, h => by cases h; exact .non
  | .bl b, _, _, h => by cases h; exact .bl b
  | .int i, _, _, h => by cases h; exact .int i
  | .str x, _, _, h => by cases h; exact .str x
  | .tup ds, _, c, h => by obtain ⟨a, xs, rfl, h1, h2⟩ := h; exact .tup (SqT.of h1) (RelDs.dp ds xs c h2)
  | .lst ds, _, c, h => by obtain ⟨a, xs, rfl, h1, _, h2⟩ := h; exact .lst (SqL.of h1) (RelDs.dp ds xs c h2)
  | .dK kvs, _, c, h => nomatch c
  | .dT _, _, c, h => nomatch c
  | .obj _, _, c, h => nomatch c
  | .scr _, _, c, h => nomatch c
theorem RelDs.dp : ∀ (ds : List D) (vs : List V), PyData.canLayAll0 (pys ds) = true → RelDs K H A ρ ds vs → DpAll K H vs (pys ds)
  | [], _, _, h => by cases h; exact .nil
  | d :: ds, _, c, h => by
    obtain ⟨v, r, rfl, h1, h2⟩ := h
    have c' : d.py.canLay0 = true ∧ PyData.canLayAll0 (pys ds) = true := by simpa [pys, PyData.canLayAll0] using c
    exact .cons (RelD.dp d v c'.1 h1) (RelDs.dp ds r c'.2 h2)
end
theorem Pk.dp {d : D} (c : d.py.canLay0 = true) (h : Pk K H A ρ d v) : Dp K H v d.py := by
  rcases h with h | ⟨p, rfl, _, _, h⟩
  · exact RelD.dp d v c h
  · cases d with
    | lst ds => obtain ⟨xs, h1, h2⟩ := h; exact .lst (SqL.of h1) (RelDs.dp ds xs c h2)
    | dK _ => exact nomatch c
    | dT _ => exact nomatch c
    | _ => exact h.elim
theorem Lk.dp {d : D} (c : d.py.canLay0 = true) (h : Lk K H A ρ d v) : Dp K H v d.py := by
  rcases h with h | ⟨p, rfl, h⟩
  · exact RelD.dp d v c h
  · cases d with
    | lst ds => obtain ⟨xs, h1, h2⟩ := h; exact .lst (SqL.of h1) (RelDs.dp ds xs c h2)
    | dK _ => exact nomatch c
    | dT _ => exact nomatch c
    | _ => exact h.elim
theorem MkRel.scal {d : D} (hm : modeOf d = .sh) (r : RelD K H A ρ d v) : MkRel K H A ρ d v H := ⟨fun _ _ e => e, by rw [hm]; exact r⟩
theorem kept_upd {p : Addr} {o : HO} (h : H p = none) : ∀ a u, H a = some u → upd H p o a = some u := fun a u e => by
  rw [upd_ne (ne_of_none e h)]; exact e
theorem MkRel.lst {p : Addr} {ds : List D} {xs : List V} (h : H p = none) (r : RelDs K H A ρ ds xs) : MkRel K H A ρ (.lst ds) (.ref p) (upd H p (.lst xs)) :=
  ⟨kept_upd h, p, rfl, h, xs, upd_same, r.mono (Stays.of (kept_upd h)) (fun a z => z.imp id fun e => by rw [e]; exact h) fun n c e => ⟨c, e, rfl⟩⟩
theorem MkRel.tup {p : Addr} {ds : List D} {xs : List V} (h : H p = none) (r : RelDs K H A ρ ds xs) : MkRel K H A ρ (.tup ds) (.ref p) (upd H p (.tup xs)) :=
  ⟨kept_upd h, p, xs, rfl, upd_same, r.mono (Stays.of (kept_upd h)) (fun a z => .inl z) fun n c e => ⟨c, e, rfl⟩⟩
end
def Gives (K : PySem.W.Frag) (H : Hp) (A : Addr → Prop) (ρ : List CA) (d : D) (Q : VK) : Prop := ∀ v H', MkRel K H A ρ d v H' → Q v H'
section
variable {K : PySem.W.Frag} {H : Hp} {A : Addr → Prop} {ρ : List CA} {Q : VK}
theorem Gives.int {i : Int} (g : Gives K H A ρ (.int i) Q) : Q (.int i) H := g _ _ (.scal rfl rfl)
theorem Gives.bl {i : Bool} (g : Gives K H A ρ (.bl i) Q) : Q (.bl i) H := g _ _ (.scal rfl rfl)
theorem Gives.str {i : Str} (g : Gives K H A ρ (.str i) Q) : Q (.str i) H := g _ _ (.scal rfl rfl)
end
def opOf : Op → Operator
  | .add => .Add | .sub => .Sub | .mul => .Mult | .mod => .Mod | .fdiv => .FloorDiv | .pow => .Pow
def rOpD (K : PySem.W.Frag) (o : Op) : R2 := fun x y H Q => ∃ A ρ a b d, Pk K H A ρ a x ∧ Pk K H A ρ b y ∧ opD o a b = some d ∧ Gives K H A ρ d Q
theorem szline : sizeLine = 16777216 := sizeLine_eq
section
variable {X : Cx}
theorem op_ok (o : Op) : OpR X (binaryOp (opOf o)) (rOpD X.K o) := by
  intro pins s σ H x y v u Q I rx ry h
  obtain ⟨A, ρ, a, b, d, pa, pb, e, g⟩ := h
  cases o with
  | add =>
    cases a <;> cases b <;> first | cases e | skip
    · exact op_add pins s σ H x y v u Q I rx ry ⟨_, _, pa.int, pb.int, g.int⟩
    · have e' := e
      simp only [opD] at e'
      split at e' <;> cases e'
      rename_i hz
      exact op_add_str pins s σ H x y v u Q I rx ry ⟨_, _, pa.str, pb.str, by rw [szline]; exact hz, g _ _ (.scal rfl rfl)⟩
    · obtain ⟨p, xs, rfl, h1, r1⟩ := pa.tup
      obtain ⟨q, ys, rfl, h2, r2⟩ := pb.tup
      have e' := e
      simp only [opD] at e'
      split at e' <;> cases e'
      rename_i hz
      rw [r1.length, r2.length] at hz
      refine op_catA pins s σ H _ _ v u Q I rx ry ⟨p, q, xs, ys, rfl, rfl, SqT.of h1, SqT.of h2, by rw [szline]; exact hz, fun z => ?_, fun _ z => ?_, fun _ _ t ht => g _ _ (.tup ht (r1.append r2))⟩
      · have r12 := r1.append r2
        rw [z, List.nil_append] at r12
        exact g _ _ (.scal rfl ⟨q, ys, rfl, h2, r12⟩)
      · have r12 := r1.append r2
        rw [z, List.append_nil] at r12
        exact g _ _ (.scal rfl ⟨p, xs, rfl, h1, r12⟩)
    · obtain ⟨p, xs, rfl, h1, r1⟩ := pa.lst
      obtain ⟨q, ys, rfl, h2, r2⟩ := pb.lst
      have e' := e
      simp only [opD] at e'
      split at e' <;> cases e'
      rename_i hz
      rw [r1.length, r2.length] at hz
      exact op_cat pins s σ H _ _ v u Q I rx ry ⟨p, q, xs, ys, rfl, rfl, h1, h2, by rw [szline]; exact hz, fun t ht => g _ _ (.lst ht (r1.append r2))⟩
  | sub =>
    cases a <;> cases b <;> first | cases e | skip
    exact op_sub pins s σ H x y v u Q I rx ry ⟨_, _, pa.int, pb.int, g.int⟩
  | mul =>
    cases a <;> cases b <;> first | cases e | skip
    · have e' := e
      simp only [opD] at e'
      split at e' <;> cases e'
      rename_i hz
      exact op_mul pins s σ H x y v u Q I rx ry ⟨_, _, pa.int, pb.int, (show CMul _ _ from hz.elim (fun h => .inl ⟨by omega, by omega⟩) fun h => .inr ⟨by omega, by omega⟩), g.int⟩
    · obtain ⟨p, xs, rfl, h1, r1⟩ := pa.tup
      have e' := e
      simp only [opD] at e'
      have hne : ∀ {ds : List D}, ds ≠ [] → RelDs X.K H A ρ ds xs → xs ≠ [] := fun h r z => h (List.eq_nil_of_length_eq_zero (by rw [r.length, z]; rfl))
      split at e'
      · cases e'
        rename_i hz
        exact op_rep01 pins s σ H _ _ v u Q I rx ry ⟨p, _, xs, rfl, pb.int, SqT.of h1, hne hz.2 r1, .inr ⟨hz.1, fun t ht => g _ _ (.tup ht rfl)⟩⟩
      split at e'
      · cases e'
        rename_i hz
        exact op_rep01 pins s σ H _ _ v u Q I rx ry ⟨p, _, xs, rfl, pb.int, SqT.of h1, hne hz.2 r1, .inl ⟨hz.1, g _ _ (.scal rfl ⟨p, xs, rfl, h1, r1⟩)⟩⟩
      split at e' <;> cases e'
      rename_i hz
      obtain ⟨z1, z2, z3, z4⟩ := hz
      refine op_repT pins s σ H _ _ v u Q I rx ry ⟨p, _, xs, rfl, pb.int, SqT.of h1, fun z => z4 (List.eq_nil_of_length_eq_zero (by rw [r1.length, z]; rfl)), z1, z2, by rw [← r1.length]; exact z3, fun t ht => g _ _ (.tup ht (r1.rep _))⟩
    · obtain ⟨p, xs, rfl, h1, r1⟩ := pa.lst
      have e' := e
      simp only [opD] at e'
      split at e' <;> cases e'
      rename_i hz
      obtain ⟨z1, z2, z3⟩ := hz
      refine op_rep pins s σ H _ _ v u Q I rx ry ⟨p, _, xs, rfl, pb.int, h1, by omega, by omega, ?_, fun t ht => g _ _ (.lst ht (r1.rep _))⟩
      rw [← r1.length, szline]
      exact Nat.le_trans (Nat.mul_le_mul z3 (show Int.toNat _ ≤ 1000 by omega)) (show 1000 * 1000 ≤ 16777216 by decide)
  | mod =>
    cases a <;> cases b <;> first | cases e | skip
    have e' := e
    simp only [opD] at e'
    split at e' <;> cases e'
    rename_i hz
    exact op_mod pins s σ H x y v u Q I rx ry ⟨_, _, pa.int, pb.int, hz, g.int⟩
  | fdiv =>
    cases a <;> cases b <;> first | cases e | skip
    have e' := e
    simp only [opD] at e'
    split at e' <;> cases e'
    rename_i hz
    exact op_fdiv pins s σ H x y v u Q I rx ry ⟨_, _, pa.int, pb.int, (show CDiv _ _ from ⟨hz.1, by omega⟩), g.int⟩
  | pow =>
    cases a <;> cases b <;> first | cases e | skip
    have e' := e
    simp only [opD] at e'
    split at e' <;> cases e'
    rename_i hz
    exact op_pow pins s σ H x y v u Q I rx ry ⟨_, _, pa.int, pb.int, (show CPow _ _ from ⟨hz.1, by omega, by omega⟩), g.int⟩
end
def cmOf : Cm → CmpOp
  | .eq => .Eq | .ne => .NotEq | .lt => .Lt | .le => .LtE | .gt => .Gt | .ge => .GtE | .is => .Is | .isN => .IsNot | .inn => .In | .nin => .NotIn
def rCmL (K : PySem.W.Frag) (o : Cm) : R2 := fun x y H Q => ∃ A ρ a b c, Lk K H A ρ a x ∧ Lk K H A ρ b y ∧ cmD o a b = some c ∧ Q (.bl c) H
theorem nonD {K : PySem.W.Frag} {H : Hp} {A : Addr → Prop} {ρ : List CA} {a : D} {x : V} (h : Lk K H A ρ a x) : decide (x = .non) = a.isNon := by
  cases a with
  | non => rw [h.non]; rfl
  | bl _ => rw [h.bl]; rfl
  | int _ => rw [h.int]; rfl
  | str _ => rw [h.str]; rfl
  | tup _ => obtain ⟨_, _, rfl, _⟩ := h.tup; rfl
  | lst _ => obtain ⟨_, _, rfl, _⟩ := h.lst; rfl
  | dK _ => obtain ⟨_, _, rfl, _⟩ := h.dK; rfl
  | dT _ => obtain ⟨_, _, rfl, _⟩ := h.dT; rfl
  | obj _ => obtain ⟨_, _, rfl⟩ := h.obj; rfl
  | scr _ => obtain ⟨_, rfl, _⟩ := h.scr; rfl
theorem lay_of {d : D} (h : flat d = true) : d.py.canLay0 = true := SeqAt.canLay_of_shaped h
def rInT (K : PySem.W.Frag) (neg : Bool) : R2 := fun x y H Q => ∃ d ds, Dp K H x d ∧ Dp K H y (.tuple ds) ∧ SeqAt.shaped d = true ∧ SeqAt.shaped (.tuple ds) = true ∧ Q (.bl (if neg then !ds.any (fun z => PyData.eqv z d) else ds.any fun z => PyData.eqv z d)) H
theorem pys_any (x : D) : ∀ ds : List D, (pys ds).any (fun z => PyData.eqv z x.py) = memD x ds
  | [] => rfl
  | d :: ds => by
    show (PyData.eqv d.py x.py || (pys ds).any _) = (eqv d x || memD x ds)
    rw [pys_any x ds]; rfl
section
variable {X : Cx}
theorem op_inT (hu : X.A.units + 65 < cLine) : OpR X (compareOp .In) (rInT X.K false) := by
  intro pins s σ H x y v u Q I rx ry h
  obtain ⟨d, ds, hd, he, sd, se, q⟩ := h
  obtain ⟨as, r1⟩ := Dp.reads I d x v hd rx
  obtain ⟨bs, r2⟩ := Dp.reads I (.tuple ds) y u he ry
  exact SeqAt.in_tuple_reads r2 r1 (SeqAt.canLay_of_shaped se) (SeqAt.canLay_of_shaped sd) (PyProof.Rows.room_in_shaped sd hu) ⟨.bl _, H, I, rfl, q⟩
theorem op_ninT (hu : X.A.units + 65 < cLine) : OpR X (compareOp .NotIn) (rInT X.K true) := by
  intro pins s σ H x y v u Q I rx ry h
  obtain ⟨d, ds, hd, he, sd, se, q⟩ := h
  obtain ⟨as, r1⟩ := Dp.reads I d x v hd rx
  obtain ⟨bs, r2⟩ := Dp.reads I (.tuple ds) y u he ry
  exact SeqAt.notIn_tuple_reads r2 r1 (SeqAt.canLay_of_shaped se) (SeqAt.canLay_of_shaped sd) (PyProof.Rows.room_in_shaped sd hu) ⟨.bl _, H, I, rfl, q⟩
theorem Lk.see {K : PySem.W.Frag} {H : Hp} {A : Addr → Prop} {ρ : List CA} {d : D} {v : V} (h : Lk K H A ρ d v) : RelD K H NoA ρ d v := by
  have mo : ∀ {d : D} {v : V}, RelD K H A ρ d v → RelD K H NoA ρ d v := fun {d v} r => seeD d v r
  rcases h with h | ⟨p, rfl, h⟩
  · exact mo h
  · cases d with
    | lst ds => obtain ⟨xs, h1, h2⟩ := h; exact ⟨p, xs, rfl, h1, id, seeDs ds xs h2⟩
    | dK ds => obtain ⟨xs, h1, h2⟩ := h; exact ⟨p, xs, rfl, h1, id, seeK ds xs h2⟩
    | dT ds => obtain ⟨xs, h1, h2⟩ := h; exact ⟨p, xs, rfl, h1, id, seeT ds xs h2⟩
    | _ => exact h.elim
theorem cm_okL (hu : X.A.units + 80 < cLine) (o : Cm) : OpR X (compareOp (cmOf o)) (rCmL X.K o) := by
  intro pins s σ H x y v u Q I rx ry h
  obtain ⟨A, ρ, a, b, c, pa, pb, e, g⟩ := h
  have go : ∀ {P : Int → Int → Bool} {f : Value → Value → Sem Value}, OpR X f (rI0 fun i j => .bl (P i j)) → (∀ i j, a = .int i → b = .int j → P i j = c) → (∃ i j, a = .int i ∧ b = .int j) → wpAny (model X.prog X.w) X.A (f v u) (EP X pins σ Q) X.xe s := fun {P f} hf hc hab => by
    obtain ⟨i, j, e1, e2⟩ := hab
    have hh := hc i j e1 e2
    subst e1; subst e2
    exact hf pins s σ H x y v u Q I rx ry ⟨i, j, pa.int, pb.int, by show Q (.bl (P i j)) H; rw [hh]; exact g⟩
  have inD : ∀ {D'}, b = D' → (getD? D' a).map (fun o => o.isSome) = some c → wpAny (model X.prog X.w) X.A (compareOp .In v u) (EP X pins σ Q) X.xe s := fun {D'} hb e => by
    subst hb
    rw [Option.map_eq_some_iff] at e
    obtain ⟨o, e1, e2⟩ := e
    obtain ⟨p, ov, rfl, hg, ho⟩ := getD_ok pb pa e1
    cases ry
    refine d_in (by omega) I hg rx fun s' I' => ⟨.bl c, H, I', ?_, g⟩
    show Value.bool ov.isSome = Value.bool c
    rw [ho.isSome, e2]
  have ninD : ∀ {D'}, b = D' → (getD? D' a).map (fun o => !o.isSome) = some c → wpAny (model X.prog X.w) X.A (compareOp .NotIn v u) (EP X pins σ Q) X.xe s := fun {D'} hb e => by
    subst hb
    rw [Option.map_eq_some_iff] at e
    obtain ⟨o, e1, e2⟩ := e
    obtain ⟨p, ov, rfl, hg, ho⟩ := getD_ok pb pa e1
    cases ry
    refine d_notIn (by omega) I hg rx fun s' I' => ⟨.bl c, H, I', ?_, g⟩
    show Value.bool (!ov.isSome) = Value.bool c
    rw [ho.isSome, e2]
  cases o with
  | eq =>
    by_cases hs : ∃ p q, a = .str p ∧ b = .str q
    · obtain ⟨p, q, rfl, rfl⟩ := hs
      cases pa.str
      cases pb.str
      have e : (p == q) = c := Option.some.inj e
      exact op_eq pins s σ H _ _ v u Q I rx ry ⟨rfl, by rw [dec_str, e]; exact g⟩
    · have e : (if flat a && flat b then some (eqv a b) else eqR (eqX 8) a b) = some c := by
        cases a <;> first | exact e | skip
        cases b <;> first | exact e | exact absurd ⟨_, _, rfl, rfl⟩ hs
      split at e
      case isFalse =>
        obtain ⟨_, _, _, _, _, _, run⟩ := eqR_run I (A := X.A) (by omega) (eqX_run I 8 X.A.in1 (by show X.A.units + 1 + 8 + 66 < cLine; omega)) e pa.see pb.see rx ry
        exact run _ _ ⟨.bl c, H, I, rfl, g⟩
      cases e
      rename_i hf
      rw [Bool.and_eq_true] at hf
      exact op_eqD (by omega) pins s σ H x y v u Q I rx ry ⟨a.py, b.py, pa.dp (lay_of hf.1), pb.dp (lay_of hf.2), hf.1, hf.2, g⟩
  | ne =>
    by_cases hs : ∃ p q, a = .str p ∧ b = .str q
    · obtain ⟨p, q, rfl, rfl⟩ := hs
      cases pa.str
      cases pb.str
      have e : (!(p == q)) = c := Option.some.inj e
      exact op_ne pins s σ H _ _ v u Q I rx ry ⟨rfl, by
        have : (!decide (V.str p = V.str q)) = c := by rw [dec_str, e]
        first | (rw [this]; exact g) | (simp only [ne_eq, decide_not]; rw [this]; exact g)⟩
    · have e : (if flat a && flat b then some (!eqv a b) else (eqDD a b).map fun r => !r) = some c := by
        cases a <;> first | exact e | skip
        cases b <;> first | exact e | exact absurd ⟨_, _, rfl, rfl⟩ hs
      split at e
      case isFalse =>
        rw [Option.map_eq_some_iff] at e
        obtain ⟨c', e1, rfl⟩ := e
        exact neD_run I (A := X.A) (by omega) e1 pa.see pb.see rx ry _ _ ⟨.bl (!c'), H, I, rfl, g⟩
      cases e
      rename_i hf
      rw [Bool.and_eq_true] at hf
      exact op_neD (by omega) pins s σ H x y v u Q I rx ry ⟨a.py, b.py, pa.dp (lay_of hf.1), pb.dp (lay_of hf.2), hf.1, hf.2, g⟩
  | lt =>
    cases a <;> cases b <;> first | (cases e; done) | skip
    exact go (P := fun i j => decide (i < j)) op_lt (fun i j h1 h2 => by cases h1; cases h2; exact Option.some.inj e) ⟨_, _, rfl, rfl⟩
  | le =>
    cases a <;> cases b <;> first | (cases e; done) | skip
    exact go (P := fun i j => decide (i ≤ j)) op_le (fun i j h1 h2 => by cases h1; cases h2; exact Option.some.inj e) ⟨_, _, rfl, rfl⟩
  | gt =>
    cases a <;> cases b <;> first | (cases e; done) | skip
    exact go (P := fun i j => decide (j < i)) op_gt (fun i j h1 h2 => by cases h1; cases h2; exact Option.some.inj e) ⟨_, _, rfl, rfl⟩
  | ge =>
    cases a <;> cases b <;> first | (cases e; done) | skip
    exact go (P := fun i j => decide (j ≤ i)) op_ge (fun i j h1 h2 => by cases h1; cases h2; exact Option.some.inj e) ⟨_, _, rfl, rfl⟩
  | is =>
    cases b with
    | non =>
      refine op_isN pins s σ H x y v u Q I rx ry ⟨pb.non, ?_⟩
      rw [nonD pa]
      have e' := Option.some.inj e
      rw [e']; exact g
    | bl j =>
      cases a <;> first | cases e | skip
      exact op_isBl pins s σ H x y v u Q I rx ry ⟨_, _, pa.bl, pb.bl, g⟩
    | _ => cases a <;> cases e
  | isN =>
    cases b with
    | non =>
      refine op_notN pins s σ H x y v u Q I rx ry ⟨pb.non, ?_⟩
      rw [nonD pa]
      have e' := Option.some.inj e
      rw [e']; exact g
    | bl j =>
      cases a <;> first | cases e | skip
      exact op_notBl pins s σ H x y v u Q I rx ry ⟨_, _, pa.bl, pb.bl, g⟩
    | _ => cases a <;> cases e
  | inn =>
    cases b with
    | lst ys =>
      simp only [cmD] at e
      split at e <;> cases e
      rename_i hf
      rw [Bool.and_eq_true] at hf
      refine op_inD (by omega) pins s σ H x y v u Q I rx ry ⟨a.py, pys ys, pa.dp (lay_of hf.1), pb.dp (d := .lst ys) (lay_of hf.2), hf.1, hf.2, ?_⟩
      rw [pys_any]; exact g
    | tup ys =>
      simp only [cmD] at e
      split at e <;> cases e
      rename_i hf
      rw [Bool.and_eq_true] at hf
      refine op_inT (by omega) pins s σ H x y v u Q I rx ry ⟨a.py, pys ys, pa.dp (lay_of hf.1), pb.dp (d := .tup ys) (lay_of hf.2), hf.1, hf.2, ?_⟩
      rw [pys_any]; exact g
    | dK ys => exact inD rfl e
    | dT ys => exact inD rfl e
    | _ => cases a <;> cases e
  | nin =>
    cases b with
    | lst ys =>
      simp only [cmD] at e
      split at e <;> cases e
      rename_i hf
      rw [Bool.and_eq_true] at hf
      refine op_notInD (by omega) pins s σ H x y v u Q I rx ry ⟨a.py, pys ys, pa.dp (lay_of hf.1), pb.dp (d := .lst ys) (lay_of hf.2), hf.1, hf.2, ?_⟩
      rw [pys_any]; exact g
    | tup ys =>
      simp only [cmD] at e
      split at e <;> cases e
      rename_i hf
      rw [Bool.and_eq_true] at hf
      refine op_ninT (by omega) pins s σ H x y v u Q I rx ry ⟨a.py, pys ys, pa.dp (lay_of hf.1), pb.dp (d := .tup ys) (lay_of hf.2), hf.1, hf.2, ?_⟩
      rw [pys_any]; exact g
    | dK ys => exact ninD rfl e
    | dT ys => exact ninD rfl e
    | _ => cases a <;> cases e
def rCmD (K : PySem.W.Frag) (o : Cm) : R2 := fun x y H Q => ∃ A ρ a b c, Pk K H A ρ a x ∧ Pk K H A ρ b y ∧ cmD o a b = some c ∧ Q (.bl c) H
theorem cm_ok (hu : X.A.units + 80 < cLine) (o : Cm) : OpR X (compareOp (cmOf o)) (rCmD X.K o) := by
  intro pins s σ H x y v u Q I rx ry h
  obtain ⟨A, ρ, a, b, c, pa, pb, e, g⟩ := h
  exact cm_okL hu o pins s σ H x y v u Q I rx ry ⟨A, ρ, a, b, c, pa.lk, pb.lk, e, g⟩
end
end MP
namespace MP
open PySem L2
theorem seen_ints : ∀ {ds : List D} {ns : List Int}, asInts ds = some ns → ds = ns.map D.int
  | [], _, h => by cases h; rfl
  | .int i :: r, ns, h => by
    simp only [asInts, Option.map_eq_some_iff] at h
    obtain ⟨q, h, rfl⟩ := h
    rw [seen_ints h]; rfl
  | .non :: _, _, h => nomatch h
  | .bl _ :: _, _, h => nomatch h
  | .str _ :: _, _, h => nomatch h
  | .tup _ :: _, _, h => nomatch h
  | .lst _ :: _, _, h => nomatch h
  | .dK _ :: _, _, h => nomatch h
  | .dT _ :: _, _, h => nomatch h
  | .obj _ :: _, _, h => nomatch h
  | .scr _ :: _, _, h => nomatch h
theorem seen_bools : ∀ {ds : List D} {ns : List Bool}, asBools ds = some ns → ds = ns.map D.bl
  | [], _, h => by cases h; rfl
  | .bl i :: r, ns, h => by
    simp only [asBools, Option.map_eq_some_iff] at h
    obtain ⟨q, h, rfl⟩ := h
    rw [seen_bools h]; rfl
  | .non :: _, _, h => nomatch h
  | .int _ :: _, _, h => nomatch h
  | .str _ :: _, _, h => nomatch h
  | .tup _ :: _, _, h => nomatch h
  | .lst _ :: _, _, h => nomatch h
  | .dK _ :: _, _, h => nomatch h
  | .dT _ :: _, _, h => nomatch h
  | .obj _ :: _, _, h => nomatch h
  | .scr _ :: _, _, h => nomatch h
section
variable {K : PySem.W.Frag} {H : Hp} {A : Addr → Prop} {ρ : List CA}
theorem RelDs.ints : ∀ {ns : List Int} {vs : List V}, RelDs K H A ρ (ns.map D.int) vs → vs = ns.map V.int
  | [], _, h => h
  | n :: ns, _, h => by obtain ⟨v, r, rfl, e, h⟩ := h; rw [show v = V.int n from e, RelDs.ints h]; rfl
theorem RelDs.bools : ∀ {ns : List Bool} {vs : List V}, RelDs K H A ρ (ns.map D.bl) vs → vs = ns.map V.bl
  | [], _, h => h
  | n :: ns, _, h => by obtain ⟨v, r, rfl, e, h⟩ := h; rw [show v = V.bl n from e, RelDs.bools h]; rfl
theorem RelDs.of_ints : ∀ {ns : List Int}, RelDs K H A ρ (ns.map D.int) (ns.map V.int)
  | [] => rfl
  | n :: ns => ⟨_, _, rfl, rfl, RelDs.of_ints⟩
theorem maxI_ge : ∀ (r : List Int) (m : Int), m ≤ maxI m r ∧ ∀ x ∈ r, x ≤ maxI m r
  | [], m => ⟨Int.le_refl _, fun _ h => nomatch h⟩
  | y :: r, m => by
    obtain ⟨h1, h2⟩ := maxI_ge r (if m < y then y else m)
    have h3 : m ≤ (if m < y then y else m) ∧ y ≤ (if m < y then y else m) := by split <;> omega
    refine ⟨Int.le_trans h3.1 h1, fun x hx => ?_⟩
    rcases List.mem_cons.mp hx with rfl | hx
    · exact Int.le_trans h3.2 h1
    · exact h2 x hx
theorem maxI_mem : ∀ (r : List Int) (m : Int), maxI m r ∈ m :: r
  | [], m => List.mem_cons_self
  | y :: r, m => by
    have h := maxI_mem r (if m < y then y else m)
    show maxI (if m < y then y else m) r ∈ _
    rcases List.mem_cons.mp h with h | h
    · rw [h]; split <;> simp
    · exact List.mem_cons_of_mem _ (List.mem_cons_of_mem _ h)
theorem minI_le : ∀ (r : List Int) (m : Int), minI m r ≤ m ∧ ∀ x ∈ r, minI m r ≤ x
  | [], m => ⟨Int.le_refl _, fun _ h => nomatch h⟩
  | y :: r, m => by
    obtain ⟨h1, h2⟩ := minI_le r (if y < m then y else m)
    have h3 : (if y < m then y else m) ≤ m ∧ (if y < m then y else m) ≤ y := by split <;> omega
    refine ⟨Int.le_trans h1 h3.1, fun x hx => ?_⟩
    rcases List.mem_cons.mp hx with rfl | hx
    · exact Int.le_trans h1 h3.2
    · exact h2 x hx
theorem minI_mem : ∀ (r : List Int) (m : Int), minI m r ∈ m :: r
  | [], m => List.mem_cons_self
  | y :: r, m => by
    have h := minI_mem r (if y < m then y else m)
    show minI (if y < m then y else m) r ∈ _
    rcases List.mem_cons.mp h with h | h
    · rw [h]; split <;> simp
    · exact List.mem_cons_of_mem _ (List.mem_cons_of_mem _ h)
end
def PkAll (K : PySem.W.Frag) (H : Hp) (A : Addr → Prop) (ρ : List CA) : List D → List V → Prop := Paired fun d v => Pk K H A ρ d v
def LkAll (K : PySem.W.Frag) (H : Hp) (A : Addr → Prop) (ρ : List CA) : List D → List V → Prop := Paired fun d v => Lk K H A ρ d v
theorem PkAll.lk {K : PySem.W.Frag} {H : Hp} {A : Addr → Prop} {ρ : List CA} {ds : List D} {vs : List V} (h : PkAll K H A ρ ds vs) : LkAll K H A ρ ds vs := Paired.mapP h fun _ _ => Pk.lk
def rBi (K : PySem.W.Frag) (b : Bi) : List V → Hp → VK → Prop := fun vs H Q => ∃ A ρ ds d, PkAll K H A ρ ds vs ∧ biD b ds = some d ∧ Gives K H A ρ d Q
def rBiL (K : PySem.W.Frag) (b : Bi) : List V → Hp → VK → Prop := fun vs H Q => ∃ A ρ ds d, LkAll K H A ρ ds vs ∧ biD b ds = some d ∧ Gives K H A ρ d Q
def biVal : Bi → Value
  | .len => .builtin "len" | .sorted => .builtin "sorted" | .list => .type "list" | .tuple => .type "tuple" | .all => .builtin "all" | .any => .builtin "any" | .sum => .builtin "sum"
  | .max1 => .builtin "max" | .min1 => .builtin "min" | .max2 => .builtin "max" | .min2 => .builtin "min" | .repr => .builtin "repr" | .int => .type "int" | .max3 => .builtin "max" | .min3 => .builtin "min" | .dict => .type "dict"
section
variable {X : Cx} {pins : List (Addr × Obj)} {σ : St} {H : Hp} {s : Shared} {A : Addr → Prop} {ρ : List CA}
theorem key_reads {h : Heap} {k : Key} {u : Value} (p : keyIs k u = true) : Reads h u (dks k) [] := by
  rcases keyIs_shape p with ⟨i, t, rfl, rfl⟩ | ⟨x, t, rfl, rfl⟩
  · exact Reads.int i t
  · exact Reads.str x t
mutual
theorem RelD.reads (I : Inv X pins σ H s) : ∀ (d : D) (v : V) (u : Value), okPy d = true → RelD X.K H A ρ d v → RelV v u → ∃ as, Reads s.heap u d.py as ∧ (noLst d = true → sysModules ∉ as)
  | .non, _, _, _, h, r => by cases h; cases r; exact ⟨_, Reads.none, fun _ z => nomatch z⟩
  | .bl b, _, _, _, h, r => by cases h; cases r; exact ⟨_, Reads.bool b, fun _ z => nomatch z⟩
  | .int i, _, _, _, h, r => by cases h; obtain ⟨t, rfl⟩ := r; exact ⟨_, Reads.int i t, fun _ z => nomatch z⟩
  | .str x, _, _, _, h, r => by cases h; obtain ⟨t, rfl⟩ := r; exact ⟨_, Reads.str x t, fun _ z => nomatch z⟩
  | .tup ds, _, _, c, h, r => by
    obtain ⟨a, xs, rfl, h1, h2⟩ := h
    cases r
    obtain ⟨its, rv, ⟨o, ho, hc, n, hd⟩, _⟩ := I.tuple (SqT.of h1)
    obtain ⟨as, hr, hn⟩ := RelDs.reads I ds xs its c h2 rv
    exact ⟨_, Reads.tuple ho hc hd hr, hn⟩
  | .lst ds, _, _, c, h, r => by
    obtain ⟨a, xs, rfl, h1, _, h2⟩ := h
    cases r
    obtain ⟨its, rv, ⟨o, n, ho, hc, _, hd⟩, _⟩ := I.list (SqL.of h1)
    obtain ⟨as, hr, hn⟩ := RelDs.reads I ds xs its c h2 rv
    exact ⟨_, Reads.list ho hc hd hr, fun z => nomatch z⟩
  | .dK kvs, _, _, c, h, r => by
    obtain ⟨a, ws, rfl, h1, _, h2⟩ := h
    cases r
    obtain ⟨hz, hs, vs, hkv, o, es, ep, ho, hx, hdt, _, hp, _⟩ := dk_rd I.hok h1
    obtain ⟨as, bs, r1, r2, hn⟩ := RelK.reads I kvs ws vs es.toList c h2 hkv hp
    refine ⟨_, Reads.dict ho hx.1 hdt r1 r2, fun hl z => ?_⟩
    simp only [List.cons_append, List.mem_cons, List.mem_append] at z
    rcases z with z | z
    · rw [← z] at hs; simp at hs
    · exact hn hl (List.mem_append.mpr z)
  | .dT _, _, _, c, _, _ => nomatch c
  | .obj _, _, _, c, _, _ => nomatch c
  | .scr _, _, _, c, _, _ => nomatch c
theorem RelDs.reads (I : Inv X pins σ H s) : ∀ (ds : List D) (vs : List V) (us : List Value), okPys ds = true → RelDs X.K H A ρ ds vs → Vals vs us → ∃ as, ReadsAll s.heap us (pys ds) as ∧ (noLsts ds = true → sysModules ∉ as)
  | [], _, _, _, h, r => by cases h; cases r; exact ⟨_, ReadsAll.nil, fun _ z => nomatch z⟩
  | d :: ds, _, _, c, h, r => by
    obtain ⟨v, q, rfl, h1, h2⟩ := h
    have c' : okPy d = true ∧ okPys ds = true := by simpa [okPys] using c
    cases r with
    | cons r1 r2 =>
      obtain ⟨as, a1, n1⟩ := RelD.reads I d v _ c'.1 h1 r1
      obtain ⟨bs, a2, n2⟩ := RelDs.reads I ds q _ c'.2 h2 r2
      refine ⟨_, ReadsAll.cons a1 a2, fun hl z => ?_⟩
      have l' : noLst d = true ∧ noLsts ds = true := by simpa [noLsts] using hl
      rcases List.mem_append.mp z with z | z
      · exact n1 l'.1 z
      · exact n2 l'.2 z
theorem RelK.reads (I : Inv X pins σ H s) : ∀ (kvs : List (Key × D)) (ws : List (Key × V)) (vs : List (Key × Value)) (es : List DictEntry), okPyK kvs = true → RelK X.K H A ρ kvs ws → KV ws vs → Pairs (mixKind X.prog X.w) es vs →
    ∃ as bs, ReadsAll s.heap (es.map (·.key)) ((pyK kvs).map (·.1)) as ∧ ReadsAll s.heap (es.map (·.val)) ((pyK kvs).map (·.2)) bs ∧ (noLstK kvs = true → sysModules ∉ as ++ bs)
  | [], _, _, _, _, h, r, p => by
    cases h; cases r; cases p
    exact ⟨_, _, ReadsAll.nil, ReadsAll.nil, fun _ z => nomatch z⟩
  | (k, d) :: kvs, _, _, _, c, h, r, p => by
    obtain ⟨v, q, rfl, h1, h2⟩ := h
    have c' : okPy d = true ∧ okPyK kvs = true := by simpa [okPyK] using c
    cases r with
    | cons r1 r2 =>
      cases p with
      | @cons ee _ _ _ p1 p2 p3 =>
        obtain ⟨as, bs, a1, a2, n2⟩ := RelK.reads I kvs q _ _ c'.2 h2 r2 p3
        obtain ⟨cs, a3, n3⟩ := RelD.reads I d v _ c'.1 h1 r1.2
        rw [← p2] at a3
        obtain ⟨r1a, r1b⟩ := r1
        simp only at r1a
        rw [← r1a] at p1
        have hkey : Reads s.heap ee.key (dks k) [] := key_reads p1
        refine ⟨_, _, ReadsAll.cons hkey a1, ReadsAll.cons a3 a2, fun hl z => ?_⟩
        have l' : noLst d = true ∧ noLstK kvs = true := by simpa [noLstK] using hl
        simp only [List.nil_append, List.mem_append] at z
        rcases z with z | z | z
        · exact n2 l'.2 (List.mem_append.mpr (.inl z))
        · exact n3 l'.1 z
        · exact n2 l'.2 (List.mem_append.mpr (.inr z))
end
theorem Lk.reads (I : Inv X pins σ H s) {d : D} {v : V} {u : Value} (c : okPy d = true) (h : Lk X.K H A ρ d v) (r : RelV v u) : ∃ as, Reads s.heap u d.py as ∧ (noLst d = true → sysModules ∉ as) := by
  rcases h with h | ⟨p, rfl, h⟩
  · exact RelD.reads I d v u c h r
  · cases d with
    | lst ds =>
      obtain ⟨xs, h1, h2⟩ := h
      cases r
      obtain ⟨its, rv, ⟨o, n, ho, hc, _, hd⟩, _⟩ := I.list (SqL.of h1)
      obtain ⟨as, hr, hn⟩ := RelDs.reads I ds xs its c h2 rv
      exact ⟨_, Reads.list ho hc hd hr, fun z => nomatch z⟩
    | dK kvs =>
      obtain ⟨ws, h1, h2⟩ := h
      cases r
      obtain ⟨hz, hs, vs, hkv, o, es, ep, ho, hx, hdt, _, hp, _⟩ := dk_rd I.hok h1
      obtain ⟨as, bs, r1, r2, hn⟩ := RelK.reads I kvs ws vs es.toList c h2 hkv hp
      refine ⟨_, Reads.dict ho hx.1 hdt r1 r2, fun hl z => ?_⟩
      simp only [List.cons_append, List.mem_cons, List.mem_append] at z
      rcases z with z | z
      · rw [← z] at hs; simp at hs
      · exact hn hl (List.mem_append.mpr z)
    | dT _ => exact nomatch c
    | _ => exact h.elim
end
section
variable {X : Cx} {H : Hp} {A : Addr → Prop} {ρ : List CA}
def RelVD (K : PySem.W.Frag) (H : Hp) (A : Addr → Prop) (ρ : List CA) (u : Value) (d : D) : Prop := ∃ v, RelV v u ∧ RelD K H A ρ d v
theorem each_of {K : PySem.W.Frag} : ∀ {ds : List D} {vs : List V} {us : List Value}, RelDs K H A ρ ds vs → Vals vs us → PySem.W.EachIs (RelVD K H A ρ) us ds
  | [], _, _, h, r => by cases h; cases r; exact .nil
  | d :: ds, _, _, h, r => by
    obtain ⟨v, q, rfl, h1, h2⟩ := h
    cases r with
    | cons r1 r2 => exact .cons ⟨v, r1, h1⟩ (each_of h2 r2)
theorem of_each {K : PySem.W.Frag} : ∀ {ds : List D} {us : List Value}, PySem.W.EachIs (RelVD K H A ρ) us ds → ∃ vs, Vals vs us ∧ RelDs K H A ρ ds vs
  | _, _, .nil => ⟨[], .nil, rfl⟩
  | _, _, .cons ⟨v, r1, h1⟩ t => by
    obtain ⟨vs, a, b⟩ := of_each t
    exact ⟨v :: vs, .cons r1 a, v, vs, rfl, h1, b⟩
mutual
theorem okPy_lay : ∀ d : D, d.py.canLay0 = true → okPy d = true
  | .non, _ => rfl
  | .bl _, _ => rfl
  | .int _, _ => rfl
  | .str _, _ => rfl
  | .tup xs, h => okPys_lay xs h
  | .lst xs, h => okPys_lay xs h
  | .dK _, h => nomatch h
  | .dT _, h => nomatch h
  | .obj _, h => nomatch h
  | .scr _, h => nomatch h
theorem okPys_lay : ∀ ds : List D, PyData.canLayAll0 (pys ds) = true → okPys ds = true
  | [], _ => rfl
  | d :: ds, h => by
    have h' : d.py.canLay0 = true ∧ PyData.canLayAll0 (pys ds) = true := by simpa [pys, PyData.canLayAll0] using h
    show (okPy d && okPys ds) = true
    rw [okPy_lay d h'.1, okPys_lay ds h'.2]; rfl
end
theorem sortsAt_one {prog : Program} {w : World} {A : Around} {s : Shared} {v : Value} {d : PyData} {as : List Addr} (r : Reads s.heap v d as) (hal : PySem.W.alike d d = true) (hn : d ≠ .none) (hu : A.units + d.depth < cLine) : PySem.W.SortsAt prog w A s (PySem.W.dataKind s.heap [d]) [v] := by
  have al : PySem.W.AllAlike [d] := fun x hx y hy => by
    rw [List.mem_singleton] at hx hy
    subst hx hy
    exact hal
  refine ⟨fun u hu' => ?_, PyProof.Rows.general', ?_, fun h2 => absurd h2 (by simp)⟩
  · rw [List.mem_singleton] at hu'
    subst hu'
    exact ⟨_, PySem.W.dataKind_some al (List.mem_singleton.mpr rfl) r⟩
  · intro E x y a b Q ha hb hq
    obtain ⟨d1, as1, h1, ra, rfl⟩ := PySem.W.dataKind_inv ha
    obtain ⟨d2, as2, h2, rb, rfl⟩ := PySem.W.dataKind_inv hb
    rw [List.mem_singleton] at h1 h2
    subst h1 h2
    exact PySem.W.oneLt_alike (f := false) (fun z => nomatch z) ra rb hal hn (Nat.lt_of_le_of_lt (Nat.add_le_add_left (Nat.min_le_left _ _) _) hu) hq
theorem sorted_data1 {prog : Program} {w : World} {A : Around} {E : Value → Shared → Prop} {s : Shared} {β : Type} {v : Value} {b : β} {enc : β → PyData} {R : Value → β → Prop} {l : Addr} {Q : Value → Shared → Prop} {as : List Addr}
    (hl : s.heap.IsList l [v].toArray) (e : PySem.W.EachIs R [v] [b]) (r : Reads s.heap v (enc b) as) (hal : PySem.W.alike (enc b) (enc b) = true) (hn : enc b ≠ .none)
    (hu : A.units + 2 + (enc b).depth < cLine) (h : ∀ out, out.length = [b].length → PySem.W.EachIs R out ([b].mergeSort (PySem.W.dataLe false enc)) → Q (.ref (s.heap.objs.size + 1)) { s with heap := PyProof.Rows.sortedAll s.heap [v] (List.toArray out) }) :
    wpAny (model prog w) A (call (.builtin "sorted") [.ref l]) Q E s := by
  have r' : Reads (PySem.W.sortingHeap (PySem.W.copyHeap s.heap [v]) (s.heap.objs.size + 1) [v]) v (enc b) as := PyProof.Rows.Reads.keeps (fun _ _ => PySem.W.sorting_copy_old) r
  have al : PySem.W.AllAlike ([b].map enc) := fun x hx y hy => by
    rw [List.map_singleton, List.mem_singleton] at hx hy
    subst hx hy
    exact hal
  exact PySem.W.sorted_vals hl (sortsAt_one (A := A.in1.in1) (s := { s with heap := PySem.W.sortingHeap (PySem.W.copyHeap s.heap [v]) (s.heap.objs.size + 1) [v] }) r' hal hn hu) (by rw [szline]; simp)
    (h _ (by rw [PySem.W.sortVals_length false rfl]; rfl) (PySem.W.sortVals_data false e (.cons ⟨as, r'⟩ .nil) al))
theorem sorted_ok (hu : X.A.units + 67 < cLine) {pins : List (Addr × Obj)} {s : Shared} {σ : St} {Q : VK} {ds : List D} {v : V} {u : Value} (I : Inv X pins σ H s) (r : RelV v u) (p : Lk X.K H A ρ (.lst ds) v) (ok : okSort ds = true)
    (g : Gives X.K H A ρ (.lst (sortD ds)) Q) : wpAny (model X.prog X.w) X.A (call (.builtin "sorted") [u]) (EP X pins σ Q) X.xe s := by
  obtain ⟨a, xs, rfl, h1, h2⟩ := p.lst
  cases r
  unfold okSort at ok
  simp only [Bool.and_eq_true, List.all_eq_true, decide_eq_true_eq, Bool.or_eq_true] at ok
  obtain ⟨⟨⟨o1, o2⟩, o3⟩, o4⟩ := ok
  obtain ⟨its, rv, hl, hz⟩ := I.list (SqL.of h1)
  have he := each_of h2 rv
  have hlen : its.length = ds.length := by rw [← rv.length, h2.length]
  have er : PySem.W.EachIs (fun v d => ∃ as, Reads s.heap v (D.py d) as) its ds := by
    refine PySem.W.EachIs.of_zip hlen fun q hq => ?_
    obtain ⟨v, r, d⟩ := he.zip q hq
    obtain ⟨as, h, _⟩ := RelD.reads I q.2 v q.1 (okPy_lay _ (o3 q.2 (List.of_mem_zip hq).2).2) d r
    exact ⟨as, h⟩
  have done : ∀ out : List Value, out.length = ds.length → PySem.W.EachIs (RelVD X.K H A ρ) out (ds.mergeSort (PySem.W.dataLe false D.py)) → EP X pins σ Q (.ref (s.heap.objs.size + 1)) { s with heap := PyProof.Rows.sortedAll s.heap its (List.toArray out) } := fun out hlo ho => by
    obtain ⟨ys, r1, r2⟩ := of_each ho
    obtain ⟨ep, he'⟩ := PyProof.Rows.sortedAll_at s.heap its out.toArray
    have hn := I.hok.fresh (Nat.le_succ s.heap.objs.size)
    exact ⟨.ref _, upd H (s.heap.objs.size + 1) (.lst ys), I.laid (t' := s.toks) (fun _ _ => PyProof.Rows.sortedAll_old) (Nat.le_succ _) ⟨by rw [r1.length, hlo, szline]; exact o4, out, ep, r1, he'⟩, rfl, g _ _ (.lst hn r2)⟩
  by_cases one : oneTup ds = true
  · obtain ⟨ts, eds⟩ : ∃ ts, ds = [.tup ts] := by
      unfold oneTup at one
      split at one
      · exact ⟨_, rfl⟩
      · cases one
    subst eds
    obtain ⟨v, ev⟩ : ∃ v, its = [v] := List.length_eq_one_iff.mp hlen
    subst ev
    obtain ⟨as, r⟩ := er.zip (v, .tup ts) (List.mem_singleton.mpr rfl)
    have n0 : D.py (.tup ts) ≠ .none := fun z => nomatch z
    have al := o1 _ (List.mem_singleton.mpr rfl) _ (List.mem_singleton.mpr rfl)
    have dp := (o3 _ (List.mem_singleton.mpr rfl)).1
    exact sorted_data1 (enc := D.py) (b := .tup ts) hl.isList he r al n0 (by omega) done
  have o2 : (∀ x ∈ ds, neTup x = true) ∨ ∀ x ∈ ds, notTup x = true := o2.imp id fun z => z.resolve_right one
  refine PySem.W.sorted_data hl.isList he er (fun d hd d' hd' => ?_) ?_ (by rw [szline]; exact o4) (fun b hb => by have := (o3 b hb).1; omega) fun out hlo ho => ?_
  · obtain ⟨b, hb, rfl⟩ := List.mem_map.mp hd
    obtain ⟨b', hb', rfl⟩ := List.mem_map.mp hd'
    exact o1 b hb b' hb'
  · rcases o2 with o2 | o2
    · refine .inl fun d hd => ?_
      obtain ⟨b, hb, rfl⟩ := List.mem_map.mp hd
      have q := o2 b hb
      unfold neTup at q
      split at q
      · exact ⟨_, _, rfl⟩
      · cases q
    · refine .inr fun d hd => ?_
      obtain ⟨b, hb, rfl⟩ := List.mem_map.mp hd
      have q := o2 b hb
      cases b <;> first | (cases q; done) | exact ⟨(fun z => nomatch z), (fun _ z => nomatch z)⟩
  · obtain ⟨ys, r1, r2⟩ := of_each ho
    obtain ⟨ep, he'⟩ := PyProof.Rows.sortedAll_at s.heap its out.toArray
    have hn := I.hok.fresh (Nat.le_succ s.heap.objs.size)
    refine ⟨.ref _, upd H (s.heap.objs.size + 1) (.lst ys), I.laid (t' := s.toks) (fun _ _ => PyProof.Rows.sortedAll_old) (Nat.le_succ _) ⟨by rw [r1.length, hlo, szline]; exact o4, out, ep, r1, he'⟩, rfl, g _ _ (.lst hn r2)⟩
end
end MP
namespace MP
open PySem PySem.Spec L2
section
variable {prog : Program} {w : World} {A : Around} {E : Value → Shared → Prop} {s : Shared}
def Kp (h h1 : Heap) : Prop := ∀ b o, h.get? b = some o → h1.get? b = some o
abbrev lh (h : Heap) (xs : Array Value) : Heap := (h.push { cls := .type "list", data := .seq ([] : List Value).toArray }).update h.objs.size (Obj.mapSeq (· ++ xs))
theorem lh_kp (h : Heap) (xs : Array Value) : Kp h (lh h xs) := fun b o hb => by
  show ((h.push _).update _ _).get? b = some o
  rw [Heap.get?_update_other _ _ (Nat.ne_of_gt (Heap.lt_size hb))]
  exact Heap.get?_push_of_some _ hb
theorem lh_size (h : Heap) (xs : Array Value) : (lh h xs).objs.size = h.objs.size + 1 := by
  show ((h.push _).update _ _).objs.size = _
  rw [Heap.size_update, Heap.size_push]
theorem collect_tup {Q : List Value → Shared → Prop} {l : Addr} {xs : Array Value} (ht : s.heap.IsTuple l xs) (hz : xs.size ≤ sizeLine) (q : Q xs.toList { s with heap := lh s.heap xs }) :
    wpAny (model prog w) A (collect (.ref l)) Q E s := by
  obtain ⟨o, ho, hc, n, hd⟩ := ht
  have g0 : (s.heap.push { cls := .type "list", data := .seq ([] : List Value).toArray }).get? s.heap.objs.size = some { cls := .type "list", data := .seq #[] 0 } := Heap.get?_push_size _ rfl
  have g1 := Heap.get?_update_self (Obj.mapSeq (· ++ xs)) g0 rfl
  have back : wpAny (model prog w) A (match Value.ref s.heap.objs.size with
      | .ref a => do
        match (← load a).data with
          | .seq ys _ => pure ys.toList
          | _ => unsupported "internal:collect"
      | _ => unsupported "internal:collect") Q E { s with heap := lh s.heap xs } := by
    show wpAny _ A (load s.heap.objs.size >>= _) _ _ _
    refine wpAny_bind (wpAny_load g1 (wpAny_pure ?_))
    show Q (#[] ++ xs).toList _
    rw [show ((#[] : Array Value) ++ xs).toList = xs.toList by simp]
    exact q
  unfold collect
  refine wpAny_bind (wpAny_runValue (codeAny_builtin F.entry_proto_collect ?_))
  rw [Around.under_plainId F.plain_proto_collect _]
  show wpAny _ A.in1 (newList [] >>= fun z => again (.builtin "list.__iadd__" ⟨[z, .ref l], []⟩)) _ _ s
  refine wpAny_bind (wpAny_newObj_type (wpAny_pure ⟨plainId_quiet F.plain_list_iadd _, codeAny_builtin F.entry_list_iadd ?_⟩))
  rw [Around.under_plainId F.plain_list_iadd _]
  show wpAny _ A.in1 (Builtin.List.listExtendWith (.ref s.heap.objs.size) (.ref l) (.ref s.heap.objs.size)) _ _ _
  refine wpAny_mono (wpAny_extend_seq (hsz := hz) (A := A) (R := fun r u => r = .ok (.ret (.ref s.heap.objs.size)) ∧ u = { s with heap := lh s.heap xs })
    (s := { s with heap := s.heap.push { cls := .type "list", data := .seq ([] : List Value).toArray } }) _ l _ 0 (.inr rfl) g0 (Heap.get?_push_of_some _ ho) hc hd ⟨rfl, rfl⟩) (fun fin u h => ?_) fun e u h => absurd h.1 (by simp)
  cases fin with
  | done f => obtain ⟨e, rfl⟩ := h; cases e; exact back
  | again c => exact ⟨h.1, codeAny_mono h.2 fun r u2 hr => by obtain ⟨rfl, rfl⟩ := hr; exact back⟩
theorem sorted_tupV {l : Addr} {vs : List Value} (ds : List PyData) {Q : Value → Shared → Prop} (ht : s.heap.IsTuple l vs.toArray) (hL : vs.length ≤ sizeLine)
    (S : ∀ h1, Kp s.heap h1 → PySem.W.SortsAt prog w A.in1.in1 { s with heap := h1 } (PySem.W.dataKind h1 ds) vs)
    (fin : ∀ (h1 h2 : Heap) (a c : Nat), Kp s.heap h1 → Kp s.heap h2 → s.heap.objs.size ≤ a → h2.get? a = some (PyProof.Rows.seqObj "list" (PySem.W.sortVals (PySem.W.dataKind h1 ds) false vs vs).toArray c) → Q (.ref a) { s with heap := h2 }) :
    wpAny (model prog w) A (call (.builtin "sorted") [.ref l]) Q E s := by
  refine PySem.Calls.call_function_entry PyProof.Rows.kind_sorted PyProof.Rows.plain_sorted PyProof.Rows.entry_sorted (PyProof.Rows.args_sorted1 _) ?_
  unfold Builtin.«sorted»
  refine wpAny_bind (m := checkCount "sorted" 1 1 _) (wpAny_pure ?_)
  refine wpAny_bind (collect_tup ht (by rw [List.size_toArray]; exact hL) ?_)
  refine wpAny_bind (wpAny_newList ?_ hL)
  generalize hh0 : lh s.heap vs.toArray = h0
  have k0 : Kp s.heap h0 := by rw [← hh0]; exact lh_kp _ _
  have z0 : h0.objs.size = s.heap.objs.size + 1 := by rw [← hh0]; exact lh_size _ _
  have g0 : (h0.push (PyProof.Rows.seqObj "list" vs.toArray 0)).get? h0.objs.size = some (PyProof.Rows.seqObj "list" vs.toArray 0) := Heap.get?_push_size _ rfl
  have k1 : Kp s.heap (PySem.W.sortingHeap (h0.push (PyProof.Rows.seqObj "list" vs.toArray 0)) h0.objs.size vs) := fun b o hb => by
    have hb0 := k0 b o hb
    exact PySem.W.sortingHeap_old (Nat.ne_of_lt (Heap.lt_size hb0)) (Heap.get?_push_of_some _ hb0)
  refine wpAny_bind (wpAny_holding (wpAny_call_entry PyProof.Rows.slot_list_sort ⟨_, g0, rfl⟩ PyProof.Rows.entry_list_sort (PySem.W.list_sort_vals g0 (S _ k1) hL ⟨_, rfl, ?_⟩) (PyProof.Rows.args_list_sort _)))
  refine wpAny_pure ⟨_, rfl, ?_⟩
  obtain ⟨c, hc⟩ := PyProof.Rows.sortedHeap_at (vs := vs) (out := (PySem.W.sortVals (PySem.W.dataKind (PySem.W.sortingHeap (h0.push (PyProof.Rows.seqObj "list" vs.toArray 0)) h0.objs.size vs) ds) false vs vs).toArray) g0
  refine fin _ _ h0.objs.size c k1 (fun b o hb => ?_) (by rw [z0]; exact Nat.le_succ _) hc
  have hb0 := k0 b o hb
  have hlt := Heap.lt_size hb0
  rw [PyProof.Rows.sortedHeap_old (Nat.ne_of_lt hlt) (by rw [Heap.size_push]; exact Nat.lt_succ_of_lt hlt)]
  exact Heap.get?_push_of_some _ hb0
end
section
variable {X : Cx} {H : Hp} {A : Addr → Prop} {ρ : List CA}
theorem sorted_okT (hu : X.A.units + 67 < cLine) {pins : List (Addr × Obj)} {s : Shared} {σ : St} {Q : VK} {ds : List D} {v : V} {u : Value} (I : Inv X pins σ H s) (r : RelV v u) (p : Lk X.K H A ρ (.tup ds) v) (ok : okSort ds = true)
    (g : Gives X.K H A ρ (.lst (sortD ds)) Q) : wpAny (model X.prog X.w) X.A (call (.builtin "sorted") [u]) (EP X pins σ Q) X.xe s := by
  obtain ⟨a, xs, rfl, h1, h2⟩ := p.tup
  cases r
  unfold okSort at ok
  simp only [Bool.and_eq_true, List.all_eq_true, decide_eq_true_eq, Bool.or_eq_true] at ok
  obtain ⟨⟨⟨o1, o2⟩, o3⟩, o4⟩ := ok
  obtain ⟨its, rv, hl, hz⟩ := I.tuple (SqT.of h1)
  have he := each_of h2 rv
  have hlen : its.length = ds.length := by rw [← rv.length, h2.length]
  have hL : its.length ≤ sizeLine := by rw [hlen, szline]; exact o4
  have er : PySem.W.EachIs (fun v d => ∃ as, Reads s.heap v (D.py d) as) its ds := by
    refine PySem.W.EachIs.of_zip hlen fun q hq => ?_
    obtain ⟨v, r, d⟩ := he.zip q hq
    obtain ⟨as, h, _⟩ := RelD.reads I q.2 v q.1 (okPy_lay _ (o3 q.2 (List.of_mem_zip hq).2).2) d r
    exact ⟨as, h⟩
  have al : PySem.W.AllAlike (ds.map D.py) := fun d hd d' hd' => by
    obtain ⟨b, hb, rfl⟩ := List.mem_map.mp hd
    obtain ⟨b', hb', rfl⟩ := List.mem_map.mp hd'
    exact o1 b hb b' hb'
  have rd : ∀ h1, Kp s.heap h1 → PySem.W.EachIs (fun v d => ∃ as, Reads h1 v (D.py d) as) its ds := fun h1 k => er.mono fun _ _ ⟨as, r⟩ => ⟨as, PyProof.Rows.Reads.keeps k r⟩
  refine sorted_tupV (ds.map D.py) hl hL (fun h1 k => ?_) fun h1 h2' b c k1 k2 hb hc => ?_
  · by_cases one : oneTup ds = true
    · obtain ⟨ts, eds⟩ : ∃ ts, ds = [.tup ts] := by
        unfold oneTup at one
        split at one
        · exact ⟨_, rfl⟩
        · cases one
      subst eds
      obtain ⟨v, ev⟩ : ∃ v, its = [v] := List.length_eq_one_iff.mp hlen
      subst ev
      obtain ⟨as, r⟩ := (rd h1 k).zip (v, .tup ts) (List.mem_singleton.mpr rfl)
      have dp := (o3 _ (List.mem_singleton.mpr rfl)).1
      have n0 : D.py (.tup ts) ≠ .none := fun z => nomatch z
      have u0 : X.A.in1.in1.units + (D.py (.tup ts)).depth < cLine := by
        show X.A.units + 2 + _ < _
        omega
      exact sortsAt_one (s := { s with heap := h1 }) r (o1 _ (List.mem_singleton.mpr rfl) _ (List.mem_singleton.mpr rfl)) n0 u0
    · have o2 : (∀ x ∈ ds, neTup x = true) ∨ ∀ x ∈ ds, notTup x = true := o2.imp id fun z => z.resolve_right one
      refine PySem.W.SortsAt.data (s := { s with heap := h1 }) (PySem.W.each_map (R := fun v d => ∃ as, Reads h1 v d as) D.py (rd h1 k)) al ?_ (PySem.W.bound_map fun b hb => ?_)
      · rcases o2 with o2 | o2
        · refine .inl fun d hd => ?_
          obtain ⟨b, hb, rfl⟩ := List.mem_map.mp hd
          have q := o2 b hb
          unfold neTup at q
          split at q
          · exact ⟨_, _, rfl⟩
          · cases q
        · refine .inr fun d hd => ?_
          obtain ⟨b, hb, rfl⟩ := List.mem_map.mp hd
          have q := o2 b hb
          cases b <;> first | (cases q; done) | exact ⟨(fun z => nomatch z), (fun _ z => nomatch z)⟩
      · have := (o3 b hb).1
        show X.A.units + 2 + _ < _
        omega
  · have ho : PySem.W.EachIs (RelVD X.K H A ρ) (PySem.W.sortVals (PySem.W.dataKind h1 (ds.map D.py)) false its its) (ds.mergeSort (PySem.W.dataLe false D.py)) := PySem.W.sortVals_data false he (rd h1 k1) al
    have hlo : (PySem.W.sortVals (PySem.W.dataKind h1 (ds.map D.py)) false its its).length = ds.length := by rw [PySem.W.sortVals_length false rfl]; exact hlen
    obtain ⟨ys, r1, r2⟩ := of_each ho
    have hn := I.hok.fresh hb
    exact ⟨.ref _, upd H b (.lst ys), I.laid (t' := s.toks) k2 hb ⟨by rw [r1.length, hlo, szline]; exact o4, _, c, r1, hc⟩, rfl, g _ _ (.lst hn r2)⟩
end
end MP
namespace MP
open PySem L2
section
variable {X : Cx} {pins : List (Addr × Obj)} {σ : St} {H : Hp} {s : Shared} {A : Addr → Prop} {ρ : List CA}
def RkOf (P : Program) (w : World) (h : Heap) (u : Value) (d : PyData) : Prop := ∃ bs, ReadAtMost h d.depth bs ∧ ReprK P w bs h d.depth u d.shown
def RksOf (P : Program) (w : World) (h : Heap) (us : List Value) (ds : List PyData) : Prop := ∃ bs, ReadAtMost h (PyData.depthAll ds) bs ∧ ReprAllK P w bs h (PyData.depthAll ds) us (PyData.shownAll ds)
theorem rks_cons {P : Program} {w : World} {h : Heap} {u : Value} {us : List Value} {d : PyData} {ds : List PyData} (a : RkOf P w h u d) (b : RksOf P w h us ds) : RksOf P w h (u :: us) (d :: ds) := by
  obtain ⟨b1, hb1, k1⟩ := a
  obtain ⟨b2, hb2, k2⟩ := b
  refine ⟨b1 ++ b2, ?_, ?_⟩
  · intro b hm
    simp only [PyData.depthAll]
    rcases List.mem_append.mp hm with hm | hm
    · obtain ⟨d', as', r', hd'⟩ := hb1 b hm
      exact ⟨d', as', r', Nat.le_trans hd' (Nat.le_max_left _ _)⟩
    · obtain ⟨d', as', r', hd'⟩ := hb2 b hm
      exact ⟨d', as', r', Nat.le_trans hd' (Nat.le_max_right _ _)⟩
  · simp only [PyData.depthAll, PyData.shownAll]
    exact .cons ((k1.more fun b hb => List.mem_append_left _ hb).level_le (Nat.le_max_left _ _)) (k2.more_le (fun b hb => List.mem_append_right _ hb) (Nat.le_max_right _ _))
theorem rks_nil {P : Program} {w : World} {h : Heap} : RksOf P w h [] [] := ⟨[], (fun _ h => nomatch h), by simp only [PyData.shownAll]; exact .nil⟩
theorem rk_list {P : Program} {w : World} {h : Heap} {a : Addr} {o : Obj} {vs : Array Value} {n : Nat} {xs : List PyData} {as : List Addr} (h1 : h.get? a = some o) (h2 : o.cls = .type "list") (h3 : o.data = .seq vs n) (h4 : ReadsAll h vs.toList xs as) (k : RksOf P w h vs.toList xs) : RkOf P w h (.ref a) (.list xs) := by
  obtain ⟨bs, hb, hk⟩ := k
  have r : Reads h (.ref a) (.list xs) _ := .list h1 h2 h3 h4
  have hna : a ∉ bs := not_mem_of_deeper r (by simp only [PyData.depth]; omega) hb
  refine ⟨a :: bs, ReadAtMost.cons r (by simp only [PyData.depth]; omega) hb, ?_⟩
  simp only [PyData.depth, PyData.shown]
  obtain ⟨l⟩ := vs
  cases l with
  | nil =>
    have h4' : ReadsAll h [] xs _ := h4
    cases h4'
    simp only [PyData.shownAll, listText_nil]
    exact ReprK.listEmpty h1 h2 h3
  | cons x l => exact ReprK.list h1 h2 h3 hna (by simpa using hk.length_eq) (fun i y e => hk.item i y (by simpa using e))
theorem rk_tuple {P : Program} {w : World} {h : Heap} {a : Addr} {o : Obj} {vs : Array Value} {n : Nat} {xs : List PyData} {as : List Addr} (h1 : h.get? a = some o) (h2 : o.cls = .type "tuple") (h3 : o.data = .seq vs n) (h4 : ReadsAll h vs.toList xs as) (k : RksOf P w h vs.toList xs) : RkOf P w h (.ref a) (.tuple xs) := by
  obtain ⟨bs, hb, hk⟩ := k
  have r : Reads h (.ref a) (.tuple xs) _ := .tuple h1 h2 h3 h4
  have hna : a ∉ bs := not_mem_of_deeper r (by simp only [PyData.depth]; omega) hb
  refine ⟨a :: bs, ReadAtMost.cons r (by simp only [PyData.depth]; omega) hb, ?_⟩
  simp only [PyData.depth, PyData.shown]
  exact ReprK.tuple h1 h2 h3 hna hk
theorem rk_dict {P : Program} {w : World} {h : Heap} {a : Addr} {o : Obj} {es : Array DictEntry} {n : Nat} {kvs : List (PyData × PyData)} {as bs : List Addr} (hsys : (a == sysModules) = false) (h1 : h.get? a = some o) (h2 : o.cls = .type "dict") (h3 : o.data = .dict es n)
    (h4 : ReadsAll h (es.toList.map (·.key)) (kvs.map (·.1)) as) (h5 : ReadsAll h (es.toList.map (·.val)) (kvs.map (·.2)) bs) (k1 : RksOf P w h (es.toList.map (·.key)) (kvs.map (·.1))) (k2 : RksOf P w h (es.toList.map (·.val)) (kvs.map (·.2))) : RkOf P w h (.ref a) (.dict kvs) := by
  obtain ⟨b1, hb1, k1⟩ := k1
  obtain ⟨b2, hb2, k2⟩ := k2
  have r : Reads h (.ref a) (.dict kvs) _ := .dict h1 h2 h3 h4 h5
  have hb : ReadAtMost h (PyData.depthKv kvs) (b1 ++ b2) := (hb1.mono (PyData.depthAll_keys_le kvs)).append (hb2.mono (PyData.depthAll_vals_le kvs))
  have hna : a ∉ b1 ++ b2 := not_mem_of_deeper r (by simp only [PyData.depth]; omega) hb
  refine ⟨a :: (b1 ++ b2), ReadAtMost.cons r (by simp only [PyData.depth]; omega) hb, ?_⟩
  simp only [PyData.depth, PyData.shown, PyData.shownKv_eq]
  exact ReprK.dict h1 h2 h3 hsys hna (ReprEntriesK.of_two es.toList _ _
    (k1.more_le (fun b hb => List.mem_append_left _ hb) (PyData.depthAll_keys_le kvs)) (k2.more_le (fun b hb => List.mem_append_right _ hb) (PyData.depthAll_vals_le kvs)))
theorem rk_plain {P : Program} {w : World} {h : Heap} {u : Value} {d : PyData} (r : Reads h u d []) (hs : d.showable = true) (hz : d.shown.length ≤ sizeLine) : RkOf P w h u d := ReprK.of_reads r hs (fun _ z => nomatch z) hz
mutual
theorem RelD.rk (I : Inv X pins σ H s) : ∀ (d : D) (v : V) (u : Value), okPy d = true → RelD X.K H A ρ d v → RelV v u → d.py.showable = true → d.py.shown.length ≤ sizeLine → RkOf X.prog X.w s.heap u d.py
  | .non, _, _, _, h, r, hs, hz => by cases h; cases r; exact rk_plain Reads.none hs hz
  | .bl b, _, _, _, h, r, hs, hz => by cases h; cases r; exact rk_plain (Reads.bool b) hs hz
  | .int i, _, _, _, h, r, hs, hz => by cases h; obtain ⟨t, rfl⟩ := r; exact rk_plain (Reads.int i t) hs hz
  | .str x, _, _, _, h, r, hs, hz => by cases h; obtain ⟨t, rfl⟩ := r; exact rk_plain (Reads.str x t) hs hz
  | .tup ds, _, _, c, h, r, hs, hz => by
    have hz' : (tupleText (PyData.shownAll (pys ds))).length ≤ sizeLine := hz
    obtain ⟨a, xs, rfl, h1, h2⟩ := h
    cases r
    obtain ⟨its, rv, ⟨o, ho, hc, n, hd⟩, _⟩ := I.tuple (SqT.of h1)
    obtain ⟨as, hr, _⟩ := RelDs.reads I ds xs its c h2 rv
    exact rk_tuple ho hc hd hr (RelDs.rk I ds xs its c h2 rv hs fun t ht => Nat.le_trans (tupleText_mem_le ht) hz')
  | .lst ds, _, _, c, h, r, hs, hz => by
    have hz' : (listText (PyData.shownAll (pys ds))).length ≤ sizeLine := hz
    obtain ⟨a, xs, rfl, h1, _, h2⟩ := h
    cases r
    obtain ⟨its, rv, ⟨o, n, ho, hc, _, hd⟩, _⟩ := I.list (SqL.of h1)
    obtain ⟨as, hr, _⟩ := RelDs.reads I ds xs its c h2 rv
    exact rk_list ho hc hd hr (RelDs.rk I ds xs its c h2 rv hs fun t ht => Nat.le_trans (listText_mem_le ht) hz')
  | .dK kvs, _, _, c, h, r, hs, hz => by
    have hz' : (dictText (PyData.shownKv (pyK kvs))).length ≤ sizeLine := hz
    obtain ⟨a, ws, rfl, h1, _, h2⟩ := h
    cases r
    obtain ⟨hzz, hsy, vs, hkv, o, es, ep, ho, hx, hdt, _, hp, _⟩ := dk_rd I.hok h1
    obtain ⟨as, bs, r1, r2, _⟩ := RelK.reads I kvs ws vs es.toList c h2 hkv hp
    obtain ⟨hs1, hs2⟩ := PyData.showableKv_split (pyK kvs) hs
    obtain ⟨k1, k2⟩ := RelK.rk I kvs ws vs es.toList c h2 hkv hp hs1 hs2 (fun t ht => let ⟨p, hp, hl⟩ := PyData.shownKv_key_le _ t ht; Nat.le_trans hl (Nat.le_trans (dictText_mem_le hp) hz')) (fun t ht => let ⟨p, hp, hl⟩ := PyData.shownKv_val_le _ t ht; Nat.le_trans hl (Nat.le_trans (dictText_mem_le hp) hz'))
    exact rk_dict hsy ho hx.1 hdt r1 r2 k1 k2
  | .dT _, _, _, c, _, _, _, _ => nomatch c
  | .obj _, _, _, c, _, _, _, _ => nomatch c
  | .scr _, _, _, c, _, _, _, _ => nomatch c
theorem RelDs.rk (I : Inv X pins σ H s) : ∀ (ds : List D) (vs : List V) (us : List Value), okPys ds = true → RelDs X.K H A ρ ds vs → Vals vs us → PyData.showableAll (pys ds) = true → (∀ t ∈ PyData.shownAll (pys ds), t.length ≤ sizeLine) → RksOf X.prog X.w s.heap us (pys ds)
  | [], _, _, _, h, r, _, _ => by cases h; cases r; exact rks_nil
  | d :: ds, _, _, c, h, r, hs, hz => by
    obtain ⟨v, q, rfl, h1, h2⟩ := h
    have c' : okPy d = true ∧ okPys ds = true := by simpa [okPys] using c
    have hs' : d.py.showable = true ∧ PyData.showableAll (pys ds) = true := by simpa [PyData.showableAll, pys] using hs
    cases r with
    | cons r1 r2 => exact rks_cons (RelD.rk I d v _ c'.1 h1 r1 hs'.1 (hz _ List.mem_cons_self)) (RelDs.rk I ds q _ c'.2 h2 r2 hs'.2 fun t ht => hz t (List.mem_cons_of_mem _ ht))
theorem RelK.rk (I : Inv X pins σ H s) : ∀ (kvs : List (Key × D)) (ws : List (Key × V)) (vs : List (Key × Value)) (es : List DictEntry), okPyK kvs = true → RelK X.K H A ρ kvs ws → KV ws vs → Pairs (mixKind X.prog X.w) es vs →
    PyData.showableAll ((pyK kvs).map (·.1)) = true → PyData.showableAll ((pyK kvs).map (·.2)) = true → (∀ t ∈ PyData.shownAll ((pyK kvs).map (·.1)), t.length ≤ sizeLine) → (∀ t ∈ PyData.shownAll ((pyK kvs).map (·.2)), t.length ≤ sizeLine) →
    RksOf X.prog X.w s.heap (es.map (·.key)) ((pyK kvs).map (·.1)) ∧ RksOf X.prog X.w s.heap (es.map (·.val)) ((pyK kvs).map (·.2))
  | [], _, _, _, _, h, r, p, _, _, _, _ => by
    cases h; cases r; cases p
    exact ⟨rks_nil, rks_nil⟩
  | (k, d) :: kvs, _, _, _, c, h, r, p, s1, s2, z1, z2 => by
    obtain ⟨v, q, rfl, h1, h2⟩ := h
    have c' : okPy d = true ∧ okPyK kvs = true := by simpa [okPyK] using c
    have s1' : (dks k).showable = true ∧ PyData.showableAll ((pyK kvs).map (·.1)) = true := by simpa [PyData.showableAll, pyK] using s1
    have s2' : d.py.showable = true ∧ PyData.showableAll ((pyK kvs).map (·.2)) = true := by simpa [PyData.showableAll, pyK] using s2
    cases r with
    | cons r1 r2 =>
      cases p with
      | @cons ee _ _ _ p1 p2 p3 =>
        obtain ⟨a1, a2⟩ := RelK.rk I kvs q _ _ c'.2 h2 r2 p3 s1'.2 s2'.2 (fun t ht => z1 t (List.mem_cons_of_mem _ ht)) fun t ht => z2 t (List.mem_cons_of_mem _ ht)
        have a3 := RelD.rk I d v _ c'.1 h1 r1.2 s2'.1 (z2 _ List.mem_cons_self)
        rw [← p2] at a3
        obtain ⟨r1a, r1b⟩ := r1
        simp only at r1a
        rw [← r1a] at p1
        have hkey : Reads s.heap ee.key (dks k) [] := key_reads p1
        exact ⟨rks_cons (rk_plain hkey s1'.1 (z1 _ List.mem_cons_self)) a1, rks_cons a3 a2⟩
end
theorem sb_list {P : Program} {w : World} {h : Heap} {a : Addr} {o : Obj} {vs : Array Value} {n : Nat} {xs : List PyData} {as : List Addr} (h1 : h.get? a = some o) (h2 : o.cls = .type "list") (h3 : o.data = .seq vs n) (h4 : ReadsAll h vs.toList xs as) (k : RksOf P w h vs.toList xs) (hz' : (listText (PyData.shownAll xs)).length ≤ sizeLine) : ∃ T idr, ShowsBy P w h a (.list xs) T idr := by
  obtain ⟨bs, hb, hk⟩ := k
  have hna : a ∉ bs := not_mem_of_deeper (.list h1 h2 h3 h4) (by simp only [PyData.depth]; omega) hb
  refine ⟨"list", "list.__repr__", F.slot_list_repr.toG, F.slot_list_str, F.slot_list_format, fun s hk0 => ⟨o, hk0 _ _ h1, h2⟩, fun A E s Q hg hu hk0 hQ => ?_⟩
  simp only [PyData.depth] at hu
  simp only [PyData.shown] at hQ
  obtain ⟨l⟩ := vs
  cases l with
  | nil =>
    have h4' : ReadsAll h [] xs _ := h4
    cases h4'
    simp only [PyData.shownAll, listText_nil] at hQ
    exact call_list_repr_empty ⟨o, hk0 _ _ h1, h2⟩ (hk0 _ _ h1) h3 (hQ s.heap _ _ fun _ _ e => e)
  | cons x l =>
    exact call_list_reprK h1 h2 h3 hna (by simpa using hk.length_eq) (fun i y e => hk.item i y (by simpa using e)) hg (fun b _ => Clear.nil b) hu hk0 hQ hz'
theorem sb_tuple {P : Program} {w : World} {h : Heap} {a : Addr} {o : Obj} {vs : Array Value} {n : Nat} {xs : List PyData} {as : List Addr} (h1 : h.get? a = some o) (h2 : o.cls = .type "tuple") (h3 : o.data = .seq vs n) (h4 : ReadsAll h vs.toList xs as) (k : RksOf P w h vs.toList xs) (hz' : (tupleText (PyData.shownAll xs)).length ≤ sizeLine) : ∃ T idr, ShowsBy P w h a (.tuple xs) T idr := by
  obtain ⟨bs, hb, hk⟩ := k
  have hna : a ∉ bs := not_mem_of_deeper (.tuple h1 h2 h3 h4) (by simp only [PyData.depth]; omega) hb
  refine ⟨"tuple", "tuple.__repr__", F.slot_tuple_repr, F.slot_tuple_str, F.slot_tuple_format, fun s hk0 => ⟨o, hk0 _ _ h1, h2⟩, fun A E s Q hg hu hk0 hQ => ?_⟩
  simp only [PyData.depth] at hu
  simp only [PyData.shown] at hQ
  exact call_tuple_reprK h1 h2 h3 hna hk hg (fun b _ => Clear.nil b) hu hk0 hQ hz'
theorem sb_dict {P : Program} {w : World} {h : Heap} {a : Addr} {o : Obj} {es : Array DictEntry} {n : Nat} {kvs : List (PyData × PyData)} {as bs : List Addr} (hsys : (a == sysModules) = false) (h1 : h.get? a = some o) (h2 : o.cls = .type "dict") (h3 : o.data = .dict es n)
    (h4 : ReadsAll h (es.toList.map (·.key)) (kvs.map (·.1)) as) (h5 : ReadsAll h (es.toList.map (·.val)) (kvs.map (·.2)) bs) (k1 : RksOf P w h (es.toList.map (·.key)) (kvs.map (·.1))) (k2 : RksOf P w h (es.toList.map (·.val)) (kvs.map (·.2))) (hz' : (dictText (PyData.shownKv kvs)).length ≤ sizeLine) : ∃ T idr, ShowsBy P w h a (.dict kvs) T idr := by
  obtain ⟨b1, hb1, k1⟩ := k1
  obtain ⟨b2, hb2, k2⟩ := k2
  have hb : ReadAtMost h (PyData.depthKv kvs) (b1 ++ b2) := (hb1.mono (PyData.depthAll_keys_le kvs)).append (hb2.mono (PyData.depthAll_vals_le kvs))
  have hna : a ∉ b1 ++ b2 := not_mem_of_deeper (.dict h1 h2 h3 h4 h5) (by simp only [PyData.depth]; omega) hb
  refine ⟨"dict", "dict.__repr__", F.slot_dict_repr, F.slot_dict_str, F.slot_dict_format, fun s hk0 => ⟨o, hk0 _ _ h1, h2⟩, fun A E s Q hg hu hk0 hQ => ?_⟩
  simp only [PyData.depth] at hu
  simp only [PyData.shown, PyData.shownKv_eq] at hQ
  exact call_dict_reprK h1 h2 h3 hsys hna (ReprEntriesK.of_two es.toList _ _
    (k1.more_le (fun b hb => List.mem_append_left _ hb) (PyData.depthAll_keys_le kvs)) (k2.more_le (fun b hb => List.mem_append_right _ hb) (PyData.depthAll_vals_le kvs))) hg (fun b _ => Clear.nil b) hu hk0 hQ (by rw [← PyData.shownKv_eq]; exact hz')
theorem Lk.shows (I : Inv X pins σ H s) {d : D} {v : V} {a : Addr} (c : okPy d = true) (h : Lk X.K H A ρ d v) (r : RelV v (.ref a)) (hs : d.py.showable = true) (hz : d.py.shown.length ≤ sizeLine) : ∃ T idr, ShowsBy X.prog X.w s.heap a d.py T idr := by
  cases d with
  | tup ds =>
    obtain ⟨a, xs, rfl, h1, h2⟩ := h.tup
    have hz' : (tupleText (PyData.shownAll (pys ds))).length ≤ sizeLine := hz
    cases r
    obtain ⟨its, rv, ⟨o, ho, hc, n, hd⟩, _⟩ := I.tuple (SqT.of h1)
    obtain ⟨as, hr, _⟩ := RelDs.reads I ds xs its c h2 rv
    exact sb_tuple ho hc hd hr (RelDs.rk I ds xs its c h2 rv hs fun t ht => Nat.le_trans (tupleText_mem_le ht) hz') hz'
  | lst ds =>
    have hz' : (listText (PyData.shownAll (pys ds))).length ≤ sizeLine := hz
    obtain ⟨p, xs, rfl, h0, h2⟩ := h.lst
    have h1 : SqL X.K H p xs := SqL.of h0
    cases r
    obtain ⟨its, rv, ⟨o, n, ho, hc, _, hd⟩, _⟩ := I.list h1
    obtain ⟨as, hr, _⟩ := RelDs.reads I ds xs its c h2 rv
    exact sb_list ho hc hd hr (RelDs.rk I ds xs its c h2 rv hs fun t ht => Nat.le_trans (listText_mem_le ht) hz') hz'
  | dK kvs =>
    have hz' : (dictText (PyData.shownKv (pyK kvs))).length ≤ sizeLine := hz
    obtain ⟨p, ws, rfl, h1, h2⟩ := h.dK
    cases r
    obtain ⟨hzz, hsy, vs, hkv, o, es, ep, ho, hx, hdt, _, hp, _⟩ := dk_rd I.hok h1
    obtain ⟨as, bs, r1, r2, _⟩ := RelK.reads I kvs ws vs es.toList c h2 hkv hp
    obtain ⟨hs1, hs2⟩ := PyData.showableKv_split (pyK kvs) hs
    obtain ⟨k1, k2⟩ := RelK.rk I kvs ws vs es.toList c h2 hkv hp hs1 hs2 (fun t ht => let ⟨p, hp, hl⟩ := PyData.shownKv_key_le _ t ht; Nat.le_trans hl (Nat.le_trans (dictText_mem_le hp) hz')) (fun t ht => let ⟨p, hp, hl⟩ := PyData.shownKv_val_le _ t ht; Nat.le_trans hl (Nat.le_trans (dictText_mem_le hp) hz'))
    exact sb_dict hsy ho hx.1 hdt r1 r2 k1 k2 hz'
  | non => cases h.non; cases r
  | bl b => cases h.bl; cases r
  | int i => cases h.int; obtain ⟨t, z⟩ := r; cases z
  | str x => cases h.str; obtain ⟨t, z⟩ := r; cases z
  | dT _ => cases c
  | obj _ => cases c
  | scr _ => cases c
theorem Lk.repr {Q : Value → Shared → Prop} (I : Inv X pins σ H s) {d : D} {v : V} {a : Addr} (c : okPy d = true) (h : Lk X.K H A ρ d v) (r : RelV v (.ref a)) (hs : d.py.showable = true) (hz : d.py.shown.length ≤ sizeLine) {A' : Around} {E : Value → Shared → Prop} (hg : A'.guards = some []) (hu : A'.units + (d.py.depth + 1) < cLine)
    (hQ : ∀ h' u tk, (∀ b o, s.heap.get? b = some o → h'.get? b = some o) → Q (.str d.py.shown u) { s with heap := h', toks := tk }) : wpAny (model X.prog X.w) A' (call (.builtin "repr") [.ref a]) Q E s := by
  obtain ⟨T, idr, S⟩ := Lk.shows I c h r hs hz
  exact call_repr_slot (by omega) (S.typeIs s fun _ _ e => e) S.slotRepr (S.call A'.in1 E s _ hg (by show A'.units + 1 + d.py.depth < cLine; omega) (fun _ _ e => e) fun h' u tk hk => ⟨_, _, rfl, hQ h' u tk hk⟩)
end
end MP
namespace L2
open PySem PySem.Spec PyProof.Rows
section
variable {X : Cx}
theorem intsEach2 {acc : List Value} {ks : List Int} {vs : List (Key × Value)} (hkeys : vs.map (·.1) = ks.map Sum.inl) (hal : acc.length = ks.length) (h : ∀ (j : Nat) (v : Value), acc[j]? = some v → ∃ (k : Key) (x : Value), vs[j]? = some (k, x) ∧ keyIs k v = true) : IntsAre acc ks :=
  ints_each hal fun j v e => by
    obtain ⟨k, x, e1, e2⟩ := h j v e
    have e3 : (vs.map (·.1))[j]? = some k := by rw [List.getElem?_map, e1]; rfl
    rw [hkeys, List.getElem?_map] at e3
    cases e4 : ks[j]? with
    | none => rw [e4] at e3; cases e3
    | some y =>
      rw [e4] at e3
      have e5 : Sum.inl y = k := Option.some.inj e3
      subst e5
      rcases keyIs_shape e2 with ⟨i, t, ek, ev⟩ | ⟨z, t, ek, ev⟩
      · cases ek; exact ⟨y, t, rfl, ev⟩
      · cases ek
theorem call_sortedDA (hcalm : X.calm = true) : CallR X (.builtin "sorted") (fun xs H Q => ∃ (a : Addr) (kvs : List (Key × V)) (ks : List Int), xs = [.ref a] ∧ Rd H a (.dK kvs) ∧ kvs.map (·.1) = ks.map Sum.inl ∧ ks.length ≤ sizeLine ∧
    ∀ (ys : List Int) (p : Addr), ys.Perm ks → ys.Pairwise (· ≤ ·) → H p = none → Q (.ref p) (upd H p (.lst (ys.map V.int)))) := by
  intro pns s σ H xs us Q I r q
  obtain ⟨a, kvs, ks, rfl, hd, hks, hzz, q⟩ := q
  obtain ⟨u, rfl, rx⟩ := vals1 r
  cases rx
  obtain ⟨z, low, vs, rel, dd⟩ := dk_rd I.hok hd
  obtain ⟨ep, hat⟩ := dd.dictAt
  have hkeys : vs.map (·.1) = ks.map Sum.inl := rel.keys.symm.trans hks
  have hlen : vs.length = ks.length := by have e := congrArg List.length hkeys; rwa [List.length_map, List.length_map] at e
  refine Calls.call_function_entry PyProof.Rows.kind_sorted PyProof.Rows.plain_sorted PyProof.Rows.entry_sorted (PyProof.Rows.args_sorted1 _) ?_
  unfold Builtin.«sorted»
  refine wpAny_bind (m := checkCount "sorted" 1 1 _) (wpAny_pure ?_)
  refine wpAny_bind (PySem.W.kdu_collect (A := X.A.in1) (PySem.W.kdl_dict (knd := mixKind X.prog X.w) (kvs := vs) (ep := ep) low) (I.ok.hd hcalm) hat (by rw [hlen]; exact hzz) fun h9 tk acc hk hacc => ?_)
  have hal : acc.toList.length = ks.length := by rw [Array.length_toList, hacc.1, hlen]
  have hS : IntsAre acc.toList ks := intsEach2 hkeys hal fun j v e => by
    obtain ⟨k, x, e1, e2⟩ := hacc.2 j v (by rw [← Array.getElem?_toList]; exact e)
    exact ⟨k, x, e1, e2⟩
  have I1 : Inv X pns σ H { s with heap := h9, toks := tk } := I.kept hk
  refine wpAny_bind (wpAny_newList ?_ (by rw [hal]; exact hzz))
  have hoL : (h9.push (seqObj "list" acc.toList.toArray 0)).get? h9.objs.size = some (seqObj "list" acc.toList.toArray 0) := Heap.get?_push_size _ rfl
  show wpAny _ _ _ _ _ { s with heap := h9.push (seqObj "list" acc.toList.toArray 0), toks := tk }
  refine wpAny_bind (wpAny_holding (wpAny_call_entry PyProof.Rows.slot_list_sort ⟨_, hoL, rfl⟩ PyProof.Rows.entry_list_sort
    (PyProof.Rows.list_sort_treeAny (s := { s with heap := h9.push (seqObj "list" acc.toList.toArray 0), toks := tk }) hoL hS (by rw [hal]; exact hzz) fun out ys g1 g2 g3 => ⟨_, rfl, ?_⟩) (PyProof.Rows.args_list_sort _)))
  obtain ⟨e9, he9⟩ := PyProof.Rows.sortedHeap_at (vs := acc.toList) (out := out) hoL
  have yl : (ys.map V.int).length ≤ sizeLine := by rw [List.length_map, g2.length_eq]; exact hzz
  refine wpAny_pure ⟨_, rfl, .ref h9.objs.size, upd H h9.objs.size (.lst (ys.map V.int)), I1.laid (t' := tk) (fun b u e => ?_) (Nat.le_refl _)
    (show ObjOk X.prog X.w _ _ _ (.lst (ys.map V.int)) from ⟨yl, out.toList, e9, vals_of_ints g1, by rw [Array.toArray_toList]; exact he9⟩), rfl, q ys _ g2 g3 (I1.hok.fresh (Nat.le_refl _))⟩
  have hb : b < h9.objs.size := Heap.lt_size e
  rw [PyProof.Rows.sortedHeap_old (Nat.ne_of_lt hb) (by rw [size_push']; exact Nat.lt_succ_of_lt hb)]
  exact Heap.get?_push_of_some _ e
theorem kt_dictH {prog : Program} {w : World} {K : Type} [DecidableEq K] {knd : HeapKind prog w K} {A : Around} {E : Value → Shared → Prop} {s : Shared} {o : Addr} {more : List (K × Addr × Value)} {Q : Value → Shared → Prop} (hu : ∀ A' : Around, A'.units ≤ A.units + 2 → knd.room A') (hoS : (o == sysModules) = false) (ho : s.heap.DictOfH knd o more) (hsz : more.length ≤ sizeLine)
    (hty : ∀ x ∈ more, s.TypeIs (.ref x.2.1) "tuple") (hap : (more.map fun x => knd.hash x.1).Nodup) (hpush : ∀ ob, (s.heap.push ob).DictOfH knd o more)
    (h : ∀ h', h'.DictOfH knd s.heap.objs.size more → Heap.SameBut s.heap.objs.size (s.heap.push { cls := .type "dict", data := .dict #[] }) h' → Q (.ref s.heap.objs.size) { s with heap := h' }) :
    wpAny (model prog w) A (call (.type "dict") [.ref o]) Q E s := by
  refine callType_codes (Q₁ := fun obj t => obj = .ref s.heap.objs.size ∧ t = { s with heap := s.heap.push { cls := .type "dict", data := .dict #[] } }) F.kt_called_dict (F.kt_typeCall_dict_1 _) F.entry_dict_init (kt_code_dict_new _ ⟨rfl, rfl⟩) ?_
  rintro obj t ⟨rfl, rfl⟩
  have hnew : (s.heap.push { cls := .type "dict", data := .dict #[] }).DictOfH knd s.heap.objs.size [] := ⟨_, #[], 0, Heap.get?_push_size _ rfl, ⟨rfl, rfl, rfl⟩, rfl, rfl, (fun x hx => nomatch hx), List.nodup_nil⟩
  have hn : (more.map (·.1)).Nodup := ho.nodup
  have hdo : s.heap.objs.size ≠ o := by
    obtain ⟨_, _, _, hg, _⟩ := ho
    exact fun e => absurd (Heap.lt_size hg) (by rw [e]; exact Nat.lt_irrefl _)
  refine ⟨hnew.typeIs, F.args_dict_init_2 _ _, ?_⟩
  unfold Builtin.«dict.__init__»
  refine wpAny_bind ?_
  unfold Builtin.Dict.selfAndRest
  refine wpAny_bind (wpAny_notOrdered_dict hnew.typeIs ?_)
  show wpAny _ _ (pure (s.heap.objs.size, [Value.ref o])) _ _ _
  refine wpAny_pure ?_
  show wpAny _ _ (Builtin.Dict.updateFrom "dict.__init__" s.heap.objs.size (.ref o) [] .none) _ _ _
  refine updateFrom_dictH .none (hu _ (by first | exact Nat.le_refl _ | (show A.units + 1 + 1 ≤ _; omega) | (show A.units + 1 ≤ _; omega) | omega)) hdo hoS hnew (hpush _) (.inr ⟨fun x hx => ?_, hap⟩) (by simpa using hsz) fun h' hd' _ hs' => ?_
  · obtain ⟨ob, e, c⟩ := hty x hx
    exact ⟨ob, Heap.get?_push_of_some _ e, c⟩
  · rw [storedAllH_nil_of_nodup more hn] at hd'
    exact ⟨rfl, h h' hd' hs'⟩
theorem call_dictT (hu : X.A.units + 67 < cLine) : CallR X (.type "dict") (fun xs H Q => ∃ (a : Addr) (kvs : List (List Key × V)), xs = [.ref a] ∧ Rd H a (.dT kvs) ∧ (kvs.map fun kv => tupleKeyHash (mixKind X.prog X.w) kv.1).Nodup ∧ ∀ p, H p = none → Q (.ref p) (upd H p (.dT kvs))) := by
  intro pns s σ H vs us Q I r q
  obtain ⟨a, kvs, rfl, hd, hap, q⟩ := q
  obtain ⟨u, rfl, rx⟩ := vals1 r
  cases rx
  obtain ⟨z, low, xs, rel, dd⟩ := dt_rd I.hok hd
  obtain ⟨o, es, ep, h1, h2, h3, h4, his, hn⟩ := id dd
  have hz : xs.length ≤ sizeLine := by rw [← Paired.length rel]; exact z
  have keep : ∀ ob, ∀ x ∈ xs, (tupleKind (mixKind X.prog X.w)).is (s.heap.push ob) x.1 x.2.1 := fun ob x hx => by
    obtain ⟨o1, its, n, g1, g2, g3, g4⟩ := his x hx
    exact ⟨o1, its, n, Heap.get?_push_of_some _ g1, g2, g3, g4⟩
  have ekeys : (xs.map fun x => (tupleKind (mixKind X.prog X.w)).hash x.1) = kvs.map fun kv => tupleKeyHash (mixKind X.prog X.w) kv.1 := by
    clear hap dd h4 his hn hz keep z hd q
    induction rel with
    | nil => rfl
    | @cons p q ps qs hq t ih => rw [List.map_cons, List.map_cons, ih, hq.1]; rfl
  refine kt_dictH (fun A' hA' => (show A'.units < cLine by omega)) low dd hz (fun x hx => ?_) (by rw [ekeys]; exact hap) (fun ob => ⟨o, es, ep, Heap.get?_push_of_some _ h1, h2, h3, h4, keep ob, hn⟩) fun h' d' hs => ?_
  · obtain ⟨o1, its, n, g1, g2, g3, g4⟩ := his x hx
    exact ⟨o1, g1, g2⟩
  · have hm : (s.heap.objs.size == sysModules) = false := beq_eq_false_iff_ne.mpr (Nat.ne_of_gt I.big)
    obtain ⟨w1, es', ep', w2, w3, w4, w5, _, w6⟩ := d'
    exact ⟨.ref s.heap.objs.size, upd H s.heap.objs.size (.dT kvs), I.laid (t' := s.toks) (fun b u e => (hs.2 b (Nat.ne_of_lt (Heap.lt_size e))).trans (Heap.get?_push_of_some _ e)) (Nat.le_refl _)
      (show ObjOk X.prog X.w _ _ _ (.dT kvs) from ⟨z, hm, xs, rel.keeps (fun c ys ec => by rw [upd_ne (ne_of_none ec (I.hok.fresh (Nat.le_refl _)))]; exact ec), w1, es', ep', w2, w3, w4, w5, w6⟩), rfl, q _ (I.hok.fresh (Nat.le_refl _))⟩
end
end L2
namespace MP
open PySem PySem.Spec PyProof.Rows L2
section
variable {prog : Program} {w : World} {A : Around} {E : Value → Shared → Prop} {s : Shared}
theorem sorted_colV {l : Addr} {vs : List Value} (ds : List PyData) {Q : Value → Shared → Prop} (hL : vs.length ≤ sizeLine)
    (col : ∀ R : List Value → Shared → Prop, (∀ h0 tk, Kp s.heap h0 → R vs { s with heap := h0, toks := tk }) → wpAny (model prog w) A.in1 (collect (.ref l)) R E s)
    (S : ∀ h1 tk, Kp s.heap h1 → PySem.W.SortsAt prog w A.in1.in1 { s with heap := h1, toks := tk } (PySem.W.dataKind h1 ds) vs)
    (fin : ∀ (h0 h1 h2 : Heap) (a c tk : Nat), Kp s.heap h0 → Kp s.heap h1 → Kp h0 h2 → a = h0.objs.size → h2.get? a = some (PyProof.Rows.seqObj "list" (PySem.W.sortVals (PySem.W.dataKind h1 ds) false vs vs).toArray c) → Q (.ref a) { s with heap := h2, toks := tk }) :
    wpAny (model prog w) A (call (.builtin "sorted") [.ref l]) Q E s := by
  refine PySem.Calls.call_function_entry PyProof.Rows.kind_sorted PyProof.Rows.plain_sorted PyProof.Rows.entry_sorted (PyProof.Rows.args_sorted1 _) ?_
  unfold Builtin.«sorted»
  refine wpAny_bind (m := checkCount "sorted" 1 1 _) (wpAny_pure ?_)
  refine wpAny_bind (col _ fun h0 tk k0 => ?_)
  refine wpAny_bind (wpAny_newList ?_ hL)
  have g0 : (h0.push (PyProof.Rows.seqObj "list" vs.toArray 0)).get? h0.objs.size = some (PyProof.Rows.seqObj "list" vs.toArray 0) := Heap.get?_push_size _ rfl
  have k1 : Kp s.heap (PySem.W.sortingHeap (h0.push (PyProof.Rows.seqObj "list" vs.toArray 0)) h0.objs.size vs) := fun b o hb => by
    have hb0 := k0 b o hb
    exact PySem.W.sortingHeap_old (Nat.ne_of_lt (Heap.lt_size hb0)) (Heap.get?_push_of_some _ hb0)
  refine wpAny_bind (wpAny_holding (wpAny_call_entry PyProof.Rows.slot_list_sort ⟨_, g0, rfl⟩ PyProof.Rows.entry_list_sort (PySem.W.list_sort_vals g0 (S _ tk k1) hL ⟨_, rfl, ?_⟩) (PyProof.Rows.args_list_sort _)))
  refine wpAny_pure ⟨_, rfl, ?_⟩
  obtain ⟨c, hc⟩ := PyProof.Rows.sortedHeap_at (vs := vs) (out := (PySem.W.sortVals (PySem.W.dataKind (PySem.W.sortingHeap (h0.push (PyProof.Rows.seqObj "list" vs.toArray 0)) h0.objs.size vs) ds) false vs vs).toArray) g0
  refine fin h0 _ _ h0.objs.size c tk k0 k1 (fun b o hb0 => ?_) rfl hc
  have hlt := Heap.lt_size hb0
  rw [PyProof.Rows.sortedHeap_old (Nat.ne_of_lt hlt) (by rw [Heap.size_push]; exact Nat.lt_succ_of_lt hlt)]
  exact Heap.get?_push_of_some _ hb0
end
section
variable {X : Cx} {H : Hp} {A : Addr → Prop} {ρ : List CA}
theorem sorted_okV (hu : X.A.units + 67 < cLine) {pins : List (Addr × Obj)} {s : Shared} {σ : L2.St} {Q : VK} {ds : List D} {l : Addr} {its : List Value} (I : Inv X pins σ H s) (he : PySem.W.EachIs (RelVD X.K H A ρ) its ds)
    (col : ∀ R : List Value → Shared → Prop, (∀ h0 tk, Kp s.heap h0 → R its { s with heap := h0, toks := tk }) → wpAny (model X.prog X.w) X.A.in1 (collect (.ref l)) R X.xe s) (hlen : its.length = ds.length) (ok : okSort ds = true)
    (g : Gives X.K H A ρ (.lst (sortD ds)) Q) : wpAny (model X.prog X.w) X.A (call (.builtin "sorted") [.ref l]) (EP X pins σ Q) X.xe s := by
  unfold okSort at ok
  simp only [Bool.and_eq_true, List.all_eq_true, decide_eq_true_eq, Bool.or_eq_true] at ok
  obtain ⟨⟨⟨o1, o2⟩, o3⟩, o4⟩ := ok
  have hL : its.length ≤ sizeLine := by rw [hlen, szline]; exact o4
  have er : PySem.W.EachIs (fun v d => ∃ as, Reads s.heap v (D.py d) as) its ds := by
    refine PySem.W.EachIs.of_zip hlen fun q hq => ?_
    obtain ⟨v, r, d⟩ := he.zip q hq
    obtain ⟨as, h, _⟩ := RelD.reads I q.2 v q.1 (okPy_lay _ (o3 q.2 (List.of_mem_zip hq).2).2) d r
    exact ⟨as, h⟩
  have al : PySem.W.AllAlike (ds.map D.py) := fun d hd d' hd' => by
    obtain ⟨b, hb, rfl⟩ := List.mem_map.mp hd
    obtain ⟨b', hb', rfl⟩ := List.mem_map.mp hd'
    exact o1 b hb b' hb'
  have rd : ∀ h1, Kp s.heap h1 → PySem.W.EachIs (fun v d => ∃ as, Reads h1 v (D.py d) as) its ds := fun h1 k => er.mono fun _ _ ⟨as, r⟩ => ⟨as, PyProof.Rows.Reads.keeps k r⟩
  refine sorted_colV (ds.map D.py) hL col (fun h1 tk k => ?_) fun h0 h1 h2' b c tk k0 k1 k2 hb hc => ?_
  · by_cases one : oneTup ds = true
    · obtain ⟨ts, eds⟩ : ∃ ts, ds = [.tup ts] := by
        unfold oneTup at one
        split at one
        · exact ⟨_, rfl⟩
        · cases one
      subst eds
      obtain ⟨v, ev⟩ : ∃ v, its = [v] := List.length_eq_one_iff.mp hlen
      subst ev
      obtain ⟨as, r⟩ := (rd h1 k).zip (v, .tup ts) (List.mem_singleton.mpr rfl)
      have dp := (o3 _ (List.mem_singleton.mpr rfl)).1
      have n0 : D.py (.tup ts) ≠ .none := fun z => nomatch z
      have u0 : X.A.in1.in1.units + (D.py (.tup ts)).depth < cLine := by
        show X.A.units + 2 + _ < _
        omega
      exact sortsAt_one (s := { s with heap := h1, toks := tk }) r (o1 _ (List.mem_singleton.mpr rfl) _ (List.mem_singleton.mpr rfl)) n0 u0
    · have o2 : (∀ x ∈ ds, neTup x = true) ∨ ∀ x ∈ ds, notTup x = true := o2.imp id fun z => z.resolve_right one
      refine PySem.W.SortsAt.data (s := { s with heap := h1, toks := tk }) (PySem.W.each_map (R := fun v d => ∃ as, Reads h1 v d as) D.py (rd h1 k)) al ?_ (PySem.W.bound_map fun b hb => ?_)
      · rcases o2 with o2 | o2
        · refine .inl fun d hd => ?_
          obtain ⟨b, hb, rfl⟩ := List.mem_map.mp hd
          have q := o2 b hb
          unfold neTup at q
          split at q
          · exact ⟨_, _, rfl⟩
          · cases q
        · refine .inr fun d hd => ?_
          obtain ⟨b, hb, rfl⟩ := List.mem_map.mp hd
          have q := o2 b hb
          cases b <;> first | (cases q; done) | exact ⟨(fun z => nomatch z), (fun _ z => nomatch z)⟩
      · have := (o3 b hb).1
        show X.A.units + 2 + _ < _
        omega
  · have ho : PySem.W.EachIs (RelVD X.K H A ρ) (PySem.W.sortVals (PySem.W.dataKind h1 (ds.map D.py)) false its its) (ds.mergeSort (PySem.W.dataLe false D.py)) := PySem.W.sortVals_data false he (rd h1 k1) al
    have hlo : (PySem.W.sortVals (PySem.W.dataKind h1 (ds.map D.py)) false its its).length = ds.length := by rw [PySem.W.sortVals_length false rfl]; exact hlen
    obtain ⟨ys, r1, r2⟩ := of_each ho
    subst hb
    have I1 : L2.Inv X pins σ H { s with heap := h0, toks := tk } := I.kept k0
    have hn := I1.hok.fresh (Nat.le_refl _)
    exact ⟨.ref _, upd H h0.objs.size (.lst ys), I1.laid (t' := tk) k2 (Nat.le_refl _) ⟨by rw [r1.length, hlo, szline]; exact o4, _, c, r1, hc⟩, rfl, g _ _ (.lst hn r2)⟩
theorem eachT : ∀ {kvs : List (List Key × D)} {ws : List (List Key × V)} {ks : List (List Key × Addr × Value)}, RelT X.K H A ρ kvs ws → KT H ws ks → PySem.W.EachIs (RelVD X.K H A ρ) (ks.map fun x => Value.ref x.2.1) (kvs.map fun kv => keysD kv.1)
  | [], _, _, h, r => by cases h; cases r; exact .nil
  | (k, d) :: kvs, _, _, h, r => by
    obtain ⟨v, q, rfl, h1, h2⟩ := h
    cases r with
    | @cons _ p _ ps r1 r2 =>
      refine .cons ⟨.ref p.2.1, rfl, ?_⟩ (eachT h2 r2)
      exact ⟨p.2.1, _, rfl, r1.2.1, keys_of⟩
theorem sorted_okD (hu : X.A.units + 67 < cLine) (hc : X.calm = true) {pins : List (Addr × Obj)} {s : Shared} {σ : L2.St} {Q : VK} {kvs : List (List Key × D)} {v : V} {u : Value} (I : Inv X pins σ H s) (r : RelV v u) (p : Lk X.K H A ρ (.dT kvs) v) (ok : okSort (kvs.map fun kv => keysD kv.1) = true)
    (g : Gives X.K H A ρ (.lst (sortD (kvs.map fun kv => keysD kv.1))) Q) : wpAny (model X.prog X.w) X.A (call (.builtin "sorted") [u]) (EP X pins σ Q) X.xe s := by
  obtain ⟨a, ws, rfl, h1, h2⟩ := p.dT
  cases r
  obtain ⟨z, hs, ks, pr, o, es, ep, ho, hx, hdt, he, hn⟩ := (show ObjOk X.prog X.w H s.heap a (.dT ws) from h1.ok I.hok)
  have l1 : es.size = ks.length := size_of_entries he
  have l2 : ws.length = ks.length := Paired.length pr
  have l3 : kvs.length = ws.length := h2.g.length
  refine sorted_okV hu (its := ks.map fun x => Value.ref x.2.1) I (eachT h2 pr) (fun R hR => ?_) (by rw [List.length_map, List.length_map]; omega) ok g
  refine PySem.W.kdu_collect (A := X.A.in1) (kdl_raw hs hx hdt) (I.ok.hd hc) ho (by omega) fun h' tk acc' kp it => ?_
  have ea : acc'.toList = ks.map fun x => Value.ref x.2.1 := by
    have hl : acc'.toList.length = ks.length := by rw [Array.length_toList, it.1]; exact l1
    apply List.ext_getElem?
    intro j
    rw [List.getElem?_map]
    cases hj : acc'.toList[j]? with
    | none =>
      have h1 := List.getElem?_eq_none_iff.mp hj
      rw [List.getElem?_eq_none (by omega)]
      all_goals rfl
    | some v =>
      obtain ⟨en, hen, hv⟩ := it.2 j v (by rw [← Array.getElem?_toList]; exact hj)
      have qe := entry_at he j
      rw [hen] at qe
      cases hb : ks[j]? with
      | none =>
        rw [hb] at qe
        exact nomatch (show some en = none from qe)
      | some b =>
        rw [hb] at qe
        have e2 : en = entryOfKey (tupleKind (mixKind X.prog X.w)) b := Option.some.inj qe
        rw [hv, e2]
        all_goals rfl
  rw [ea]
  exact hR h' tk kp
end
end MP
namespace L2
open PySem PySem.Spec PyProof.Rows
section
variable {X : Cx}
theorem pairsT_of {pins : List (Addr × Obj)} {σ : St} {H : Hp} {s : Shared} (I : Inv X pins σ H s) : ∀ {ps : List (Addr × Addr)} {kvs : List (List Key × V)}, Paired (fun p kv => SqT X.K H p.1 [.ref p.2, kv.2] ∧ H p.2 = some (.tup (kv.1.map kV))) ps kvs →
    ∃ prs : List (List Key × Addr × Value), KT H kvs prs ∧ prs.length = ps.length ∧ ∀ (j : Nat) (q : List Key × Addr × Value), prs[j]? = some q → ∃ b : Addr × Addr, ps[j]? = some b ∧ IsTup s.heap b.1 #[.ref q.2.1, q.2.2]
  | _, _, .nil => ⟨[], .nil, rfl, fun j q e => by simp at e⟩
  | _, _, .cons (a := p) (b := kv) h t => by
    obtain ⟨prs, r, hl, hp⟩ := pairsT_of I t
    obtain ⟨its, rv, ht, _⟩ := I.tuple h.1
    obtain ⟨u, y, ei, ru, ry⟩ := vals2 rv
    subst ei
    cases ru
    refine ⟨(kv.1, p.2, y) :: prs, .cons ⟨rfl, h.2, ry⟩ r, by rw [List.length_cons, List.length_cons, hl], fun j q e => ?_⟩
    cases j with
    | zero =>
      have e' : (kv.1, p.2, y) = q := Option.some.inj e
      subst e'
      exact ⟨p, rfl, ht⟩
    | succ j =>
      obtain ⟨b, e1, e2⟩ := hp j q (by simpa using e)
      exact ⟨b, by simpa using e1, e2⟩
theorem call_dictPT (hcalm : X.calm = true) (hu : X.A.units + 67 < cLine) : CallR X (.type "dict") (fun xs H Q => ∃ (a : Addr) (ps : List (Addr × Addr)) (kvs : List (List Key × V)), xs = [.ref a] ∧ SqL X.K H a ((ps.map (·.1)).map V.ref) ∧ Paired (fun p kv => SqT X.K H p.1 [.ref p.2, kv.2] ∧ H p.2 = some (.tup (kv.1.map kV))) ps kvs ∧ (kvs.map (·.1)).Nodup ∧
    ∀ p, H p = none → Q (.ref p) (upd H p (.dT kvs))) := by
  intro pins s σ H xs us Q I r q
  obtain ⟨a, ps, kvs, ex, hq, hp, hn, q⟩ := q
  subst ex
  obtain ⟨u, eu, rx⟩ := vals1 r
  subst eu
  cases rx
  obtain ⟨its, rv, pl, hz⟩ := I.list hq
  have ei := refs_at rv
  subst ei
  rw [List.length_map, List.length_map] at hz
  obtain ⟨prs, rel, hl, hpr⟩ := pairsT_of I hp
  obtain ⟨o, n, ho, hc, hd, hdat⟩ := pl
  have hlen : kvs.length ≤ sizeLine := by rw [Paired.length rel, hl]; exact hz
  have keys : prs.map (·.1) = kvs.map (·.1) := by
    clear hpr hl hn hlen q hp
    induction rel with
    | nil => rfl
    | @cons p q ps qs h t ih => rw [List.map_cons, List.map_cons, ih, h.1]
  have hin : ∀ x ∈ prs, ∃ kv : List Key × V, H x.2.1 = some (.tup (x.1.map kV)) := fun x hx => by
    clear hpr hl hn hlen q hp keys
    induction rel with
    | nil => cases hx
    | @cons p q ps qs h t ih =>
      rcases List.mem_cons.mp hx with rfl | hx
      · exact ⟨p, by rw [← h.1]; exact h.2.1⟩
      · exact ih hx
  refine call_dict_pairsH (knd := tupleKind (mixKind X.prog X.w)) (ps := prs) (PairArg.list a _ (fun j => (ps.getD j (0, 0)).1) (prs.map fun x => (Value.ref x.2.1, x.2.2))) (I.ok.hd hcalm) ?_ ⟨⟨o, n, ho, hc, hd, hdat⟩, ?_, ?_⟩ ⟨by rw [List.length_map], ?_⟩ ?_ ?_ fun h' tk hd' k => ?_
  · show X.A.units + 1 + 1 < cLine
    omega
  · simp [hl]
  · intro j k v e
    rw [List.getElem?_map, Option.map_eq_some_iff] at e
    obtain ⟨x, ex, e⟩ := e
    cases e
    obtain ⟨b, e1, e2⟩ := hpr j x ex
    refine ⟨by simp [e1], .inl ?_⟩
    have e3 : ps.getD j (0, 0) = b := by rw [List.getD_eq_getElem?_getD, e1]; rfl
    show s.heap.IsTuple (ps.getD j (0, 0)).1 _
    rw [e3]
    exact e2
  · intro i key v e
    have e : (prs.map fun x => (Value.ref x.2.1, x.2.2))[i]? = some (key, v) := e
    rw [List.getElem?_map, Option.map_eq_some_iff] at e
    obtain ⟨x, ex, e⟩ := e
    cases e
    exact ⟨x.1, x.2.1, ex, rfl⟩
  · intro h' hk x hx
    obtain ⟨_, hH⟩ := hin x hx
    obtain ⟨o1, its1, n1, g1, g2, g3, g4⟩ := key_of I.hok hH
    exact ⟨o1, its1, n1, hk _ _ (Nat.ne_of_lt (Heap.lt_size g1)) (fun z => nomatch z) g1, g2, g3, g4⟩
  · rw [List.length_map, hl]; exact hz
  · rw [storedAllH_nil_of_nodup prs (by rw [keys]; exact hn)] at hd'
    have hm : (s.heap.objs.size == sysModules) = false := beq_eq_false_iff_ne.mpr (Nat.ne_of_gt I.big)
    obtain ⟨w1, es', ep', w2, w3, w4, w5, _, w6⟩ := hd'
    exact ⟨.ref s.heap.objs.size, upd H s.heap.objs.size (.dT kvs), I.laid (t' := tk) (fun b o e => k b o (fun z => nomatch z) e) (Nat.le_refl _)
      (show ObjOk X.prog X.w _ _ _ (.dT kvs) from ⟨hlen, hm, prs, rel.keeps (fun c ys ec => by rw [upd_ne (ne_of_none ec (I.hok.fresh (Nat.le_refl _)))]; exact ec), w1, es', ep', w2, w3, w4, w5, w6⟩), rfl, q _ (I.hok.fresh (Nat.le_refl _))⟩
end
end L2
namespace MP
open PySem L2
theorem pk1 {K : PySem.W.Frag} {H : Hp} {A : Addr → Prop} {ρ : List CA} {d : D} {vs : List V} (h : LkAll K H A ρ [d] vs) : ∃ v, vs = [v] ∧ Lk K H A ρ d v := by
  cases h with
  | cons a t => cases t; exact ⟨_, rfl, a⟩
theorem pk2 {K : PySem.W.Frag} {H : Hp} {A : Addr → Prop} {ρ : List CA} {d e : D} {vs : List V} (h : LkAll K H A ρ [d, e] vs) : ∃ v w, vs = [v, w] ∧ Lk K H A ρ d v ∧ Lk K H A ρ e w := by
  cases h with
  | cons a t => cases t with
    | cons b t => cases t; exact ⟨_, _, rfl, a, b⟩
theorem pk3 {K : PySem.W.Frag} {H : Hp} {A : Addr → Prop} {ρ : List CA} {d e f : D} {vs : List V} (h : LkAll K H A ρ [d, e, f] vs) : ∃ v w u, vs = [v, w, u] ∧ Lk K H A ρ d v ∧ Lk K H A ρ e w ∧ Lk K H A ρ f u := by
  cases h with
  | cons a t => cases t with
    | cons b t => cases t with
      | cons c t => cases t; exact ⟨_, _, _, rfl, a, b, c⟩
theorem ite_int {p : Prop} [Decidable p] (i j : Int) : (if p then V.int j else V.int i) = V.int (if p then j else i) := by split <;> rfl
theorem nu2 (i j : Int) : nuMax2 (.int i) (.int j) = some (.int (if i < j then j else i)) := by
  show some (if decide (i < j) = true then V.int j else V.int i) = _
  simp only [decide_eq_true_eq]
  rw [ite_int]
theorem nm2 (i j : Int) : nuMin2 (.int i) (.int j) = some (.int (if j < i then j else i)) := by
  show some (if decide (j < i) = true then V.int j else V.int i) = _
  simp only [decide_eq_true_eq]
  rw [ite_int]
theorem sig2 {α β : Type} {f : α → β} {o : Option α} {b : β} (h : o.map f = some b) : ∃ a, o = some a ∧ f a = b := Option.map_eq_some_iff.mp h
theorem keyInts_ok : ∀ {k : List Key} {i : List Int}, keyInts k = some i → k = i.map Sum.inl
  | [], i, e => by cases e; rfl
  | .inl j :: r, i, e => by
    simp only [keyInts, Option.map_eq_some_iff] at e
    obtain ⟨i', e1, rfl⟩ := e
    rw [keyInts_ok e1]; rfl
  | .inr _ :: _, _, e => by cases e
theorem keysInts_ok : ∀ {ks : List (List Key)} {l : List (List Int)}, keysInts ks = some l → ks = l.map fun i => i.map Sum.inl
  | [], l, e => by cases e; rfl
  | k :: r, l, e => by
    simp only [keysInts, Option.bind_eq_some_iff, Option.map_eq_some_iff] at e
    obtain ⟨i, e1, l', e2, rfl⟩ := e
    rw [keyInts_ok e1, keysInts_ok e2]; rfl
theorem hashApart_ok {P : Program} {w : World} {ks : List (List Key)} (h : hashApart ks = true) : (ks.map (tupleKeyHash (mixKind P w))).Nodup := by
  unfold hashApart at h
  cases hk : keysInts ks with
  | none => rw [hk] at h; cases h
  | some l =>
    rw [hk] at h
    simp only [decide_eq_true_eq] at h
    rw [keysInts_ok hk, List.map_map]
    have e : (tupleKeyHash (mixKind P w) ∘ fun i : List Int => i.map Sum.inl) = hashT := funext fun i => by
      show reduceHash (Builtin.Tuple.tupleHashOf ((i.map Sum.inl).map (mixKind P w).hash)) = _
      rw [List.map_map]; rfl
    rw [e]; exact h
theorem intKeys_ok : ∀ {kvs : List (Key × D)} {is : List Int}, intKeys kvs = some is → kvs.map (·.1) = is.map Sum.inl
  | [], _, e => by cases e; rfl
  | (.inl i, _) :: r, _, e => by
    simp only [intKeys, Option.map_eq_some_iff] at e
    obtain ⟨is, e1, rfl⟩ := e
    rw [List.map_cons, List.map_cons, intKeys_ok e1]
  | (.inr _, _) :: _, _, e => by cases e
theorem RelG.none0 {κ : Type} {K : PySem.W.Frag} {H : Hp} {A : Addr → Prop} {ρ : List CA} : RelG (κ := κ) K H A ρ [] [] := Paired.nil
theorem RelG.merge {K : PySem.W.Frag} {H : Hp} {A : Addr → Prop} {ρ : List CA} {more : List (Key × D)} {rs : List (Key × V)} (r : RelG K H A ρ more rs) : ∀ {kvs : List (Key × D)} {ws : List (Key × V)}, RelG K H A ρ kvs ws → RelG K H A ρ (mergeD kvs more) (mergeK ws rs) := by
  unfold RelG at r
  induction r with
  | nil => exact fun h => h
  | @cons p q ps qs h t ih =>
    intro kvs ws hh
    have h1 := hh.put p.1 h.2
    rw [show putK ws p.1 q.2 = putK ws q.1 q.2 by rw [h.1]] at h1
    exact ih h1
theorem pairKV_rel {K K9 : PySem.W.Frag} {H : Hp} {A : Addr → Prop} {ρ : List CA} : ∀ {xs : List D} {ys : List V} {kvs : List (Key × D)}, RelDs K H A ρ xs ys → pairKV xs = some kvs → ∃ (ps : List Addr) (ws : List (Key × V)), ys = ps.map V.ref ∧ Paired (fun p kv => SqT K9 H p [kV kv.1, kv.2]) ps ws ∧ RelG K H A ρ kvs ws
  | [], ys, kvs, h, e => by
    have h : ys = [] := h
    cases e
    exact ⟨[], [], h, .nil, .nil⟩
  | x :: xs, ys, kvs, h, e => by
    obtain ⟨y, r, rfl, h1, h2⟩ := h
    unfold pairKV at e
    split at e
    · rename_i q1
      cases q1
    · rename_i k v r' q1
      cases q1
      simp only [Option.bind_eq_some_iff, Option.map_eq_some_iff] at e
      obtain ⟨kk, e1, t, e2, rfl⟩ := e
      obtain ⟨ps, ws, rfl, h3, h4⟩ := pairKV_rel (K9 := K9) h2 e2
      obtain ⟨a, zs, rfl, g1, g2⟩ := h1
      obtain ⟨v1, r1, rfl, g3, g4⟩ := g2
      obtain ⟨v2, r2, rfl, g5, g6⟩ := g4
      have g6 : r2 = [] := g6
      subst g6
      rw [asKey_ok e1] at g3
      have g7 := keyD_rel.mp g3
      subst g7
      exact ⟨a :: ps, (kk, v2) :: ws, rfl, .cons (SqT.of g1) h3, .cons ⟨rfl, g5⟩ h4⟩
    · cases e
theorem pairKT_rel {K K9 : PySem.W.Frag} {H : Hp} {A : Addr → Prop} {ρ : List CA} : ∀ {xs : List D} {ys : List V} {kvs : List (List Key × D)}, RelDs K H A ρ xs ys → pairKT xs = some kvs → ∃ (ps : List (Addr × Addr)) (ws : List (List Key × V)), ys = (ps.map (·.1)).map V.ref ∧ Paired (fun p kv => SqT K9 H p.1 [.ref p.2, kv.2] ∧ H p.2 = some (.tup (kv.1.map kV))) ps ws ∧ RelG K H A ρ kvs ws
  | [], ys, kvs, h, e => by
    have h : ys = [] := h
    cases e
    exact ⟨[], [], h, .nil, .nil⟩
  | x :: xs, ys, kvs, h, e => by
    obtain ⟨y, r, rfl, h1, h2⟩ := h
    unfold pairKT at e
    split at e
    · rename_i q1
      cases q1
    · rename_i ks v r' q1
      cases q1
      simp only [Option.bind_eq_some_iff, Option.map_eq_some_iff] at e
      obtain ⟨kk, e1, t, e2, rfl⟩ := e
      obtain ⟨ps, ws, rfl, h3, h4⟩ := pairKT_rel (K9 := K9) h2 e2
      obtain ⟨a, zs, rfl, g1, g2⟩ := h1
      obtain ⟨v1, r1, rfl, g3, g4⟩ := g2
      obtain ⟨v2, r2, rfl, g5, g6⟩ := g4
      have g6 : r2 = [] := g6
      subst g6
      obtain ⟨b, vs, rfl, g7, g8⟩ := g3
      rw [asKeys_ok e1] at g8
      rw [keys_rel g8] at g7
      exact ⟨(a, b) :: ps, (kk, v2) :: ws, rfl, .cons ⟨SqT.of g1, g7⟩ h3, .cons ⟨rfl, g5⟩ h4⟩
    · cases e
theorem keysK_rel {K : PySem.W.Frag} {H : Hp} {A : Addr → Prop} {ρ : List CA} {kvs : List (Key × D)} {ws : List (Key × V)} (r : RelG K H A ρ kvs ws) : RelDs K H A ρ (kvs.map fun kv => keyD kv.1) (ws.map fun kv => kV kv.1) := by
  unfold RelG at r
  induction r with
  | nil => rfl
  | @cons p q ps qs h t ih => exact ⟨_, _, rfl, by show RelD K H A ρ (keyD p.1) (kV q.1); rw [h.1]; exact keyD_rel.mpr rfl, ih⟩
theorem keysT_rel {K : PySem.W.Frag} {H : Hp} {A : Addr → Prop} {ρ : List CA} : ∀ {kvs : List (List Key × D)} {ws : List (List Key × V)} {bs : List Addr}, RelG K H A ρ kvs ws → IsKeys H ws bs → RelDs K H A ρ (kvs.map fun kv => keysD kv.1) (bs.map V.ref)
  | _, _, _, .nil, .nil => rfl
  | _, _, _, .cons h t, .cons h' t' => ⟨_, _, rfl, ⟨_, _, rfl, h', by rw [h.1]; exact keys_of⟩, keysT_rel t t'⟩
theorem MkRel.dK {K : PySem.W.Frag} {H : Hp} {A : Addr → Prop} {ρ : List CA} {p : Addr} {ds : List (Key × D)} {xs : List (Key × V)} (h : H p = none) (r : RelK K H A ρ ds xs) : MkRel K H A ρ (.dK ds) (.ref p) (upd H p (.dK xs)) :=
  ⟨kept_upd h, p, rfl, h, xs, upd_same, r.mono (Stays.of (kept_upd h)) (fun a z => z.imp id fun e => by rw [e]; exact h) fun n c e => ⟨c, e, rfl⟩⟩
theorem MkRel.dT {K : PySem.W.Frag} {H : Hp} {A : Addr → Prop} {ρ : List CA} {p : Addr} {ds : List (List Key × D)} {xs : List (List Key × V)} (h : H p = none) (r : RelT K H A ρ ds xs) : MkRel K H A ρ (.dT ds) (.ref p) (upd H p (.dT xs)) :=
  ⟨kept_upd h, p, rfl, h, xs, upd_same, r.mono (Stays.of (kept_upd h)) (fun a z => z.imp id fun e => by rw [e]; exact h) fun n c e => ⟨c, e, rfl⟩⟩
section
variable {X : Cx}
theorem bi_okL (hc : X.calm = true) (hu : X.A.units + 67 < cLine) (hg : X.A.guards = some []) (b : Bi) : CallR X (biVal b) (rBiL X.K b) := by
  intro pins s σ H vs us Q I r h
  obtain ⟨A, ρ, ds, d, pk, e, g⟩ := h
  cases b with
  | len =>
    match ds, e with
    | [d0], e =>
      obtain ⟨v, rfl, p⟩ := pk1 pk
      simp only [biD, Option.map_eq_some_iff] at e
      obtain ⟨n, hn, rfl⟩ := e
      have one : ∀ n : Nat, LenV X.K v H n → Gives X.K H A ρ (.int n) Q → wpAny (model X.prog X.w) X.A (call (biVal .len) us) (EP X pins σ Q) X.xe s := fun n l g => call_len pins s σ H [v] us Q I r ⟨v, n, rfl, l, g.int⟩
      cases d0 with
      | tup xs =>
        obtain ⟨a, ys, rfl, h1, h2⟩ := p.tup
        exact one n (.inr ⟨ys, SqT.of h1, by rw [← h2.length]; exact (Option.some.inj hn).symm⟩) g
      | lst xs =>
        obtain ⟨a, ys, rfl, h1, h2⟩ := p.lst
        exact one n (.inl ⟨ys, SqL.of h1, by rw [← h2.length]; exact (Option.some.inj hn).symm⟩) g
      | str x =>
        have ev := p.str
        subst ev
        simp only [lenD] at hn
        split at hn <;> cases hn
        rename_i hz
        exact one _ ⟨by rw [szline]; exact hz, rfl⟩ g
      | dK kvs =>
        obtain ⟨a, ws, rfl, h1, h2⟩ := p.dK
        obtain ⟨u, rfl, rx⟩ := vals1 r
        cases rx
        refine d_len I h1 fun t s' I' => ⟨.int _, H, I', ⟨_, rfl⟩, ?_⟩
        have : ∀ {kvs : List (Key × D)} {ws : List (Key × V)}, RelK X.K H A ρ kvs ws → kvs.length = ws.length := by
          intro kvs
          induction kvs with
          | nil => intro ws h; cases h; rfl
          | cons q r ih => intro ws h; obtain ⟨v, q', rfl, _, h⟩ := h; simp [ih h]
        rw [← this h2, show kvs.length = n from Option.some.inj hn]
        exact g.int
      | dT kvs =>
        obtain ⟨a, ws, rfl, h1, h2⟩ := p.dT
        obtain ⟨u, rfl, rx⟩ := vals1 r
        cases rx
        obtain ⟨z, hd, xs, rel, dd⟩ := dt_rd I.hok h1
        have hkd : s.heap.DictKeyed (tupleKind (mixKind X.prog X.w)) a (pairsH xs) := ⟨xs, dd, rfl⟩
        have hl : (pairsH xs).length = ws.length := by rw [pairsH_length]; exact (Paired.length rel).symm
        refine PyProof.Rows.call_len_slot (n := (pairsH xs).length) hkd.typeIs PySem.F.slot_dict_len (fun Q' hq => len_keyed hd hkd hq) (by omega) (by rw [hl]; rw [sizeLine_eq] at z; omega) ⟨.int _, H, I.tok _, ⟨_, rfl⟩, ?_⟩
        rw [hl, ← h2.g.length, show kvs.length = n from Option.some.inj hn]
        exact g.int
      | scr ns =>
        obtain ⟨a, rfl, h1⟩ := p.scr
        exact one n (.inl ⟨_, h1, by rw [List.length_map]; exact (Option.some.inj hn).symm⟩) g
      | _ => cases hn
  | sorted =>
    match ds, e with
    | [.lst xs], e =>
      obtain ⟨v, rfl, p⟩ := pk1 pk
      simp only [biD] at e
      split at e <;> cases e
      rename_i ok
      obtain ⟨u, rfl, rx⟩ := vals1 r
      exact sorted_ok hu I rx p ok g
    | [.tup xs], e =>
      obtain ⟨v, rfl, p⟩ := pk1 pk
      simp only [biD] at e
      split at e <;> cases e
      rename_i ok
      obtain ⟨u, rfl, rx⟩ := vals1 r
      exact sorted_okT hu I rx p ok g
    | [.dT kvs], e =>
      obtain ⟨v, rfl, p⟩ := pk1 pk
      have e2 : (if okSort (kvs.map fun kv => keysD kv.1) then some (D.lst (sortD (kvs.map fun kv => keysD kv.1))) else none) = some d := e
      clear e
      by_cases ok : okSort (kvs.map fun kv => keysD kv.1) = true
      case neg => rw [if_neg ok] at e2; cases e2
      rw [if_pos ok] at e2
      cases e2
      obtain ⟨u, rfl, rx⟩ := vals1 r
      exact sorted_okD hu hc I rx p ok g
    | [.dK kvs], e =>
      obtain ⟨v, rfl, p⟩ := pk1 pk
      simp only [biD, Option.bind_eq_some_iff] at e
      obtain ⟨is, e1, e⟩ := e
      split at e <;> cases e
      rename_i hz
      obtain ⟨a, ws, rfl, h1, h2⟩ := p.dK
      refine call_sortedDA hc pins s σ H _ us Q I r ⟨a, ws, is, rfl, h1, by rw [← h2.g.keys, intKeys_ok e1], by rw [szline]; exact hz, fun ys p hp hs hn => ?_⟩
      have : ys = is.mergeSort fun a b => decide (a ≤ b) := by
        refine List.Perm.eq_of_pairwise (le := fun a b => a ≤ b) (fun a b _ _ h1 h2 => Int.le_antisymm h1 h2) hs ?_ (hp.trans (List.mergeSort_perm _ _).symm)
        have := List.pairwise_mergeSort (le := fun a b : Int => decide (a ≤ b)) (by simp only [decide_eq_true_eq]; intro a b c h1 h2; omega) (by intro a b; simp only [Bool.or_eq_true, decide_eq_true_eq]; omega) is
        simpa using this
      rw [this]
      exact g _ _ (.lst hn RelDs.of_ints)
  | list =>
    match ds, e with
    | [.tup xs], e =>
      obtain ⟨v, rfl, p⟩ := pk1 pk
      cases e
      obtain ⟨a, ys, rfl, h1, h2⟩ := p.tup
      exact call_list_of pins s σ H _ us Q I r ⟨a, ys, rfl, .inr (SqT.of h1), fun l hl => g _ _ (.lst hl h2)⟩
    | [.lst xs], e =>
      obtain ⟨v, rfl, p⟩ := pk1 pk
      cases e
      obtain ⟨a, ys, rfl, h1, h2⟩ := p.lst
      exact call_list_of pins s σ H _ us Q I r ⟨a, ys, rfl, .inl (SqL.of h1), fun l hl => g _ _ (.lst hl h2)⟩
    | [.dK kvs], e =>
      obtain ⟨v, rfl, p⟩ := pk1 pk
      simp only [biD] at e
      split at e <;> cases e
      obtain ⟨a, ws, rfl, h1, h2⟩ := p.dK
      exact call_listD hc pins s σ H _ us Q I r ⟨a, ws, rfl, h1, fun l hl => g _ _ (.lst hl (keysK_rel h2.g))⟩
    | [.dT kvs], e =>
      obtain ⟨v, rfl, p⟩ := pk1 pk
      simp only [biD] at e
      split at e <;> cases e
      obtain ⟨a, ws, rfl, h1, h2⟩ := p.dT
      exact call_list_dT hc pins s σ H _ us Q I r ⟨a, ws, rfl, h1, fun l bs hl hk => g _ _ (.lst hl (keysT_rel h2.g hk))⟩
  | dict =>
    match ds, e with
    | [.dK kvs], e =>
      obtain ⟨v, rfl, p⟩ := pk1 pk
      cases e
      obtain ⟨a, ws, rfl, h1, h2⟩ := p.dK
      exact call_dictD pins s σ H _ us Q I r ⟨a, ws, rfl, h1, fun l hl => g _ _ (.dK hl h2)⟩
    | [.dT kvs], e =>
      obtain ⟨v, rfl, p⟩ := pk1 pk
      simp only [biD] at e
      split at e <;> cases e
      rename_i ha
      obtain ⟨a, ws, rfl, h1, h2⟩ := p.dT
      refine call_dictT hu pins s σ H _ us Q I r ⟨a, ws, rfl, h1, ?_, fun l hl => g _ _ (.dT hl h2)⟩
      have e9 : (ws.map fun kv => tupleKeyHash (mixKind X.prog X.w) kv.1) = (ws.map fun kv => kv.1).map (tupleKeyHash (mixKind X.prog X.w)) := by rw [List.map_map]; rfl
      rw [e9, ← h2.g.keys]
      exact hashApart_ok ha
    | [.lst xs], e =>
      obtain ⟨v, rfl, p⟩ := pk1 pk
      obtain ⟨a, ys, rfl, h1, h2⟩ := p.lst
      simp only [biD] at e
      split at e
      · rename_i kvs e1
        cases e
        obtain ⟨ps, ws, rfl, h3, h4⟩ := pairKV_rel (K9 := X.K) h2 e1
        exact call_dictP hc pins s σ H _ us Q I r ⟨a, ps, ws, rfl, SqL.of h1, h3, fun l hl => g _ _ (.dK hl (RelK.of (RelG.merge h4 (RelG.none0))))⟩
      · unfold dictPT at e
        rw [Option.bind_eq_some_iff] at e
        obtain ⟨kvs, e1, e2⟩ := e
        split at e2 <;> cases e2
        rename_i hn
        obtain ⟨ps, ws, rfl, h3, h4⟩ := pairKT_rel (K9 := X.K) h2 e1
        exact call_dictPT hc hu pins s σ H _ us Q I r ⟨a, ps, ws, rfl, SqL.of h1, h3, by rw [← h4.keys]; exact hn, fun l hl => g _ _ (.dT hl (RelT.of h4))⟩
  | tuple =>
    match ds, e with
    | [.tup xs], e =>
      obtain ⟨v, rfl, p⟩ := pk1 pk
      cases e
      obtain ⟨a, ys, rfl, h1, h2⟩ := p.tup
      exact call_tuple_of pins s σ H _ us Q I r ⟨a, ys, rfl, .inr ⟨SqT.of h1, g _ _ (.scal rfl ⟨a, ys, rfl, h1, h2⟩)⟩⟩
    | [.lst xs], e =>
      obtain ⟨v, rfl, p⟩ := pk1 pk
      cases e
      obtain ⟨a, ys, rfl, h1, h2⟩ := p.lst
      exact call_tuple_of pins s σ H _ us Q I r ⟨a, ys, rfl, .inl ⟨SqL.of h1, fun l hl => g _ _ (.tup hl h2)⟩⟩
  | all =>
    match ds, e with
    | [.lst xs], e =>
      obtain ⟨v, rfl, p⟩ := pk1 pk
      obtain ⟨bs, hb, e⟩ := sig2 (show (asBools xs).map (fun bs => D.bl (bs.all id)) = some d from e)
      subst e
      obtain ⟨a, ys, rfl, h1, h2⟩ := p.lst
      rw [seen_bools hb] at h2
      have h3 := h2.bools
      subst h3
      exact cr_all hc pins s σ H _ us Q I r ⟨a, bs, rfl, SqL.of h1, g.bl⟩
  | any =>
    match ds, e with
    | [.lst xs], e =>
      obtain ⟨v, rfl, p⟩ := pk1 pk
      obtain ⟨bs, hb, e⟩ := sig2 (show (asBools xs).map (fun bs => D.bl (bs.any id)) = some d from e)
      subst e
      obtain ⟨a, ys, rfl, h1, h2⟩ := p.lst
      rw [seen_bools hb] at h2
      have h3 := h2.bools
      subst h3
      exact cr_any hc pins s σ H _ us Q I r ⟨a, bs, rfl, SqL.of h1, g.bl⟩
  | sum =>
    match ds, e with
    | [.lst xs], e =>
      obtain ⟨v, rfl, p⟩ := pk1 pk
      obtain ⟨bs, hb, e⟩ := sig2 (show (asInts xs).map (fun is => D.int is.sum) = some d from e)
      subst e
      obtain ⟨a, ys, rfl, h1, h2⟩ := p.lst
      rw [seen_ints hb] at h2
      have h3 := h2.ints
      subst h3
      exact cr_sum hc pins s σ H _ us Q I r ⟨a, bs, rfl, SqL.of h1, g.int⟩
  | max1 =>
    match ds, e with
    | [.lst xs], e =>
      obtain ⟨v, rfl, p⟩ := pk1 pk
      obtain ⟨a, ys, rfl, h1, h2⟩ := p.lst
      simp only [biD] at e
      split at e <;> cases e
      rename_i i q hb
      rw [seen_ints hb] at h2
      have h3 := h2.ints
      subst h3
      refine cr_max hc pins s σ H _ us Q I r ⟨a, _, rfl, SqL.of h1, Nat.succ_pos _, fun m hm hle => ?_⟩
      have e1 : m ≤ maxI i q := by
        rcases List.mem_cons.mp hm with rfl | hm
        · exact (maxI_ge q m).1
        · exact (maxI_ge q i).2 m hm
      have e2 : m = maxI i q := Int.le_antisymm e1 (hle _ (maxI_mem q i))
      rw [e2]; exact g.int
  | min1 =>
    match ds, e with
    | [.lst xs], e =>
      obtain ⟨v, rfl, p⟩ := pk1 pk
      obtain ⟨a, ys, rfl, h1, h2⟩ := p.lst
      simp only [biD] at e
      split at e <;> cases e
      rename_i i q hb
      rw [seen_ints hb] at h2
      have h3 := h2.ints
      subst h3
      refine cr_min hc pins s σ H _ us Q I r ⟨a, _, rfl, SqL.of h1, Nat.succ_pos _, fun m hm hle => ?_⟩
      have e1 : minI i q ≤ m := by
        rcases List.mem_cons.mp hm with rfl | hm
        · exact (minI_le q m).1
        · exact (minI_le q i).2 m hm
      have e2 : m = minI i q := Int.le_antisymm (hle _ (minI_mem q i)) e1
      rw [e2]; exact g.int
  | max2 =>
    match ds, e with
    | [.int i, .int j], e =>
      obtain ⟨v, w, rfl, p1, p2⟩ := pk2 pk
      cases e
      exact call_max2 hc pins s σ H _ us Q I r ⟨i, j, by rw [p1.int, p2.int], g.int⟩
  | min2 =>
    match ds, e with
    | [.int i, .int j], e =>
      obtain ⟨v, w, rfl, p1, p2⟩ := pk2 pk
      cases e
      exact call_min2 hc pins s σ H _ us Q I r ⟨i, j, by rw [p1.int, p2.int], g.int⟩
  | max3 =>
    match ds, e with
    | [.int i, .int j, .int k], e =>
      obtain ⟨v, w, x, rfl, p1, p2, p3⟩ := pk3 pk
      cases e
      rw [p1.int, p2.int, p3.int] at r
      refine call_max3Nu hc pins s σ H _ us Q I r ⟨_, _, _, _, rfl, ?_, g.int⟩
      show (nuMax2 _ _).bind _ = _
      rw [nu2]
      exact nu2 _ _
  | min3 =>
    match ds, e with
    | [.int i, .int j, .int k], e =>
      obtain ⟨v, w, x, rfl, p1, p2, p3⟩ := pk3 pk
      cases e
      rw [p1.int, p2.int, p3.int] at r
      refine call_min3Nu hc pins s σ H _ us Q I r ⟨_, _, _, _, rfl, ?_, g.int⟩
      show (nuMin2 _ _).bind _ = _
      rw [nm2]
      exact nm2 _ _
  | int =>
    match ds, e with
    | [.int i], e =>
      obtain ⟨v, rfl, p⟩ := pk1 pk
      cases e
      exact call_int1 pins s σ H _ us Q I r (.inl ⟨i, by rw [p.int], g.int⟩)
    | [.bl i], e =>
      obtain ⟨v, rfl, p⟩ := pk1 pk
      cases e
      exact call_int1 pins s σ H _ us Q I r (.inr ⟨i, by rw [p.bl], g.int⟩)
  | repr =>
    match ds, e with
    | [d0], e =>
      obtain ⟨v, rfl, p⟩ := pk1 pk
      obtain ⟨u, rfl, rx⟩ := vals1 r
      simp only [biD] at e
      split at e <;> cases e
      rename_i ok
      unfold okRepr at ok
      simp only [Bool.and_eq_true, decide_eq_true_eq, Bool.or_eq_true, Bool.not_eq_true'] at ok
      obtain ⟨⟨⟨⟨o1, o2⟩, o3⟩, o4⟩, o5⟩ := ok
      have fin : ∀ (u' : Tok) (h' : Heap) (tk : Nat), (∀ b o, s.heap.get? b = some o → h'.get? b = some o) → EP X pins σ Q (.str d0.py.shown u') { s with heap := h', toks := tk } := fun u' h' tk k => ⟨.str _, H, I.kept (t' := tk) k, ⟨_, rfl⟩, g.str⟩
      have big : ∀ a, u = .ref a → wpAny (model X.prog X.w) X.A (call (biVal .repr) [u]) (EP X pins σ Q) X.xe s := by
        rintro a rfl
        exact Lk.repr I o1 p rx o3 (by rw [szline]; exact o5) hg (by omega) fun h' u' tk k => fin u' h' tk k
      cases d0 with
      | non => cases p.non; cases rx; exact PySem.P.repr_of_none (fin _ s.heap _ fun _ _ e => e)
      | bl b => cases p.bl; cases rx; exact PySem.P.repr_of_bool (fin _ s.heap _ fun _ _ e => e)
      | int i =>
        cases p.int
        obtain ⟨t, rfl⟩ := rx
        exact PySem.P.repr_of_int (by simpa [D.py, PyData.showable] using o3) (fin _ s.heap _ fun _ _ e => e)
      | str x =>
        cases p.str
        obtain ⟨t, rfl⟩ := rx
        exact PySem.P.repr_of_str (fin _ s.heap _ fun _ _ e => e) (by rw [szline]; exact o5)
      | tup _ => obtain ⟨a, _, rfl, _⟩ := p.tup; cases rx; exact big _ rfl
      | lst _ => obtain ⟨a, _, rfl, _⟩ := p.lst; cases rx; exact big _ rfl
      | dK _ => obtain ⟨a, _, rfl, _⟩ := p.dK; cases rx; exact big _ rfl
      | dT _ => cases o1
      | obj _ => cases o1
      | scr _ => cases o1
theorem bi_ok (hc : X.calm = true) (hu : X.A.units + 67 < cLine) (hg : X.A.guards = some []) (b : Bi) : CallR X (biVal b) (rBi X.K b) := by
  intro pins s σ H vs us Q I r h
  obtain ⟨A, ρ, ds, d, pk, e, g⟩ := h
  exact bi_okL hc hu hg b pins s σ H vs us Q I r ⟨A, ρ, ds, d, pk.lk, e, g⟩
def tyN : Ty → String
  | .int => "int" | .bool => "bool" | .str => "str" | .tuple => "tuple" | .list => "list" | .dict => "dict"
def tyD : D → String
  | .non => "NoneType" | .bl _ => "bool" | .int _ => "int" | .str _ => "str" | .tup _ => "tuple" | .lst _ => "list" | .dK _ => "dict" | .dT _ => "dict" | _ => ""
theorem kit_D {pins : List (Addr × Obj)} {s : Shared} {σ : St} {H : Hp} {A : Addr → Prop} {ρ : List CA} {d : D} {v : V} {u : Value} {ts : List Ty} {b : Bool} (I : Inv X pins σ H s) (r : RelV v u) (p : Pk X.K H A ρ d v) (h : isD ts d = some b) :
    ∃ P : Heap → Prop, PySem.W.KitX X.K u (.type (tyD d)) P ∧ P s.heap ∧ u ≠ .builtin "__main__.__loader__#opaque" := by
  cases d with
  | non => cases p.non; exact kit_of I r (.base .non)
  | bl b => cases p.bl; exact kit_of I r (.base (.bl b))
  | int b => cases p.int; exact kit_of I r (.base (.int b))
  | str b => cases p.str; exact kit_of I r (.base (.str b))
  | tup _ => obtain ⟨a, _, rfl, h1, _⟩ := p.tup; exact kit_of I r (.base (.tup h1))
  | lst _ => obtain ⟨a, _, rfl, h1, _⟩ := p.lst; exact kit_of I r (.base (.lst h1))
  | dK _ =>
    obtain ⟨a, _, rfl, h1, _⟩ := p.dK
    rcases h1 with h1 | ⟨o, h1⟩
    · exact kit_of I r (.base (.dK h1))
    · exact kit_of I r (.fDict h1)
  | dT _ =>
    obtain ⟨a, _, rfl, h1, _⟩ := p.dT
    cases r
    obtain ⟨_, _, xs, _, o, es, ep, h2, h3, _⟩ := dt_rd I.hok h1
    exact ⟨_, PySem.W.kitx_dict, ⟨o, h2, h3.1⟩, fun z => nomatch z⟩
  | obj _ => cases h
  | scr _ => cases h
inductive Kd where | non | bl | int | str | tup | lst | dct
def kdN : Kd → String
  | .non => "NoneType" | .bl => "bool" | .int => "int" | .str => "str" | .tup => "tuple" | .lst => "list" | .dct => "dict"
def kdIs : Ty → Kd → Bool
  | .int, .int => true | .int, .bl => true | .bool, .bl => true | .str, .str => true | .tuple, .tup => true | .list, .lst => true | .dict, .dct => true
  | _, _ => false
theorem kd_tab (t : Ty) (k : Kd) : kitB (kdN k) (tyN t) = some (kdIs t k) := by
  cases t <;> cases k <;> decide +kernel
def kdOf : D → Kd
  | .non => .non | .bl _ => .bl | .int _ => .int | .str _ => .str | .tup _ => .tup | .lst _ => .lst | _ => .dct
theorem kitOne_D {K : PySem.W.Frag} (d : D) (t : Ty) (hd : isD [] d ≠ none) : PySem.W.kitOne K (.type (tyD d)) (.type (tyN t)) = some (isTy t d) := by
  have h := kd_tab t (kdOf d)
  cases d <;> first | exact absurd rfl hd | skip
  all_goals (cases t <;> exact kit_ty h)
theorem kitAny_D {K : PySem.W.Frag} (d : D) (hd : isD [] d ≠ none) : ∀ ts : List Ty, PySem.W.kitAny K (.type (tyD d)) (ts.map fun t => .type (tyN t)) = some (ts.any fun t => isTy t d)
  | [] => rfl
  | t :: ts => by
    have ih := kitAny_D (K := K) d hd ts
    cases h : isTy t d with
    | true => exact kitAny_cons (b := true) (by rw [kitOne_D d t hd, h]) (fun z => nomatch z) (fun _ => by simp [h])
    | false => exact kitAny_cons (b := false) (by rw [kitOne_D d t hd, h]) (fun _ => by simp only [List.any_cons, h, Bool.false_or]; exact ih) (fun z => nomatch z)
end
end MP
namespace MP
open PySem L2
theorem PE.imp {X : Cx} {e : Expr} {t t' : TE} (h : PE X e t) (w : ∀ σ H Q, t' σ H Q → t σ H Q) : PE X e t' := ⟨fun pins s σ H Q I q => h.run pins s σ H Q I (w σ H Q q)⟩
theorem PT.imp {X : Cx} {e : Expr} {t t' : TT} (h : PT X e t) (w : ∀ σ H Q, t' σ H Q → t σ H Q) : PT X e t' := ⟨fun pins s σ H Q I q => h.run pins s σ H Q I (w σ H Q q)⟩
theorem PA.imp {X : Cx} {e : List Expr} {t t' : TA} (h : PA X e t) (w : ∀ σ H Q, t' σ H Q → t σ H Q) : PA X e t' := ⟨fun p pins s σ H Q I q => h.run p pins s σ H Q I (w σ H Q q)⟩
theorem PO.imp {X : Cx} {e : Option Expr} {t t' : TO} (h : PO X e t) (w : ∀ σ H Q, t' σ H Q → t σ H Q) : PO X e t' := ⟨fun pins s σ H Q I q => h.run pins s σ H Q I (w σ H Q q)⟩
structure At (K : PySem.W.Frag) (av : Addr → Prop) (H0 : Hp) (ρ0 ρ : List CA) (lo : Lo) (σ : St) (H : Hp) (env : Env) (m : MH) : Prop where
  st : Stt K av H0 ρ0 ρ lo σ H env m
  hl : lo env.length = none
  far : ∃ k, ∀ j, k ≤ j → lo j = none
def tE (K : PySem.W.Frag) (F : CallF) (e : E) : TE := fun σ H Q => ∃ av H0 ρ0 ρ lo env m x m', At K av H0 ρ0 ρ lo σ H env m ∧ evalE F e env m = .ok x m' ∧
  ∀ v H' ρ' lo', Step K av H0 ρ0 σ env ρ lo H ρ' lo' H' m' → VOk K H' (aA av ρ' lo') av ρ' lo' env.length x v → Q v H'
def tT (K : PySem.W.Frag) (F : CallF) (e : E) : TT := fun σ H Q => ∃ av H0 ρ0 ρ lo env m x b m', At K av H0 ρ0 ρ lo σ H env m ∧ evalE F e env m = .ok x m' ∧ dTrue x.1 = some b ∧
  ∀ H' ρ' lo', Step K av H0 ρ0 σ env ρ lo H ρ' lo' H' m' → lo' env.length = none → Q b H'
def WkR (K : PySem.W.Frag) (av : Addr → Prop) (H : Hp) (A : Addr → Prop) (ρ : List CA) (x : D × Mode) (v : V) : Prop := Pk K H A ρ x.1 v ∧ (walkable x.2 = true → RelD K H A ρ x.1 v ∨ ∃ p, v = .ref p ∧ av p ∧ PeekAt K H A ρ p x.1)
def tPs (K : PySem.W.Frag) (F : CallF) (es : List E) : TA := fun σ H Q => ∃ av H0 ρ0 ρ lo env m ds m', At K av H0 ρ0 ρ lo σ H env m ∧ evalPs F es env m = .ok ds m' ∧
  ∀ vs H' ρ' lo', Step K av H0 ρ0 σ env ρ lo H ρ' lo' H' m' → lo' env.length = none → Paired (WkR K av H' (aA av ρ' lo') ρ') ds vs → Q vs H'
def tEs (K : PySem.W.Frag) (F : CallF) (es : List E) : TA := fun σ H Q => ∃ av H0 ρ0 ρ lo env m ds m', At K av H0 ρ0 ρ lo σ H env m ∧ evalEs F es env m = .ok ds m' ∧
  ∀ vs H' ρ' lo', Step K av H0 ρ0 σ env ρ lo H ρ' lo' H' m' → lo' env.length = none → RelDs K H' (aA av ρ' lo') ρ' ds vs → Q vs H'
def ArgR (K : PySem.W.Frag) (H : Hp) (A : Addr → Prop) (ρ : List CA) (a : Arg) (v : V) : Prop := (a.2 = false ∧ RelD K H A ρ a.1 v) ∨ (a.2 = true ∧ ∃ p, v = .ref p ∧ A p ∧ p ∉ foot ρ ∧ PeekAt K H A ρ p a.1)
def tAs (K : PySem.W.Frag) (F : CallF) (es : List E) : TA := fun σ H Q => ∃ av H0 ρ0 ρ lo env m ds m', At K av H0 ρ0 ρ lo σ H env m ∧ evalAs F es env m = .ok ds m' ∧
  ∀ vs H' ρ' lo', Step K av H0 ρ0 σ env ρ lo H ρ' lo' H' m' → lo' env.length = none → Paired (ArgR K H' (aA av ρ' lo') ρ') ds vs → Q vs H'
def tO (K : PySem.W.Frag) (F : CallF) (es : List E) : TO := fun σ H Q => ∃ av H0 ρ0 ρ lo env m o m', At K av H0 ρ0 ρ lo σ H env m ∧ evalO F es env m = .ok o m' ∧
  ∀ H' ρ' lo', Step K av H0 ρ0 σ env ρ lo H ρ' lo' H' m' → lo' env.length = none → Q o H'
section
variable {K : PySem.W.Frag} {F : CallF} {av : Addr → Prop} {H0 H H1 H2 H' : Hp} {ρ0 ρ ρ1 ρ2 ρ' : List CA} {σ : St} {env : Env} {lo lo1 lo2 lo' : Lo} {m m1 m2 m' : MH} {e : E} {x : D × Mode}
theorem Step.far (s : Step K av H0 ρ0 σ env ρ lo H ρ' lo' H' m') (f : ∃ k, ∀ j, k ≤ j → lo j = none) : ∃ k, ∀ j, k ≤ j → lo' j = none := by
  obtain ⟨k, hk⟩ := f
  exact ⟨max k (env.length + 1), fun j hj => by rw [s.lo j (by omega)]; exact hk j (by omega)⟩
theorem Step.at (s : Step K av H0 ρ0 σ env ρ lo H ρ' lo' H' m') (h : lo' env.length = none) (a : At K av H0 ρ0 ρ lo σ H env m) : At K av H0 ρ0 ρ' lo' σ H' env m' := ⟨s.st, h, s.far a.far⟩
theorem At.refl (a : At K av H0 ρ0 ρ lo σ H env m) : Step K av H0 ρ0 σ env ρ lo H ρ lo H m := Step.refl a.st a.hl
theorem run_sh (a : At K av H0 ρ0 ρ lo σ H env m) (he : evalE F e env m = .ok x m1) (ho : owns x.2 = true) {Q : VK}
    (k : ∀ v H1 ρ1 lo1, Step K av H0 ρ0 σ env ρ lo H ρ1 lo1 H1 m1 → At K av H0 ρ0 ρ1 lo1 σ H1 env m1 → RelD K H1 (aA av ρ1 lo1) ρ1 x.1 v → Q v H1) : tE K F e σ H Q :=
  ⟨av, H0, ρ0, ρ, lo, env, m, x, m1, a, he, fun v H1 ρ1 lo1 s r => by
    obtain ⟨lo2, s2, h2, r2⟩ := s.share r ho
    exact k v H1 ρ1 lo2 s2 (s2.at h2 a) r2⟩
theorem run_pk (a : At K av H0 ρ0 ρ lo σ H env m) (he : evalE F e env m = .ok x m1) {Q : VK}
    (k : ∀ v H1 ρ1 lo1, Step K av H0 ρ0 σ env ρ lo H ρ1 lo1 H1 m1 → At K av H0 ρ0 ρ1 lo1 σ H1 env m1 → Pk K H1 (aA av ρ1 lo1) ρ1 x.1 v → Q v H1) : tE K F e σ H Q :=
  ⟨av, H0, ρ0, ρ, lo, env, m, x, m1, a, he, fun v H1 ρ1 lo1 s r => by
    obtain ⟨lo2, s2, h2, r2⟩ := s.peek r
    exact k v H1 ρ1 lo2 s2 (s2.at h2 a) r2⟩
theorem run_any (a : At K av H0 ρ0 ρ lo σ H env m) (he : evalE F e env m = .ok x m1) {Q : VK}
    (k : ∀ v H1 ρ1 lo1, Step K av H0 ρ0 σ env ρ lo H ρ1 lo1 H1 m1 → VOk K H1 (aA av ρ1 lo1) av ρ1 lo1 env.length x v → Q v H1) : tE K F e σ H Q :=
  ⟨av, H0, ρ0, ρ, lo, env, m, x, m1, a, he, k⟩
theorem fin (s : Step K av H0 ρ0 σ env ρ lo H ρ1 lo1 H1 m1) (a : At K av H0 ρ0 ρ1 lo1 σ H1 env m1) {d : D} {Q : VK}
    (hq : ∀ v H' ρ' lo', Step K av H0 ρ0 σ env ρ lo H ρ' lo' H' m1 → VOk K H' (aA av ρ' lo') av ρ' lo' env.length (d, modeOf d) v → Q v H') : Gives K H1 (aA av ρ1 lo1) ρ1 d Q := fun v H' r => by
  obtain ⟨lo2, s2, v2⟩ := a.st.made a.hl r
  exact hq v H' _ lo2 (s.trans s2) v2
theorem bind_ok {α β : Type} {r : Res α} {f : α → MH → Res β} {b : β} {m : MH} (h : r.bind f = .ok b m) : ∃ a m1, r = .ok a m1 ∧ f a m1 = .ok b m := by
  cases r with
  | ok a m1 => exact ⟨a, m1, rfl, h⟩
  | bad => cases h
theorem optD_ok {o : Option D} {m m' : MH} {x : D × Mode} (h : optD o m = .ok x m') : ∃ d, o = some d ∧ x = (d, modeOf d) ∧ m' = m := by
  cases o with
  | none => cases h
  | some d => cases h; exact ⟨d, rfl, rfl, rfl⟩
theorem optB_ok {o : Option Bool} {m m' : MH} {x : D × Mode} (h : optB o m = .ok x m') : ∃ d, o = some d ∧ x = (.bl d, .sh) ∧ m' = m := by
  cases o with
  | none => cases h
  | some d => cases h; exact ⟨d, rfl, rfl, rfl⟩
end
section
variable {X : Cx} {F : CallF} {a b c : Expr} {ea eb ec : E} {pos : Pos}
theorem s_v {i : Nat} {x : Str} (hN : X.N[i]? = some x) (hv : Vis X.env.scope x) (hd : (x == ("__debug__" : Str)) = false) (hcd : (x == ("__classdict__" : Str)) = false) : PE X (.Name x pos) (tE X.K F (.v i)) := by
  refine PE.imp (pe_var hN hv hd hcd) fun σ H Q h => ?_
  obtain ⟨av, H0, ρ0, ρ, lo, env, m, x, m', a, he, q⟩ := h
  have hs := a.st.slot i
  simp only [evalE] at he
  have hg : ∀ s, env.at i = s → s ≠ .un → env[i]? = some s := fun s e n => by
    unfold Env.at at e
    rw [List.getD_eq_getElem?_getD] at e
    cases h : env[i]? with
    | none => rw [h] at e; exact absurd e.symm n
    | some t => rw [h] at e; rw [← e]; rfl
  cases h : env.at i with
  | un => rw [h] at he; cases he
  | sh d =>
    rw [h] at he; cases he
    obtain ⟨_, v, e, r⟩ := hs _ (hg _ h (fun z => nomatch z))
    exact ⟨v, e, q v H ρ lo a.refl r⟩
  | ow d =>
    rw [h] at he; cases he
    have hi := hg _ h (fun z => nomatch z)
    obtain ⟨p, e1, e, r⟩ := hs _ hi
    exact ⟨_, e, q _ H ρ lo a.refl ⟨p, rfl, .inr ⟨i, fun z => none_at_len _ _ (z ▸ hi), e1⟩, r⟩⟩
  | bw d =>
    rw [h] at he; cases he
    obtain ⟨_, p, e, e1, r⟩ := hs _ (hg _ h (fun z => nomatch z))
    exact ⟨_, e, q _ H ρ lo a.refl ⟨p, rfl, e1, r⟩⟩
def sameC : D → Const → Bool
  | .non, .none => true | .bl b, .bool c => b == c | .int i, .int j => i == j | .str x, .str y => x == y | _, _ => false
theorem s_c {d : D} {k : Const} {j : Nat} (h : sameC d k = true) : PE X (.Constant k j pos) (tE X.K F (.c d)) := by
  have go : ∀ {v : V}, modeOf d = .sh → PE X (.Constant k j pos) (tC v) → (∀ {H A ρ}, RelD X.K H A ρ d v) → PE X (.Constant k j pos) (tE X.K F (.c d)) := fun {v} hm p r => by
    refine PE.imp p fun σ H Q h => ?_
    obtain ⟨av, H0, ρ0, ρ, lo, env, m, x, m', a, he, q⟩ := h
    cases he
    exact q v H ρ lo a.refl (by simp only [VOk, hm]; exact r)
  cases d with
  | non => cases k <;> first | (cases h; done) | exact go rfl pe_non rfl
  | bl b => cases k <;> first | (cases h; done) | (have e := eq_of_beq h; subst e; exact go rfl pe_bl rfl)
  | int b => cases k <;> first | (cases h; done) | (have e := eq_of_beq h; subst e; exact go rfl pe_int rfl)
  | str b => cases k <;> first | (cases h; done) | (have e := eq_of_beq h; subst e; exact go rfl pe_str rfl)
  | _ => cases k <;> cases h
theorem s_op (o : Op) (ha : PE X a (tE X.K F ea)) (hb : PE X b (tE X.K F eb)) : PE X (.BinOp a (opOf o) b pos) (tE X.K F (.op o ea eb)) := by
  refine PE.imp (pe_op (op_ok o) ha hb) fun σ H Q h => ?_
  obtain ⟨av, H0, ρ0, ρ, lo, env, m, x, m', a, he, q⟩ := h
  simp only [evalE] at he
  obtain ⟨xa, m1, h1, he⟩ := bind_ok he
  obtain ⟨xb, m2, h2, he⟩ := bind_ok he
  obtain ⟨d, h3, rfl, rfl⟩ := optD_ok he
  refine run_pk a h1 fun v H1 ρ1 lo1 s1 a1 p1 => run_pk a1 h2 fun w H2 ρ2 lo2 s2 a2 p2 => ?_
  exact ⟨_, _, _, _, d, s2.pk a1.st a1.hl p1, p2, h3, fin (s1.trans s2) a2 q⟩
theorem s_neg (ha : PE X a (tE X.K F ea)) : PE X (.UnaryOp .USub a pos) (tE X.K F (.neg ea)) := by
  refine PE.imp (pe_un un_neg ha) fun σ H Q h => ?_
  obtain ⟨av, H0, ρ0, ρ, lo, env, m, x, m', a, he, q⟩ := h
  simp only [evalE] at he
  obtain ⟨xa, m1, h1, he⟩ := bind_ok he
  refine run_pk a h1 fun v H1 ρ1 lo1 s1 a1 p1 => ?_
  split at he <;> cases he
  rename_i i hx
  rw [hx] at p1
  exact ⟨i, p1.int, (fin (d := .int (-i)) s1 a1 q).int⟩
theorem behind_ok (o : Cm) {b : Expr} (hb : ∀ es k p, b ≠ .Set es k p) : behindInMarks (cmOf o) b = false := by
  cases b <;> first | rfl | exact absurd rfl (hb _ _ _)
theorem s_cmp (hu : X.A.units + 80 < cLine) (o : Cm) (ha : PE X a (tE X.K F ea)) (hb : PE X b (tE X.K F eb)) (hs : ∀ es k p, b ≠ .Set es k p) : PE X (.Compare a [cmOf o] [b] pos) (tE X.K F (.cmp o ea eb)) := by
  refine PE.imp (pe_cmpR (cm_ok hu o) ha hb (behind_ok o hs)) fun σ H Q h => ?_
  obtain ⟨av, H0, ρ0, ρ, lo, env, m, x, m', a, he, q⟩ := h
  simp only [evalE] at he
  obtain ⟨xa, m1, h1, he⟩ := bind_ok he
  obtain ⟨xb, m2, h2, he⟩ := bind_ok he
  obtain ⟨d, h3, rfl, rfl⟩ := optB_ok he
  refine run_pk a h1 fun v H1 ρ1 lo1 s1 a1 p1 => run_pk a1 h2 fun w H2 ρ2 lo2 s2 a2 p2 => ?_
  exact ⟨_, _, _, _, d, s2.pk a1.st a1.hl p1, p2, h3, (fin (d := .bl d) (s1.trans s2) a2 q).bl⟩
theorem st_cmp (hu : X.A.units + 80 < cLine) (o : Cm) (ha : PE X a (tE X.K F ea)) (hb : PE X b (tE X.K F eb)) (hs : ∀ es k p, b ≠ .Set es k p) : PT X (.Compare a [cmOf o] [b] pos) (tT X.K F (.cmp o ea eb)) := by
  refine PT.imp (pt_cmpR (cm_ok hu o) ha hb (behind_ok o hs)) fun σ H Q h => ?_
  obtain ⟨av, H0, ρ0, ρ, lo, env, m, x, t, m', a, he, ht, q⟩ := h
  simp only [evalE] at he
  obtain ⟨xa, m1, h1, he⟩ := bind_ok he
  obtain ⟨xb, m2, h2, he⟩ := bind_ok he
  obtain ⟨d, h3, rfl, rfl⟩ := optB_ok he
  cases ht
  refine run_pk a h1 fun v H1 ρ1 lo1 s1 a1 p1 => run_pk a1 h2 fun w H2 ρ2 lo2 s2 a2 p2 => ?_
  exact ⟨_, _, _, _, _, s2.pk a1.st a1.hl p1, p2, h3, _, rfl, q H2 ρ2 lo2 (s1.trans s2) a2.hl⟩
section
variable {d : Expr} {td : TE} {ta tb tc : TE} {op op' op'' : CmpOp} {r r' r'' : R2}
variable {ed : E}
end
theorem tru_D {K : PySem.W.Frag} {H : Hp} {A : Addr → Prop} {ρ : List CA} {d : D} {v : V} {t : Bool} (p : Pk K H A ρ d v) (h : dTrue d = some t) : TruV K v H t := by
  cases d with
  | non => cases p.non; cases h; rfl
  | bl b => cases p.bl; cases h; rfl
  | int i => cases p.int; cases h; rfl
  | str x =>
    cases p.str
    simp only [dTrue] at h
    split at h <;> cases h
    rename_i hz
    exact ⟨by rw [szline]; exact hz, rfl⟩
  | tup xs =>
    obtain ⟨a, ys, rfl, h1, h2⟩ := p.tup
    cases h
    refine .inr (.inl ⟨ys, SqT.of h1, ?_⟩)
    cases xs with
    | nil => cases h2; rfl
    | cons _ _ => obtain ⟨_, _, rfl, _⟩ := h2; rfl
  | lst xs =>
    obtain ⟨a, ys, rfl, h1, h2⟩ := p.lst
    cases h
    refine .inl ⟨ys, SqL.of h1, ?_⟩
    cases xs with
    | nil => cases h2; rfl
    | cons _ _ => obtain ⟨_, _, rfl, _⟩ := h2; rfl
  | dK _ => cases h
  | dT _ => cases h
  | obj _ => cases h
  | scr _ => cases h
theorem st_truth (ha : PE X a (tE X.K F ea)) (he : ∀ whole, isTrue a X.env whole = (do let v ← whole; standAt a.pos; holding [v] (truthy v))) : PT X a (tT X.K F ea) := by
  refine PT.imp (pt_truth ha he) fun σ H Q h => ?_
  obtain ⟨av, H0, ρ0, ρ, lo, env, m, x, t, m', a, he, ht, q⟩ := h
  exact run_pk a he fun v H1 ρ1 lo1 s1 a1 p1 => ⟨t, tru_D p1 ht, q H1 ρ1 lo1 s1 a1.hl⟩
theorem and_split {x : D × Mode} {m m' : MH} {env : Env} {ea eb : E} (he : evalE F (.and ea eb) env m = .ok x m') : ∃ xa m1 t, evalE F ea env m = .ok xa m1 ∧ dTrue xa.1 = some t ∧ (if t = true then evalE F eb env m1 = .ok x m' else x = xa ∧ m' = m1) := by
  simp only [evalE] at he
  obtain ⟨xa, m1, h1, he⟩ := bind_ok he
  cases h2 : dTrue xa.1 with
  | none => rw [h2] at he; cases he
  | some t =>
    rw [h2] at he
    refine ⟨xa, m1, t, h1, h2, ?_⟩
    cases t with
    | true => exact he
    | false => cases he; exact ⟨rfl, rfl⟩
theorem or_split {x : D × Mode} {m m' : MH} {env : Env} {ea eb : E} (he : evalE F (.or ea eb) env m = .ok x m') : ∃ xa m1 t, evalE F ea env m = .ok xa m1 ∧ dTrue xa.1 = some t ∧ (if t = true then x = xa ∧ m' = m1 else evalE F eb env m1 = .ok x m') := by
  simp only [evalE] at he
  obtain ⟨xa, m1, h1, he⟩ := bind_ok he
  cases h2 : dTrue xa.1 with
  | none => rw [h2] at he; cases he
  | some t =>
    rw [h2] at he
    refine ⟨xa, m1, t, h1, h2, ?_⟩
    cases t with
    | true => cases he; exact ⟨rfl, rfl⟩
    | false => exact he
variable {rest : List Expr}
theorem Step.vpk {K : PySem.W.Frag} {av : Addr → Prop} {H0 H H' : Hp} {ρ0 ρ ρ' : List CA} {σ : St} {env : Env} {lo lo' : Lo} {m' : MH} (s : Step K av H0 ρ0 σ env ρ lo H ρ' lo' H' m') {x : D × Mode} {v : V} (r : VOk K H' (aA av ρ' lo') av ρ' lo' env.length x v) {t : Bool} (h : dTrue x.1 = some t) : TruV K v H' t := by
  obtain ⟨lo1, _, _, p⟩ := s.peek r
  exact tru_D p h
theorem s_and (ha : PE X a (tE X.K F ea)) (hb : PE X (.BoolOp .And (b :: rest) pos) (tE X.K F eb)) : PE X (.BoolOp .And (a :: b :: rest) pos) (tE X.K F (.and ea eb)) := by
  refine PE.imp (pe_andT ha hb) fun σ H Q h => ?_
  obtain ⟨av, H0, ρ0, ρ, lo, env, m, x, m', a, he, q⟩ := h
  obtain ⟨xa, m1, t, h1, h2, h3⟩ := and_split he
  refine run_any a h1 fun v H1 ρ1 lo1 s1 v1 => ⟨t, s1.vpk v1 h2, ?_⟩
  cases t with
  | false => obtain ⟨rfl, rfl⟩ := h3; exact q v H1 ρ1 lo1 s1 v1
  | true =>
    obtain ⟨lo2, s2, hl2, _⟩ := s1.peek v1
    exact run_any (s2.at hl2 a) h3 fun w H3 ρ3 lo3 s3 v3 => q w H3 ρ3 lo3 (s2.trans s3) v3
theorem s_or (ha : PE X a (tE X.K F ea)) (hb : PE X (.BoolOp .Or (b :: rest) pos) (tE X.K F eb)) : PE X (.BoolOp .Or (a :: b :: rest) pos) (tE X.K F (.or ea eb)) := by
  refine PE.imp (pe_orT ha hb) fun σ H Q h => ?_
  obtain ⟨av, H0, ρ0, ρ, lo, env, m, x, m', a, he, q⟩ := h
  obtain ⟨xa, m1, t, h1, h2, h3⟩ := or_split he
  refine run_any a h1 fun v H1 ρ1 lo1 s1 v1 => ⟨t, s1.vpk v1 h2, ?_⟩
  cases t with
  | true => obtain ⟨rfl, rfl⟩ := h3; exact q v H1 ρ1 lo1 s1 v1
  | false =>
    obtain ⟨lo2, s2, hl2, _⟩ := s1.peek v1
    exact run_any (s2.at hl2 a) h3 fun w H3 ρ3 lo3 s3 v3 => q w H3 ρ3 lo3 (s2.trans s3) v3
theorem s_not (ha : PE X a (tE X.K F ea)) : PE X (.UnaryOp .Not a pos) (tE X.K F (.not ea)) := by
  refine PE.imp (pe_notT ha) fun σ H Q h => ?_
  obtain ⟨av, H0, ρ0, ρ, lo, env, m, x, m', a, he, q⟩ := h
  simp only [evalE] at he
  obtain ⟨xa, m1, h1, he⟩ := bind_ok he
  cases h2 : dTrue xa.1 with
  | none => rw [h2] at he; cases he
  | some t =>
    rw [h2] at he
    cases he
    exact run_pk a h1 fun v H1 ρ1 lo1 s1 a1 p1 => ⟨t, tru_D p1 h2, (fin (d := .bl (!t)) s1 a1 q).bl⟩
theorem PW.imp {e : Expr} {t t' : TT} (h : PW X e t) (w : ∀ σ H Q, t' σ H Q → t σ H Q) : PW X e t' := ⟨fun wh pins s σ H Q I q => h.run wh pins s σ H Q I (w σ H Q q)⟩
theorem sw_and (ha : PT X a (tT X.K F ea)) (hb : PW X (.BoolOp .And (b :: rest) pos) (tT X.K F eb)) : PW X (.BoolOp .And (a :: b :: rest) pos) (tT X.K F (.and ea eb)) := by
  refine PW.imp (pw_and ha hb) fun σ H Q h => ?_
  obtain ⟨av, H0, ρ0, ρ, lo, env, m, x, t', m', a, he, ht, q⟩ := h
  obtain ⟨xa, m1, t, h1, h2, h3⟩ := and_split he
  refine ⟨av, H0, ρ0, ρ, lo, env, m, xa, t, m1, a, h1, h2, fun H1 ρ1 lo1 s1 hl1 => ?_⟩
  cases t with
  | false =>
    obtain ⟨rfl, rfl⟩ := h3
    rw [h2] at ht; cases ht
    exact q H1 ρ1 lo1 s1 hl1
  | true => exact ⟨av, H0, ρ0, ρ1, lo1, env, m1, x, t', m', s1.at hl1 a, h3, ht, fun H2 ρ2 lo2 s2 hl2 => q H2 ρ2 lo2 (s1.trans s2) hl2⟩
theorem sw_or (ha : PT X a (tT X.K F ea)) (hb : PW X (.BoolOp .Or (b :: rest) pos) (tT X.K F eb)) : PW X (.BoolOp .Or (a :: b :: rest) pos) (tT X.K F (.or ea eb)) := by
  refine PW.imp (pw_or ha hb) fun σ H Q h => ?_
  obtain ⟨av, H0, ρ0, ρ, lo, env, m, x, t', m', a, he, ht, q⟩ := h
  obtain ⟨xa, m1, t, h1, h2, h3⟩ := or_split he
  refine ⟨av, H0, ρ0, ρ, lo, env, m, xa, t, m1, a, h1, h2, fun H1 ρ1 lo1 s1 hl1 => ?_⟩
  cases t with
  | true =>
    obtain ⟨rfl, rfl⟩ := h3
    rw [h2] at ht; cases ht
    exact q H1 ρ1 lo1 s1 hl1
  | false => exact ⟨av, H0, ρ0, ρ1, lo1, env, m1, x, t', m', s1.at hl1 a, h3, ht, fun H2 ρ2 lo2 s2 hl2 => q H2 ρ2 lo2 (s1.trans s2) hl2⟩
theorem st_not (ha : PT X a (tT X.K F ea)) : PT X (.UnaryOp .Not a pos) (tT X.K F (.not ea)) := by
  refine PT.imp (pt_not ha) fun σ H Q h => ?_
  obtain ⟨av, H0, ρ0, ρ, lo, env, m, x, t', m', a, he, ht, q⟩ := h
  simp only [evalE] at he
  obtain ⟨xa, m1, h1, he⟩ := bind_ok he
  cases h2 : dTrue xa.1 with
  | none => rw [h2] at he; cases he
  | some t =>
    rw [h2] at he
    cases he
    cases ht
    exact ⟨av, H0, ρ0, ρ, lo, env, m, xa, t, _, a, h1, h2, fun H1 ρ1 lo1 s1 hl1 => q H1 ρ1 lo1 s1 hl1⟩
theorem s_ite (hc : PT X c (tT X.K F ec)) (ha : PE X a (tE X.K F ea)) (hb : PE X b (tE X.K F eb)) : PE X (.IfExp c a b pos) (tE X.K F (.ite ec ea eb)) := by
  refine PE.imp (pe_ifExp hc ha hb) fun σ H Q h => ?_
  obtain ⟨av, H0, ρ0, ρ, lo, env, m, x, m', a, he, q⟩ := h
  simp only [evalE] at he
  obtain ⟨xa, m1, h1, he⟩ := bind_ok he
  cases h2 : dTrue xa.1 with
  | none => rw [h2] at he; cases he
  | some t =>
    rw [h2] at he
    refine ⟨av, H0, ρ0, ρ, lo, env, m, xa, t, m1, a, h1, h2, fun H1 ρ1 lo1 s1 hl1 => ?_⟩
    cases t with
    | true => exact run_any (s1.at hl1 a) he fun w H3 ρ3 lo3 s3 v3 => q w H3 ρ3 lo3 (s1.trans s3) v3
    | false => exact run_any (s1.at hl1 a) he fun w H3 ρ3 lo3 s3 v3 => q w H3 ρ3 lo3 (s1.trans s3) v3
end
end MP
namespace MP
open PySem PySem.Spec L2
section
open HT PyProof.Rows
variable {prog : Program} {w : World} {A : Around} {E : Value → Shared → Prop} {s : Shared}
end
section
open PyProof.Rows
variable {X : Cx} {pos : Pos}
theorem Vals.ev0 : ∀ {xs : List V} {us : List Value}, Vals xs us → Vals (ev0 xs) (ev0 us)
  | [], _, h => by cases h; exact .nil
  | [x], _, h => by
    cases h with
    | cons r t => cases t; exact .cons r .nil
  | x :: y :: xs, _, h => by
    cases h with
    | cons r t =>
      cases t with
      | cons r' t' => exact .cons r (Vals.ev0 t')
theorem Vals.drop1 : ∀ {xs : List V} {us : List Value} (n : Nat), Vals xs us → Vals (xs.drop n) (us.drop n)
  | _, _, 0, h => h
  | [], _, n + 1, h => by cases h; exact .nil
  | x :: xs, _, n + 1, h => by
    cases h with
    | cons r t => exact Vals.drop1 n t
theorem Vals.ev2 {xs : List V} {us : List Value} (h : Vals xs us) : Vals (ev2 xs) (ev2 us) := Vals.ev0 (Vals.drop1 2 h)
end
theorem Lk.of {K : PySem.W.Frag} {av : Addr → Prop} {H0 H : Hp} {ρ0 ρ : List CA} {lo : Lo} {σ : St} {env : Env} {m : MH} (s : Stt K av H0 ρ0 ρ lo σ H env m) {d : D} {x : V} (p : Pk K H (aA av ρ lo) ρ d x) : Lk K H (aA av ρ lo) ρ (deref m d) x := by
  cases d with
  | obj n =>
    obtain ⟨c, hc, rfl⟩ := p.obj
    have hn : n < m.length := by rw [s.ml]; exact (List.getElem?_eq_some_iff.mp hc).1
    have hm := List.getElem?_eq_getElem hn
    have hcell := s.cells n c _ hc hm
    unfold deref
    simp only [hm]
    cases hx : m[n] with
    | lst ds =>
      rw [hx] at hcell
      obtain ⟨_, xs, h1, h2⟩ := hcell
      exact .inr ⟨_, rfl, xs, h1, h2⟩
    | dK ds =>
      rw [hx] at hcell
      obtain ⟨_, xs, h1, h2⟩ := hcell
      exact .inr ⟨_, rfl, xs, .inl h1, h2⟩
    | dT ds =>
      rw [hx] at hcell
      obtain ⟨_, xs, h1, h2⟩ := hcell
      exact .inr ⟨_, rfl, xs, .inl h1, h2⟩
    | gone => exact p.lk
    | exc _ _ => exact p.lk
    | ins y fs => exact p.lk
  | _ => exact p.lk
section
variable {X : Cx} {F : CallF} {a b c : Expr} {ea eb ec : E} {pos : Pos}
theorem RelDs.ev0 {K : PySem.W.Frag} {H : Hp} {A : Addr → Prop} {ρ : List CA} : ∀ {ds : List D} {vs : List V}, RelDs K H A ρ ds vs → RelDs K H A ρ (MP.ev0 ds) (MP.ev0 vs)
  | [], _, h => by cases h; rfl
  | [d], _, h => by
    obtain ⟨v, r, rfl, h1, h2⟩ := h
    cases h2
    exact ⟨v, [], rfl, h1, rfl⟩
  | d :: d' :: ds, _, h => by
    obtain ⟨v, r, rfl, h1, h2⟩ := h
    obtain ⟨v', r', rfl, h1', h2'⟩ := h2
    exact ⟨v, _, rfl, h1, RelDs.ev0 h2'⟩
theorem atI_rel {K : PySem.W.Frag} {H : Hp} {A : Addr → Prop} {ρ : List CA} {ds : List D} {vs : List V} {i : Int} {d : D} (r : RelDs K H A ρ ds vs) (h : atI ds i = some d) : ∃ v, atI vs i = some v ∧ RelD K H A ρ d v := by
  unfold atI at h ⊢
  rw [Option.bind_eq_some_iff] at h
  obtain ⟨j, h1, h2⟩ := h
  obtain ⟨v, h3, h4⟩ := r.get h2
  exact ⟨v, by rw [← r.length, h1]; exact h3, h4⟩
theorem atI_map {α β : Type} (f : α → β) (xs : List α) (i : Int) : atI (xs.map f) i = (atI xs i).map f := by
  unfold atI
  rw [List.length_map]
  cases ixN xs.length i with
  | none => rfl
  | some j => simp
theorem ix_dict (hu : X.A.units + 1 < cLine) : IxR X (fun x y H Q => ∃ a v, x = .ref a ∧ DGet H a y (some v) ∧ Q v H) := by
  intro value slice pins s σ H x y v u Q I rx ry h hs
  obtain ⟨a, w, rfl, g, q⟩ := h
  obtain rfl : v = Value.ref a := rx
  exact PyProof.Rows.tail_any (dict_typeIs I g) PySem.F.slot_dict_getitem.lookup (d_getItem hu I g ry fun w' s3 I3 rw' => ⟨w, H, I3, rw', q⟩) hs
theorem ix_ok (hu : X.A.units + 1 < cLine) : IxR X (fun x y H Q => ∃ A ρ dx dy d, Lk X.K H A ρ dx x ∧ Pk X.K H A ρ dy y ∧ ixD dx dy = some d ∧ ∀ v, RelD X.K H A ρ d v → Q v H) := by
  intro value slice pins s σ H x y v u Q I rx ry h hsub
  obtain ⟨A, ρ, dx, dy, d, px, py, e, q⟩ := h
  have dct : (getD? dx dy).bind id = some d → wpAny (model X.prog X.w) X.A (PyProof.Rows.subscriptTail value slice v u) (EP X pins σ Q) X.xe s := fun e => by
    rw [Option.bind_eq_some_iff] at e
    obtain ⟨o, e1, e2⟩ := e
    have e2 : o = some d := e2
    subst e2
    obtain ⟨a, ov, rfl, hg, w, rfl, hr⟩ := getD_ok px py.lk e1
    exact ix_dict hu value slice pins s σ H _ _ v u Q I rx ry ⟨a, w, rfl, hg, q w hr⟩ hsub
  cases dx with
  | tup ds =>
    cases dy <;> first | (cases e; done) | skip
    obtain ⟨p, xs, rfl, h1, h2⟩ := px.tup
    obtain ⟨w, h4, h5⟩ := atI_rel h2 e
    exact ix_tup value slice pins s σ H _ _ v u Q I rx ry ⟨p, xs, _, w, rfl, py.int, SqT.of h1, h4, q w h5⟩ hsub
  | lst ds =>
    obtain ⟨p, xs, rfl, h1, h2⟩ := px.lst
    cases dy <;> first | (cases e; done) | skip
    obtain ⟨w, h4, h5⟩ := atI_rel h2 e
    exact ix_list value slice pins s σ H _ _ v u Q I rx ry ⟨p, xs, _, w, rfl, py.int, SqL.of h1, h4, q w h5⟩ hsub
  | scr ns =>
    cases dy <;> first | (cases e; done) | skip
    obtain ⟨p, rfl, h1⟩ := px.scr
    simp only [ixD, Option.map_eq_some_iff] at e
    obtain ⟨i, h3, rfl⟩ := e
    exact ix_list value slice pins s σ H _ _ v u Q I rx ry ⟨p, _, _, .int i, rfl, py.int, h1, by rw [atI_map, h3]; rfl, q _ rfl⟩ hsub
  | dK kvs => exact dct e
  | dT kvs => exact dct e
  | _ => cases dy <;> cases e
theorem s_ix (hu : X.A.units + 1 < cLine) (ha : PE X a (tE X.K F ea)) (hb : PE X b (tE X.K F eb)) (hs : PlainIx b) : PE X (.Subscript a b pos) (tE X.K F (.ix ea eb)) := by
  refine PE.imp (pe_ix (ix_ok hu) ha hb hs) fun σ H Q h => ?_
  obtain ⟨av, H0, ρ0, ρ, lo, env, m, x, m', a, he, q⟩ := h
  simp only [evalE] at he
  obtain ⟨xa, m1, h1, he⟩ := bind_ok he
  obtain ⟨xb, m2, h2, he⟩ := bind_ok he
  refine run_pk a h1 fun v H1 ρ1 lo1 s1 a1 p1 => run_pk a1 h2 fun w H2 ρ2 lo2 s2 a2 p2 => ?_
  cases h3 : ixD (deref m2 xa.1) xb.1 with
  | none => rw [h3] at he; cases he
  | some d =>
    rw [h3] at he
    cases he
    exact ⟨_, _, _, _, d, Lk.of a2.st (s2.pk a1.st a1.hl p1), p2, h3, fun v r => q v H2 ρ2 lo2 (s1.trans s2) r⟩
theorem cut_rel {K : PySem.W.Frag} {H : Hp} {A : Addr → Prop} {ρ : List CA} {ds : List D} {vs : List V} {lo hi : Option Int} (r : RelDs K H A ρ ds vs) : RelDs K H A ρ (cutD ds lo hi) (cutV vs lo hi) := by
  unfold cutD cutV
  rw [← r.length]
  exact (r.drop _).take _
theorem cut_map {α β : Type} (f : α → β) (xs : List α) (lo hi : Option Int) : cutD (xs.map f) lo hi = (cutD xs lo hi).map f := by
  unfold cutD
  rw [List.length_map, List.map_take, List.map_drop]
theorem sl_ok : SlR X (fun x lo hi H Q => ∃ A ρ dx d, Pk X.K H A ρ dx x ∧ slD dx lo hi = some d ∧ Gives X.K H A ρ d Q) := by
  intro pins s σ H x v vl vu lo hi sl Q I rx hs pl pu h
  obtain ⟨A, ρ, dx, d, px, e, g⟩ := h
  cases dx with
  | tup ds =>
    cases e
    obtain ⟨p, xs, rfl, h1, h2⟩ := px.tup
    refine sl_tupA pins s σ H _ v vl vu lo hi sl Q I rx hs pl pu ⟨p, xs, rfl, SqT.of h1, fun z => ?_, fun _ t ht => g _ _ (.tup ht (cut_rel h2))⟩
    have e2 : cutV xs lo hi = xs := by
      unfold cutV
      rw [z.1, z.2]
      simp
    have h3 := cut_rel (lo := lo) (hi := hi) h2
    rw [e2] at h3
    exact g _ _ (.scal rfl ⟨p, xs, rfl, h1, h3⟩)
  | lst ds =>
    cases e
    obtain ⟨p, xs, rfl, h1, h2⟩ := px.lst
    exact sl_list pins s σ H _ v vl vu lo hi sl Q I rx hs pl pu ⟨p, xs, rfl, SqL.of h1, fun t ht => g _ _ (.lst ht (cut_rel h2))⟩
  | scr ns =>
    cases e
    obtain ⟨p, rfl, h1⟩ := px.scr
    refine sl_list pins s σ H _ v vl vu lo hi sl Q I rx hs pl pu ⟨p, _, rfl, h1, fun t ht => g _ _ (.lst ht ?_)⟩
    have h3 : cutV (ns.map V.int) lo hi = (cutD ns lo hi).map V.int := cut_map V.int ns lo hi
    rw [h3]
    exact RelDs.of_ints
  | _ => cases e
theorem s_o_none : PO X none (tO X.K F []) := PO.imp po_none fun σ H Q h => by
  obtain ⟨av, H0, ρ0, ρ, lo, env, m, o, m', a, he, q⟩ := h
  cases he
  exact q H ρ lo a.refl a.hl
theorem s_o_some (ha : PE X a (tE X.K F ea)) : PO X (some a) (tO X.K F [ea]) := PO.imp (po_some ha) fun σ H Q h => by
  obtain ⟨av, H0, ρ0, ρ, lo, env, m, o, m', a, he, q⟩ := h
  simp only [evalO] at he
  obtain ⟨xa, m1, h1, he⟩ := bind_ok he
  refine run_pk a h1 fun v H1 ρ1 lo1 s1 a1 p1 => ?_
  split at he <;> cases he
  rename_i i hx
  rw [hx] at p1
  exact ⟨i, p1.int, q H1 ρ1 lo1 s1 a1.hl⟩
theorem s_sl {l h : Option Expr} {el eh : List E} {p2 : Pos} (ha : PE X a (tE X.K F ea)) (hl : PO X l (tO X.K F el)) (hh : PO X h (tO X.K F eh)) : PE X (.Subscript a (.Slice l h none p2) pos) (tE X.K F (.sl ea el eh)) := by
  refine PE.imp (pe_slice sl_ok ha hl hh) fun σ H Q h => ?_
  obtain ⟨av, H0, ρ0, ρ, lo, env, m, x, m', a, he, q⟩ := h
  simp only [evalE] at he
  obtain ⟨xa, m1, h1, he⟩ := bind_ok he
  obtain ⟨ol, m2, h2, he⟩ := bind_ok he
  obtain ⟨oh, m3, h3, he⟩ := bind_ok he
  obtain ⟨d, h4, rfl, rfl⟩ := optD_ok he
  refine run_pk a h1 fun v H1 ρ1 lo1 s1 a1 p1 => ⟨av, H0, ρ0, ρ1, lo1, env, m1, ol, m2, a1, h2, fun H2 ρ2 lo2 s2 l2 => ⟨av, H0, ρ0, ρ2, lo2, env, m2, oh, _, s2.at l2 a1, h3, fun H3 ρ3 lo3 s3 l3 => ?_⟩⟩
  exact ⟨_, _, _, d, (s2.trans s3).pk a1.st a1.hl p1, h4, fin ((s1.trans s2).trans s3) (s3.at l3 (s2.at l2 a1)) q⟩
def NoStar (e : Expr) : Prop := ∀ x p, e ≠ .Starred x p
theorem star_ok {e : Expr} {es : List Expr} {env : PySem.Env} (h : NoStar e) : starEach (e :: es) env = (false, eval e env) :: starEach es env := by
  cases e <;> first | rfl | exact absurd rfl (h _ _)
variable {es : List Expr} {ees : List E}
theorem s_es_nil : PA X [] (tEs X.K F []) := PA.imp pa_nil fun σ H Q h => by
  obtain ⟨av, H0, ρ0, ρ, lo, env, m, o, m', a, he, q⟩ := h
  cases he
  exact q [] H ρ lo a.refl a.hl rfl
theorem s_es_cons (hn : NoStar a) (ha : PE X a (tE X.K F ea)) (hr : PA X es (tEs X.K F ees)) : PA X (a :: es) (tEs X.K F (ea :: ees)) := PA.imp (pa_cons ha hr (star_ok hn)) fun σ H Q h => by
  obtain ⟨av, H0, ρ0, ρ, lo, env, m, o, m', a, he, q⟩ := h
  simp only [evalEs] at he
  obtain ⟨xa, m1, h1, he⟩ := bind_ok he
  split at he
  · rename_i ho
    obtain ⟨r, m2, h2, he⟩ := bind_ok he
    cases he
    refine run_sh a h1 ho fun v H1 ρ1 lo1 s1 a1 p1 => ⟨av, H0, ρ0, ρ1, lo1, env, m1, r, _, a1, h2, fun vs H2 ρ2 lo2 s2 l2 r2 => ?_⟩
    exact q _ H2 ρ2 lo2 (s1.trans s2) l2 ⟨v, vs, rfl, s2.rel a1.st p1, r2⟩
  · cases he
theorem s_ps_nil : PA X [] (tPs X.K F []) := PA.imp pa_nil fun σ H Q h => by
  obtain ⟨av, H0, ρ0, ρ, lo, env, m, o, m', a, he, q⟩ := h
  cases he
  exact q [] H ρ lo a.refl a.hl .nil
theorem WkR.step {K : PySem.W.Frag} {av : Addr → Prop} {H0 H H' : Hp} {ρ0 ρ ρ' : List CA} {σ : St} {env : Env} {lo lo' : Lo} {m m' : MH} (a : At K av H0 ρ0 ρ lo σ H env m) (s : Step K av H0 ρ0 σ env ρ lo H ρ' lo' H' m') {x : D × Mode} {v : V} (r : WkR K av H (aA av ρ lo) ρ x v) : WkR K av H' (aA av ρ' lo') ρ' x v := by
  refine ⟨s.pk a.st a.hl r.1, fun hw => ?_⟩
  rcases r.2 hw with r | ⟨p, rfl, e, o⟩
  · exact .inl (s.rel a.st r)
  · exact .inr ⟨p, rfl, e, s.peeked a.st (fun z => (a.st.fav p z).1 e) o⟩
theorem wk_all {K : PySem.W.Frag} {av : Addr → Prop} {H : Hp} {A : Addr → Prop} {ρ : List CA} : ∀ {ds : List (D × Mode)} {vs : List V}, Paired (WkR K av H A ρ) ds vs → PkAll K H A ρ (ds.map (·.1)) vs
  | _, _, .nil => .nil
  | _, _, .cons p t => .cons p.1 (wk_all t)
theorem Step.walk {K : PySem.W.Frag} {av : Addr → Prop} {H0 H H' : Hp} {ρ0 ρ ρ' : List CA} {σ : St} {env : Env} {lo lo' : Lo} {m' : MH} (s : Step K av H0 ρ0 σ env ρ lo H ρ' lo' H' m') {x : D × Mode} {v : V} (r : VOk K H' (aA av ρ' lo') av ρ' lo' env.length x v) :
    ∃ lo1, Step K av H0 ρ0 σ env ρ lo H ρ' lo1 H' m' ∧ lo1 env.length = none ∧ WkR K av H' (aA av ρ' lo1) ρ' x v := by
  cases h : owns x.2 with
  | true =>
    obtain ⟨lo1, a, b, c⟩ := s.share r h
    exact ⟨lo1, a, b, .inl c, fun _ => .inl c⟩
  | false =>
    obtain ⟨d, md⟩ := x
    have r0 := r
    obtain ⟨lo1, a, b, c⟩ := s.lend r h
    refine ⟨lo1, a, b, .inr c, fun hw => ?_⟩
    cases md with
    | sh => cases h
    | fr => cases h
    | bo => cases hw
    | br =>
      obtain ⟨p, rfl, e, o⟩ := r0
      obtain ⟨q, eq, _, _, o2⟩ := c
      cases eq
      exact .inr ⟨p, rfl, e, o2⟩
theorem s_ps_cons (hn : NoStar a) (ha : PE X a (tE X.K F ea)) (hr : PA X es (tPs X.K F ees)) : PA X (a :: es) (tPs X.K F (ea :: ees)) := PA.imp (pa_cons ha hr (star_ok hn)) fun σ H Q h => by
  obtain ⟨av, H0, ρ0, ρ, lo, env, m, o, m', a, he, q⟩ := h
  simp only [evalPs] at he
  obtain ⟨xa, m1, h1, he⟩ := bind_ok he
  obtain ⟨r, m2, h2, he⟩ := bind_ok he
  cases he
  refine run_any a h1 fun v H1 ρ1 lo1' s1' v1 => ?_
  obtain ⟨lo1, s1, l1, p1⟩ := s1'.walk v1
  have a1 := s1.at l1 a
  refine ⟨av, H0, ρ0, ρ1, lo1, env, m1, r, _, a1, h2, fun vs H2 ρ2 lo2 s2 l2 r2 => ?_⟩
  exact q _ H2 ρ2 lo2 (s1.trans s2) l2 (.cons (p1.step a1 s2) r2)
theorem s_as_nil : PA X [] (tAs X.K F []) := PA.imp pa_nil fun σ H Q h => by
  obtain ⟨av, H0, ρ0, ρ, lo, env, m, o, m', a, he, q⟩ := h
  cases he
  exact q [] H ρ lo a.refl a.hl .nil
theorem ArgR.step {K : PySem.W.Frag} {av : Addr → Prop} {H0 H H' : Hp} {ρ0 ρ ρ' : List CA} {σ : St} {env : Env} {lo lo' : Lo} {m m' : MH} (a : At K av H0 ρ0 ρ lo σ H env m) (s : Step K av H0 ρ0 σ env ρ lo H ρ' lo' H' m') {x : Arg} {v : V} (r : ArgR K H (aA av ρ lo) ρ x v) : ArgR K H' (aA av ρ' lo') ρ' x v := by
  rcases r with ⟨e, r⟩ | ⟨e, p, rfl, hA, n, o⟩
  · exact .inl ⟨e, s.rel a.st r⟩
  · rcases s.pk (d := x.1) a.st a.hl (.inr ⟨p, rfl, hA, n, o⟩) with r | r
    · exfalso
      have hA' : aA av ρ' lo' p := by
        rcases hA with hA | hA | ⟨i, hA⟩
        · exact .inl hA
        · exact absurd hA n
        · by_cases hi : i = env.length
          · subst hi; rw [a.hl] at hA; cases hA
          · exact .inr (.inr ⟨i, (s.lo i hi).trans hA⟩)
      cases x with
      | mk d b => cases d with
        | lst ds => obtain ⟨q, xs, eq, _, nq, _⟩ := r; cases eq; exact nq hA'
        | dK ds => obtain ⟨q, xs, eq, _, nq, _⟩ := r; cases eq; exact nq hA'
        | dT ds => obtain ⟨q, xs, eq, _, nq, _⟩ := r; cases eq; exact nq hA'
        | _ => exact o.elim
    · exact .inr ⟨e, r⟩
theorem s_as_cons (hn : NoStar a) (ha : PE X a (tE X.K F ea)) (hr : PA X es (tAs X.K F ees)) : PA X (a :: es) (tAs X.K F (ea :: ees)) := PA.imp (pa_cons ha hr (star_ok hn)) fun σ H Q h => by
  obtain ⟨av, H0, ρ0, ρ, lo, env, m, o, m', a, he, q⟩ := h
  simp only [evalAs] at he
  obtain ⟨xa, m1, h1, he⟩ := bind_ok he
  obtain ⟨r, m2, h2, he⟩ := bind_ok he
  cases he
  have go : ∀ v H1 ρ1 lo1, Step X.K av H0 ρ0 σ env ρ lo H ρ1 lo1 H1 m1 → At X.K av H0 ρ0 ρ1 lo1 σ H1 env m1 → ArgR X.K H1 (aA av ρ1 lo1) ρ1 (xa.1, lent xa.2) v → tAs X.K F ees σ H1 fun vs H2 => Q (v :: vs) H2 := fun v H1 ρ1 lo1 s1 a1 p1 =>
    ⟨av, H0, ρ0, ρ1, lo1, env, m1, r, _, a1, h2, fun vs H2 ρ2 lo2 s2 l2 r2 => q _ H2 ρ2 lo2 (s1.trans s2) l2 (.cons (p1.step a1 s2) r2)⟩
  cases ho : owns xa.2 with
  | true => exact run_sh a h1 ho fun v H1 ρ1 lo1 s1 a1 p1 => go v H1 ρ1 lo1 s1 a1 (.inl ⟨by cases hm : xa.2 <;> first | rfl | (rw [hm] at ho; cases ho), p1⟩)
  | false =>
    refine run_any a h1 fun v H1 ρ1 lo1 s1 v1 => ?_
    obtain ⟨d, md⟩ := xa
    obtain ⟨lo2, s2, l2, p2⟩ := s1.lend v1 ho
    exact go v H1 ρ1 lo2 s2 (s2.at l2 a) (.inr ⟨by cases md <;> first | rfl | (cases ho; done), p2⟩)
theorem s_tup {k : Nat} (h : PA X es (tEs X.K F ees)) : PE X (.Tuple es k pos) (tE X.K F (.tup ees)) := by
  refine PE.imp (pe_tup h) fun σ H Q h => ?_
  obtain ⟨av, H0, ρ0, ρ, lo, env, m, x, m', a, he, q⟩ := h
  simp only [evalE] at he
  obtain ⟨ds, m1, h1, he⟩ := bind_ok he
  split at he <;> cases he
  rename_i hz
  exact ⟨av, H0, ρ0, ρ, lo, env, m, ds, _, a, h1, fun vs H1 ρ1 lo1 s1 l1 r1 => ⟨by rw [← r1.length, szline]; exact hz, fun t ht => fin (d := .tup ds) s1 (s1.at l1 a) q _ _ (.tup ht r1)⟩⟩
theorem MkRel.dK0 {K : PySem.W.Frag} {H : Hp} {A : Addr → Prop} {ρ : List CA} {p : Addr} (h : H p = none) : MkRel K H A ρ (.dK []) (.ref p) (upd H p (.dK [])) :=
  ⟨kept_upd h, p, rfl, h, [], upd_same, rfl⟩
theorem s_dict0 : PE X (.Dict [] [] pos) (tE X.K F (.c (.dK []))) := by
  refine PE.imp pe_dnewK fun σ H Q h => ?_
  obtain ⟨av, H0, ρ0, ρ, lo, env, m, x, m', a, he, q⟩ := h
  cases he
  exact fun p hp => fin (d := .dK []) a.refl a q _ _ (.dK0 hp)
theorem s_lst (h : PA X es (tEs X.K F ees)) : PE X (.List es pos) (tE X.K F (.lst ees)) := by
  refine PE.imp (pe_lst h) fun σ H Q h => ?_
  obtain ⟨av, H0, ρ0, ρ, lo, env, m, x, m', a, he, q⟩ := h
  simp only [evalE] at he
  obtain ⟨ds, m1, h1, he⟩ := bind_ok he
  split at he <;> cases he
  rename_i hz
  exact ⟨av, H0, ρ0, ρ, lo, env, m, ds, _, a, h1, fun vs H1 ρ1 lo1 s1 l1 r1 => ⟨by rw [← r1.length, szline]; exact hz, fun t ht => fin (d := .lst ds) s1 (s1.at l1 a) q _ _ (.lst ht r1)⟩⟩
end
end MP
namespace MP
open PySem PySem.Spec L2 PyProof.Rows
section
variable {P : Program} {w : World} {A : Around} {E : Value → Shared → Prop} {s : Shared}
end
section
variable {X : Cx}
end
end MP
namespace MP
open PySem PySem.Spec L2
def biName : Bi → Str
  | .len => "len" | .sorted => "sorted" | .list => "list" | .tuple => "tuple" | .all => "all" | .any => "any" | .sum => "sum" | .max1 => "max" | .min1 => "min" | .max2 => "max" | .min2 => "min" | .repr => "repr" | .int => "int" | .max3 => "max" | .min3 => "min" | .dict => "dict"
theorem bi_boot (b : Bi) : bootBuiltins (biName b) = some (biVal b) := by cases b <;> decide +kernel
theorem bi_nm (b : Bi) : biName b ≠ "__name__" := by cases b <;> decide +kernel
theorem bi_db (b : Bi) : (biName b == ("__debug__" : Str)) = false := by cases b <;> decide +kernel
section
variable {X : Cx} {F : CallF} {a b c : Expr} {ea eb ec : E} {pos p : Pos} {es : List Expr} {ees : List E}
theorem nost {env : PySem.Env} : ∀ {es : List Expr}, (∀ e ∈ es, NoStar e) → (backTo pos (starEach es env)).any (·.1) = false
  | [], _ => rfl
  | e :: es, h => by
    rw [star_ok (h e List.mem_cons_self)]
    show (false || (backTo pos (starEach es env)).any _) = false
    rw [nost fun e he => h e (List.mem_cons_of_mem _ he)]
    rfl
theorem s_bi (hc : X.calm = true) (hu : X.A.units + 67 < cLine) (hG : X.A.guards = some []) (b : Bi) (hg : Gl X (biName b)) (hm : X.mg (biName b) = none) (hn : ∀ e ∈ a :: es, NoStar e) (ha : PA X (a :: es) (tPs X.K F ees)) :
    PE X (.Call (.Name (biName b) p) (a :: es) [] pos) (tE X.K F (.bi b ees)) := by
  have w : ∀ σ H Q, tE X.K F (.bi b ees) σ H Q → tCB (rBi X.K b) (tPs X.K F ees) σ H Q := fun σ H Q h => by
    obtain ⟨av, H0, ρ0, ρ, lo, env, m, x, m', a, he, q⟩ := h
    simp only [evalE] at he
    obtain ⟨ds, m1, h1, he⟩ := bind_ok he
    obtain ⟨d, h2, rfl, rfl⟩ := optD_ok he
    exact ⟨av, H0, ρ0, ρ, lo, env, m, ds, _, a, h1, fun vs H1 ρ1 lo1 s1 l1 p1 => ⟨_, _, _, d, wk_all p1, h2, fin s1 (s1.at l1 a) q⟩⟩
  have hs := star_ok (env := X.env) (es := es) (hn a List.mem_cons_self)
  have hp : (backTo pos (starEach es X.env)).any (·.1) = false := nost fun e he => hn e (List.mem_cons_of_mem _ he)
  have ok := bi_ok hc hu hG b
  have hv := bi_boot b
  have go1 : ∀ id, biVal b = .builtin id → PE X (.Call (.Name (biName b) p) (a :: es) [] pos) (tE X.K F (.bi b ees)) := fun id e => by
    rw [e] at ok hv
    exact PE.imp (pe_callB ok hg hm hv ha (bi_nm b) (bi_db b) hs hp) w
  have go2 : ∀ id, biVal b = .type id → PE X (.Call (.Name (biName b) p) (a :: es) [] pos) (tE X.K F (.bi b ees)) := fun id e => by
    rw [e] at ok hv
    exact PE.imp (pe_callTy ok hg hm hv ha (bi_nm b) (bi_db b) hs hp) w
  cases b <;> first | exact go1 _ rfl | exact go2 _ rfl
def tyS : Ty → Str
  | .int => "int" | .bool => "bool" | .str => "str" | .tuple => "tuple" | .list => "list" | .dict => "dict"
theorem ty_boot (t : Ty) : bootBuiltins (tyS t) = some (.type (tyN t)) := by cases t <;> decide +kernel
theorem ty_nm (t : Ty) : tyS t ≠ "__name__" := by cases t <;> decide +kernel
theorem ty_db (t : Ty) : (tyS t == ("__debug__" : Str)) = false := by cases t <;> decide +kernel
theorem pe_ty {t : Ty} (hg : Gl X (tyS t)) (hm : X.mg (tyS t) = none) : PE X (.Name (tyS t) p) (tC (.ty (tyN t))) := pe_bltn hg hm (ty_boot t) rfl (ty_nm t) (ty_db t)
def tConst (vs : List V) : TA := fun _ H Q => Q vs H
theorem pa_tys {env : PySem.Env} : ∀ {ts : List Ty} {es : List Expr}, Paired (fun t e => ∃ p, e = Expr.Name (tyS t) p ∧ Gl X (tyS t) ∧ X.mg (tyS t) = none) ts es → PA X es (tConst (ts.map fun t => V.ty (tyN t)))
  | _, _, .nil => PA.imp pa_nil fun σ H Q h => h
  | _, _, .cons ⟨p, e, hg, hm⟩ t => by
    subst e
    exact PA.imp (pa_cons (pe_ty hg hm) (pa_tys (env := env) t) (star_ok fun _ _ => fun z => nomatch z)) fun σ H Q h => h
theorem isD_some {ts : List Ty} {d : D} {t : Bool} (h : isD ts d = some t) : isD [] d ≠ none ∧ t = ts.any fun t => isTy t d := by
  cases d <;> first | (cases h; done) | exact ⟨fun z => (by cases z), (Option.some.inj h).symm⟩
theorem isi_ok1 : CallR X (.builtin "isinstance") (fun vs H Q => ∃ A ρ d x ts t, vs = [x, .ty (tyN ts)] ∧ Pk X.K H A ρ d x ∧ isD [ts] d = some t ∧ Q (.bl t) H) := by
  intro pins s σ H vs us Q I r h
  obtain ⟨A, ρ, d, x, ts, t, rfl, px, e, q⟩ := h
  obtain ⟨u1, u2, rfl, r1, r2⟩ := vals2 r
  cases r2
  obtain ⟨P, Z, hp, hx⟩ := kit_D I r1 px e
  obtain ⟨hd, rfl⟩ := isD_some e
  exact PySem.W.kia_one Z I.kIn hp (by rw [kitOne_D d ts hd]; simp) hx fun tk => ⟨.bl _, H, I.tok tk, rfl, q⟩
theorem isi_okT : CallR X (.builtin "isinstance") (fun vs H Q => ∃ A ρ d x tp ts t, vs = [x, .ref tp] ∧ H tp = some (.tup (ts.map fun t => V.ty (tyN t))) ∧ Pk X.K H A ρ d x ∧ isD ts d = some t ∧ Q (.bl t) H) := by
  intro pins s σ H vs us Q I r h
  obtain ⟨A, ρ, d, x, tp, ts, t, rfl, hT, px, e, q⟩ := h
  obtain ⟨u1, u2, rfl, r1, r2⟩ := vals2 r
  cases r2
  obtain ⟨P, Z, hp, hx⟩ := kit_D I r1 px e
  obtain ⟨hd, rfl⟩ := isD_some e
  obtain ⟨_, its, rv, o, h1, h2, n, h3⟩ := (show ObjOk X.prog X.w H s.heap tp (.tup (ts.map fun t => V.ty (tyN t))) from I.hok tp _ hT)
  have e3 : its = ts.map fun t => Value.type (tyN t) := by
    have gen : ∀ {ts : List Ty} {its : List Value}, Vals (ts.map fun t => V.ty (tyN t)) its → its = ts.map fun t => Value.type (tyN t) := by
      intro ts
      induction ts with
      | nil => intro its rv; cases rv; rfl
      | cons t ts ih =>
        intro its rv
        cases rv with
        | cons a b => rw [List.map_cons, ← ih b, show _ = Value.type (tyN t) from a]
    exact gen rv
  subst e3
  obtain ⟨oc, od, dt, sl⟩ := o
  simp only at h2 h3
  subst h2 h3
  exact PySem.W.kia_tup Z I.kIn hp h1 (kitAny_D d hd ts) hx fun tk => ⟨.bl _, H, I.tok tk, rfl, q⟩
theorem s_isi1 {t : Ty} {p2 : Pos} (hg : Gl X "isinstance") (hm : X.mg "isinstance" = none) (hgt : Gl X (tyS t)) (hmt : X.mg (tyS t) = none) (hn : NoStar a) (ha : PE X a (tE X.K F ea)) :
    PE X (.Call (.Name "isinstance" p) [a, .Name (tyS t) p2] [] pos) (tE X.K F (.isi true [t] ea)) := by
  have hs : starEach [a, .Name (tyS t) p2] X.env = (false, eval a X.env) :: starEach [.Name (tyS t) p2] X.env := star_ok hn
  refine PE.imp (pe_callB isi_ok1 hg hm PyProof.Rows.boot_isinstance (pa_cons ha (pa_cons (pe_ty hgt hmt) pa_nil) hs) (by decide) (by decide) hs rfl) fun σ H Q h => ?_
  obtain ⟨av, H0, ρ0, ρ, lo, env, m, x, m', a, he, q⟩ := h
  simp only [evalE] at he
  obtain ⟨xa, m1, h1, he⟩ := bind_ok he
  obtain ⟨d, h3, rfl, rfl⟩ := optB_ok he
  refine run_pk a h1 fun v H1 ρ1 lo1 s1 a1 p1 => ?_
  exact ⟨_, _, _, v, t, d, rfl, p1, h3, (fin (d := .bl d) s1 a1 q).bl⟩
theorem s_isiT {ts : List Ty} {k : Nat} {p2 : Pos} (hg : Gl X "isinstance") (hm : X.mg "isinstance" = none) (ht : Paired (fun t e => ∃ p, e = Expr.Name (tyS t) p ∧ Gl X (tyS t) ∧ X.mg (tyS t) = none) ts es) (hl : ts.length ≤ 100) (hn : NoStar a) (ha : PE X a (tE X.K F ea)) :
    PE X (.Call (.Name "isinstance" p) [a, .Tuple es k p2] [] pos) (tE X.K F (.isi false ts ea)) := by
  have hs : starEach [a, .Tuple es k p2] X.env = (false, eval a X.env) :: starEach [.Tuple es k p2] X.env := star_ok hn
  refine PE.imp (pe_callB isi_okT hg hm PyProof.Rows.boot_isinstance (pa_cons ha (pa_cons (pe_tup (pa_tys (env := X.env) ht)) pa_nil) hs) (by decide) (by decide) hs rfl) fun σ H Q h => ?_
  obtain ⟨av, H0, ρ0, ρ, lo, env, m, x, m', a, he, q⟩ := h
  simp only [evalE] at he
  obtain ⟨xa, m1, h1, he⟩ := bind_ok he
  obtain ⟨d, h3, rfl, rfl⟩ := optB_ok he
  refine run_pk a h1 fun v H1 ρ1 lo1 s1 a1 p1 => ?_
  refine ⟨by rw [List.length_map, szline]; omega, fun t ht => ?_⟩
  have g := kept_upd (o := .tup (ts.map fun t => V.ty (tyN t))) ht
  refine ⟨aA av ρ1 lo1, ρ1, xa.1, v, t, ts, d, rfl, upd_same, ?_, h3, fin (d := .bl d) s1 a1 q _ _ ⟨g, rfl⟩⟩
  rcases p1 with p1 | ⟨pp, rfl, hA, nf, o⟩
  · exact .inl (p1.mono (Stays.of g) (fun a z => .inl z) fun n c e => ⟨c, e, rfl⟩)
  · exact .inr ⟨pp, rfl, hA, nf, o.mono (Stays.of g) (fun a z => .inl z) (fun n c e => ⟨c, e, rfl⟩) fun o e => g _ o e⟩
end
end MP
namespace MP
open PySem PySem.Spec L2
section
variable {K : PySem.W.Frag} {av : Addr → Prop} {H0 H H1 H2 H' : Hp} {ρ0 ρ ρ1 ρ2 ρ' : List CA} {σ : St} {env : Env} {lo lo1 lo2 lo' : Lo} {m m1 m2 m' : MH}
theorem Stt.putSh (s : Stt K av H0 ρ0 ρ lo σ H env m) {i : Nat} (hi : i < env.length) {d : D} {v : V} (r : RelD K H (aA av ρ lo) ρ d v) : Stt K av H0 ρ0 ρ (loC lo i) (σ.set i (some v)) H (env.set i (.sh d)) m := by
  have hA : ∀ a, aA av ρ (loC lo i) a → aA av ρ lo a ∨ H a = none := fun a z => .inl (aA_loC z)
  refine ⟨by simp [s.len], fun j x e => ?_, fun j k p e1 e2 => ?_, fun j p e => ?_, s.fnd, s.fav, s.avd, s.ml, fun n c x e1 e2 => (s.cells n c x e1 e2).mono Stays.refl hA (fun n c e => ⟨c, e, rfl⟩) fun o q => q, s.ext, s.keep⟩
  · by_cases h : j = i
    · subst h
      rw [List.getElem?_set_self hi] at e
      cases e
      rw [List.getElem?_set_self (by rw [← s.len]; exact hi)]
      exact ⟨loC_same, v, rfl, r.mono Stays.refl hA fun n c e => ⟨c, e, rfl⟩⟩
    · rw [List.getElem?_set_ne (Ne.symm h)] at e
      rw [List.getElem?_set_ne (Ne.symm h)]
      exact (s.slot j x e).mono Stays.refl hA (fun n c e => ⟨c, e, rfl⟩) (fun _ _ _ e => e) (loC_ne h)
  · by_cases h1 : j = i
    · subst h1; rw [loC_same] at e1; cases e1
    by_cases h2 : k = i
    · subst h2; rw [loC_same] at e2; cases e2
    rw [loC_ne h1] at e1
    rw [loC_ne h2] at e2
    exact s.inj j k p e1 e2
  · by_cases h1 : j = i
    · subst h1; rw [loC_same] at e; cases e
    rw [loC_ne h1] at e
    exact s.loF j p e
theorem Stt.pokeG (s : Stt K av H0 ρ0 ρ lo σ H env m) {j : Nat} {p : Addr} (hj : env.length ≤ j) (hp : lo j = some p) {u u' : HO} (hx : H p = some u) (hu : ∀ zs, u ≠ .tup zs) (hu' : ∀ zs, u' ≠ .tup zs) : Stt K av H0 ρ0 ρ lo σ (upd H p u') env m := by
  obtain ⟨f1, f2, f3, f4, f5⟩ := s.loF j p hp
  have pA : aA av ρ lo p := .inr (.inr ⟨j, hp⟩)
  have st : Stays (aA av ρ lo) H (upd H p u') := ⟨fun a zs e => by
      rw [upd_ne (fun z => by subst z; rw [hx] at e; exact hu _ (Option.some.inj e))]; exact e, fun a o n e => by
      rw [upd_ne (fun z => n (by subst z; exact pA))]; exact e⟩
  have hA : ∀ a, aA av ρ lo a → aA av ρ lo a ∨ H a = none := fun a z => .inl z
  have other : ∀ q o, q ≠ p → H q = some o → upd H p u' q = some o := fun q o n e => by rw [upd_ne n]; exact e
  have dm : ∀ a, H a ≠ none → upd H p u' a ≠ none := fun a h => by
    by_cases z : a = p
    · subst z; rw [upd_same]; exact fun z => nomatch z
    · rw [upd_ne z]; exact h
  have nt : ∀ a, (∀ zs, H a ≠ some (.tup zs)) → ∀ zs, upd H p u' a ≠ some (.tup zs) := fun a h zs e => by
    by_cases z : a = p
    · subst z; rw [upd_same] at e; exact hu' _ (Option.some.inj e)
    · rw [upd_ne z] at e; exact h zs e
  refine ⟨s.len, fun i x e => (s.slot i x e).mono st hA (fun n c e => ⟨c, e, rfl⟩) (fun q o hq e2 => other q o (fun z => ?_) e2) rfl, s.inj, fun i q e => ?_, s.fnd, fun q hq => ?_, s.avd, s.ml, fun n c x e1 e2 => (s.cells n c x e1 e2).mono st hA (fun n c e => ⟨c, e, rfl⟩) fun o q => other _ o ((s.cells n c x e1 e2).apart e1 pA f2) q, s.ext, ⟨fun a o e n => other a o (fun z => ?_) (s.keep.keep a o e n), fun a h => dm a (s.keep.dom a h)⟩⟩
  · subst z
    rcases hq with hq | hq
    · have := s.inj i j _ hq hp
      subst this
      have := (List.getElem?_eq_some_iff.mp e).1
      omega
    · exact f1 hq
  · obtain ⟨h1, h2, h3, h4, h5⟩ := s.loF i q e
    exact ⟨h1, h2, h3, dm q h4, nt q h5⟩
  · obtain ⟨h1, h2, h3⟩ := s.fav q hq
    exact ⟨h1, nt q h2, dm q h3⟩
  · subst z; rw [f3] at e; cases e
theorem Stt.poke (s : Stt K av H0 ρ0 ρ lo σ H env m) {j : Nat} {p : Addr} (hj : env.length ≤ j) (hp : lo j = some p) {xs ys : List V} (hx : H p = some (.lst xs)) : Stt K av H0 ρ0 ρ lo σ (upd H p (.lst ys)) env m :=
  s.pokeG hj hp hx (fun _ z => nomatch z) (fun _ z => nomatch z)
theorem Stt.freshAt (s : Stt K av H0 ρ0 ρ lo σ H env m) {i : Nat} (hi : env.length ≤ i) (hl : lo i = none) {p : Addr} (hp : H p = none) (k : ∀ a o, H a = some o → H' a = some o) (hp' : H' p ≠ none) (ht : ∀ xs, H' p ≠ some (.tup xs)) :
    Stt K av H0 ρ0 ρ (loS lo i p) σ H' env m := by
  have s' := s.grow k
  have hA : ∀ a, aA av ρ (loS lo i p) a → aA av ρ lo a ∨ H a = none := fun a z => (aA_loS z).imp id fun e => by rw [e]; exact hp
  have hpo : ∀ j, lo j ≠ some p := fun j e => (s.loF j p e).2.2.2.1 hp
  refine ⟨s.len, fun j x e => ?_, fun j k' q e1 e2 => ?_, fun j q e => ?_, s.fnd, s'.fav, s.avd, s.ml, fun n c x e1 e2 => ?_, s.ext, s'.keep⟩
  · refine (s.slot j x e).mono (Stays.of k) hA (fun n c e => ⟨c, e, rfl⟩) (fun q o _ e => k q o e) ?_
    have h : j ≠ i := fun z => by subst z; have := (List.getElem?_eq_some_iff.mp e).1; omega
    exact loS_ne h
  · by_cases h1 : j = i
    · by_cases h2 : k' = i
      · rw [h1, h2]
      · rw [h1, loS_same] at e1; cases e1
        rw [loS_ne h2] at e2
        exact absurd e2 (hpo _)
    · rw [loS_ne h1] at e1
      by_cases h2 : k' = i
      · rw [h2, loS_same] at e2; cases e2; exact absurd e1 (hpo _)
      · rw [loS_ne h2] at e2; exact s.inj j k' q e1 e2
  · by_cases h1 : j = i
    · rw [h1, loS_same] at e; cases e
      refine ⟨fun z => s.keep.dom p (s.avd p z) hp, fun z => (s.fav p z).2.2 hp, ?_, hp', ht⟩
      cases q : H0 p with
      | none => rfl
      | some o => exact absurd hp (s.keep.dom p (by rw [q]; exact fun z => nomatch z))
    · rw [loS_ne h1] at e
      exact s'.loF j q e
  · exact (s.cells n c x e1 e2).mono (Stays.of k) hA (fun n c e => ⟨c, e, rfl⟩) fun o q => k _ o q
theorem wipeE_len : ∀ {own : List Nat} {env e : Env}, wipeE env own = some e → e.length = env.length
  | [], _, _, h => by cases h; rfl
  | i :: r, env, e, h => by
    simp only [wipeE, Option.bind_eq_some_iff] at h
    obtain ⟨e1, h1, h2⟩ := h
    have := wipeE_len h1
    split at h2 <;> first | (cases h2; done) | skip
    all_goals (cases h2; simp [this])
theorem wipe_get {own : List Nat} : ∀ {σ : St} {i : Nat}, i ∉ own → (wipe σ own)[i]? = σ[i]? := by
  induction own with
  | nil => intro σ i _; rfl
  | cons a r ih =>
    intro σ i h
    simp only [List.mem_cons, not_or] at h
    show ((wipe σ r).set a none)[i]? = _
    rw [List.getElem?_set_ne (fun z => h.1 z.symm)]
    exact ih h.2
theorem wipeE_spec : ∀ {own : List Nat} {env e : Env}, wipeE env own = some e → (∀ i ∈ own, e[i]? = some .un ∧ ∃ x, env[i]? = some x ∧ (∀ d, x ≠ .ow d) ∧ ∀ d, x ≠ .bw d) ∧ ∀ i, i ∉ own → e[i]? = env[i]?
  | [], _, _, h => by cases h; exact ⟨(fun i h => nomatch h), fun _ _ => rfl⟩
  | a :: r, env, e, h => by
    simp only [wipeE, Option.bind_eq_some_iff] at h
    obtain ⟨e1, h1, h2⟩ := h
    obtain ⟨q1, q2⟩ := wipeE_spec h1
    have hl := wipeE_len h1
    have fin : ∀ x, env[a]? = some x → (∀ d, x ≠ .ow d) → (∀ d, x ≠ .bw d) → e = e1.set a .un → (∀ i ∈ a :: r, e[i]? = some .un ∧ ∃ x, env[i]? = some x ∧ (∀ d, x ≠ .ow d) ∧ ∀ d, x ≠ .bw d) ∧ ∀ i, i ∉ a :: r → e[i]? = env[i]? := by
      rintro x hx n1 n2 rfl
      have ha : a < e1.length := by rw [hl]; exact (List.getElem?_eq_some_iff.mp hx).1
      refine ⟨fun i hi => ?_, fun i hi => ?_⟩
      · by_cases hia : i = a
        · subst hia
          exact ⟨List.getElem?_set_self ha, x, hx, n1, n2⟩
        · rcases List.mem_cons.mp hi with z | z
          · exact absurd z hia
          · obtain ⟨g1, g2⟩ := q1 i z
            exact ⟨by rw [List.getElem?_set_ne (Ne.symm hia)]; exact g1, g2⟩
      · simp only [List.mem_cons, not_or] at hi
        rw [List.getElem?_set_ne (Ne.symm hi.1)]
        exact q2 i hi.2
    cases hx : env[a]? with
    | none => rw [hx] at h2; cases h2
    | some x =>
      rw [hx] at h2
      cases x with
      | un => exact fin _ hx (fun _ z => nomatch z) (fun _ z => nomatch z) (Option.some.inj h2).symm
      | sh d => exact fin _ hx (fun _ z => nomatch z) (fun _ z => nomatch z) (Option.some.inj h2).symm
      | ow d => cases h2
      | bw d => cases h2
theorem Stt.wipe (s : Stt K av H0 ρ0 ρ lo σ H env m) {own : List Nat} {e : Env} (h : wipeE env own = some e) : Stt K av H0 ρ0 ρ lo (wipe σ own) H e m := by
  obtain ⟨q1, q2⟩ := wipeE_spec h
  refine ⟨by rw [wipeE_len h, wipe_length]; exact s.len, fun i x ex => ?_, s.inj, s.loF, s.fnd, s.fav, s.avd, s.ml, s.cells, s.ext, s.keep⟩
  by_cases hi : i ∈ own
  · obtain ⟨g1, y, g2, g3, g4⟩ := q1 i hi
    rw [g1] at ex
    cases ex
    have q := s.slot i y g2
    cases y with
    | un => exact q
    | sh d => exact q.1
    | ow d => exact absurd rfl (g3 d)
    | bw d => exact absurd rfl (g4 d)
  · rw [wipe_get hi]
    exact s.slot i x (by rw [← q2 i hi]; exact ex)
theorem Stt.back (s : Stt K av H0 ρ0 ρ lo σ H env m) {σ' : St} {e : Env} (b : Stt K av H0 ρ0 ρ' lo' σ' H' e m') (hl : ∀ i d, env[i]? = some (.ow d) → lo' i = lo i) (hn : ∀ i, i < env.length → lo i = none → lo' i = none) (hA : ∀ a, aA av ρ' lo' a → aA av ρ lo a ∨ H a = none) (kp : Keeps H H' ρ) (ex : Ext H ρ ρ') :
    Stt K av H0 ρ0 ρ' lo' σ H' env m' := by
  refine ⟨s.len, fun i x e => ?_, b.inj, b.loF, b.fnd, b.fav, b.avd, b.ml, b.cells, b.ext, b.keep⟩
  have q := s.slot i x e
  have hi := (List.getElem?_eq_some_iff.mp e).1
  refine q.mono (s.stays kp) hA ex.same (fun p o hp eo => kp.keep p o eo fun z => ?_) ?_
  · rcases hp with hp | hp
    · exact (s.loF i p hp).2.1 z
    · exact (s.fav p z).1 hp
  · cases x with
    | un => rw [hn i hi q, show lo i = none from q]
    | sh d => rw [hn i hi q.1, q.1]
    | ow d => exact hl i d e
    | bw d => rw [hn i hi q.1, q.1]
def Same0 (vs : List Nat) (σ σ' : St) : Prop := σ'.length = σ.length ∧ ∀ i, i ∉ vs → σ'[i]? = σ[i]?
def tG (K : PySem.W.Frag) (t : T) : TG := fun v σ H Q => ∃ av H0 ρ0 ρ lo env m d env', At K av H0 ρ0 ρ lo σ H env m ∧ RelD K H (aA av ρ lo) ρ d v ∧ bindT t d env = some env' ∧
  ∀ σ' lo', At K av H0 ρ0 ρ lo' σ' H env' m → env'.length = env.length → (∀ i, i ∉ tslots t → lo' i = lo i) → (∀ i ∈ tslots t, lo' i = none) → Same0 (tslots t) σ σ' → Q σ' H
def tGs (K : PySem.W.Frag) (ts : List T) : TGs := fun vs σ H Q => ∃ av H0 ρ0 ρ lo env m ds env', At K av H0 ρ0 ρ lo σ H env m ∧ RelDs K H (aA av ρ lo) ρ ds vs ∧ bindTs ts ds env = some env' ∧
  ∀ σ' lo', At K av H0 ρ0 ρ lo' σ' H env' m → env'.length = env.length → (∀ i, i ∉ tslotss ts → lo' i = lo i) → (∀ i ∈ tslotss ts, lo' i = none) → Same0 (tslotss ts) σ σ' → Q σ' H
end
section
variable {X : Cx} {a : Expr} {es : List Expr} {t : T} {ts : List T} {pos : Pos}
theorem PG.imp {e : Expr} {t t' : TG} (h : PG X e t) (w : ∀ v σ H Q, t' v σ H Q → t v σ H Q) : PG X e t' := ⟨fun pins s σ H v u Q I r q => h.run pins s σ H v u Q I r (w v σ H Q q)⟩
theorem PGs.imp {e : List Expr} {t t' : TGs} (h : PGs X e t) (w : ∀ v σ H Q, t' v σ H Q → t v σ H Q) : PGs X e t' := ⟨fun pins s σ H v u Q I r q => h.run pins s σ H v u Q I r (w v σ H Q q)⟩
theorem sg_nm {i : Nat} {x : Str} (hN : X.N.Nodup) (hi : X.N[i]? = some x) (hx : Loc X.env.scope x) (hf : X.fn x = true ∨ X.env.scope.names.lookup x = some .local) : PG X (.Name x pos) (tG X.K (.nm i)) := by
  refine PG.imp (pg_name hN hi hx hf) fun v σ H Q h => ?_
  obtain ⟨av, H0, ρ0, ρ, lo, env, m, d, env', a, r, e, q⟩ := h
  simp only [bindT] at e
  split at e <;> cases e
  rename_i y hy
  have hl := (List.getElem?_eq_some_iff.mp hy).1
  refine q (σ.set i (some v)) (loC lo i) ⟨a.st.putSh hl r, ?_, ?_⟩ (by simp) (fun j hj => loC_ne (by simpa [tslots] using hj)) (fun j hj => ?_) ⟨by simp, fun j hj => List.getElem?_set_ne (fun z => hj (by simp [tslots, z]))⟩
  · rw [List.length_set, loC_ne (by omega)]; exact a.hl
  · obtain ⟨k, hk⟩ := a.far
    exact ⟨k, fun j hj => by
      by_cases z : j = i
      · rw [z]; exact loC_same
      · rw [loC_ne z]; exact hk j hj⟩
  · have : j = i := by simpa [tslots] using hj
    rw [this]; exact loC_same
theorem Same0.trans {vs ws : List Nat} {σ σ1 σ2 : St} (a : Same0 vs σ σ1) (b : Same0 ws σ1 σ2) : Same0 (vs ++ ws) σ σ2 :=
  ⟨b.1.trans a.1, fun i hi => by
    rw [List.mem_append, not_or] at hi
    exact (b.2 i hi.2).trans (a.2 i hi.1)⟩
theorem sgs_nil : PGs X [] (tGs X.K []) := PGs.imp pgs_nil fun v σ H Q h => by
  obtain ⟨av, H0, ρ0, ρ, lo, env, m, d, env', a, r, e, q⟩ := h
  cases d with
  | nil =>
    cases r
    cases e
    exact ⟨rfl, q σ lo a rfl (fun _ _ => rfl) (fun _ h => nomatch h) ⟨rfl, fun _ _ => rfl⟩⟩
  | cons d ds => cases e
theorem each_ok {e : Expr} {es : List Expr} {env : PySem.Env} (h : NoStar e) : (assignEach (e :: es) env).map (·.2) = assign e env :: (assignEach es env).map (·.2) := by
  cases e <;> first | rfl | exact absurd rfl (h _ _)
theorem sgs_cons (hn : NoStar a) (h1 : PG X a (tG X.K t)) (h2 : PGs X es (tGs X.K ts)) : PGs X (a :: es) (tGs X.K (t :: ts)) := PGs.imp (pgs_cons h1 h2 (each_ok hn)) fun v σ H Q h => by
  obtain ⟨av, H0, ρ0, ρ, lo, env, m, ds, env', a, r, e, q⟩ := h
  cases ds with
  | nil => cases e
  | cons d ds =>
    obtain ⟨x, xs, rfl, r1, r2⟩ := r
    simp only [bindTs, Option.bind_eq_some_iff] at e
    obtain ⟨e1, g1, g2⟩ := e
    refine ⟨x, xs, rfl, av, H0, ρ0, ρ, lo, env, m, d, e1, a, r1, g1, fun σ1 lo1 a1 l1 n1 z1 s1 => ⟨av, H0, ρ0, ρ, lo1, e1, m, ds, env', a1, ?_, g2, fun σ2 lo2 a2 l2 n2 z2 s2 => ?_⟩⟩
    · refine r2.mono Stays.refl (fun b hb => .inl ?_) fun n c e => ⟨c, e, rfl⟩
      rcases hb with hb | hb | ⟨i, hb⟩
      · exact .inl hb
      · exact .inr (.inl hb)
      · by_cases hi : i ∈ tslots t
        · rw [z1 i hi] at hb; cases hb
        · rw [n1 i hi] at hb; exact .inr (.inr ⟨i, hb⟩)
    · refine q σ2 lo2 a2 (l2.trans l1) (fun i hi => ?_) (fun i hi => ?_) (s1.trans s2)
      · simp only [tslotss, List.mem_append, not_or] at hi
        exact (n2 i hi.2).trans (n1 i hi.1)
      · simp only [tslotss, List.mem_append] at hi
        by_cases h2 : i ∈ tslotss ts
        · exact z2 i h2
        · rw [n2 i h2]; exact z1 i (hi.resolve_right h2)
theorem bindTs_len : ∀ {ts : List T} {ds : List D} {env e : Env}, bindTs ts ds env = some e → ts.length = ds.length
  | [], [], _, _, _ => rfl
  | [], _ :: _, _, _, h => by cases h
  | _ :: _, [], _, _, h => by cases h
  | t :: ts, d :: ds, env, e, h => by
    simp only [bindTs, Option.bind_eq_some_iff] at h
    obtain ⟨e1, _, g2⟩ := h
    simp [bindTs_len g2]
theorem nostars {env : PySem.Env} : ∀ {es : List Expr}, (∀ e ∈ es, NoStar e) → (assignEach es env).length = es.length ∧ (assignEach es env).findIdx? (·.1) = none
  | [], _ => ⟨rfl, rfl⟩
  | e :: es, h => by
    have ih := nostars (env := env) fun x hx => h x (List.mem_cons_of_mem _ hx)
    have h0 := h e List.mem_cons_self
    have e1 : assignEach (e :: es) env = (false, assign e env) :: assignEach es env := by cases e <;> first | rfl | exact absurd rfl (h0 _ _)
    rw [e1]
    refine ⟨by simp [ih.1], ?_⟩
    rw [List.findIdx?_cons]
    simp [ih.2]
theorem sg_tup {k : Nat} (hc : X.calm = true) (hl : ts.length = es.length) (hn : ∀ e ∈ es, NoStar e) (h : PGs X es (tGs X.K ts)) : PG X (.Tuple es k pos) (tG X.K (.tup ts)) := by
  obtain ⟨n1, n2⟩ := nostars (env := X.env) hn
  refine PG.imp (pg_tup hc h n1 n2) fun v σ H Q h => ?_
  obtain ⟨av, H0, ρ0, ρ, lo, env, m, d, env', a, r, e, q⟩ := h
  cases d <;> first | (cases e; done) | skip
  obtain ⟨p, xs, rfl, g1, g2⟩ := r
  refine ⟨p, xs, rfl, SqT.of g1, ?_, av, H0, ρ0, ρ, lo, env, m, _, env', a, g2, e, q⟩
  rw [← g2.length, ← bindTs_len e, hl]
end
end MP
namespace MP
open PySem PySem.Spec PyProof.Rows L2
open PySem.Sem (wp)
def SIt (tp : Bool) (h : Heap) (it l : Addr) (i : Nat) : Prop := match tp with | true => h.IsTupleIter it l i | false => h.IsListIter it l i
def SSq (tp : Bool) (h : Heap) (l : Addr) (xs : Array Value) : Prop := match tp with | true => h.IsTuple l xs | false => h.IsList l xs
section
variable {tp : Bool} {h h' : Heap} {it l b : Addr} {i : Nat} {xs : Array Value}
theorem SIt.ext (x : SIt tp h it l i) (e : Heap.ExtBut b h h') (n : it ≠ b) : SIt tp h' it l i := by
  cases tp
  · exact Heap.IsListIter.extBut x e n
  · exact Heap.IsTupleIter.extBut x e n
theorem SSq.ext (x : SSq tp h l xs) (e : Heap.ExtBut b h h') (n : l ≠ b) : SSq tp h' l xs := by
  cases tp
  · exact Heap.IsList.extBut x e n
  · exact Heap.IsTuple.extBut x e n
theorem SIt.there (x : SIt tp h it l i) : ∃ o, h.get? it = some o ∧ ∀ v, o.data ≠ .cell v := by
  cases tp
  · obtain ⟨o, e, c, d⟩ := x; exact ⟨o, e, fun v z => by rw [d] at z; cases z⟩
  · obtain ⟨o, e, c, d⟩ := x; exact ⟨o, e, fun v z => by rw [d] at z; cases z⟩
theorem SIt.at' (x : SIt tp h it l i) (k : ∀ o, h.get? it = some o → h'.get? it = some o) : SIt tp h' it l i := by
  cases tp
  · exact Heap.IsListIter.at x k
  · exact Heap.IsTupleIter.at x k
end
section
variable {prog : Program} {w : World} {A : Around} {E : Value → Shared → Prop} {s : Shared} {tp tq : Bool}
theorem nx_item {it l : Addr} {i : Nat} {items : Array Value} {x : Value} {Q : Value → Shared → Prop} (a : SIt tp s.heap it l i) (c : SSq tp s.heap l items) (hx : items[i]? = some x)
    (q : ∀ g, SIt tp g it l (i + 1) → Heap.SameBut it s.heap g → Q x { s with heap := g }) : wpAny (model prog w) A (Builtin.SmallTypes.nextOf (.ref it)) Q E s := by
  cases tp
  · exact wpAny_nextOf_list_item a c hx q
  · exact RZ.nextOf_tuple_item a c hx q
theorem nx_end {it l : Addr} {i : Nat} {items : Array Value} {Q : Value → Shared → Prop} (hh : A.handled = none) (a : SIt tp s.heap it l i) (c : SSq tp s.heap l items) (hx : items[i]? = none)
    (q : ∀ g e, Heap.ExtBut it s.heap g → (∃ o, g.get? e = some o ∧ o.cls = .type "StopIteration") → E (.ref e) { s with heap := g }) : wpAny (model prog w) A (Builtin.SmallTypes.nextOf (.ref it)) Q E s := by
  cases tp
  · exact wpAny_nextOf_list_end hh a c hx q
  · exact RZ.nextOf_tuple_end hh a c hx q
def ZipRec (h : Heap) (z TI TO : Addr) (f0 : Value) (f1 : Bool) : Prop := h.get? z = some { cls := .type "zip", dict := none, data := .fields #[f0, .bool f1, .bool false, .ref TI, .ref TO], slots := #[] }
def Out (f0 : Value) : Prop := f0 = .none ∨ ∃ T : Addr, f0 = rawInt T
def ZipAt (h : Heap) (z TI TO : Addr) : Prop := ∃ f0 f1, ZipRec h z TI TO f0 f1 ∧ Out f0
theorem zip_free {z TI TO : Addr} {f0 : Value} {f1 : Bool} {Q : Bool → Shared → Prop} (hz : ZipRec s.heap z TI TO f0 f1) (ho : Out f0) (qt : Q true s) (qf : ∀ g, ZipAt g z TI TO → Heap.SameBut z s.heap g → Q false { s with heap := g }) :
    wpAny (model prog w) A (Builtin.SmallTypes.ownedTupleIsFree (.ref z)) Q E s := by
  unfold Builtin.SmallTypes.ownedTupleIsFree
  rcases ho with rfl | ⟨T, rfl⟩
  · exact wpAny_bind (wpAny_field hz rfl (x := .none) rfl (wpAny_pure qt))
  · refine wpAny_bind (wpAny_field hz rfl (x := rawInt T) rfl ?_)
    show wpAny _ _ (loadIfAlive ((T : Int).toNat) >>= _) _ _ _
    rw [Int.toNat_natCast]
    cases hT : s.heap.get? T with
    | none =>
      have al : wpAny (model prog w) A (loadIfAlive T) (fun o s' => o = none ∧ s' = s) E s := fun _ _ _ => ⟨hT, rfl⟩
      refine wpAny_bind (wpAny_mono al (fun o s' ⟨e1, e2⟩ => ?_) fun _ _ e => e)
      subst e1 e2
      exact wpAny_pure qt
    | some o =>
      refine wpAny_bind (PySem.W.kdx_alive hT ?_)
      simp only [Option.isNone_some, Bool.false_eq_true, if_false]
      refine wpAny_bind (wpAny_field hz rfl (x := .bool f1) rfl ?_)
      cases f1 with
      | true => exact wpAny_pure (qf s.heap ⟨_, _, hz, .inr ⟨T, rfl⟩⟩ (Heap.SameBut.refl _ _))
      | false => exact wpAny_bind (wpAny_setField_rec hz (by simp) fun g hg sg => wpAny_pure (qf g ⟨_, _, hg, .inr ⟨T, rfl⟩⟩ sg))
theorem zip_item {z TI TO i1 i2 l1 l2 : Addr} {k1 k2 : Nat} {xs ys : Array Value} {x y : Value} {Q : Value → Shared → Prop} (D : ZipApart z TI TO i1 i2 l1 l2)
    (hz : ZipAt s.heap z TI TO) (hTI : IsPair s.heap TI (.ref i1) (.ref i2)) (hTO : ∃ a b, IsPair s.heap TO a b) (h1 : SIt tp s.heap i1 l1 k1) (h2 : SIt tq s.heap i2 l2 k2) (hl1 : SSq tp s.heap l1 xs) (hl2 : SSq tq s.heap l2 ys) (hx : xs[k1]? = some x) (hy : ys[k2]? = some y)
    (q : ∀ g, ZipAt g z TI TO → (∃ a b, IsPair g TO a b) → SIt tp g i1 l1 (k1 + 1) → SIt tq g i2 l2 (k2 + 1) → IsPair g s.heap.objs.size x y → g.objs.size = s.heap.objs.size + 1 →
      (∀ c o, c ≠ z → c ≠ TO → c ≠ i1 → c ≠ i2 → s.heap.get? c = some o → g.get? c = some o) → Q (.ref s.heap.objs.size) { s with heap := g }) :
    wpAny (model prog w) A (Builtin.«zip.__next__» ⟨[.ref z], []⟩) (fun fin s' => ∃ v, fin = .done (.ret v) ∧ Q v s') E s := by
  obtain ⟨f0, f1, hz, ho⟩ := hz
  obtain ⟨a, b, hTO⟩ := hTO
  show wpAny _ _ (field (.ref z) 2 >>= _) _ _ _
  refine wpAny_bind (wpAny_field hz rfl (x := .bool false) rfl ?_)
  show wpAny _ _ (field (.ref z) 3 >>= _) _ _ _
  refine wpAny_bind (wpAny_field hz rfl (x := .ref TI) rfl (wpAny_bind (wpAny_seqItems hTI rfl ?_)))
  show wpAny _ _ (Builtin.SmallTypes.ownedTupleIsFree (.ref z) >>= _) _ _ _
  refine wpAny_bind (zip_free hz ho ?_ fun g1 hz1 e1 => ?_)
  · -- the pair is made in the zip's own tuple
    simp only [if_true]
    refine wpAny_bind (wpAny_rule (wpAny_bind (wpAny_field hz rfl (x := .ref TO) rfl (wpAny_bind (wpAny_setField_rec hz (by simp) fun g1 hz1 e1 => ?_)))))
    have hz1 : ZipRec g1 z TI TO .ellipsis f1 := hz1
    refine wpAny_bind ?_
    simp only [List.zipIdx_cons, List.zipIdx_nil, List.forIn_cons, List.forIn_nil]
    refine wpAny_bind (wpAny_bind (wpAny_onRaise ?_))
    show wpAny _ _ (Builtin.SmallTypes.nextOf (.ref i1) >>= _) _ _ _
    refine wpAny_bind (nx_item (h1.ext e1.extBut D.i1z) (hl1.ext e1.extBut D.l1z) hx fun g2 n1 e2 => wpAny_pure ?_)
    have t2 : IsPair g2 TO a b := e2.extBut _ _ D.TOi1 (e1.extBut _ _ D.TOz hTO)
    refine wpAny_bind (wpAny_seqItems t2 rfl (wpAny_bind (wpAny_updateSeq_pair t2 fun g3 t3 e3 => wpAny_bind (wpAny_letGo (wpAny_pure ?_)))))
    have t3 : IsPair g3 TO x b := t3
    refine wpAny_bind (wpAny_bind (wpAny_onRaise ?_))
    show wpAny _ _ (Builtin.SmallTypes.nextOf (.ref i2) >>= _) _ _ _
    refine wpAny_bind (nx_item (((h2.ext e1.extBut D.i2z).ext e2.extBut D.i12.symm).ext e3.extBut D.TOi2.symm) (((hl2.ext e1.extBut D.l2z).ext e2.extBut D.l2i1).ext e3.extBut D.l2TO) hy fun g4 n2 e4 => wpAny_pure ?_)
    have t4 : IsPair g4 TO x b := e4.extBut _ _ D.TOi2 t3
    refine wpAny_bind (wpAny_seqItems t4 rfl (wpAny_bind (wpAny_updateSeq_pair t4 fun g5 t5 e5 => wpAny_bind (wpAny_letGo (wpAny_pure (wpAny_pure ?_))))))
    have t5 : IsPair g5 TO x y := t5
    refine wpAny_bind (wpAny_seqItems t5 rfl (wpAny_bind (wpAny_newTuple ?_)))
    have sz : g5.objs.size = s.heap.objs.size := by rw [e5.1, e4.1, e3.1, e2.1, e1.1]
    have z5 : ZipRec g5 z TI TO .ellipsis f1 := e5.extBut _ _ D.TOz.symm (e4.extBut _ _ D.i2z.symm (e3.extBut _ _ D.TOz.symm (e2.extBut _ _ D.i1z.symm hz1)))
    have k5 : ∀ c o, c ≠ z → c ≠ TO → c ≠ i1 → c ≠ i2 → s.heap.get? c = some o → g5.get? c = some o := fun c o c1 c2 c3 c4 e => e5.extBut _ _ c2 (e4.extBut _ _ c4 (e3.extBut _ _ c2 (e2.extBut _ _ c3 (e1.extBut _ _ c1 e))))
    have n15 : SIt tp g5 i1 l1 (k1 + 1) := ((n1.ext e3.extBut D.TOi1.symm).ext e4.extBut D.i12).ext e5.extBut D.TOi1.symm
    have n25 : SIt tq g5 i2 l2 (k2 + 1) := n2.ext e5.extBut D.TOi2.symm
    have up : ∀ {c : Addr} {o : Obj}, g5.get? c = some o → (g5.push { cls := .type "tuple", data := .seq #[x, y] }).get? c = some o := fun e => Heap.get?_push_of_some _ e
    have new : IsPair (g5.push { cls := .type "tuple", data := .seq #[x, y] }) g5.objs.size x y := Heap.get?_push_size _ rfl
    have gz : (g5.push { cls := .type "tuple", data := .seq #[x, y] }).objs.size = g5.objs.size + 1 := Heap.size_push ..
    have zlt : z < g5.objs.size := Heap.lt_size z5
    have tlt : TO < g5.objs.size := Heap.lt_size t5
    show wpAny _ _ (Builtin.SmallTypes.ownedTupleHandOut (.ref z) (.ref g5.objs.size) >>= _) _ _ _
    unfold Builtin.SmallTypes.ownedTupleHandOut
    refine wpAny_bind (wpAny_bind (wpAny_setField_rec (up z5) (by simp) fun g7 z7 e7 => wpAny_setField_rec z7 (by simp) fun g8 z8 e8 => wpAny_pure ⟨_, rfl, ?_⟩))
    have kk : ∀ c o, c ≠ z → (g5.push { cls := .type "tuple", data := .seq #[x, y] }).get? c = some o → g8.get? c = some o := fun c o n e => e8.extBut _ _ n (e7.extBut _ _ n e)
    have r := q g8 ⟨_, _, z8, .inr ⟨g5.objs.size, rfl⟩⟩ ⟨x, y, kk _ _ D.TOz (up t5)⟩ (n15.at' fun o e => kk _ _ D.i1z (up e)) (n25.at' fun o e => kk _ _ D.i2z (up e)) (by rw [← sz]; exact kk _ _ (Nat.ne_of_gt zlt) new)
      (by rw [show g8.objs.size = _ from e8.1, show g7.objs.size = _ from e7.1, gz, sz]) fun c o c1 c2 c3 c4 e => kk c o c1 (up (k5 c o c1 c2 c3 c4 e))
    rw [← sz] at r
    exact r
  · -- .. in a new one
    simp only [Bool.false_eq_true, if_false]
    refine wpAny_bind ?_
    rw [← Array.forIn_toList]
    simp only [List.forIn_cons, List.forIn_nil]
    refine wpAny_bind (wpAny_bind (wpAny_holding ?_))
    show wpAny _ _ (Builtin.SmallTypes.nextOf (.ref i1) >>= _) _ _ _
    refine wpAny_bind (nx_item (s := { s with heap := g1 }) (h1.ext e1.extBut D.i1z) (hl1.ext e1.extBut D.l1z) hx fun g2 n1 e2 => wpAny_pure (wpAny_pure ?_))
    refine wpAny_bind (wpAny_bind (wpAny_holding ?_))
    show wpAny _ _ (Builtin.SmallTypes.nextOf (.ref i2) >>= _) _ _ _
    refine wpAny_bind (nx_item (s := { s with heap := g2 }) ((h2.ext e1.extBut D.i2z).ext e2.extBut D.i12.symm) ((hl2.ext e1.extBut D.l2z).ext e2.extBut D.l2i1) hy fun g3 n2 e3 => wpAny_pure (wpAny_pure (wpAny_pure ?_)))
    show wpAny _ _ (newTuple [x, y] >>= _) _ _ _
    refine wpAny_bind (wpAny_newTuple (wpAny_pure ⟨_, rfl, ?_⟩))
    have sz : g3.objs.size = s.heap.objs.size := by rw [e3.1, e2.1, e1.1]
    obtain ⟨u0, u1, z1, o1⟩ := hz1
    have z3 : ZipRec g3 z TI TO u0 u1 := e3.extBut _ _ D.i2z.symm (e2.extBut _ _ D.i1z.symm z1)
    have k3 : ∀ c o, c ≠ z → c ≠ i1 → c ≠ i2 → s.heap.get? c = some o → g3.get? c = some o := fun c o c1 c2 c3 e => e3.extBut _ _ c3 (e2.extBut _ _ c2 (e1.extBut _ _ c1 e))
    have n13 : SIt tp g3 i1 l1 (k1 + 1) := n1.ext e3.extBut D.i12
    have up : ∀ {c : Addr} {o : Obj}, g3.get? c = some o → (g3.push { cls := .type "tuple", data := .seq #[x, y] }).get? c = some o := fun e => Heap.get?_push_of_some _ e
    have r := q (g3.push { cls := .type "tuple", data := .seq #[x, y] }) ⟨_, _, up z3, o1⟩ ⟨a, b, up (k3 _ _ D.TOz D.TOi1 D.TOi2 hTO)⟩ (n13.at' fun o e => up e) (n2.at' fun o e => up e) (by rw [← sz]; exact Heap.get?_push_size _ rfl)
      (by rw [Heap.size_push, sz]) fun c o c1 c2 c3 c4 e => up (k3 c o c1 c3 c4 e)
    rw [← sz] at r
    exact r
theorem zip_end {z TI TO i1 i2 l1 l2 : Addr} {k1 k2 : Nat} {xs ys : Array Value} {Q : Fin → Shared → Prop} (hh : A.handled = none) (D : ZipApart z TI TO i1 i2 l1 l2)
    (hz : ZipAt s.heap z TI TO) (hTI : IsPair s.heap TI (.ref i1) (.ref i2)) (hTO : ∃ a b, IsPair s.heap TO a b) (h1 : SIt tp s.heap i1 l1 k1) (h2 : SIt tq s.heap i2 l2 k2) (hl1 : SSq tp s.heap l1 xs) (hl2 : SSq tq s.heap l2 ys) (hend : xs[k1]? = none ∨ ys[k2]? = none)
    (q : ∀ g e, (∀ c o, c ≠ z → c ≠ TO → c ≠ i1 → c ≠ i2 → s.heap.get? c = some o → g.get? c = some o) → (∃ o, g.get? e = some o ∧ o.cls = .type "StopIteration") → E (.ref e) { s with heap := g }) :
    wpAny (model prog w) A (Builtin.«zip.__next__» ⟨[.ref z], []⟩) Q E s := by
  obtain ⟨f0, f1, hz, ho⟩ := hz
  obtain ⟨a, b, hTO⟩ := hTO
  show wpAny _ _ (field (.ref z) 2 >>= _) _ _ _
  refine wpAny_bind (wpAny_field hz rfl (x := .bool false) rfl ?_)
  show wpAny _ _ (field (.ref z) 3 >>= _) _ _ _
  refine wpAny_bind (wpAny_field hz rfl (x := .ref TI) rfl (wpAny_bind (wpAny_seqItems hTI rfl ?_)))
  show wpAny _ _ (Builtin.SmallTypes.ownedTupleIsFree (.ref z) >>= _) _ _ _
  refine wpAny_bind (zip_free hz ho ?_ fun g1 hz1 e1 => ?_)
  · simp only [if_true]
    refine wpAny_bind (wpAny_rule (wpAny_bind (wpAny_field hz rfl (x := .ref TO) rfl (wpAny_bind (wpAny_setField_rec hz (by simp) fun g1 hz1 e1 => ?_)))))
    have hz1 : ZipRec g1 z TI TO .ellipsis f1 := hz1
    refine wpAny_bind ?_
    simp only [List.zipIdx_cons, List.zipIdx_nil, List.forIn_cons, List.forIn_nil]
    have ez : ∀ {g : Heap} {e : Addr}, ZipRec g z TI TO .ellipsis f1 → (∃ o, g.get? e = some o ∧ o.cls = .type "StopIteration") → e ≠ z := fun hg ⟨o, h1, h2⟩ n => by
      subst n
      have := hg.symm.trans h1
      cases this
      simp at h2
    refine wpAny_bind (wpAny_bind (wpAny_onRaise ?_))
    show wpAny _ _ (Builtin.SmallTypes.nextOf (.ref i1) >>= _) _ _ _
    cases hx : xs[k1]? with
    | none =>
      refine wpAny_bind (nx_end hh (h1.ext e1.extBut D.i1z) (hl1.ext e1.extBut D.l1z) hx fun g2 e e2 he => ?_)
      have z2 : ZipRec g2 z TI TO .ellipsis f1 := e2 _ _ D.i1z.symm hz1
      have ne := ez z2 he
      obtain ⟨oe, h3, h4⟩ := he
      exact wpAny_setField_rec z2 (by simp) fun g3 _ e3 => q g3 e (fun c o c1 c2 c3 c4 x => e3.extBut _ _ c1 (e2 _ _ c3 (e1.extBut _ _ c1 x))) ⟨oe, e3.extBut _ _ ne h3, h4⟩
    | some x =>
      have hy : ys[k2]? = none := hend.resolve_left (by rw [hx]; exact fun z => nomatch z)
      refine wpAny_bind (nx_item (h1.ext e1.extBut D.i1z) (hl1.ext e1.extBut D.l1z) hx fun g2 n1 e2 => wpAny_pure ?_)
      have t2 : IsPair g2 TO a b := e2.extBut _ _ D.TOi1 (e1.extBut _ _ D.TOz hTO)
      refine wpAny_bind (wpAny_seqItems t2 rfl (wpAny_bind (wpAny_updateSeq_pair t2 fun g3 t3 e3 => wpAny_bind (wpAny_letGo (wpAny_pure ?_)))))
      refine wpAny_bind (wpAny_bind (wpAny_onRaise ?_))
      show wpAny _ _ (Builtin.SmallTypes.nextOf (.ref i2) >>= _) _ _ _
      refine wpAny_bind (nx_end hh (((h2.ext e1.extBut D.i2z).ext e2.extBut D.i12.symm).ext e3.extBut D.TOi2.symm) (((hl2.ext e1.extBut D.l2z).ext e2.extBut D.l2i1).ext e3.extBut D.l2TO) hy fun g4 e e4 he => ?_)
      have z4 : ZipRec g4 z TI TO .ellipsis f1 := e4 _ _ D.i2z.symm (e3.extBut _ _ D.TOz.symm (e2.extBut _ _ D.i1z.symm hz1))
      have ne := ez z4 he
      obtain ⟨oe, h3, h4⟩ := he
      exact wpAny_setField_rec z4 (by simp) fun g5 _ e5 => q g5 e (fun c o c1 c2 c3 c4 x => e5.extBut _ _ c1 (e4 _ _ c4 (e3.extBut _ _ c2 (e2.extBut _ _ c3 (e1.extBut _ _ c1 x))))) ⟨oe, e5.extBut _ _ ne h3, h4⟩
  · simp only [Bool.false_eq_true, if_false]
    refine wpAny_bind ?_
    rw [← Array.forIn_toList]
    simp only [List.forIn_cons, List.forIn_nil]
    refine wpAny_bind (wpAny_bind (wpAny_holding ?_))
    show wpAny _ _ (Builtin.SmallTypes.nextOf (.ref i1) >>= _) _ _ _
    cases hx : xs[k1]? with
    | none => exact wpAny_bind (nx_end (s := { s with heap := g1 }) hh (h1.ext e1.extBut D.i1z) (hl1.ext e1.extBut D.l1z) hx fun g2 e e2 he => q g2 e (fun c o c1 c2 c3 c4 x => e2 _ _ c3 (e1.extBut _ _ c1 x)) he)
    | some x =>
      have hy : ys[k2]? = none := hend.resolve_left (by rw [hx]; exact fun z => nomatch z)
      refine wpAny_bind (nx_item (s := { s with heap := g1 }) (h1.ext e1.extBut D.i1z) (hl1.ext e1.extBut D.l1z) hx fun g2 n1 e2 => wpAny_pure (wpAny_pure ?_))
      refine wpAny_bind (wpAny_bind (wpAny_holding ?_))
      show wpAny _ _ (Builtin.SmallTypes.nextOf (.ref i2) >>= _) _ _ _
      exact wpAny_bind (nx_end (s := { s with heap := g2 }) hh ((h2.ext e1.extBut D.i2z).ext e2.extBut D.i12.symm) ((hl2.ext e1.extBut D.l2z).ext e2.extBut D.l2i1) hy fun g3 e e3 he => q g3 e (fun c o c1 c2 c3 c4 x => e3 _ _ c4 (e2.extBut _ _ c3 (e1.extBut _ _ c1 x))) he)
theorem zip_pyNext {z TI TO i1 i2 l1 l2 : Addr} {k1 k2 : Nat} {xs ys : Array Value} {x y : Value} {Q : Option Value → Shared → Prop} (D : ZipApart z TI TO i1 i2 l1 l2)
    (hz : ZipAt s.heap z TI TO) (hTI : IsPair s.heap TI (.ref i1) (.ref i2)) (hTO : ∃ a b, IsPair s.heap TO a b) (h1 : SIt tp s.heap i1 l1 k1) (h2 : SIt tq s.heap i2 l2 k2) (hl1 : SSq tp s.heap l1 xs) (hl2 : SSq tq s.heap l2 ys) (hx : xs[k1]? = some x) (hy : ys[k2]? = some y)
    (q : ∀ g, ZipAt g z TI TO → (∃ a b, IsPair g TO a b) → SIt tp g i1 l1 (k1 + 1) → SIt tq g i2 l2 (k2 + 1) → IsPair g s.heap.objs.size x y → g.objs.size = s.heap.objs.size + 1 →
      (∀ c o, c ≠ z → c ≠ TO → c ≠ i1 → c ≠ i2 → s.heap.get? c = some o → g.get? c = some o) → Q (some (.ref s.heap.objs.size)) { s with heap := g }) :
    wpAny (model prog w) A (pyNext (.ref z)) Q E s := by
  have ty : s.TypeIs (.ref z) "zip" := by obtain ⟨_, _, e, _⟩ := hz; exact ⟨_, e, rfl⟩
  unfold pyNext
  refine wpAny_bind (wpAny_attempt (wpAny_callSpecial?_slot (name := Str.ofString "__next__") ty F.slot_zip_next (wpAny_call_entry F.slot_zip_next ty F.entry_zip_next ?_ (F.args_zip_next_1 _))))
  exact zip_item D hz hTI hTO h1 h2 hl1 hl2 hx hy fun g a1 a2 a3 a4 a5 a6 a7 => wpAny_pure (q g a1 a2 a3 a4 a5 a6 a7)
theorem zip_pyEnd {z TI TO i1 i2 l1 l2 : Addr} {k1 k2 : Nat} {xs ys : Array Value} {Q : Option Value → Shared → Prop} (hh : A.handled = none) (D : ZipApart z TI TO i1 i2 l1 l2)
    (hz : ZipAt s.heap z TI TO) (hTI : IsPair s.heap TI (.ref i1) (.ref i2)) (hTO : ∃ a b, IsPair s.heap TO a b) (h1 : SIt tp s.heap i1 l1 k1) (h2 : SIt tq s.heap i2 l2 k2) (hl1 : SSq tp s.heap l1 xs) (hl2 : SSq tq s.heap l2 ys) (hend : xs[k1]? = none ∨ ys[k2]? = none)
    (q : ∀ g, (∀ c o, c ≠ z → c ≠ TO → c ≠ i1 → c ≠ i2 → s.heap.get? c = some o → g.get? c = some o) → Q none { s with heap := g }) : wpAny (model prog w) A (pyNext (.ref z)) Q E s := by
  have ty : s.TypeIs (.ref z) "zip" := by obtain ⟨_, _, e, _⟩ := hz; exact ⟨_, e, rfl⟩
  unfold pyNext
  refine wpAny_bind (wpAny_attempt (wpAny_callSpecial?_slot (name := Str.ofString "__next__") ty F.slot_zip_next (wpAny_call_entry F.slot_zip_next ty F.entry_zip_next ?_ (F.args_zip_next_1 _))))
  refine zip_end hh D hz hTI hTO h1 h2 hl1 hl2 hend fun g e hk he => ?_
  obtain ⟨o, ho, hc⟩ := he
  exact wpAny_bind (wpAny_isInstance (T := "StopIteration") (b := true) ⟨o, ho, hc⟩ isSubtype_stop (wpAny_pure (q _ hk)))
theorem let_zip {tg : Expr} {z TI TO : Addr} {u : Value} {Q : Unit → Shared → Prop} (hz : ZipAt s.heap z TI TO) (q : ∀ g, ZipAt g z TI TO → Heap.SameBut z s.heap g → Q () { s with heap := g }) : wpAny (model prog w) A (letOwnedTupleGo tg (.ref z) u) Q E s := by
  obtain ⟨f0, f1, hz, ho⟩ := hz
  have stay : Q () s := q s.heap ⟨f0, f1, hz, ho⟩ (Heap.SameBut.refl _ _)
  have go : ∀ T : Addr, wpAny (model prog w) A (if (["enumerate", "zip", "dict_itemiterator", "dict_reverseitemiterator", "odict_iterator", "itertools.zip_longest", "itertools.pairwise"].contains "zip" && (#[f0, .bool f1, .bool false, .ref TI, .ref TO] : Array Value)[0]? == some (rawInt T)) = true then (do rule "for.unpacks-the-owned-tuple"; updateField z 0 .none) else pure ()) Q E s := fun T => by
    split
    · refine wpAny_bind (wpAny_rule ?_)
      show wpAny _ _ (setField (.ref z) 0 .none) Q E s
      exact wpAny_setField_rec hz (by simp) fun g hg sg => q g ⟨_, _, hg, .inl rfl⟩ sg
    · exact wpAny_pure stay
  unfold letOwnedTupleGo
  cases tg <;> first
    | exact wpAny_pure stay
    | (cases u <;> first
        | exact wpAny_pure stay
        | exact wpAny_bind (wpAny_load hz (go _)))
end
def SqX (tp : Bool) (K : PySem.W.Frag) (H : Hp) (a : Addr) (xs : List V) : Prop := match tp with | true => SqT K H a xs | false => SqL K H a xs
def ItzG (K : PySem.W.Frag) (tp tq : Bool) (a b : Addr) : It :=
  ⟨fun i H => ∃ (xs ys : List V) (x y : V), SqX tp K H a xs ∧ SqX tq K H b ys ∧ xs[i]? = some x ∧ ys[i]? = some y,
    fun i H v H' => ∃ T x y, v = .ref T ∧ H T = none ∧ H' = upd H T (.tup [x, y]) ∧ (∀ xs, SqX tp K H a xs → xs[i]? = some x) ∧ ∀ ys, SqX tq K H b ys → ys[i]? = some y,
    fun i H => ∃ xs ys : List V, SqX tp K H a xs ∧ SqX tq K H b ys ∧ (xs.length ≤ i ∨ ys.length ≤ i)⟩
section
variable {X : Cx} {pins : List (Addr × Obj)} {σ : L2.St} {H : Hp} {s : Shared} {tp tq : Bool} {a : Addr} {xs ys : List V}
theorem inv_seq (I : Inv X pins σ H s) (h : SqX tp X.K H a xs) : ∃ its, Vals xs its ∧ SSq tp s.heap a its.toArray ∧ a < s.heap.objs.size := by
  cases tp
  · obtain ⟨its, rv, p, _⟩ := I.list h; exact ⟨its, rv, p.isList, p.lt⟩
  · obtain ⟨its, rv, p, _⟩ := I.tuple h
    obtain ⟨o1, ho1, _⟩ := id p
    exact ⟨its, rv, p, Heap.lt_size ho1⟩
theorem inv_inj (I : Inv X pins σ H s) (h : SqX tp X.K H a xs) (h' : SqX tp X.K H a ys) : xs = ys := by
  cases tp
  · exact I.list_inj h h'
  · exact I.tuple_inj h h'
end
theorem turn_zipG {P : Program} {w : World} {K : PySem.W.Frag} {tg : Expr} {tp tq : Bool} {a b z TI TO i1 i2 : Addr} (D : ZipApart z TI TO i1 i2 a b) :
    Turn P w K tg (ItzG K tp tq a b) [z, TI, TO, i1, i2] z (fun i h => ZipAt h z TI TO ∧ IsPair h TI (.ref i1) (.ref i2) ∧ (∃ x y, IsPair h TO x y) ∧ SIt tp h i1 a i ∧ SIt tq h i2 b i) where
  mem := by simp
  obj := fun i h ⟨⟨_, _, hz, _⟩, hTI, ⟨x, y, hTO⟩, n1, n2⟩ c hc => by
    have e' : c = z ∨ c = TI ∨ c = TO ∨ c = i1 ∨ c = i2 := by simpa using hc
    rcases e' with q | q | q | q | q <;> subst q
    · exact ⟨_, hz, fun v q => nomatch q⟩
    · exact ⟨_, hTI, fun v q => nomatch q⟩
    · exact ⟨_, hTO, fun v q => nomatch q⟩
    · exact n1.there
    · exact n2.there
  keep := fun i h h' ⟨⟨f0, f1, hz, ho⟩, hTI, ⟨x, y, hTO⟩, n1, n2⟩ k =>
    ⟨⟨f0, f1, k z (by simp) _ hz, ho⟩, k TI (by simp) _ hTI, ⟨x, y, k TO (by simp) _ hTO⟩, n1.at' fun o q => k i1 (by simp) o q, n2.at' fun o q => k i2 (by simp) o q⟩
  item := by
    intro X hP hw hK hc i pins s σ H E I hf ⟨hz, hTI, hTO, n1, n2⟩ ⟨xs, ys, x, y, hqx, hqy, hx, hy⟩
    subst hP hw hK
    obtain ⟨its, rv, p, _⟩ := inv_seq I hqx
    obtain ⟨its2, rv2, p2, _⟩ := inv_seq I hqy
    obtain ⟨u, hu, ru⟩ := rv.get hx
    obtain ⟨u2, hu2, ru2⟩ := rv2.get hy
    have lt : ∀ c, c = z ∨ c = TI ∨ c = TO ∨ c = i1 ∨ c = i2 → c < s.heap.objs.size := fun c q => by
      rcases q with q | q | q | q | q <;> subst q
      · obtain ⟨_, _, e, _⟩ := hz; exact Heap.lt_size e
      · exact Heap.lt_size hTI
      · obtain ⟨_, _, e⟩ := hTO; exact Heap.lt_size e
      · obtain ⟨_, e, _⟩ := n1.there; exact Heap.lt_size e
      · obtain ⟨_, e, _⟩ := n2.there; exact Heap.lt_size e
    refine zip_pyNext D hz hTI hTO n1 n2 p p2 (x := u) (y := u2) (by simpa using hu) (by simpa using hu2) fun g zg tg' m1 m2 hT hsz hk => ?_
    refine ⟨_, rfl, let_zip (s := { s with heap := g }) zg fun g' zg' sb => ?_⟩
    have hT2 : IsPair g' s.heap.objs.size u u2 := (sb.2 _ (Nat.ne_of_gt (lt z (.inl rfl)))).trans hT
    have new : ObjOk X.prog X.w (upd H s.heap.objs.size (.tup [x, y])) g' s.heap.objs.size (.tup [x, y]) := ⟨by show 2 ≤ sizeLine; decide, [u, u2], .cons ru (.cons ru2 .nil), ⟨_, hT2, rfl, _, rfl⟩⟩
    have away : ∀ c, c ∉ [z, TI, TO, i1, i2] → c ≠ z ∧ c ≠ TO ∧ c ≠ i1 ∧ c ≠ i2 := fun c h => by simp at h; exact ⟨h.1, h.2.2.1, h.2.2.2.1, h.2.2.2.2⟩
    have I1 : Inv X pins σ (upd H s.heap.objs.size (.tup [x, y])) { s with heap := g' } := I.turnedNew (t' := s.toks) (ch := [z, TI, TO, i1, i2]) (fun c o hb q => let ⟨c1, c2, c3, c4⟩ := away c hb; (sb.2 c c1).trans (hk c o c1 c2 c3 c4 q)) hf (Nat.le_refl _) new
    refine ⟨.ref s.heap.objs.size, _, I1, rfl, ⟨_, x, y, rfl, I.hok.fresh (Nat.le_refl _), rfl, fun l hl => by rw [inv_inj I hl hqx]; exact hx, fun l hl => by rw [inv_inj I hl hqy]; exact hy⟩, ⟨zg', ?_, ?_, ?_, ?_⟩, fun c hcm => ?_⟩
    · exact (sb.2 _ D.TIz).trans (hk _ _ D.TIz D.TITO D.TIi1 D.TIi2 hTI)
    · obtain ⟨x', y', e⟩ := tg'; exact ⟨x', y', (sb.2 _ D.TOz).trans e⟩
    · exact m1.at' fun o q => (sb.2 _ D.i1z).trans q
    · exact m2.at' fun o q => (sb.2 _ D.i2z).trans q
    · have := lt c (by simpa using hcm)
      rw [upd_ne (Nat.ne_of_lt this)]
      exact (hf c hcm).1
  done := by
    intro X hP hw hK hc i pins s σ H E I hf ⟨hz, hTI, hTO, n1, n2⟩ ⟨xs, ys, hqx, hqy, hend⟩
    subst hP hw hK
    obtain ⟨its, rv, p, _⟩ := inv_seq I hqx
    obtain ⟨its2, rv2, p2, _⟩ := inv_seq I hqy
    have l1 := rv.length
    have l2 := rv2.length
    have he : its.toArray[i]? = none ∨ its2.toArray[i]? = none := hend.imp (fun q => by simp; omega) fun q => by simp; omega
    exact zip_pyEnd (I.ok.hd hc) D hz hTI hTO n1 n2 p p2 he fun g hk => ⟨rfl, I.turnedL (t' := s.toks) (ch := [z, TI, TO, i1, i2]) (fun c o hb q => hk c o (fun q' => hb (by simp [q'])) (fun q' => hb (by simp [q'])) (fun q' => hb (by simp [q'])) (fun q' => hb (by simp [q'])) q) hf⟩
  self := fun A i s Q E ⟨⟨_, _, hz, _⟩, _⟩ h => by
    have ty : s.TypeIs (.ref z) "zip" := ⟨_, hz, rfl⟩
    refine wpAny_pyIter_slot ty F.slot_zip_iter (wpAny_call_entry F.slot_zip_iter ty F.entry_zip_iter ?_ (F.args_zip_iter_1 _))
    exact wpAny_pure ⟨_, rfl, "zip", _, ty, F.slot_zip_next.lookup, h⟩
set_option maxHeartbeats 4000000 in
theorem mk_zip {prog : Program} {w : World} {A : Around} {E : Value → Shared → Prop} {s : Shared} {tp tq : Bool} {l1 l2 : Addr} {xs ys : Array Value} {Q : Value → Shared → Prop} (h1 : SSq tp s.heap l1 xs) (h2 : SSq tq s.heap l2 ys)
    (q : ∀ g, ZipAt g (s.heap.objs.size + 4) (s.heap.objs.size + 2) (s.heap.objs.size + 3) → IsPair g (s.heap.objs.size + 2) (.ref s.heap.objs.size) (.ref (s.heap.objs.size + 1)) → IsPair g (s.heap.objs.size + 3) .none .none →
      SIt tp g s.heap.objs.size l1 0 → SIt tq g (s.heap.objs.size + 1) l2 0 → (∀ c o, s.heap.get? c = some o → g.get? c = some o) → Q (.ref (s.heap.objs.size + 4)) { s with heap := g }) :
    wpAny (model prog w) A (call (.type "zip") [.ref l1, .ref l2]) Q E s := by
  by_cases same : tp = tq
  · subst same
    cases tp
    · exact call_zip_2 h1 h2 fun g a1 a2 a3 a4 a5 _ a7 => q g ⟨_, _, a1, .inl rfl⟩ a2 a3 a4 a5 a7
    · exact RZ.call_zipT h1 h2 fun g a1 a2 a3 a4 a5 _ a7 => q g ⟨_, _, a1, .inl rfl⟩ a2 a3 a4 a5 a7
  let ob : Bool → Addr → Obj := fun t l => { cls := .type (if t then "tuple_iterator" else "list_iterator"), data := .fields #[.ref l, .int 0 0] }
  let g1 := s.heap.push (ob tp l1)
  let g2 := g1.push (ob tq l2)
  let g3 := g2.push { cls := .type "tuple", data := .seq #[.ref s.heap.objs.size, .ref g1.objs.size] }
  let g4 := g3.push { cls := .type "tuple", data := .seq #[.none, .none] }
  let g5 := g4.push { cls := .type "zip", data := .fields #[.none, .bool false, .bool false, .ref g2.objs.size, .ref g3.objs.size] }
  have made : Meets (Builtin.«zip.__new__» ⟨[.type "zip", .ref l1, .ref l2], []⟩) (fun _ R s' => s' = s ∧ R (.ok (.ret (.ref g4.objs.size))) { s with heap := g5 }) :=
    .of_wp fun prog w A R s' h => by
      obtain ⟨rfl, h⟩ := h
      have hsub := sub_zip
      obtain ⟨hp, g, d, tk, os⟩ := s'
      cases tp <;> cases tq
      · exact absurd rfl same
      · have a1 : Heap.IsList (Shared.heap ⟨hp, g, d, tk, os⟩) l1 xs := h1
        have a2 : Heap.IsTuple (Shared.heap ⟨hp.push { cls := .type "list_iterator", data := .fields #[.ref l1, .int 0 0] }, g, d, tk, os⟩) l2 ys := Heap.IsTuple.push h2 _
        wp_walk using wpAny_pyIter_list a1, wpAny_pyIter_tuple a2
        exact ⟨_, rfl, h⟩
      · have a1 : Heap.IsTuple (Shared.heap ⟨hp, g, d, tk, os⟩) l1 xs := h1
        have a2 : Heap.IsList (Shared.heap ⟨hp.push { cls := .type "tuple_iterator", data := .fields #[.ref l1, .int 0 0] }, g, d, tk, os⟩) l2 ys := Heap.IsList.push h2 _
        wp_walk using wpAny_pyIter_tuple a1, wpAny_pyIter_list a2
        exact ⟨_, rfl, h⟩
      · exact absurd rfl same
  have z1 : g1.objs.size = s.heap.objs.size + 1 := Heap.size_push ..
  have z2 : g2.objs.size = s.heap.objs.size + 2 := by show (g1.push _).objs.size = _; rw [Heap.size_push, z1]
  have z3 : g3.objs.size = s.heap.objs.size + 3 := by show (g2.push _).objs.size = _; rw [Heap.size_push, z2]
  have z4 : g4.objs.size = s.heap.objs.size + 4 := by show (g3.push _).objs.size = _; rw [Heap.size_push, z3]
  refine callType_new F.called_zip (by decide) (F.typeCall_zip_2 _ _) (F.newCall_zip_2 _ _) (fun obj => F.args_object_init_3 obj _ _) F.entry_zip_new made ⟨rfl, ?_⟩
  have e5 : g5.get? g4.objs.size = some _ := Heap.get?_push_size _ rfl
  have e4 : g5.get? g3.objs.size = some _ := Heap.get?_push_of_some _ (Heap.get?_push_size _ rfl)
  have e3 : g5.get? g2.objs.size = some _ := Heap.get?_push_of_some _ (Heap.get?_push_of_some _ (Heap.get?_push_size _ rfl))
  have e2 : g5.get? g1.objs.size = some (ob tq l2) := Heap.get?_push_of_some _ (Heap.get?_push_of_some _ (Heap.get?_push_of_some _ (Heap.get?_push_size _ rfl)))
  have e1 : g5.get? s.heap.objs.size = some (ob tp l1) := Heap.get?_push_of_some _ (Heap.get?_push_of_some _ (Heap.get?_push_of_some _ (Heap.get?_push_of_some _ (Heap.get?_push_size _ rfl))))
  rw [z2, z3, z4] at e5
  rw [z1, z2] at e3
  rw [z3] at e4
  rw [z1] at e2
  rw [z4]
  refine ⟨⟨_, e5, rfl⟩, q _ ⟨_, _, e5, .inl rfl⟩ e3 e4 ?_ ?_ fun c o x => Heap.get?_push_of_some _ (Heap.get?_push_of_some _ (Heap.get?_push_of_some _ (Heap.get?_push_of_some _ (Heap.get?_push_of_some _ x))))⟩
  · cases tp
    · exact ⟨_, e1, rfl, rfl⟩
    · exact ⟨_, e1, rfl, rfl⟩
  · cases tq
    · exact ⟨_, e2, rfl, rfl⟩
    · exact ⟨_, e2, rfl, rfl⟩
def iZipG (K : PySem.W.Frag) (ta : TA) : TI := fun σ H R => ta σ H fun vs H1 => ∃ tp tq a b xs ys, vs = [.ref a, .ref b] ∧ SqX tp K H1 a xs ∧ SqX tq K H1 b ys ∧ R (ItzG K tp tq a b) H1
theorem pi_zipG {X : Cx} {e e2 : Expr} {ta : TA} {p pos : Pos} {tg : Expr} (hg : Gl X "zip") (hm : X.mg "zip" = none) (ha : PA X [e, e2] ta)
    (hs : starEach [e, e2] X.env = (false, eval e X.env) :: starEach [e2] X.env := by rfl) (hpl : (backTo pos (starEach [e2] X.env)).any (·.1) = false := by rfl) :
    PI X tg (.Call (.Name "zip" p) [e, e2] [] pos) (iZipG X.K ta) := by
  refine ⟨fun pins s σ H R I h => ?_⟩
  refine Call_ (ld_blt I hg hm PyProof.Rows.boot_zip (PyProof.Rows.callWith_type1 (thn (ha.run pos pins s σ H _ I h) fun us s1 ⟨vs, H1, I1, r1, tp, tq, a, b, xs, ys, ex, hqx, hqy, q⟩ => ?_) hs hpl))
  subst ex
  obtain ⟨u, u2, rfl, ru, ru2⟩ := vals2 r1
  cases ru
  cases ru2
  obtain ⟨its, rv, p1, la⟩ := inv_seq I1 hqx
  obtain ⟨its2, rv2, p2, lb⟩ := inv_seq I1 hqy
  refine mk_zip p1 p2 fun g hz hTI hTO n1 n2 hk => ?_
  have st : ZipAt g (s1.heap.objs.size + 4) (s1.heap.objs.size + 2) (s1.heap.objs.size + 3) := hz
  have self : ∀ {Q : Value → Shared → Prop}, Q (.ref (s1.heap.objs.size + 4)) { s1 with heap := g } → wpAny (model X.prog X.w) X.A (pyIter (.ref (s1.heap.objs.size + 4))) Q X.xe { s1 with heap := g } := fun {Q} h => by
    obtain ⟨_, _, hz, _⟩ := hz
    have ty : ({ s1 with heap := g } : Shared).TypeIs (.ref (s1.heap.objs.size + 4)) "zip" := ⟨_, hz, rfl⟩
    refine wpAny_pyIter_slot ty F.slot_zip_iter (wpAny_call_entry F.slot_zip_iter ty F.entry_zip_iter ?_ (F.args_zip_iter_1 _))
    exact wpAny_pure ⟨_, rfl, "zip", _, ty, F.slot_zip_next.lookup, h⟩
  refine self ?_
  have I2 : Inv X pins σ H1 { s1 with heap := g } := I1.kept (t' := s1.toks) hk
  refine ⟨s1.heap.objs.size + 4, [s1.heap.objs.size + 4, s1.heap.objs.size + 2, s1.heap.objs.size + 3, s1.heap.objs.size, s1.heap.objs.size + 1], _, _, H1, rfl, I2, turn_zipG (PySem.W.ktu_apart s1.heap.objs.size a b la lb), ⟨st, hTI, ⟨_, _, hTO⟩, n1, n2⟩, fun c hcm => ?_, q⟩
  have hle : s1.heap.objs.size ≤ c := by
    have e' : c = s1.heap.objs.size + 4 ∨ c = s1.heap.objs.size + 2 ∨ c = s1.heap.objs.size + 3 ∨ c = s1.heap.objs.size ∨ c = s1.heap.objs.size + 1 := by simpa using hcm
    rcases e' with e' | e' | e' | e' | e' <;> subst e'
    · exact Nat.le_add_right _ _
    · exact Nat.le_add_right _ _
    · exact Nat.le_add_right _ _
    · exact Nat.le_refl _
    · exact Nat.le_add_right _ _
  exact I1.fpOk hle (I1.hok.fresh hle)
end MP
namespace MP
open PySem PySem.Spec PyProof.Rows L2
open PySem.Sem (wp)
def EnumRec (h : Heap) (e it : Addr) (i : Int) (f0 : Value) (f1 : Bool) (old : Value) : Prop := h.get? e = some { cls := .type "enumerate", dict := none, data := .fields #[f0, .bool f1, .ref it, rawInt i, .none, old], slots := #[] }
def EnumAt (h : Heap) (e it : Addr) (i : Int) : Prop := ∃ f0 f1 old, EnumRec h e it i f0 f1 old ∧ Out f0
section
variable {prog : Program} {w : World} {A : Around} {E : Value → Shared → Prop} {s : Shared} {tp : Bool}
theorem enum_free {e it : Addr} {i : Int} {f0 old : Value} {f1 : Bool} {Q : Bool → Shared → Prop} (hz : EnumRec s.heap e it i f0 f1 old) (ho : Out f0) (qt : Q true s) (qf : ∀ g, EnumAt g e it i → Heap.SameBut e s.heap g → Q false { s with heap := g }) :
    wpAny (model prog w) A (Builtin.SmallTypes.ownedTupleIsFree (.ref e)) Q E s := by
  unfold Builtin.SmallTypes.ownedTupleIsFree
  rcases ho with rfl | ⟨T, rfl⟩
  · exact wpAny_bind (wpAny_field hz rfl (x := .none) rfl (wpAny_pure qt))
  · refine wpAny_bind (wpAny_field hz rfl (x := rawInt T) rfl ?_)
    show wpAny _ _ (loadIfAlive ((T : Int).toNat) >>= _) _ _ _
    rw [Int.toNat_natCast]
    cases hT : s.heap.get? T with
    | none =>
      have al : wpAny (model prog w) A (loadIfAlive T) (fun o s' => o = none ∧ s' = s) E s := fun _ _ _ => ⟨hT, rfl⟩
      refine wpAny_bind (wpAny_mono al (fun o s' ⟨e1, e2⟩ => ?_) fun _ _ e => e)
      subst e1 e2
      exact wpAny_pure qt
    | some o =>
      refine wpAny_bind (PySem.W.kdx_alive hT ?_)
      simp only [Option.isNone_some, Bool.false_eq_true, if_false]
      refine wpAny_bind (wpAny_field hz rfl (x := .bool f1) rfl ?_)
      cases f1 with
      | true => exact wpAny_pure (qf s.heap ⟨_, _, _, hz, .inr ⟨T, rfl⟩⟩ (Heap.SameBut.refl _ _))
      | false => exact wpAny_bind (wpAny_setField_rec hz (by simp) fun g hg sg => wpAny_pure (qf g ⟨_, _, _, hg, .inr ⟨T, rfl⟩⟩ sg))
theorem enum_item {e it l : Addr} {i : Nat} {items : Array Value} {x : Value} {Q : Value → Shared → Prop}
    (he : EnumAt s.heap e it (i : Int)) (hit : SIt tp s.heap it l i) (hl : SSq tp s.heap l items) (hx : items[i]? = some x) (hne : e ≠ it) (hle : l ≠ e)
    (q : ∀ g, EnumAt g e it ((i : Int) + 1) → SIt tp g it l (i + 1) → g.get? s.heap.objs.size = some { cls := .type "tuple", data := .seq #[.int i s.toks, x] } → g.objs.size = s.heap.objs.size + 1 →
      (∀ b o, b ≠ e → b ≠ it → s.heap.get? b = some o → g.get? b = some o) → Q (.ref s.heap.objs.size) { s with heap := g, toks := s.toks + 1 }) :
    wpAny (model prog w) A (Builtin.«enumerate.__next__» ⟨[.ref e], []⟩) (fun fin s' => ∃ v, fin = .done (.ret v) ∧ Q v s') E s := by
  obtain ⟨f0, f1, old, he, ho⟩ := he
  obtain ⟨hp, gg, dd, tk, os⟩ := s
  show wpAny _ _ (field (.ref e) 2 >>= _) _ _ _
  refine wpAny_bind (wpAny_field he rfl (x := .ref it) rfl (wpAny_bind (nx_item hit hl hx fun g1 n1 e1 => ?_)))
  have e1 : Heap.SameBut it hp g1 := e1
  have h1 : EnumRec g1 e it i f0 f1 old := (e1.2 e hne).trans he
  show wpAny _ _ (field (.ref e) 3 >>= _) _ _ ⟨g1, gg, dd, tk, os⟩
  refine wpAny_bind (wpAny_field h1 rfl (x := rawInt i) rfl ?_)
  show wpAny _ _ (field (.ref e) 4 >>= _) _ _ ⟨g1, gg, dd, tk, os⟩
  refine wpAny_bind (wpAny_field h1 rfl (x := .none) rfl ?_)
  show wpAny _ _ (mkInt i >>= _) _ _ ⟨g1, gg, dd, tk, os⟩
  refine wpAny_bind (wpAny_mkInt ?_)
  show wpAny _ _ (setField (.ref e) 3 (rawInt ((i : Int) + 1)) >>= _) _ _ ⟨g1, gg, dd, tk + 1, os⟩
  refine wpAny_bind (wpAny_setField_rec h1 (by simp) fun g2 h2 e2 => ?_)
  have e2 : Heap.SameBut e g1 g2 := e2
  have h2 : EnumRec g2 e it ((i : Int) + 1) f0 f1 old := h2
  show wpAny _ _ (setField (.ref e) 4 .none >>= _) _ _ ⟨g2, gg, dd, tk + 1, os⟩
  refine wpAny_bind (wpAny_setField_rec h2 (by simp) fun g3 h3 e3 => ?_)
  have e3 : Heap.SameBut e g2 g3 := e3
  have h3 : EnumRec g3 e it ((i : Int) + 1) f0 f1 old := h3
  show wpAny _ _ (newTuple [.int i tk, x] >>= _) _ _ ⟨g3, gg, dd, tk + 1, os⟩
  refine wpAny_bind (wpAny_newTuple ?_)
  have up : ∀ {c : Addr} {o : Obj}, g3.get? c = some o → (g3.push { cls := .type "tuple", data := .seq #[.int i tk, x] }).get? c = some o := fun e => Heap.get?_push_of_some _ e
  have new := Heap.get?_push_size g3 (o := { cls := .type "tuple", data := .seq #[.int i tk, x] }) rfl
  have sz : g3.objs.size = hp.objs.size := by rw [e3.1, e2.1, e1.1]
  have gz : (g3.push { cls := .type "tuple", data := .seq #[.int i tk, x] }).objs.size = hp.objs.size + 1 := by rw [Heap.size_push, sz]
  have elt : e < hp.objs.size := Heap.lt_size he
  have n3 : SIt tp g3 it l (i + 1) := (n1.ext e2.extBut hne.symm).ext e3.extBut hne.symm
  have h4 : EnumRec (g3.push { cls := .type "tuple", data := .seq #[.int i tk, x] }) e it ((i : Int) + 1) f0 f1 old := up h3
  have n4 : SIt tp (g3.push { cls := .type "tuple", data := .seq #[.int i tk, x] }) it l (i + 1) := n3.at' fun o e => up e
  have k4 : ∀ b o, b ≠ e → b ≠ it → hp.get? b = some o → (g3.push { cls := .type "tuple", data := .seq #[.int i tk, x] }).get? b = some o := fun b o b1 b2 q => up (e3.extBut _ _ b1 (e2.extBut _ _ b1 (e1.extBut _ _ b2 q)))
  rw [sz] at new
  generalize (g3.push { cls := .type "tuple", data := .seq #[.int i tk, x] }) = g4 at h4 n4 k4 new gz
  show wpAny _ _ (Builtin.SmallTypes.ownedTupleIsFree (.ref e) >>= _) _ _ ⟨g4, gg, dd, tk + 1, os⟩
  rw [sz]
  refine wpAny_bind (enum_free (s := ⟨g4, gg, dd, tk + 1, os⟩) h4 ho ?_ fun g5 h5 e5 => ?_)
  · simp only [if_true]
    refine wpAny_bind (wpAny_rule (wpAny_bind (wpAny_field h4 rfl (x := old) rfl ?_)))
    refine wpAny_bind (wpAny_setField_rec h4 (by simp) fun g5 h5 e5 => ?_)
    show wpAny _ _ (Builtin.SmallTypes.ownedTupleHandOut (.ref e) (.ref hp.objs.size) >>= _) _ _ _
    unfold Builtin.SmallTypes.ownedTupleHandOut
    refine wpAny_bind (wpAny_bind (wpAny_setField_rec h5 (by simp) fun g6 h6 e6 => wpAny_setField_rec h6 (by simp) fun g7 h7 e7 => wpAny_bind (wpAny_letGo (wpAny_pure ⟨_, rfl, ?_⟩))))
    have kk : ∀ c o, c ≠ e → g4.get? c = some o → g7.get? c = some o := fun c o n q => e7.extBut _ _ n (e6.extBut _ _ n (e5.extBut _ _ n q))
    exact q g7 ⟨_, _, _, h7, .inr ⟨hp.objs.size, rfl⟩⟩ (n4.at' fun o q => kk _ _ hne.symm q) (kk _ _ (Nat.ne_of_gt elt) new) (by rw [show g7.objs.size = _ from e7.1, show g6.objs.size = _ from e6.1, show g5.objs.size = _ from e5.1]; exact gz) fun b o b1 b2 q => kk b o b1 (k4 b o b1 b2 q)
  · simp only [Bool.false_eq_true, if_false]
    refine wpAny_pure ⟨_, rfl, q g5 h5 (n4.at' fun o q => e5.extBut _ _ hne.symm q) (e5.extBut _ _ (Nat.ne_of_gt elt) new) (by rw [show g5.objs.size = _ from e5.1]; exact gz) fun b o b1 b2 q => e5.extBut _ _ b1 (k4 b o b1 b2 q)⟩
theorem enum_pyNext {e it l : Addr} {i : Nat} {items : Array Value} {x : Value} {Q : Option Value → Shared → Prop}
    (he : EnumAt s.heap e it (i : Int)) (hit : SIt tp s.heap it l i) (hl : SSq tp s.heap l items) (hx : items[i]? = some x) (hne : e ≠ it) (hle : l ≠ e)
    (q : ∀ g, EnumAt g e it ((i : Int) + 1) → SIt tp g it l (i + 1) → g.get? s.heap.objs.size = some { cls := .type "tuple", data := .seq #[.int i s.toks, x] } → g.objs.size = s.heap.objs.size + 1 →
      (∀ b o, b ≠ e → b ≠ it → s.heap.get? b = some o → g.get? b = some o) → Q (some (.ref s.heap.objs.size)) { s with heap := g, toks := s.toks + 1 }) :
    wpAny (model prog w) A (pyNext (.ref e)) Q E s := by
  have ty : s.TypeIs (.ref e) "enumerate" := by obtain ⟨_, _, _, z, _⟩ := he; exact ⟨_, z, rfl⟩
  unfold pyNext
  refine wpAny_bind (wpAny_attempt (wpAny_callSpecial?_slot (name := Str.ofString "__next__") ty F.slot_enumerate_next (wpAny_call_entry F.slot_enumerate_next ty F.entry_enumerate_next ?_ (F.args_enumerate_next_1 _))))
  exact enum_item he hit hl hx hne hle fun g a1 a2 a3 a4 a5 => wpAny_pure (q g a1 a2 a3 a4 a5)
theorem enum_pyEnd {e it l : Addr} {i : Nat} {items : Array Value} {Q : Option Value → Shared → Prop} (hh : A.handled = none)
    (he : EnumAt s.heap e it (i : Int)) (hit : SIt tp s.heap it l i) (hl : SSq tp s.heap l items) (hx : items[i]? = none)
    (q : ∀ g, (∀ b o, b ≠ e → b ≠ it → s.heap.get? b = some o → g.get? b = some o) → Q none { s with heap := g }) : wpAny (model prog w) A (pyNext (.ref e)) Q E s := by
  obtain ⟨_, _, _, z, _⟩ := he
  have ty : s.TypeIs (.ref e) "enumerate" := ⟨_, z, rfl⟩
  unfold pyNext
  refine wpAny_bind (wpAny_attempt (wpAny_callSpecial?_slot (name := Str.ofString "__next__") ty F.slot_enumerate_next (wpAny_call_entry F.slot_enumerate_next ty F.entry_enumerate_next ?_ (F.args_enumerate_next_1 _))))
  show wpAny _ _ (field (.ref e) 2 >>= _) _ _ _
  refine wpAny_bind (wpAny_field z rfl (x := .ref it) rfl (wpAny_bind (nx_end hh hit hl hx fun g e' hk hs => ?_)))
  obtain ⟨o, ho, hc⟩ := hs
  exact wpAny_bind (wpAny_isInstance (T := "StopIteration") (b := true) ⟨o, ho, hc⟩ isSubtype_stop (wpAny_pure (q _ fun b o b1 b2 q => hk _ _ b2 q)))
theorem let_enum {tg : Expr} {e it : Addr} {i : Int} {u : Value} {Q : Unit → Shared → Prop} (hz : EnumAt s.heap e it i) (q : ∀ g, EnumAt g e it i → Heap.SameBut e s.heap g → Q () { s with heap := g }) : wpAny (model prog w) A (letOwnedTupleGo tg (.ref e) u) Q E s := by
  obtain ⟨f0, f1, old, hz, ho⟩ := hz
  have stay : Q () s := q s.heap ⟨f0, f1, old, hz, ho⟩ (Heap.SameBut.refl _ _)
  have go : ∀ T : Addr, wpAny (model prog w) A (if (["enumerate", "zip", "dict_itemiterator", "dict_reverseitemiterator", "odict_iterator", "itertools.zip_longest", "itertools.pairwise"].contains "enumerate" && (#[f0, .bool f1, .ref it, rawInt i, .none, old] : Array Value)[0]? == some (rawInt T)) = true then (do rule "for.unpacks-the-owned-tuple"; updateField e 0 .none) else pure ()) Q E s := fun T => by
    split
    · refine wpAny_bind (wpAny_rule ?_)
      show wpAny _ _ (setField (.ref e) 0 .none) Q E s
      exact wpAny_setField_rec hz (by simp) fun g hg sg => q g ⟨_, _, _, hg, .inl rfl⟩ sg
    · exact wpAny_pure stay
  unfold letOwnedTupleGo
  cases tg <;> first
    | exact wpAny_pure stay
    | (cases u <;> first
        | exact wpAny_pure stay
        | exact wpAny_bind (wpAny_load hz (go _)))
theorem mk_enumT {l : Addr} {items : Array Value} {Q : Value → Shared → Prop} (hL : s.heap.IsTuple l items)
    (q : ∀ g, EnumAt g (s.heap.objs.size + 1) s.heap.objs.size 0 → SIt true g s.heap.objs.size l 0 → (∀ b o, s.heap.get? b = some o → g.get? b = some o) → Q (.ref (s.heap.objs.size + 1)) { s with heap := g }) :
    wpAny (model prog w) A (call (.type "enumerate") [.ref l]) Q E s := by
  let g1 := s.heap.push { cls := .type "tuple_iterator", data := .fields #[.ref l, .int 0 0] }
  let g2 := g1.push { cls := .type "enumerate", data := .fields #[.none, .bool false, .ref s.heap.objs.size, rawInt 0, .none, .none] }
  have made : Meets (Builtin.«enumerate.__new__» ⟨[.type "enumerate", .ref l], []⟩) (fun _ R s' => s' = s ∧ R (.ok (.ret (.ref g1.objs.size))) { s with heap := g2 }) :=
    .of_wp fun prog w A R s' h => by
      obtain ⟨rfl, h⟩ := h
      obtain ⟨hp, g, d, tk, os⟩ := s'
      have hsub := sub_enumerate
      have a1 : Heap.IsTuple (Shared.heap ⟨hp, g, d, tk, os⟩) l items := hL
      obtain ⟨ot, ho, hc⟩ := id hL
      wp_walk using AutoSeq1.wpAny_loadPart' ho
      refine wpAny_stack_any fun st => wpAny_pure ?_
      split
      · rename_i c _ _ _ _ _
        cases (c == Value.type "enumerate")
        · wp_walk using AutoSeq1.wpAny_loadPart' ho, wpAny_pyIter_tuple a1
          exact ⟨_, rfl, h⟩
        · wp_walk using AutoSeq1.wpAny_loadPart' ho, wpAny_pyIter_tuple a1
          exact ⟨_, rfl, h⟩
      · wp_walk using AutoSeq1.wpAny_loadPart' ho, wpAny_pyIter_tuple a1
        exact ⟨_, rfl, h⟩
  refine callType_new F.called_enumerate (by decide) (F.typeCall_enumerate_1 _) (F.newCall_enumerate_1 _) (fun obj => F.args_object_init_2 obj _) F.entry_enumerate_new made ⟨rfl, ?_⟩
  have z1 : g1.objs.size = s.heap.objs.size + 1 := Heap.size_push ..
  have e2 : g2.get? g1.objs.size = some _ := Heap.get?_push_size _ rfl
  have e1 : g2.get? s.heap.objs.size = some _ := Heap.get?_push_of_some _ (Heap.get?_push_size _ rfl)
  rw [z1] at e2 ⊢
  exact ⟨⟨_, e2, rfl⟩, q _ ⟨_, _, _, e2, .inl rfl⟩ ⟨_, e1, rfl, rfl⟩ fun b o x => Heap.get?_push_of_some _ (Heap.get?_push_of_some _ x)⟩
theorem mk_enum {l : Addr} {items : Array Value} {Q : Value → Shared → Prop} (hL : SSq tp s.heap l items)
    (q : ∀ g, EnumAt g (s.heap.objs.size + 1) s.heap.objs.size 0 → SIt tp g s.heap.objs.size l 0 → (∀ b o, s.heap.get? b = some o → g.get? b = some o) → Q (.ref (s.heap.objs.size + 1)) { s with heap := g }) :
    wpAny (model prog w) A (call (.type "enumerate") [.ref l]) Q E s := by
  cases tp
  · exact call_enumerate_list hL fun g a1 a2 _ a4 => q g ⟨_, _, _, a1, .inl rfl⟩ a2 a4
  · exact mk_enumT hL q
end
def IteG (K : PySem.W.Frag) (tp : Bool) (a : Addr) : It :=
  ⟨fun i H => ∃ (xs : List V) (x : V), SqX tp K H a xs ∧ xs[i]? = some x, fun i H v H' => ∃ T x, v = .ref T ∧ H T = none ∧ H' = upd H T (.tup [.int (i : Nat), x]) ∧ ∀ xs, SqX tp K H a xs → xs[i]? = some x, fun i H => ∃ xs : List V, SqX tp K H a xs ∧ xs.length ≤ i⟩
theorem turn_enumG {P : Program} {w : World} {K : PySem.W.Frag} {tg : Expr} {tp : Bool} (a e it : Addr) (hae : a ≠ e) :
    Turn P w K tg (IteG K tp a) [e, it] e (fun i h => EnumAt h e it ((i : Nat) : Int) ∧ SIt tp h it a i ∧ e ≠ it) where
  mem := by simp
  obj := fun i h ⟨⟨_, _, _, he, _⟩, hit, _⟩ b hb => by
    have e' : b = e ∨ b = it := by simpa using hb
    rcases e' with z | z <;> subst z
    · exact ⟨_, he, fun v q => nomatch q⟩
    · exact hit.there
  keep := fun i h h' ⟨⟨f0, f1, old, he, ho⟩, hi, hne⟩ k => ⟨⟨f0, f1, old, k e (by simp) _ he, ho⟩, hi.at' fun o q => k it (by simp) o q, hne⟩
  item := by
    intro X hP hw hK hc i pins s σ H E I hf ⟨he, hit, hne⟩ ⟨xs, x, hq, hx⟩
    subst hP hw hK
    obtain ⟨its, rv, p, _⟩ := inv_seq I hq
    obtain ⟨u, hu, ru⟩ := rv.get hx
    have hel : e < s.heap.objs.size := by obtain ⟨_, _, _, z, _⟩ := he; exact Heap.lt_size z
    have hil : it < s.heap.objs.size := by obtain ⟨_, q, _⟩ := hit.there; exact Heap.lt_size q
    refine enum_pyNext he hit p (x := u) (by simpa using hu) hne hae fun g eg ig hT hsz hk => ?_
    refine ⟨_, rfl, let_enum (s := { s with heap := g, toks := s.toks + 1 }) eg fun g' eg' sb => ?_⟩
    have hT2 : g'.get? s.heap.objs.size = some { cls := .type "tuple", data := .seq #[.int i s.toks, u] } := (sb.2 _ (Nat.ne_of_gt hel)).trans hT
    have new : ObjOk X.prog X.w (upd H s.heap.objs.size (.tup [.int (i : Nat), x])) g' s.heap.objs.size (.tup [.int (i : Nat), x]) := ⟨by show 2 ≤ sizeLine; decide, [.int i s.toks, u], .cons ⟨_, rfl⟩ (.cons ru .nil), ⟨_, hT2, rfl, _, rfl⟩⟩
    have I1 : Inv X pins σ (upd H s.heap.objs.size (.tup [.int (i : Nat), x])) { s with heap := g', toks := s.toks + 1 } :=
      I.turnedNew (ch := [e, it]) (fun b ob hb q => (sb.2 b (fun z => hb (by simp [z]))).trans (hk b ob (fun z => hb (by simp [z])) (fun z => hb (by simp [z])) q)) hf (Nat.le_refl _) new
    refine ⟨.ref s.heap.objs.size, _, I1, rfl, ⟨_, x, rfl, I.hok.fresh (Nat.le_refl _), rfl, fun ys hy => by rw [inv_inj I hy hq]; exact hx⟩, ⟨?_, ig.at' fun o q => (sb.2 it (Ne.symm hne)).trans q, hne⟩, fun b hb => ?_⟩
    · have e1 : ((i + 1 : Nat) : Int) = (i : Int) + 1 := by omega
      rw [e1]; exact eg'
    · have hb' : b < s.heap.objs.size := by
        have e' : b = e ∨ b = it := by simpa using hb
        rcases e' with z | z <;> subst z
        · exact hel
        · exact hil
      rw [upd_ne (Nat.ne_of_lt hb')]
      exact (hf b hb).1
  done := by
    intro X hP hw hK hc i pins s σ H E I hf ⟨he, hit, hne⟩ ⟨xs, hq, hx⟩
    subst hP hw hK
    obtain ⟨its, rv, p, _⟩ := inv_seq I hq
    have hl := rv.length
    exact enum_pyEnd (I.ok.hd hc) he hit p (by simp; omega) fun g hk => ⟨rfl, I.turnedL (t' := s.toks) (ch := [e, it]) (fun b o hb q => hk b o (fun z => hb (by simp [z])) (fun z => hb (by simp [z])) q) hf⟩
  self := fun A i s Q E ⟨⟨_, _, _, he, _⟩, _⟩ h => by
    have ty : s.TypeIs (.ref e) "enumerate" := ⟨_, he, rfl⟩
    refine wpAny_pyIter_slot ty F.slot_enumerate_iter (wpAny_call_entry F.slot_enumerate_iter ty F.entry_enumerate_iter ?_ (F.args_enumerate_iter_1 _))
    exact wpAny_pure ⟨_, rfl, "enumerate", _, ty, F.slot_enumerate_next.lookup, h⟩
def iEnumG (K : PySem.W.Frag) (ta : TA) : TI := fun σ H R => ta σ H fun vs H1 => ∃ tp a xs, vs = [.ref a] ∧ SqX tp K H1 a xs ∧ R (IteG K tp a) H1
theorem pi_enumG {X : Cx} {e : Expr} {ta : TA} {p pos : Pos} {tg : Expr} (hg : Gl X "enumerate") (hm : X.mg "enumerate" = none) (ha : PA X [e] ta) (hs : starEach [e] X.env = [(false, eval e X.env)] := by rfl) :
    PI X tg (.Call (.Name "enumerate" p) [e] [] pos) (iEnumG X.K ta) := by
  refine ⟨fun pins s σ H R I h => ?_⟩
  refine Call_ (ld_blt I hg hm boot_enumerate (PyProof.Rows.callWith_type1 (thn (ha.run pos pins s σ H _ I h) fun us s1 ⟨vs, H1, I1, r1, tp, a, xs, ex, hq, q⟩ => ?_) hs rfl))
  subst ex
  obtain ⟨u, rfl, ru⟩ := vals1 r1
  cases ru
  obtain ⟨its, rv, p', la⟩ := inv_seq I1 hq
  refine mk_enum p' fun g he hit hk => ?_
  have self : ∀ {Q : Value → Shared → Prop}, Q (.ref (s1.heap.objs.size + 1)) { s1 with heap := g } → wpAny (model X.prog X.w) X.A (pyIter (.ref (s1.heap.objs.size + 1))) Q X.xe { s1 with heap := g } := fun {Q} h => by
    obtain ⟨_, _, _, hz, _⟩ := he
    have ty : ({ s1 with heap := g } : Shared).TypeIs (.ref (s1.heap.objs.size + 1)) "enumerate" := ⟨_, hz, rfl⟩
    refine wpAny_pyIter_slot ty F.slot_enumerate_iter (wpAny_call_entry F.slot_enumerate_iter ty F.entry_enumerate_iter ?_ (F.args_enumerate_iter_1 _))
    exact wpAny_pure ⟨_, rfl, "enumerate", _, ty, F.slot_enumerate_next.lookup, h⟩
  refine self ?_
  have I2 : Inv X pins σ H1 { s1 with heap := g } := I1.kept (t' := s1.toks) hk
  refine ⟨s1.heap.objs.size + 1, [s1.heap.objs.size + 1, s1.heap.objs.size], _, _, H1, rfl, I2, turn_enumG a (s1.heap.objs.size + 1) s1.heap.objs.size (Nat.ne_of_lt (Nat.lt_succ_of_lt la)), ⟨he, hit, Nat.succ_ne_self _⟩, fun b hb => ?_, q⟩
  have hle : s1.heap.objs.size ≤ b := by
    have e' : b = s1.heap.objs.size + 1 ∨ b = s1.heap.objs.size := by simpa using hb
    rcases e' with z | z <;> subst z
    · exact Nat.le_add_right _ _
    · exact Nat.le_refl _
  exact I1.fpOk hle (I1.hok.fresh hle)
end MP
namespace MP
open PySem PySem.Spec PyProof.Rows L2
open PySem.Sem (wp)
section
variable {prog : Program} {w : World} {A : Around} {E : Value → Shared → Prop} {s : Shared} {tp tq tr : Bool}
end
end MP
namespace MP
open PySem PySem.Spec L2
def Walks (K : PySem.W.Frag) (J : It) (xs : List D) (H : Hp) (A : Addr → Prop) (ρ : List CA) : Prop :=
  (∀ i, xs.length ≤ i → J.stop i H) ∧ ∀ i d, xs[i]? = some d → J.go i H ∧ ∀ x H', J.yld i H x H' → (∀ a o, H a = some o → H' a = some o) ∧ RelD K H' A ρ d x
def tI (K : PySem.W.Frag) (F : CallF) (k : ItK) (its : List E) : TI := fun σ H R => ∃ av H0 ρ0 ρ lo env m ds m' xs, At K av H0 ρ0 ρ lo σ H env m ∧ evalPs F its env m = .ok ds m' ∧ itD k (ds.map (·.1)) = some xs ∧
  ∀ J vs H' ρ' lo', Step K av H0 ρ0 σ env ρ lo H ρ' lo' H' m' → lo' env.length = none → Paired (WkR K av H' (aA av ρ' lo') ρ') ds vs → (∀ H A ρ, PkAll K H A ρ (ds.map (·.1)) vs → Walks K J xs H A ρ) → R J H'
section
variable {K : PySem.W.Frag} {H : Hp} {A : Addr → Prop} {ρ : List CA} {a b : Addr} {xs ys : List D}
theorem keep0 : ∀ a o, H a = some o → H a = some o := fun _ _ e => e
theorem walks_list (h : Pk K H A ρ (.lst xs) (.ref a)) : Walks K (Itl K a) xs H A ρ := by
  obtain ⟨p, vs, e, h1, h2⟩ := h.lst
  cases e
  refine ⟨fun i hi => ⟨vs, SqL.of h1, by rw [← h2.length]; exact hi⟩, fun i d hd => ?_⟩
  obtain ⟨v, h3, h4⟩ := h2.get hd
  refine ⟨⟨vs, v, SqL.of h1, h3⟩, fun x H' ⟨e, q⟩ => ?_⟩
  subst e
  have := q vs (SqL.of h1)
  rw [h3] at this
  cases this
  exact ⟨keep0, h4⟩
theorem walks_tup (h : Pk K H A ρ (.tup xs) (.ref a)) : Walks K (Itt K a) xs H A ρ := by
  obtain ⟨p, vs, e, h1, h2⟩ := h.tup
  cases e
  refine ⟨fun i hi => ⟨vs, SqT.of h1, by rw [← h2.length]; exact hi⟩, fun i d hd => ?_⟩
  obtain ⟨v, h3, h4⟩ := h2.get hd
  refine ⟨⟨vs, v, SqT.of h1, h3⟩, fun x H' ⟨e, q⟩ => ?_⟩
  subst e
  have := q vs (SqT.of h1)
  rw [h3] at this
  cases this
  exact ⟨keep0, h4⟩
theorem rng_get {lo : Int} {n i : Nat} {d : D} (h : (rngD lo n)[i]? = some d) : i < n ∧ d = .int (lo + (i : Nat)) := by
  unfold rngD at h
  rw [List.getElem?_map, Option.map_eq_some_iff] at h
  obtain ⟨j, h1, rfl⟩ := h
  obtain ⟨h2, h3⟩ := List.getElem?_eq_some_iff.mp h1
  rw [List.getElem_range] at h3
  subst h3
  exact ⟨by simpa using h2, rfl⟩
theorem dn_get {lo : Int} {n i : Nat} {d : D} (h : (dnD lo n)[i]? = some d) : i < n ∧ d = .int (lo - (i : Nat)) := by
  unfold dnD at h
  rw [List.getElem?_map, Option.map_eq_some_iff] at h
  obtain ⟨j, h1, rfl⟩ := h
  obtain ⟨h2, h3⟩ := List.getElem?_eq_some_iff.mp h1
  rw [List.getElem_range] at h3
  subst h3
  exact ⟨by simpa using h2, rfl⟩
theorem walks_rng {lo : Int} {n : Nat} : Walks K (Itr lo n) (rngD lo n) H A ρ :=
  ⟨fun i hi => by show n ≤ i; simpa [rngD] using hi, fun i d hd => by
    obtain ⟨h1, rfl⟩ := rng_get hd
    refine ⟨h1, fun x H' ⟨e, q⟩ => ?_⟩
    subst e q
    exact ⟨keep0, rfl⟩⟩
theorem walks_dn {lo : Int} {n : Nat} : Walks K (Itc lo (-1) n) (dnD lo n) H A ρ :=
  ⟨fun i hi => by show n ≤ i; simpa [dnD] using hi, fun i d hd => by
    obtain ⟨h1, rfl⟩ := dn_get hd
    refine ⟨h1, fun x H' ⟨e, q⟩ => ?_⟩
    subst e q
    exact ⟨keep0, by show V.int _ = V.int _; congr 1; omega⟩⟩
theorem enum_get {i : Nat} {d : D} (h : (enumD xs)[i]? = some d) : ∃ x, xs[i]? = some x ∧ d = .tup [.int (i : Nat), x] := by
  unfold enumD at h
  rw [List.getElem?_map, Option.map_eq_some_iff] at h
  obtain ⟨⟨j, x⟩, h1, rfl⟩ := h
  rw [List.getElem?_zip_eq_some] at h1
  obtain ⟨h2, h3⟩ := h1
  obtain ⟨h4, h5⟩ := List.getElem?_eq_some_iff.mp h2
  rw [List.getElem_range] at h5
  simp only at h5 h3
  subst h5
  exact ⟨x, h3, rfl⟩
theorem upd_kept {t : Addr} {o : HO} (ht : H t = none) : ∀ a u, H a = some u → upd H t o a = some u := kept_upd ht
theorem rel_grow {H' : Hp} (g : ∀ a u, H a = some u → H' a = some u) {d : D} {v : V} (r : RelD K H A ρ d v) : RelD K H' A ρ d v := r.mono (Stays.of g) (fun a z => .inl z) fun n c e => ⟨c, e, rfl⟩
theorem pk_seq {tp : Bool} {v : V} (h : Pk K H A ρ (match tp with | true => .tup xs | false => .lst xs) v) : ∃ a vs, v = .ref a ∧ SqX tp K H a vs ∧ RelDs K H A ρ xs vs := by
  cases tp
  · obtain ⟨p, vs, e, h1, h2⟩ := h.lst; exact ⟨p, vs, e, SqL.of h1, h2⟩
  · obtain ⟨p, vs, e, h1, h2⟩ := h.tup; exact ⟨p, vs, e, SqT.of h1, h2⟩
theorem walks_enumG {tp : Bool} (h : Pk K H A ρ (match tp with | true => .tup xs | false => .lst xs) (.ref a)) : Walks K (IteG K tp a) (enumD xs) H A ρ := by
  obtain ⟨p, vs, e, h1, h2⟩ := pk_seq h
  cases e
  refine ⟨fun i hi => ⟨vs, h1, by rw [← h2.length]; simpa [enumD] using hi⟩, fun i d hd => ?_⟩
  obtain ⟨y, hy, rfl⟩ := enum_get hd
  obtain ⟨v, h3, h4⟩ := h2.get hy
  refine ⟨⟨vs, v, h1, h3⟩, fun x H' ⟨t, z, e, ht, e2, q⟩ => ?_⟩
  subst e e2
  have := q vs h1
  rw [h3] at this
  cases this
  have g := upd_kept (o := .tup [.int (i : Nat), v]) ht
  exact ⟨g, t, _, rfl, upd_same, _, _, rfl, rfl, v, [], rfl, rel_grow g h4, rfl⟩
theorem zip_get {i : Nat} {d : D} (h : (zipD xs ys)[i]? = some d) : ∃ x y, xs[i]? = some x ∧ ys[i]? = some y ∧ d = .tup [x, y] := by
  unfold zipD at h
  rw [List.getElem?_map, Option.map_eq_some_iff] at h
  obtain ⟨⟨x, y⟩, h1, rfl⟩ := h
  rw [List.getElem?_zip_eq_some] at h1
  exact ⟨x, y, h1.1, h1.2, rfl⟩
theorem walks_zipG {tp tq : Bool} (h : Pk K H A ρ (match tp with | true => .tup xs | false => .lst xs) (.ref a)) (h' : Pk K H A ρ (match tq with | true => .tup ys | false => .lst ys) (.ref b)) : Walks K (ItzG K tp tq a b) (zipD xs ys) H A ρ := by
  obtain ⟨p, vs, e, h1, h2⟩ := pk_seq h
  cases e
  obtain ⟨p', ws, e, h1', h2'⟩ := pk_seq h'
  cases e
  refine ⟨fun i hi => ⟨vs, ws, h1, h1', ?_⟩, fun i d hd => ?_⟩
  · rw [← h2.length, ← h2'.length]
    have : min xs.length ys.length ≤ i := by simpa [zipD] using hi
    omega
  obtain ⟨y, z, hy, hz, rfl⟩ := zip_get hd
  obtain ⟨v, h3, h4⟩ := h2.get hy
  obtain ⟨v', h3', h4'⟩ := h2'.get hz
  refine ⟨⟨vs, ws, v, v', h1, h1', h3, h3'⟩, fun x H' ⟨t, z, z', e, ht, e2, q, q'⟩ => ?_⟩
  subst e e2
  have := q vs h1
  rw [h3] at this
  cases this
  have := q' ws h1'
  rw [h3'] at this
  cases this
  have g := upd_kept (o := .tup [v, v']) ht
  exact ⟨g, t, _, rfl, upd_same, v, _, rfl, rel_grow g h4, v', [], rfl, rel_grow g h4', rfl⟩
theorem wk1 {P : D × Mode → V → Prop} {ds : List (D × Mode)} {vs : List V} {d : D} (h : Paired P ds vs) (e : ds.map (·.1) = [d]) : ∃ x v, ds = [x] ∧ vs = [v] ∧ x.1 = d ∧ P x v := by
  cases h with
  | nil => cases e
  | cons a t => cases t with
    | nil => simp at e; exact ⟨_, _, rfl, rfl, e, a⟩
    | cons _ _ => simp at e
theorem wk2 {P : D × Mode → V → Prop} {ds : List (D × Mode)} {vs : List V} {d d' : D} (h : Paired P ds vs) (e : ds.map (·.1) = [d, d']) : ∃ x v y w, ds = [x, y] ∧ vs = [v, w] ∧ x.1 = d ∧ y.1 = d' ∧ P x v ∧ P y w := by
  cases h with
  | nil => cases e
  | cons a t => cases t with
    | nil => simp at e
    | cons b t => cases t with
      | nil => simp at e; exact ⟨_, _, _, _, rfl, rfl, e.1, e.2, a, b⟩
      | cons _ _ => simp at e
theorem wk3 {P : D × Mode → V → Prop} {ds : List (D × Mode)} {vs : List V} {d d' d'' : D} (h : Paired P ds vs) (e : ds.map (·.1) = [d, d', d'']) : ∃ x v y w z u, ds = [x, y, z] ∧ vs = [v, w, u] ∧ x.1 = d ∧ y.1 = d' ∧ z.1 = d'' ∧ P x v ∧ P y w ∧ P z u := by
  cases h with
  | nil => cases e
  | cons a t => cases t with
    | nil => simp at e
    | cons b t => cases t with
      | nil => simp at e
      | cons c t => cases t with
        | nil => simp at e; exact ⟨_, _, _, _, _, _, rfl, rfl, e.1, e.2.1, e.2.2, a, b, c⟩
        | cons _ _ => simp at e
theorem small_ok {i : Int} (h : small i = true) : -(2 ^ 62) ≤ i ∧ i < 2 ^ 62 := by
  have h : i.natAbs ≤ 4611686018427387903 := Nat.le_of_ble_eq_true h
  omega
theorem pall1 {d : D} {v : V} {H A ρ} (h : PkAll K H A ρ [d] [v]) : Pk K H A ρ d v := by cases h with | cons a _ => exact a
theorem pall2 {d e : D} {v w : V} {H A ρ} (h : PkAll K H A ρ [d, e] [v, w]) : Pk K H A ρ d v ∧ Pk K H A ρ e w := by cases h with | cons a t => cases t with | cons b _ => exact ⟨a, b⟩
end
section
variable {X : Cx} {F : CallF} {a b c tg : Expr} {ea eb ec : E} {pos p : Pos}
theorem si_plain (ha : PE X a (tE X.K F ea)) : PI X tg a (tI X.K F .plain [ea]) := by
  refine ⟨fun pins s σ H R I h => ?_⟩
  obtain ⟨av, H0, ρ0, ρ, lo, env, m, ds, m', xs, at0, he, hi, q⟩ := h
  simp only [evalPs] at he
  obtain ⟨x, m1, h1, he⟩ := bind_ok he
  cases he
  have go : ∀ (P : V → Hp → Prop), (∀ v H1 ρ1 lo1, Step X.K av H0 ρ0 σ env ρ lo H ρ1 lo1 H1 m' → lo1 env.length = none → WkR X.K av H1 (aA av ρ1 lo1) ρ1 x v → P v H1) → tE X.K F ea σ H P := fun P k =>
    run_any at0 h1 fun v H1 ρ1 lo1 s1 v1 => by
      obtain ⟨lo2, s2, l2, p2⟩ := s1.walk v1
      exact k v H1 ρ1 lo2 s2 l2 p2
  obtain ⟨d, md⟩ := x
  cases d <;> first | (cases hi; done) | skip
  · cases hi
    refine (pi_tup ha).run pins s σ H R I (go _ fun v H1 ρ1 lo1 s1 l1 p1 => ?_)
    obtain ⟨r, vs, rfl, g1, g2⟩ := p1.1.tup
    exact ⟨r, rfl, ⟨vs, SqT.of g1⟩, q (Itt X.K r) [.ref r] H1 ρ1 lo1 s1 l1 (.cons p1 .nil) fun H A ρ h => walks_tup (pall1 h)⟩
  · cases hi
    refine (pi_list ha).run pins s σ H R I (go _ fun v H1 ρ1 lo1 s1 l1 p1 => ?_)
    obtain ⟨r, vs, rfl, g1, g2⟩ := p1.1.lst
    exact ⟨r, rfl, ⟨vs, SqL.of g1⟩, q (Itl X.K r) [.ref r] H1 ρ1 lo1 s1 l1 (.cons p1 .nil) fun H A ρ h => walks_list (pall1 h)⟩
theorem rev_get {xs : List D} {i n : Nat} {d : D} (hn : n = xs.length) (h : xs.reverse[i]? = some d) : i < n ∧ xs[n - 1 - i]? = some d := by
  subst hn
  have hi : i < xs.length := by have := (List.getElem?_eq_some_iff.mp h).1; simpa using this
  rw [List.getElem?_reverse hi] at h
  exact ⟨hi, h⟩
theorem walks_revL {K : PySem.W.Frag} {H : Hp} {A : Addr → Prop} {ρ : List CA} {r : Addr} {xs : List D} {n : Nat} (hn : n = xs.length) (h : Pk K H A ρ (.lst xs) (.ref r)) : Walks K (Itv K r n) xs.reverse H A ρ := by
  obtain ⟨p, vs, e, h1, h2⟩ := h.lst
  cases e
  refine ⟨fun i hi => by show n ≤ i; rw [List.length_reverse] at hi; omega, fun i d hd => ?_⟩
  obtain ⟨hi, hx⟩ := rev_get hn hd
  obtain ⟨v, h3, h4⟩ := h2.get hx
  refine ⟨⟨hi, vs, v, SqL.of h1, h3⟩, fun x H' ⟨e, q⟩ => ?_⟩
  subst e
  have := q vs (SqL.of h1)
  rw [h3] at this
  cases this
  exact ⟨keep0, h4⟩
theorem walks_revT {K : PySem.W.Frag} {H : Hp} {A : Addr → Prop} {ρ : List CA} {r : Addr} {xs : List D} {n : Nat} (hn : n = xs.length) (h : Pk K H A ρ (.tup xs) (.ref r)) : Walks K (RT.ItvT K r n) xs.reverse H A ρ := by
  obtain ⟨p, vs, e, h1, h2⟩ := h.tup
  cases e
  refine ⟨fun i hi => by show n ≤ i; rw [List.length_reverse] at hi; omega, fun i d hd => ?_⟩
  obtain ⟨hi, hx⟩ := rev_get hn hd
  obtain ⟨v, h3, h4⟩ := h2.get hx
  refine ⟨⟨hi, vs, v, SqT.of h1, h3⟩, fun x H' ⟨e, q⟩ => ?_⟩
  subst e
  have := q vs (SqT.of h1)
  rw [h3] at this
  cases this
  exact ⟨keep0, h4⟩
theorem si_rev (hg : Gl X "reversed") (hm : X.mg "reversed" = none) (hn : NoStar a) (ha : PE X a (tE X.K F ea)) : PI X tg (.Call (.Name "reversed" p) [a] [] pos) (tI X.K F .rev [ea]) := by
  refine ⟨fun pins s σ H R I h => (RT.pi_revA hg hm ha (star_ok hn)).run pins s σ H R I ?_⟩
  obtain ⟨av, H0, ρ0, ρ, lo, env, m, ds, m', xs, at0, he, hi, q⟩ := h
  simp only [evalPs] at he
  obtain ⟨x, m1, h1, he⟩ := bind_ok he
  cases he
  refine run_any at0 h1 fun v H1 ρ1 lo1' s1' v1 => ?_
  obtain ⟨lo1, s1, l1, p1⟩ := s1'.walk v1
  obtain ⟨d, md⟩ := x
  cases d <;> first | (cases hi; done) | skip
  · cases hi
    obtain ⟨r, vs, rfl, g1, g2⟩ := p1.1.tup
    exact ⟨r, vs, rfl, .inr ⟨SqT.of g1, q _ [.ref r] H1 ρ1 lo1 s1 l1 (.cons p1 .nil) fun H A ρ h => walks_revT g2.length.symm (pall1 h)⟩⟩
  · cases hi
    obtain ⟨r, vs, rfl, g1, g2⟩ := p1.1.lst
    exact ⟨r, vs, rfl, .inl ⟨SqL.of g1, q _ [.ref r] H1 ρ1 lo1 s1 l1 (.cons p1 .nil) fun H A ρ h => walks_revL g2.length.symm (pall1 h)⟩⟩
theorem star2 (hn : NoStar a) (hb : NoStar b) {env : PySem.Env} : starEach [a, b] env = [(false, eval a env), (false, eval b env)] := by rw [star_ok hn, star_ok hb]; rfl
theorem star1 (hn : NoStar a) {env : PySem.Env} : starEach [a] env = [(false, eval a env)] := by rw [star_ok hn]; rfl
theorem plain1 (hb : NoStar b) {env : PySem.Env} : (backTo pos (starEach [b] env)).any (·.1) = false := by rw [star_ok hb]; rfl
theorem plain2 (hb : NoStar b) (hc : NoStar c) {env : PySem.Env} : (backTo pos (starEach [b, c] env)).any (·.1) = false := by rw [star_ok hb, star_ok hc]; rfl
theorem si_rng1 {ees : List E} (hg : Gl X "range") (hm : X.mg "range" = none) (hn : NoStar a) (ha : PA X [a] (tPs X.K F ees)) (hl : ees.length = 1) : PI X tg (.Call (.Name "range" p) [a] [] pos) (tI X.K F .rng ees) := by
  refine ⟨fun pins s σ H R I h => (pi_range1 hg hm ha (star1 hn)).run pins s σ H R I ?_⟩
  obtain ⟨av, H0, ρ0, ρ, lo, env, m, ds, m', xs, at0, he, hi, q⟩ := h
  refine ⟨av, H0, ρ0, ρ, lo, env, m, ds, m', at0, he, fun vs H1 ρ1 lo1 s1 l1 p1 => ?_⟩
  have hd : ds.length = 1 := by
    match ees, hl with
    | [e], _ => simp only [evalPs] at he; obtain ⟨x, m1, _, he⟩ := bind_ok he; cases he; rfl
  match ds, hd with
  | [x], _ =>
    obtain ⟨d, md⟩ := x
    simp only [List.map_cons, List.map_nil] at hi
    cases d <;> first | (simp [itD] at hi; done) | skip
    rename_i j _
    obtain ⟨x, v, e1, rfl, e2, pv⟩ := wk1 p1 rfl
    cases e1
    simp only [itD] at hi
    split at hi <;> cases hi
    rename_i hs
    obtain ⟨h1, h2⟩ := small_ok hs
    have e := pv.1.int
    subst e
    exact ⟨j, rfl, h1, h2, q _ _ H1 ρ1 lo1 s1 l1 p1 fun _ _ _ _ => walks_rng⟩
theorem si_rng2 {ees : List E} (hg : Gl X "range") (hm : X.mg "range" = none) (hn : NoStar a) (hb : NoStar b) (ha : PA X [a, b] (tPs X.K F ees)) (hl : ees.length = 2) : PI X tg (.Call (.Name "range" p) [a, b] [] pos) (tI X.K F .rng ees) := by
  refine ⟨fun pins s σ H R I h => (pi_range2 hg hm ha (star2 hn hb) (star1 hb)).run pins s σ H R I ?_⟩
  obtain ⟨av, H0, ρ0, ρ, lo, env, m, ds, m', xs, at0, he, hi, q⟩ := h
  refine ⟨av, H0, ρ0, ρ, lo, env, m, ds, m', at0, he, fun vs H1 ρ1 lo1 s1 l1 p1 => ?_⟩
  have hd : ds.length = 2 := by
    match ees, hl with
    | [e, f], _ => simp only [evalPs] at he; obtain ⟨x, m1, _, he⟩ := bind_ok he; obtain ⟨y, m2, h2, he⟩ := bind_ok he; obtain ⟨z, m2, h3, h2⟩ := bind_ok h2; cases h2; cases he; rfl
  match ds, hd with
  | [x, y], _ =>
    obtain ⟨d, md⟩ := x
    obtain ⟨d', md'⟩ := y
    simp only [List.map_cons, List.map_nil] at hi
    cases d <;> first | (simp [itD] at hi; done) | skip
    cases d' <;> first | (simp [itD] at hi; done) | skip
    rename_i i j _
    obtain ⟨x, v, y, w, e1, rfl, e2, e3, pv, pw⟩ := wk2 p1 rfl
    cases e1
    simp only [itD] at hi
    split at hi <;> cases hi
    rename_i hs
    rw [Bool.and_eq_true] at hs
    obtain ⟨h1, h2⟩ := small_ok hs.1
    obtain ⟨h3, h4⟩ := small_ok hs.2
    have e := pv.1.int
    subst e
    have e := pw.1.int
    subst e
    exact ⟨i, j, rfl, ⟨h1, h2, h3, h4⟩, q _ _ H1 ρ1 lo1 s1 l1 p1 fun _ _ _ _ => walks_rng⟩
theorem si_rng3 {ees : List E} (hg : Gl X "range") (hm : X.mg "range" = none) (hn : NoStar a) (hb : NoStar b) (hc : NoStar c) (ha : PA X [a, b, c] (tPs X.K F ees)) (hl : ees.length = 3) : PI X tg (.Call (.Name "range" p) [a, b, c] [] pos) (tI X.K F .rng ees) := by
  refine ⟨fun pins s σ H R I h => (pi_range3 hg hm ha (by rw [star_ok hn]) (plain2 hb hc)).run pins s σ H R I ?_⟩
  obtain ⟨av, H0, ρ0, ρ, lo, env, m, ds, m', xs, at0, he, hi, q⟩ := h
  refine ⟨av, H0, ρ0, ρ, lo, env, m, ds, m', at0, he, fun vs H1 ρ1 lo1 s1 l1 p1 => ?_⟩
  have hd : ds.length = 3 := by
    match ees, hl with
    | [e, f, g], _ => simp only [evalPs] at he; obtain ⟨x, m1, _, he⟩ := bind_ok he; obtain ⟨y, m2, h2, he⟩ := bind_ok he; obtain ⟨z, m2, h3, h2⟩ := bind_ok h2; obtain ⟨w, m4, h4, h2⟩ := bind_ok h2; obtain ⟨u, m5, h5, h4⟩ := bind_ok h4; cases h4; cases h2; cases he; rfl
  match ds, hd with
  | [x, y, z], _ =>
    obtain ⟨d, md⟩ := x
    obtain ⟨d', md'⟩ := y
    obtain ⟨d'', md''⟩ := z
    simp only [List.map_cons, List.map_nil] at hi
    cases d <;> first | (simp [itD] at hi; done) | skip
    cases d' <;> first | (simp [itD] at hi; done) | skip
    cases d'' <;> first | (simp [itD] at hi; done) | skip
    rename_i i j k _
    obtain ⟨x, v, y, w, z, u, e1, rfl, e2, e3, e4, pv, pw, pu⟩ := wk3 p1 rfl
    cases e1
    simp only [itD] at hi
    split at hi <;> cases hi
    rename_i hs
    rw [Bool.and_eq_true, Bool.and_eq_true] at hs
    obtain ⟨h1, h2⟩ := small_ok hs.1.1
    obtain ⟨h3, h4⟩ := small_ok hs.1.2
    have hk : k = -1 := by simpa using hs.2
    subst hk
    have e := pv.1.int
    subst e
    have e := pw.1.int
    subst e
    have e := pu.1.int
    subst e
    exact ⟨i, j, -1, _, rfl, RgC.neg h1 h2 h3 h4, q _ _ H1 ρ1 lo1 s1 l1 p1 fun _ _ _ _ => walks_dn⟩
theorem si_enum {ees : List E} (hg : Gl X "enumerate") (hm : X.mg "enumerate" = none) (hn : NoStar a) (ha : PA X [a] (tPs X.K F ees)) (hl : ees.length = 1) : PI X tg (.Call (.Name "enumerate" p) [a] [] pos) (tI X.K F .enu ees) := by
  refine ⟨fun pins s σ H R I h => (pi_enumG hg hm ha (star1 hn)).run pins s σ H R I ?_⟩
  obtain ⟨av, H0, ρ0, ρ, lo, env, m, ds, m', xs, at0, he, hi, q⟩ := h
  refine ⟨av, H0, ρ0, ρ, lo, env, m, ds, m', at0, he, fun vs H1 ρ1 lo1 s1 l1 p1 => ?_⟩
  have hd : ds.length = 1 := by
    match ees, hl with
    | [e], _ => simp only [evalPs] at he; obtain ⟨x, m1, _, he⟩ := bind_ok he; cases he; rfl
  match ds, hd with
  | [x], _ =>
    obtain ⟨d, md⟩ := x
    simp only [List.map_cons, List.map_nil] at hi
    obtain ⟨tp, zs, rfl, rfl⟩ : ∃ (tp : Bool) (zs : List D), d = (match tp with | true => .tup zs | false => .lst zs) ∧ xs = enumD zs := by
      cases d <;> first | (simp [itD] at hi; done) | skip
      · exact ⟨true, _, rfl, (Option.some.inj hi).symm⟩
      · exact ⟨false, _, rfl, (Option.some.inj hi).symm⟩
    obtain ⟨x, v, e1, rfl, e2, pv⟩ := wk1 p1 rfl
    cases e1
    obtain ⟨r, ws, rfl, g1, g2⟩ := pk_seq pv.1
    exact ⟨tp, r, ws, rfl, g1, q _ _ H1 ρ1 lo1 s1 l1 p1 fun _ _ _ h => walks_enumG (pall1 h)⟩
theorem si_zip {ees : List E} (hg : Gl X "zip") (hm : X.mg "zip" = none) (hn : NoStar a) (hb : NoStar b) (ha : PA X [a, b] (tPs X.K F ees)) (hl : ees.length = 2) : PI X tg (.Call (.Name "zip" p) [a, b] [] pos) (tI X.K F (.zip false) ees) := by
  refine ⟨fun pins s σ H R I h => (pi_zipG hg hm ha (star_ok hn) (plain1 hb)).run pins s σ H R I ?_⟩
  obtain ⟨av, H0, ρ0, ρ, lo, env, m, ds, m', xs, at0, he, hi, q⟩ := h
  refine ⟨av, H0, ρ0, ρ, lo, env, m, ds, m', at0, he, fun vs H1 ρ1 lo1 s1 l1 p1 => ?_⟩
  have hd : ds.length = 2 := by
    match ees, hl with
    | [e, f], _ => simp only [evalPs] at he; obtain ⟨x, m1, _, he⟩ := bind_ok he; obtain ⟨y, m2, h2, he⟩ := bind_ok he; obtain ⟨z, m2, h3, h2⟩ := bind_ok h2; cases h2; cases he; rfl
  match ds, hd with
  | [x, y], _ =>
    obtain ⟨d, md⟩ := x
    obtain ⟨d', md'⟩ := y
    simp only [List.map_cons, List.map_nil] at hi
    obtain ⟨tp, tq, zs, ws, rfl, rfl, rfl⟩ : ∃ (tp tq : Bool) (zs ws : List D), d = (match tp with | true => .tup zs | false => .lst zs) ∧ d' = (match tq with | true => .tup ws | false => .lst ws) ∧ xs = zipD zs ws := by
      cases d <;> first | (simp [itD] at hi; done) | skip
      · cases d' <;> first | (simp [itD] at hi; done) | skip
        · exact ⟨true, true, _, _, rfl, rfl, (Option.some.inj hi).symm⟩
        · exact ⟨true, false, _, _, rfl, rfl, (Option.some.inj hi).symm⟩
      · cases d' <;> first | (simp [itD] at hi; done) | skip
        · exact ⟨false, true, _, _, rfl, rfl, (Option.some.inj hi).symm⟩
        · exact ⟨false, false, _, _, rfl, rfl, (Option.some.inj hi).symm⟩
    obtain ⟨x, v, y, w, e1, rfl, e2, e3, pv, pw⟩ := wk2 p1 rfl
    cases e1
    obtain ⟨r, us, rfl, g1, g2⟩ := pk_seq pv.1
    obtain ⟨r', us', rfl, g1', g2'⟩ := pk_seq pw.1
    exact ⟨tp, tq, r, r', us, us', rfl, g1, g1', q _ _ H1 ρ1 lo1 s1 l1 p1 fun _ _ _ h => walks_zipG (pall2 h).1 (pall2 h).2⟩
end
end MP
namespace MP
open PySem PySem.Spec L2
section
variable {K : PySem.W.Frag} {av : Addr → Prop} {H0 H H1 H2 H' : Hp} {ρ0 ρ ρ1 ρ2 ρ' : List CA} {σ : St} {env : Env} {lo lo1 lo2 lo' : Lo} {m m1 m2 m' : MH}
structure Later (av : Addr → Prop) (ρ : List CA) (lo : Lo) (H : Hp) (ρ' : List CA) (lo' : Lo) (H' : Hp) : Prop where
  kp : Keeps H H' ρ
  ex : Ext H ρ ρ'
  ha : ∀ a, aA av ρ' lo' a → aA av ρ lo a ∨ H a = none
  hb : ∀ a, aA av ρ lo a → a ∈ foot ρ ∨ aA av ρ' lo' a
theorem Later.rel (s0 : Stt K av H0 ρ0 ρ lo σ H env m) (s : Later av ρ lo H ρ' lo' H') {d : D} {v : V} (r : RelD K H (aA av ρ lo) ρ d v) : RelD K H' (aA av ρ' lo') ρ' d v :=
  r.mono (s0.stays s.kp) s.ha s.ex.same
theorem Later.pk (s0 : Stt K av H0 ρ0 ρ lo σ H env m) (s : Later av ρ lo H ρ' lo' H') {d : D} {v : V} (r : Pk K H (aA av ρ lo) ρ d v) : Pk K H' (aA av ρ' lo') ρ' d v := by
  rcases r with r | ⟨p, rfl, e, n, o⟩
  · exact .inl (s.rel s0 r)
  · refine .inr ⟨p, rfl, (s.hb p e).resolve_left n, fun z => ?_, o.mono (s0.stays s.kp) s.ha s.ex.same fun o e => s.kp.keep p o e n⟩
    rcases s.ex.new p z with z | z
    · exact n z
    · exact o.there z
theorem Later.pks (s0 : Stt K av H0 ρ0 ρ lo σ H env m) (s : Later av ρ lo H ρ' lo' H') : ∀ {ds : List D} {vs : List V}, PkAll K H (aA av ρ lo) ρ ds vs → PkAll K H' (aA av ρ' lo') ρ' ds vs
  | _, _, .nil => .nil
  | _, _, .cons p t => .cons (s.pk s0 p) (Later.pks s0 s t)
theorem Stt.move (s : Stt K av H0 ρ0 ρ lo σ H env m) {i j : Nat} {p : Addr} (hi : env.length ≤ i) (hj : env.length ≤ j) (hp : lo i = some p) (hjn : lo j = none) : Stt K av H0 ρ0 ρ (loS (loC lo i) j p) σ H env m := by
  have hij : j ≠ i := fun z => by subst z; rw [hp] at hjn; cases hjn
  have hA : ∀ a, aA av ρ (loS (loC lo i) j p) a → aA av ρ lo a ∨ H a = none := fun a z => by
    rcases aA_loS z with z | z
    · exact .inl (aA_loC z)
    · subst z; exact .inl (.inr (.inr ⟨i, hp⟩))
  have old : ∀ k q, loS (loC lo i) j p k = some q → (k = j ∧ q = p) ∨ (k ≠ j ∧ k ≠ i ∧ lo k = some q) := fun k q e => by
    by_cases h : k = j
    · subst h; rw [loS_same] at e; cases e; exact .inl ⟨rfl, rfl⟩
    · rw [loS_ne h] at e
      by_cases h2 : k = i
      · subst h2; rw [loC_same] at e; cases e
      · rw [loC_ne h2] at e; exact .inr ⟨h, h2, e⟩
  refine ⟨s.len, fun k x e => ?_, fun k l q e1 e2 => ?_, fun k q e => ?_, s.fnd, s.fav, s.avd, s.ml, fun n c x e1 e2 => (s.cells n c x e1 e2).mono Stays.refl hA (fun n c e => ⟨c, e, rfl⟩) fun o q => q, s.ext, s.keep⟩
  · refine (s.slot k x e).mono Stays.refl hA (fun n c e => ⟨c, e, rfl⟩) (fun _ _ _ e => e) ?_
    have hk := (List.getElem?_eq_some_iff.mp e).1
    rw [loS_ne (by omega), loC_ne (by omega)]
  · rcases old k q e1 with ⟨h1, h2⟩ | ⟨h1, h2, h3⟩ <;> rcases old l q e2 with ⟨g1, g2⟩ | ⟨g1, g2, g3⟩
    · rw [h1, g1]
    · subst h2; exact absurd (s.inj _ _ _ g3 hp) g2
    · subst g2; exact absurd (s.inj _ _ _ h3 hp) h2
    · exact s.inj _ _ _ h3 g3
  · rcases old k q e with ⟨h1, h2⟩ | ⟨h1, h2, h3⟩
    · subst h2; exact s.loF _ _ hp
    · exact s.loF _ _ h3
theorem wipe_at {own : List Nat} : ∀ {σ σ' : St}, σ'.length = σ.length → ∀ {i : Nat}, i ∈ own → (wipe σ' own)[i]? = (wipe σ own)[i]? := by
  induction own with
  | nil => intro _ _ _ i h; cases h
  | cons a r ih =>
    intro σ σ' hl i hi
    show ((wipe σ' r).set a none)[i]? = ((wipe σ r).set a none)[i]?
    by_cases z : i = a
    · subst z
      rw [List.getElem?_set, List.getElem?_set]
      simp [wipe_length, hl]
    · rw [List.getElem?_set_ne (Ne.symm z), List.getElem?_set_ne (Ne.symm z)]
      exact ih hl ((List.mem_cons.mp hi).resolve_left z)
theorem wipe_same {own vs : List Nat} {σ σ' : St} (hs : Same0 vs (wipe σ own) σ') (h : ∀ i ∈ vs, i ∈ own) : wipe σ' own = wipe σ own := by
  have hl : σ'.length = σ.length := by rw [hs.1, wipe_length]
  apply List.ext_getElem?
  intro i
  by_cases hi : i ∈ own
  · exact wipe_at hl hi
  · rw [wipe_get hi, hs.2 i fun z => hi (h i z)]
end
def tTs (K : PySem.W.Frag) (F : CallF) (es : List E) : TT := fun σ H Q => ∃ av H0 ρ0 ρ lo env m b m', At K av H0 ρ0 ρ lo σ H env m ∧ evalT F es env m = .ok b m' ∧
  ∀ H' ρ' lo', Step K av H0 ρ0 σ env ρ lo H ρ' lo' H' m' → lo' env.length = none → Q b H'
theorem PTs.imp {X : Cx} {e : List Expr} {t t' : TT} (h : PTs X e t) (w : ∀ σ H Q, t' σ H Q → t σ H Q) : PTs X e t' := ⟨fun pins s σ H Q I q => h.run pins s σ H Q I (w σ H Q q)⟩
section
variable {X : Cx} {F : CallF} {a : Expr} {ea : E}
theorem s_ts_nil : PTs X [] (tTs X.K F []) := PTs.imp pts_nil fun σ H Q h => by
  obtain ⟨av, H0, ρ0, ρ, lo, env, m, b, m', a, he, q⟩ := h
  cases he
  exact q H ρ lo a.refl a.hl
theorem s_ts_one (ha : PT X a (tT X.K F ea)) : PTs X [a] (tTs X.K F [ea]) := PTs.imp (pts_one ha) fun σ H Q h => by
  obtain ⟨av, H0, ρ0, ρ, lo, env, m, b, m', a, he, q⟩ := h
  simp only [evalT] at he
  obtain ⟨x, m1, h1, he⟩ := bind_ok he
  cases ht : dTrue x.1 with
  | none => rw [ht] at he; cases he
  | some t =>
    rw [ht] at he
    cases he
    exact ⟨av, H0, ρ0, ρ, lo, env, m, x, b, _, a, h1, ht, q⟩
end
section
variable {K : PySem.W.Frag} {F : CallF} {av : Addr → Prop} {H0 H H1 H2 H' : Hp} {ρ0 ρ ρ1 ρ2 ρ' : List CA} {σ : St} {env : Env} {lo lo1 lo2 lo' : Lo} {m m1 m2 m' : MH}
structure LcI (K : PySem.W.Frag) (av : Addr → Prop) (H0 : Hp) (ρ0 ρ1 : List CA) (lo1 : Lo) (H1 : Hp) (σw : St) (e : Env) (ix : Nat) (D0 : Addr) (lp : List D → MH → Res (List D)) (xs ds : List D) (mE : MH) (i : Nat) (H : Hp) (ρ2 : List CA) (lo2 : Lo) (m2 : MH) (accs : List D) (acc : List V) (rest : List D) : Prop where
  at' : At K av H0 ρ0 ρ2 lo2 σw H e m2
  hix : lo2 ix = some D0
  hlo : ∀ j, j ≠ ix → lo2 j = lo1 j
  kp : Keeps H1 H ρ1
  ex : Ext H1 ρ1 ρ2
  hD : H D0 = some (.lst acc)
  rel : RelDs K H (aA av ρ2 lo2) ρ2 accs acc
  run : lp (xs.drop i) m2 = .ok rest mE
  all : accs ++ rest = ds
  le : i ≤ xs.length
theorem lc_turnsG (t : T) (own : List Nat) (ifs : List E) (elt : E) {xs ds : List D} {mE : MH} {e : Env} {J : It} {D0 : Addr} {Q : VK}
    (hto : ∀ i ∈ tslots t, i ∈ own) (a1 : At K av H0 ρ0 ρ1 lo1 σ H1 env m1) (wk : ∀ H ρ2 lo2, Later av ρ1 lo1 H1 ρ2 lo2 H → Walks K J xs H (aA av ρ2 lo2) ρ2) (hw : wipeE env own = some e)
    (run : lcLoop t (fun e' m' => evalT F ifs e' m') (fun e' m' => (evalE F elt e' m').bind fun x m'' => if owns x.2 then .ok x.1 m'' else .bad) e xs m1 = .ok ds mE) (hz : ds.length ≤ 16777216) (hD : H1 D0 = none)
    (q : ∀ H' ρ' lo', Step K av H0 ρ0 σ env ρ1 lo1 H1 ρ' lo' H' mE → VOk K H' (aA av ρ' lo') av ρ' lo' env.length (.lst ds, .fr) (.ref D0) → Q (.ref D0) H') :
    ∃ W : Nat → Nat → Hp → Prop, (∃ m, W 0 m (upd H1 D0 (.lst []))) ∧ ∀ i m H, W i m H →
      (J.stop i H ∧ Q (.ref D0) H) ∨ (J.go i H ∧ ∃ Nx : Hp → Prop, (∀ H', Nx H' → ∃ m', m' < m ∧ W (i + 1) m' H') ∧ ∀ x H', J.yld i H x H' → tG K t x (wipe σ own) H' fun σ2 H2 => wipe σ2 own = wipe σ own ∧ tTs K F ifs σ2 H2 fun b H3 =>
        if b = true then tE K F elt σ2 H3 fun y H4 => ∃ acc, H4 D0 = some (.lst acc) ∧ acc.length < sizeLine ∧ Nx (upd H4 D0 (.lst (acc ++ [y]))) else Nx H3) := by
  obtain ⟨kf, hkf⟩ := a1.far
  have elen := wipeE_len hw
  obtain ⟨wsp1, wsp2⟩ := wipeE_spec hw
  obtain ⟨ix, hix1, hix2⟩ : ∃ ix, env.length < ix ∧ lo1 ix = none := ⟨max kf (env.length + 1), by omega, hkf _ (by omega)⟩
  have base := a1.st.wipe hw
  let lp : List D → MH → Res (List D) := fun l m' => lcLoop t (fun e' m' => evalT F ifs e' m') (fun e' m' => (evalE F elt e' m').bind fun x m'' => if owns x.2 then .ok x.1 m'' else .bad) e l m'
  let W : Nat → Nat → Hp → Prop := fun i n H => n = xs.length - i ∧ ∃ ρ2 lo2 m2 accs acc rest, LcI K av H0 ρ0 ρ1 lo1 H1 (wipe σ own) e ix D0 lp xs ds mE i H ρ2 lo2 m2 accs acc rest
  have g0 : ∀ a o, H1 a = some o → upd H1 D0 (.lst []) a = some o := kept_upd hD
  have later : ∀ {H ρ2 lo2}, lo2 ix = some D0 → (∀ j, j ≠ ix → lo2 j = lo1 j) → Keeps H1 H ρ1 → Ext H1 ρ1 ρ2 → Later av ρ1 lo1 H1 ρ2 lo2 H := fun {H ρ2 lo2} h1 h2 h3 h4 => ⟨h3, h4, fun a z => by
      rcases z with z | z | ⟨j, z⟩
      · exact .inl (.inl z)
      · rcases h4.new a z with z | z
        · exact .inl (.inr (.inl z))
        · exact .inr z
      · by_cases hj : j = ix
        · subst hj; rw [h1] at z; cases z; exact .inr hD
        · rw [h2 j hj] at z; exact .inl (.inr (.inr ⟨j, z⟩)), fun a z => by
      rcases z with z | z | ⟨j, z⟩
      · exact .inr (.inl z)
      · exact .inl z
      · by_cases hj : j = ix
        · subst hj; rw [hix2] at z; cases z
        · exact .inr (.inr (.inr ⟨j, (h2 j hj).trans z⟩))⟩
  refine ⟨W, ⟨xs.length, rfl, ρ1, loS lo1 ix D0, m1, [], [], ds, ?_⟩, ?_⟩
  · refine ⟨⟨base.freshAt (by omega) hix2 hD g0 (by rw [upd_same]; exact fun z => nomatch z) fun zs z => (by rw [upd_same] at z; cases z), ?_, max kf (ix + 1), fun j hj => ?_⟩, loS_same, fun j hj => loS_ne hj, ⟨fun a o h _ => g0 a o h, dom_of g0⟩, Ext.refl, upd_same, rfl, run, rfl, Nat.zero_le _⟩
    · rw [loS_ne (by omega), elen]; exact a1.hl
    · rw [loS_ne (by omega)]; exact hkf j (by omega)
  · rintro i n H ⟨rfl, ρ2, lo2, m2, accs, acc, rest, I⟩
    have lat := later I.hix I.hlo I.kp I.ex
    have wks := wk H ρ2 lo2 lat
    have hN : lo2 env.length = none := by rw [I.hlo _ (by omega)]; exact a1.hl
    cases hx : xs[i]? with
    | none =>
      have hi : xs.length ≤ i := List.getElem?_eq_none_iff.mp hx
      have ei : i = xs.length := Nat.le_antisymm I.le hi
      refine .inl ⟨wks.1 i hi, ?_⟩
      have r := I.run
      rw [ei, List.drop_length] at r
      have r' : (Res.ok ([] : List D) m2) = .ok rest mE := r
      cases r'
      have e2 : accs = ds := by have := I.all; simpa using this
      subst e2
      have b := a1.st.back I.at'.st (fun j d h => I.hlo j (fun z => by have := (List.getElem?_eq_some_iff.mp h).1; omega)) (fun j hj h => (I.hlo j (by omega)).trans h) lat.ha I.kp I.ex
      have b2 := b.move (i := ix) (j := env.length) (by omega) (Nat.le_refl _) I.hix hN
      have hA : ∀ a, aA av ρ2 (loS (loC lo2 ix) env.length D0) a → aA av ρ2 lo2 a ∨ H a = none := fun a z => by
        rcases aA_loS z with z | z
        · exact .inl (aA_loC z)
        · subst z; exact .inl (.inr (.inr ⟨ix, I.hix⟩))
      refine q H ρ2 _ ⟨b2, fun j hj => ?_, fun p hp => ?_, I.kp, I.ex⟩ ⟨D0, rfl, loS_same, acc, I.hD, I.rel.mono Stays.refl hA fun n c e => ⟨c, e, rfl⟩⟩
      · rw [loS_ne hj]
        by_cases z : j = ix
        · subst z; rw [loC_same, hix2]
        · rw [loC_ne z]; exact I.hlo j z
      · rw [loS_same] at hp; cases hp; exact hD
    | some d =>
      have hi : i < xs.length := (List.getElem?_eq_some_iff.mp hx).1
      obtain ⟨go, yld⟩ := wks.2 i d hx
      have r := I.run
      rw [List.drop_eq_getElem_cons hi, (List.getElem?_eq_some_iff.mp hx).2] at r
      have r : lcLoop t (fun e' m' => evalT F ifs e' m') (fun e' m' => (evalE F elt e' m').bind fun x m'' => if owns x.2 then .ok x.1 m'' else .bad) e (d :: xs.drop (i + 1)) m2 = .ok rest mE := r
      simp only [lcLoop] at r
      cases hb : bindT t d e with
      | none => rw [hb] at r; cases r
      | some e1 =>
        rw [hb] at r
        obtain ⟨b, m3, hif, r⟩ := bind_ok r
        refine .inr ⟨go, W (i + 1) (xs.length - (i + 1)), fun H' w => ⟨_, by omega, w⟩, fun x H5 y => ?_⟩
        obtain ⟨kpy, rx⟩ := yld x H5 y
        have at5 : At K av H0 ρ0 ρ2 lo2 (wipe σ own) H5 e m2 := ⟨I.at'.st.grow kpy, I.at'.hl, I.at'.far⟩
        refine ⟨av, H0, ρ0, ρ2, lo2, e, m2, d, e1, at5, rx, hb, fun σ' lo3 at6 hl3 ho3 hn3 sm => ⟨wipe_same sm hto, ?_⟩⟩
        have lo3e : ∀ j, lo3 j = lo2 j := fun j => by
          by_cases hj : j ∈ tslots t
          · rw [hn3 j hj]
            have hj' := (wsp1 j (hto j hj)).1
            exact (at5.st.slot j .un hj' : lo2 j = none).symm
          · exact ho3 j hj
        have lo3e : lo3 = lo2 := funext lo3e
        subst lo3e
        have e1len : e1.length = env.length := hl3.trans elen
        refine ⟨av, H0, ρ0, ρ2, lo3, e1, m2, b, m3, at6, hif, fun H6 ρ6 lo6 s6 l6 => ?_⟩
        have dfoot := (at6.st.loF ix D0 I.hix).2.1
        have hD5 : H5 D0 = some (.lst acc) := kpy _ _ I.hD
        have hD6 : H6 D0 = some (.lst acc) := s6.kp.keep _ _ hD5 dfoot
        have rel5 : RelDs K H5 (aA av ρ2 lo3) ρ2 accs acc := I.rel.mono (Stays.of kpy) (fun a z => .inl z) fun n c e => ⟨c, e, rfl⟩
        have kp5 : Keeps H1 H5 ρ1 := ⟨fun a o h n => kpy a o (I.kp.keep a o h n), fun a h => dom_of kpy a (I.kp.dom a h)⟩
        have ex5 : Ext H1 ρ1 ρ2 := I.ex
        have lo6e : lo6 = lo3 := funext fun j => by
          by_cases hj : j = e1.length
          · rw [hj, l6, e1len, hN]
          · exact s6.lo j hj
        subst lo6e
        have kp6 : Keeps H1 H6 ρ1 := kp5.trans ex5 s6.kp
        have ex6 : Ext H1 ρ1 ρ6 := ex5.trans (fun p o h n => kp5.keep p o h n) kp5.dom s6.ex
        cases b with
        | false =>
          simp only [Bool.false_eq_true, if_false] at r ⊢
          have bk := base.back s6.st (fun j d' h => I.hlo j (fun z => by have := (List.getElem?_eq_some_iff.mp h).1; omega)) (fun j hj h => (I.hlo j (by omega)).trans h) (later I.hix I.hlo kp6 ex6).ha kp6 ex6
          exact ⟨rfl, ρ6, lo6, m3, accs, acc, rest, ⟨bk, by rw [elen]; exact hN, I.at'.far⟩, I.hix, I.hlo, kp6, ex6, hD6, s6.rels at6.st rel5, r, I.all, hi⟩
        | true =>
          simp only [if_true] at r ⊢
          obtain ⟨y', m4, hel, r⟩ := bind_ok r
          obtain ⟨r', m5, hrest, r⟩ := bind_ok r
          cases r
          obtain ⟨xv, m6, hev, hel⟩ := bind_ok hel
          split at hel
          · rename_i how
            cases hel
            have at7 := s6.at l6 at6
            refine run_sh at7 hev how fun v H7 ρ7 lo7 s7 at8 rv => ?_
            have lo7e : lo7 = lo6 := funext fun j => by
              by_cases hj : j = e1.length
              · rw [hj, at8.hl, l6]
              · exact s7.lo j hj
            subst lo7e
            have dfoot7 := (at7.st.loF ix D0 I.hix).2.1
            have hD7 : H7 D0 = some (.lst acc) := s7.kp.keep _ _ hD6 dfoot7
            have rel7 : RelDs K H7 (aA av ρ7 lo7) ρ7 accs acc := s7.rels at7.st (s6.rels at6.st rel5)
            have kp7 : Keeps H1 H7 ρ1 := kp6.trans ex6 s7.kp
            have ex7 : Ext H1 ρ1 ρ7 := ex6.trans (fun p o h n => kp6.keep p o h n) kp6.dom s7.ex
            have hall := I.all
            have hlen : accs.length < ds.length := by rw [← hall]; simp
            refine ⟨acc, hD7, by rw [← rel7.length, szline]; omega, ?_⟩
            have bk7 := base.back at8.st (fun j d' h => I.hlo j (fun z => by have := (List.getElem?_eq_some_iff.mp h).1; omega)) (fun j hj h => (I.hlo j (by omega)).trans h) (later I.hix I.hlo kp7 ex7).ha kp7 ex7
            have pk7 := bk7.poke (j := ix) (p := D0) (by omega) I.hix hD7 (ys := acc ++ [v])
            have st7 : Stays (aA av ρ7 lo7) H7 (upd H7 D0 (.lst (acc ++ [v]))) := ⟨fun a zs e => by
              rw [upd_ne (fun z => by subst z; rw [hD7] at e; cases e)]; exact e, fun a o n e => by
              rw [upd_ne (fun z => n (by subst z; exact .inr (.inr ⟨ix, I.hix⟩)))]; exact e⟩
            have kp8 : Keeps H1 (upd H7 D0 (.lst (acc ++ [v]))) ρ1 := ⟨fun a o h n => by
                rw [upd_ne (fun z => by subst z; rw [hD] at h; cases h)]; exact kp7.keep a o h n, fun a h => by
                by_cases z : a = D0
                · subst z; exact absurd hD h
                · rw [upd_ne z]; exact kp7.dom a h⟩
            refine ⟨rfl, ρ7, lo7, _, accs ++ [xv.1], acc ++ [v], r', ⟨pk7, by rw [elen]; exact hN, I.at'.far⟩, I.hix, I.hlo, kp8, ex7, upd_same, ?_, hrest, by rw [← hall]; simp, hi⟩
            have rv1 : RelDs K H7 (aA av ρ7 lo7) ρ7 [xv.1] [v] := ⟨v, [], rfl, rv, rfl⟩
            exact (rel7.append rv1).mono st7 (fun a z => .inl z) fun n c e => ⟨c, e, rfl⟩
          · cases hel
end
section
variable {X : Cx} {F : CallF} {elt tg iter : Expr} {ifs : List Expr} {scope : Scope} {own : List (Str × Nat)} {pos : Pos} {t : T} {k : ItK} {its eifs : List E} {eelt : E}
theorem lc_reads (K : PySem.W.Frag) (F : CallF) {σ : St} {H : Hp} {Q : VK} (h : tE K F (.lc eelt (own.map (·.2)) t k its eifs) σ H Q) : tLc (tI K F k its) (tG K t) (tTs K F eifs) (tE K F eelt) (own.map (·.2)) σ H Q := by
  obtain ⟨av, H0, ρ0, ρ, lo, env, m, x, m', a, he, q⟩ := h
  simp only [evalE] at he
  split at he
  · cases he
  rename_i hto
  obtain ⟨ds, m1, h1, he⟩ := bind_ok he
  have hto' : ∀ i ∈ tslots t, i ∈ own.map (·.2) := by
    simp only [Bool.not_eq_false, List.all_eq_true] at hto
    intro i hi
    simpa using hto i hi
  cases hi : itD k (ds.map (·.1)) with
  | none => rw [hi] at he; cases he
  | some xs =>
    cases hw : wipeE env (own.map (·.2)) with
    | none => rw [hi, hw] at he; cases he
    | some e =>
      rw [hi, hw] at he
      obtain ⟨rs, m2, h2, he⟩ := bind_ok he
      split at he
      case isFalse => cases he
      case isTrue hz =>
      cases he
      refine ⟨av, H0, ρ0, ρ, lo, env, m, ds, m1, xs, a, h1, hi, fun J vs H1 ρ1 lo1 s1 l1 p1 wk D0 hD => ?_⟩
      exact lc_turnsG t _ eifs eelt hto' (s1.at l1 a) (fun H2 ρ2 lo2 lat => wk H2 _ ρ2 (lat.pks (s1.at l1 a).st (wk_all p1))) hw h2 hz hD fun H' ρ' lo' s2 v2 => q _ H' ρ' lo' (s1.trans s2) v2
theorem s_lc (hc : X.calm = true) (hN : X.N.Nodup) (hi : PI X tg iter (tI X.K F k its)) (ok : BlkOk X.N X.env.scope scope own)
    (hg : ∀ (s : Shared) (H : Hp) (C : Addr) (cl : List (Str × Addr)) (fp : List Addr), PG (X.blk s H scope (compEnvC scope cl C X.env) fp) tg (tG X.K t)) (ht : ∀ (s : Shared) (H : Hp) (C : Addr) (cl : List (Str × Addr)) (fp : List Addr), PTs (X.blk s H scope (compEnvC scope cl C X.env) fp) ifs (tTs X.K F eifs))
    (he : ∀ (s : Shared) (H : Hp) (C : Addr) (cl : List (Str × Addr)) (fp : List Addr), PE (X.blk s H scope (compEnvC scope cl C X.env) fp) elt (tE X.K F eelt)) (hs : ∀ x, foldedSetIterable iter X.env x = pure x) :
    PE X (.ListComp elt [⟨tg, iter, ifs, 0⟩] scope pos) (tE X.K F (.lc eelt (own.map (·.2)) t k its eifs)) :=
  PE.imp (pe_lc hc hN hi ok hg ht he hs) fun σ H Q h => lc_reads X.K F h
end
end MP
namespace MP
open PySem PySem.Spec L2
structure SStep (K : PySem.W.Frag) (av : Addr → Prop) (H0 : Hp) (ρ0 : List CA) (env : Env) (ρ : List CA) (lo : Lo) (H : Hp) (ρ' : List CA) (lo' : Lo) (σ' : St) (H' : Hp) (env' : Env) (m' : MH) : Prop where
  at' : At K av H0 ρ0 ρ' lo' σ' H' env' m'
  len : env'.length = env.length
  st : Stays (aA av ρ lo) H H'
  ha : ∀ a, aA av ρ' lo' a → aA av ρ lo a ∨ H a = none
  he : ∀ (n : Nat) (c : CA), ρ[n]? = some c → ∃ c', ρ'[n]? = some c' ∧ c'.a = c.a
  avk : ∀ p o, av p → H p = some o → H' p = some o
  dom : ∀ a, H a ≠ none → H' a ≠ none
section
variable {K : PySem.W.Frag} {F : CallF} {W : Nat} {av : Addr → Prop} {H0 H H1 H2 H' : Hp} {ρ0 ρ ρ1 ρ2 ρ' : List CA} {σ σ1 σ2 σ' : St} {env env1 env2 env' : Env} {lo lo1 lo2 lo' : Lo} {m m1 m2 m' : MH}
theorem SStep.refl (a : At K av H0 ρ0 ρ lo σ H env m) : SStep K av H0 ρ0 env ρ lo H ρ lo σ H env m :=
  ⟨a, rfl, Stays.refl, fun _ z => .inl z, fun n c e => ⟨c, e, rfl⟩, fun _ _ _ e => e, fun _ h => h⟩
theorem SStep.trans (a : SStep K av H0 ρ0 env ρ lo H ρ1 lo1 σ1 H1 env1 m1) (b : SStep K av H0 ρ0 env1 ρ1 lo1 H1 ρ2 lo2 σ2 H2 env2 m2) : SStep K av H0 ρ0 env ρ lo H ρ2 lo2 σ2 H2 env2 m2 where
  at' := b.at'
  len := b.len.trans a.len
  st := ⟨fun p xs e => b.st.tup p xs (a.st.tup p xs e), fun p o n e => b.st.rest p o (fun z => (a.ha p z).elim n fun q => by rw [q] at e; cases e) (a.st.rest p o n e)⟩
  ha := fun p z => by
    rcases b.ha p z with z | z
    · exact a.ha p z
    · right
      cases q : H p with
      | none => rfl
      | some o => exact absurd z (a.dom p (by rw [q]; exact fun z => nomatch z))
  he := fun n c e => by
    obtain ⟨c1, e1, q1⟩ := a.he n c e
    obtain ⟨c2, e2, q2⟩ := b.he n c1 e1
    exact ⟨c2, e2, q2.trans q1⟩
  avk := fun p o h e => b.avk p o h (a.avk p o h e)
  dom := fun p h => b.dom p (a.dom p h)
theorem Step.s (a : At K av H0 ρ0 ρ lo σ H env m) (s : Step K av H0 ρ0 σ env ρ lo H ρ' lo' H' m') (h : lo' env.length = none) : SStep K av H0 ρ0 env ρ lo H ρ' lo' σ H' env m' :=
  ⟨s.at h a, rfl, a.st.stays s.kp, s.ha, s.ex.same, fun p o hp e => s.kp.keep p o e fun z => (a.st.fav p z).1 hp, s.kp.dom⟩
theorem SStep.rel (s : SStep K av H0 ρ0 env ρ lo H ρ' lo' σ' H' env' m') {d : D} {v : V} (r : RelD K H (aA av ρ lo) ρ d v) : RelD K H' (aA av ρ' lo') ρ' d v := r.mono s.st s.ha s.he
theorem SStep.wk (s : SStep K av H0 ρ0 env ρ lo H ρ' lo' σ' H' env' m') {x : D × Mode} {v : V} (hw : walkable x.2 = true) (r : WkR K av H (aA av ρ lo) ρ x v) : WkR K av H' (aA av ρ' lo') ρ' x v := by
  rcases r.2 hw with r | ⟨p, rfl, e, o⟩
  · exact ⟨.inl (s.rel r), fun _ => .inl (s.rel r)⟩
  · have o' : PeekAt K H' (aA av ρ' lo') ρ' p x.1 := o.mono s.st s.ha s.he fun u q => s.avk p u e q
    exact ⟨.inr ⟨p, rfl, .inl e, fun z => (s.at'.st.fav p z).1 e, o'⟩, fun _ => .inr ⟨p, rfl, e, o'⟩⟩
theorem SStep.wks (s : SStep K av H0 ρ0 env ρ lo H ρ' lo' σ' H' env' m') : ∀ {ds : List (D × Mode)} {vs : List V}, (∀ x ∈ ds, walkable x.2 = true) → Paired (WkR K av H (aA av ρ lo) ρ) ds vs → Paired (WkR K av H' (aA av ρ' lo') ρ') ds vs
  | _, _, _, .nil => .nil
  | _, _, h, .cons p t => .cons (s.wk (h _ List.mem_cons_self) p) (SStep.wks s (fun x hx => h x (List.mem_cons_of_mem _ hx)) t)
end
def aR (av : Addr → Prop) (ρ : List CA) (o : Option Addr) : Addr → Prop := fun a => av a ∨ a ∈ foot ρ ∨ o = some a
structure RetOk (K : PySem.W.Frag) (av : Addr → Prop) (H0 : Hp) (ρ0 : List CA) (d : D) (fresh : Bool) (m' : MH) (v : V) (H' : Hp) (ρ' : List CA) : Prop where
  fnd : (foot ρ').Nodup
  fav : ∀ p ∈ foot ρ', ¬ av p ∧ (∀ xs, H' p ≠ some (.tup xs)) ∧ H' p ≠ none
  ml : m'.length = ρ'.length
  ext : Ext H0 ρ0 ρ'
  keep : Keeps H0 H' ρ0
  val : ∃ o, (∀ (n : Nat) (c : CA) (x : Cell), ρ'[n]? = some c → m'[n]? = some x → CellOk K H' (aR av ρ' o) ρ' c x) ∧
    match fresh with
    | true => ∃ p, o = some p ∧ v = .ref p ∧ H0 p = none ∧ ¬ av p ∧ p ∉ foot ρ' ∧ OwnAt K H' (aR av ρ' o) ρ' p d
    | false => o = none ∧ RelD K H' (aR av ρ' o) ρ' d v
def ends (K : PySem.W.Frag) (av : Addr → Prop) (H0 : Hp) (ρ0 : List CA) (env : Env) (ρ : List CA) (lo : Lo) (H : Hp) (E : Ends) : SR → Prop
  | .nx env' m' => ∀ σ' H' ρ' lo', SStep K av H0 ρ0 env ρ lo H ρ' lo' σ' H' env' m' → E.nx σ' H'
  | .brk env' m' => ∀ σ' H' ρ' lo', SStep K av H0 ρ0 env ρ lo H ρ' lo' σ' H' env' m' → E.bk σ' H'
  | .cnt env' m' => ∀ σ' H' ρ' lo', SStep K av H0 ρ0 env ρ lo H ρ' lo' σ' H' env' m' → E.ct σ' H'
  | .ret d f m' => ∀ v H' ρ', RetOk K av H0 ρ0 d f m' v H' ρ' → E.rt v H'
  | .bad => False
def tS (K : PySem.W.Frag) (F : CallF) (W : Nat) (s : S) : TS := fun E σ H => ∃ av H0 ρ0 ρ lo env m, At K av H0 ρ0 ρ lo σ H env m ∧ ends K av H0 ρ0 env ρ lo H E (evalS F W s env m)
def tSs (K : PySem.W.Frag) (F : CallF) (W : Nat) (ss : List S) : TS := fun E σ H => ∃ av H0 ρ0 ρ lo env m, At K av H0 ρ0 ρ lo σ H env m ∧ ends K av H0 ρ0 env ρ lo H E (evalSs F W ss env m)
section
variable {K : PySem.W.Frag} {F : CallF} {W : Nat} {av : Addr → Prop} {H0 H H1 H2 H' : Hp} {ρ0 ρ ρ1 ρ2 ρ' : List CA} {σ σ1 σ2 σ' : St} {env env1 env2 env' : Env} {lo lo1 lo2 lo' : Lo} {m m1 m2 m' : MH} {E E' : Ends}
theorem ends.after (s : SStep K av H0 ρ0 env ρ lo H ρ1 lo1 σ1 H1 env1 m1) : ∀ {r : SR}, ends K av H0 ρ0 env ρ lo H E r → ends K av H0 ρ0 env1 ρ1 lo1 H1 E r
  | .nx _ _, h => fun σ' H' ρ' lo' t => h σ' H' ρ' lo' (s.trans t)
  | .brk _ _, h => fun σ' H' ρ' lo' t => h σ' H' ρ' lo' (s.trans t)
  | .cnt _ _, h => fun σ' H' ρ' lo' t => h σ' H' ρ' lo' (s.trans t)
  | .ret _ _ _, h => h
  | .bad, h => h
theorem PS.imp {X : Cx} {e : Stmt} {t t' : TS} (h : PS X e t) (w : ∀ E σ H, t' E σ H → t E σ H) : PS X e t' := ⟨fun pins s σ H E I q => h.run pins s σ H E I (w E σ H q)⟩
theorem PSs.imp {X : Cx} {e : List Stmt} {t t' : TS} (h : PSs X e t) (w : ∀ E σ H, t' E σ H → t E σ H) : PSs X e t' := ⟨fun pins s σ H E I q => h.run pins s σ H E I (w E σ H q)⟩
theorem Stt.putOw (s : Stt K av H0 ρ0 ρ lo σ H env m) {i h0 : Nat} (hi : i < env.length) (hh : env.length ≤ h0) {d : D} {p : Addr} (hp : lo h0 = some p) (o : OwnAt K H (aA av ρ lo) ρ p d) : Stt K av H0 ρ0 ρ (loS (loC lo h0) i p) (σ.set i (some (.ref p))) H (env.set i (.ow d)) m := by
  have hA : ∀ a, aA av ρ (loS (loC lo h0) i p) a → aA av ρ lo a ∨ H a = none := fun a z => by
    rcases aA_loS z with z | z
    · exact .inl (aA_loC z)
    · subst z; exact .inl (.inr (.inr ⟨_, hp⟩))
  have old : ∀ k q, loS (loC lo h0) i p k = some q → (k = i ∧ q = p) ∨ (k ≠ i ∧ k ≠ h0 ∧ lo k = some q) := fun k q e => by
    by_cases h : k = i
    · subst h; rw [loS_same] at e; cases e; exact .inl ⟨rfl, rfl⟩
    · rw [loS_ne h] at e
      by_cases h2 : k = h0
      · subst h2; rw [loC_same] at e; cases e
      · rw [loC_ne h2] at e; exact .inr ⟨h, h2, e⟩
  refine ⟨by simp [s.len], fun j x e => ?_, fun k l q e1 e2 => ?_, fun k q e => ?_, s.fnd, s.fav, s.avd, s.ml, fun n c x e1 e2 => (s.cells n c x e1 e2).mono Stays.refl hA (fun n c e => ⟨c, e, rfl⟩) fun o q => q, s.ext, s.keep⟩
  · by_cases h : j = i
    · subst h
      rw [List.getElem?_set_self hi] at e
      cases e
      rw [List.getElem?_set_self (by rw [← s.len]; exact hi)]
      exact ⟨p, loS_same, rfl, o.mono Stays.refl hA (fun n c e => ⟨c, e, rfl⟩) fun _ e => e⟩
    · rw [List.getElem?_set_ne (Ne.symm h)] at e
      rw [List.getElem?_set_ne (Ne.symm h)]
      have hj := (List.getElem?_eq_some_iff.mp e).1
      exact (s.slot j x e).mono Stays.refl hA (fun n c e => ⟨c, e, rfl⟩) (fun _ _ _ e => e) (by rw [loS_ne h, loC_ne (by omega)])
  · rcases old k q e1 with ⟨h1, h2⟩ | ⟨h1, h2, h3⟩ <;> rcases old l q e2 with ⟨g1, g2⟩ | ⟨g1, g2, g3⟩
    · rw [h1, g1]
    · subst h2; exact absurd (s.inj _ _ _ g3 hp) g2
    · subst g2; exact absurd (s.inj _ _ _ h3 hp) h2
    · exact s.inj _ _ _ h3 g3
  · rcases old k q e with ⟨h1, h2⟩ | ⟨h1, h2, h3⟩
    · subst h2; exact s.loF _ _ hp
    · exact s.loF _ _ h3
theorem put_len {i : Nat} {x : D × Mode} {e : Env} (h : put env i x = some e) : i < env.length ∧ ((x.2 = .fr ∧ e = env.set i (.ow x.1)) ∨ (x.2 = .sh ∧ e = env.set i (.sh x.1))) := by
  unfold put at h
  split at h <;> first | (cases h; done) | skip
  · rename_i y h1 h2
    cases h
    exact ⟨(List.getElem?_eq_some_iff.mp h1).1, .inl ⟨h2, rfl⟩⟩
  · rename_i y h1 h2
    cases h
    exact ⟨(List.getElem?_eq_some_iff.mp h1).1, .inr ⟨h2, rfl⟩⟩
theorem far_set {i : Nat} {p : Addr} (h : ∃ k, ∀ j, k ≤ j → lo j = none) (hi : i < env.length) : ∃ k, ∀ j, k ≤ j → loS lo i p j = none := by
  obtain ⟨k, hk⟩ := h
  exact ⟨max k (i + 1), fun j hj => by rw [loS_ne (by omega)]; exact hk j (by omega)⟩
theorem far_clr {i : Nat} (h : ∃ k, ∀ j, k ≤ j → lo j = none) : ∃ k, ∀ j, k ≤ j → loC lo i j = none := by
  obtain ⟨k, hk⟩ := h
  refine ⟨k, fun j hj => ?_⟩
  by_cases z : j = i
  · rw [z]; exact loC_same
  · rw [loC_ne z]; exact hk j hj
theorem put_ok {i : Nat} {x : D × Mode} {e : Env} {v : V} (a : At K av H0 ρ0 ρ lo σ H env m) (s : Step K av H0 ρ0 σ env ρ lo H ρ1 lo1 H1 m1) (r : VOk K H1 (aA av ρ1 lo1) av ρ1 lo1 env.length x v) (h : put env i x = some e) :
    ∃ lo2, SStep K av H0 ρ0 env ρ lo H ρ1 lo2 (σ.set i (some v)) H1 e m1 ∧ ∀ j, j ≠ i → j ≠ env.length → lo2 j = lo1 j := by
  obtain ⟨hi, hm⟩ := put_len h
  clear h
  obtain ⟨d, md⟩ := x
  rcases hm with ⟨hm, rfl⟩ | ⟨hm, rfl⟩
  · have hm : md = .fr := hm
    subst hm
    obtain ⟨p, rfl, hp, o⟩ := r
    refine ⟨_, ⟨⟨s.st.putOw hi (Nat.le_refl _) hp o, ?_, far_set (env := env) (far_clr (s.far a.far)) hi⟩, by simp, a.st.stays s.kp, fun b z => s.ha b ?_, s.ex.same, fun p o hp e => s.kp.keep p o e fun z => (a.st.fav p z).1 hp, s.kp.dom⟩, fun j h1 h2 => by rw [loS_ne h1, loC_ne h2]⟩
    · rw [List.length_set, loS_ne (by omega), loC_same]
    · rcases aA_loS z with z | z
      · exact aA_loC z
      · subst z; exact .inr (.inr ⟨_, hp⟩)
  · have hm : md = .sh := hm
    subst hm
    obtain ⟨lo2, s2, l2, r2⟩ := s.share (x := (d, .sh)) r rfl
    refine ⟨_, ⟨⟨s2.st.putSh hi r2, ?_, far_clr (s2.far a.far)⟩, by simp, a.st.stays s2.kp, fun b z => s2.ha b (aA_loC z), s2.ex.same, fun p o hp e => s2.kp.keep p o e fun z => (a.st.fav p z).1 hp, s2.kp.dom⟩, fun j h1 h2 => by rw [loC_ne h1, s2.lo j h2, s.lo j h2]⟩
    rw [List.length_set, loC_ne (by omega)]; exact l2
theorem aR_sub {o : Option Addr} (h : ∀ p, o = some p → ∃ i, lo i = some p) : ∀ a, aR av ρ o a → aA av ρ lo a ∨ H a = none := fun a z => by
  rcases z with z | z | z
  · exact .inl (.inl z)
  · exact .inl (.inr (.inl z))
  · exact .inl (.inr (.inr (h a z)))
theorem ret_sh (s : Stt K av H0 ρ0 ρ lo σ H env m) {d : D} {v : V} (r : RelD K H (aA av ρ lo) ρ d v) : RetOk K av H0 ρ0 d false m v H ρ :=
  ⟨s.fnd, s.fav, s.ml, s.ext, s.keep, none, fun n c x e1 e2 => (s.cells n c x e1 e2).mono Stays.refl (aR_sub (by intro p z; cases z)) (fun n c e => ⟨c, e, rfl⟩) fun o q => q, rfl, r.mono Stays.refl (aR_sub (by intro p z; cases z)) fun n c e => ⟨c, e, rfl⟩⟩
theorem ret_fr (s : Stt K av H0 ρ0 ρ lo σ H env m) {d : D} {p : Addr} {i : Nat} (hp : lo i = some p) (o : OwnAt K H (aA av ρ lo) ρ p d) : RetOk K av H0 ρ0 d true m (.ref p) H ρ := by
  obtain ⟨h1, h2, h3, h4, h5⟩ := s.loF i p hp
  have hA : ∀ a, aR av ρ (some p) a → aA av ρ lo a ∨ H a = none := aR_sub fun q e => by cases e; exact ⟨i, hp⟩
  exact ⟨s.fnd, s.fav, s.ml, s.ext, s.keep, some p, fun n c x e1 e2 => (s.cells n c x e1 e2).mono Stays.refl hA (fun n c e => ⟨c, e, rfl⟩) fun o q => q, p, rfl, rfl, h3, h1, h2, o.mono Stays.refl hA (fun n c e => ⟨c, e, rfl⟩) fun _ e => e⟩
end
section
variable {X : Cx} {F : CallF} {W : Nat} {st : Stmt} {rest : List Stmt} {s : S} {ss : List S} {pos : Pos}
theorem ss_nil : PSs X [] (tSs X.K F W []) := PSs.imp pss_nil fun E σ H h => by
  obtain ⟨av, H0, ρ0, ρ, lo, env, m, a, q⟩ := h
  exact q σ H ρ lo (SStep.refl a)
theorem ss_cons (h1 : PS X st (tS X.K F W s)) (h2 : PSs X rest (tSs X.K F W ss)) : PSs X (st :: rest) (tSs X.K F W (s :: ss)) := PSs.imp (pss_cons h1 h2) fun E σ H h => by
  obtain ⟨av, H0, ρ0, ρ, lo, env, m, a, q⟩ := h
  refine ⟨av, H0, ρ0, ρ, lo, env, m, a, ?_⟩
  simp only [evalSs] at q
  cases hr : evalS F W s env m with
  | nx e1 m1 =>
    rw [hr] at q
    exact fun σ1 H1 ρ1 lo1 s1 => ⟨av, H0, ρ0, ρ1, lo1, e1, m1, s1.at', q.after s1⟩
  | ret d f m1 => rw [hr] at q; exact q
  | brk e1 m1 => rw [hr] at q; exact q
  | cnt e1 m1 => rw [hr] at q; exact q
  | bad => rw [hr] at q; exact q
theorem ss_ghost (h2 : PSs X rest (tSs X.K F W ss)) (g : ∀ {av H0 ρ0 ρ lo σ H env m} {env' : Env} {m' : MH}, At X.K av H0 ρ0 ρ lo σ H env m → evalS F W s env m = .nx env' m' → ∃ ρ' lo', SStep X.K av H0 ρ0 env ρ lo H ρ' lo' σ H env' m') (gb : ∀ env m, (∃ e1 m1, evalS F W s env m = .nx e1 m1) ∨ evalS F W s env m = .bad) : PSs X rest (tSs X.K F W (s :: ss)) := PSs.imp h2 fun E σ H h => by
  obtain ⟨av, H0, ρ0, ρ, lo, env, m, a, q⟩ := h
  simp only [evalSs] at q
  rcases gb env m with ⟨e1, m1, e⟩ | e
  · rw [e] at q
    obtain ⟨ρ', lo', s1⟩ := g a e
    exact ⟨av, H0, ρ0, ρ', lo', e1, m1, s1.at', q.after s1⟩
  · rw [e] at q; exact q.elim
theorem at_slot {env : Env} {i : Nat} {s : Slot} (e : env.at i = s) (n : s ≠ .un) : env[i]? = some s := by
  unfold Env.at at e
  rw [List.getD_eq_getElem?_getD] at e
  cases h : env[i]? with
  | none => rw [h] at e; exact absurd e.symm n
  | some t => rw [h] at e; rw [← e]; rfl
theorem ss_frz {i : Nat} (h2 : PSs X rest (tSs X.K F W ss)) : PSs X rest (tSs X.K F W (.frz i :: ss)) := by
  refine ss_ghost h2 (fun {av H0 ρ0 ρ lo σ H env m env' m'} a e => ?_) fun env m => ?_
  · simp only [evalS] at e
    split at e
    case h_2 => cases e; exact ⟨ρ, lo, SStep.refl a⟩
    cases e
    rename_i d hd
    have hi := at_slot hd (fun z => nomatch z)
    have hl := (List.getElem?_eq_some_iff.mp hi).1
    obtain ⟨p, h1, h2, o⟩ := a.st.slot i _ hi
    have hA : ∀ b, aA av ρ (loC lo i) b → aA av ρ lo b ∨ H b = none := fun b z => .inl (aA_loC z)
    obtain ⟨f1, f2, f3, f4, f5⟩ := a.st.loF i p h1
    have np : ¬ aA av ρ (loC lo i) p := fun z => by
      rcases z with z | z | ⟨j, z⟩
      · exact f1 z
      · exact f2 z
      · by_cases hj : j = i
        · subst hj; rw [loC_same] at z; cases z
        · rw [loC_ne hj] at z; exact hj (a.st.inj _ _ _ z h1)
    have r : RelD X.K H (aA av ρ (loC lo i)) ρ d (.ref p) := OwnAt.rel np (o.mono Stays.refl hA (fun n c e => ⟨c, e, rfl⟩) fun _ e => e)
    have s := a.st
    refine ⟨ρ, loC lo i, ⟨⟨by simp [s.len], fun j x ex => ?_, fun j k p e1 e2 => ?_, fun j p e => ?_, s.fnd, s.fav, s.avd, s.ml, fun n c x e1 e2 => (s.cells n c x e1 e2).mono Stays.refl hA (fun n c e => ⟨c, e, rfl⟩) fun o q => q, s.ext, s.keep⟩, by rw [List.length_set, loC_ne (by omega)]; exact a.hl, far_clr a.far⟩, by simp, Stays.refl, hA, fun n c e => ⟨c, e, rfl⟩, fun _ _ _ e => e, fun _ h => h⟩
    · by_cases h : j = i
      · subst h
        rw [List.getElem?_set_self hl] at ex
        cases ex
        exact ⟨loC_same, _, h2, r⟩
      · rw [List.getElem?_set_ne (Ne.symm h)] at ex
        exact (s.slot j x ex).mono Stays.refl hA (fun n c e => ⟨c, e, rfl⟩) (fun _ _ _ e => e) (loC_ne h)
    · by_cases h1 : j = i
      · subst h1; rw [loC_same] at e1; cases e1
      by_cases h2 : k = i
      · subst h2; rw [loC_same] at e2; cases e2
      rw [loC_ne h1] at e1
      rw [loC_ne h2] at e2
      exact s.inj j k p e1 e2
    · by_cases h1 : j = i
      · subst h1; rw [loC_same] at e; cases e
      rw [loC_ne h1] at e
      exact s.loF j p e
  · simp only [evalS]
    cases h : env.at i <;> exact .inl ⟨_, _, rfl⟩
theorem st_pass : PS X (.Pass pos) (tS X.K F W .pass) := PS.imp ps_pass fun E σ H h => by
  obtain ⟨av, H0, ρ0, ρ, lo, env, m, a, q⟩ := h
  exact q σ H ρ lo (SStep.refl a)
theorem st_doc {x j pos'} : PS X (.Expr (.Constant (.str x) j pos) pos') (tS X.K F W .pass) := PS.imp ps_doc fun E σ H h => by
  obtain ⟨av, H0, ρ0, ρ, lo, env, m, a, q⟩ := h
  exact q σ H ρ lo (SStep.refl a)
variable {e : Expr} {ee : E}
theorem st_ex (he : PE X e (tE X.K F ee)) (hs : swapsWith e none pos.line X.env = pure false) : PS X (.Expr e pos) (tS X.K F W (.ex ee)) := PS.imp (ps_expr he hs) fun E σ H h => by
  obtain ⟨av, H0, ρ0, ρ, lo, env, m, a, q⟩ := h
  simp only [evalS] at q
  cases hr : evalE F ee env m with
  | bad => rw [hr] at q; exact q.elim
  | ok x m1 =>
    rw [hr] at q
    refine run_any a hr fun v H1 ρ1 lo1 s1 v1 => ?_
    have s2 : Step X.K av H0 ρ0 σ env ρ lo H ρ1 (loC lo1 env.length) H1 m1 := ⟨s1.st.drop fun d => none_at_len _ _, fun i hi => (loC_ne hi).trans (s1.lo i hi), fun p e => (by rw [loC_same] at e; cases e), s1.kp, s1.ex⟩
    exact q σ H1 ρ1 _ (s2.s a loC_same)
theorem st_retN : PS X (.Return none pos) (tS X.K F W (.ret (.c .non))) := PS.imp ps_retN fun E σ H h => by
  obtain ⟨av, H0, ρ0, ρ, lo, env, m, a, q⟩ := h
  simp only [evalS, evalE] at q
  exact q .non H ρ (ret_sh a.st rfl)
theorem st_retV {i : Nat} {x : Str} {p : Pos} (hN : X.N[i]? = some x) (hv : Vis X.env.scope x) (hd : (x == ("__debug__" : Str)) = false) (hcd : (x == ("__classdict__" : Str)) = false) : PS X (.Return (some (.Name x p)) pos) (tS X.K F W (.ret (.v i))) := PS.imp (ps_ret (pe_var hN hv hd hcd)) fun E σ H h => by
  obtain ⟨av, H0, ρ0, ρ, lo, env, m, a, q⟩ := h
  simp only [evalS] at q
  cases hs : env.at i with
  | un => rw [hs] at q; exact q.elim
  | bw d => rw [hs] at q; exact q.elim
  | sh d =>
    rw [hs] at q
    obtain ⟨_, v, e, r⟩ := a.st.slot i _ (at_slot hs (fun z => nomatch z))
    exact ⟨v, e, q v H ρ (ret_sh a.st r)⟩
  | ow d =>
    rw [hs] at q
    obtain ⟨p, h1, e, o⟩ := a.st.slot i _ (at_slot hs (fun z => nomatch z))
    exact ⟨_, e, q _ H ρ (ret_fr a.st h1 o)⟩
theorem st_ret (he : PE X e (tE X.K F ee)) (hv : ∀ i, ee ≠ .v i) : PS X (.Return (some e) pos) (tS X.K F W (.ret ee)) := PS.imp (ps_ret he) fun E σ H h => by
  obtain ⟨av, H0, ρ0, ρ, lo, env, m, a, q⟩ := h
  have ev : evalS F W (.ret ee) env m = match evalE F ee env m with
      | .ok x m1 => (match x.2 with | .sh => SR.ret x.1 false m1 | .fr => .ret x.1 true m1 | _ => .bad)
      | .bad => .bad := by
    cases ee <;> first | rfl | exact absurd rfl (hv _)
  rw [ev] at q
  cases hr : evalE F ee env m with
  | bad => rw [hr] at q; exact q.elim
  | ok x m1 =>
    rw [hr] at q
    refine run_any a hr fun v H1 ρ1 lo1 s1 v1 => ?_
    obtain ⟨d, md⟩ := x
    cases md with
    | sh => exact q v H1 ρ1 (ret_sh s1.st v1)
    | fr =>
      obtain ⟨p, rfl, hp, o⟩ := v1
      exact q _ H1 ρ1 (ret_fr s1.st hp o)
    | bo => exact q.elim
    | br => exact q.elim
end
end MP
namespace MP
open PySem PySem.Spec L2
section
variable {K : PySem.W.Frag} {F : CallF} {W : Nat} {av : Addr → Prop} {H0 H H1 H2 H' : Hp} {ρ0 ρ ρ1 ρ2 ρ' : List CA} {σ σ1 σ2 σ' : St} {env env1 env2 env' : Env} {lo lo1 lo2 lo' : Lo} {m m1 m2 m' : MH} {E E' : Ends}
theorem foot_inj : ∀ {ρ : List CA} {n k : Nat} {c c' : CA}, (foot ρ).Nodup → ρ[n]? = some c → ρ[k]? = some c' → c.dead = false → c'.dead = false → c.a = c'.a → n = k
  | [], n, _, _, _, _, e, _, _, _, _ => by simp at e
  | x :: r, n, k, c, c', h, e, e', hd, hd', q => by
    have h' : (CA.ft x ++ foot r).Nodup := h
    rw [List.nodup_append] at h'
    obtain ⟨_, h2, h3⟩ := h'
    have fx : x.dead = false → x.a ∈ CA.ft x := fun z => by unfold CA.ft; rw [z]; exact List.mem_cons_self
    cases n with
    | zero =>
      cases k with
      | zero => rfl
      | succ k =>
        simp at e e'
        subst e
        exact absurd q (h3 _ (fx hd) _ (mem_foot e' hd'))
    | succ n =>
      cases k with
      | zero =>
        simp at e e'
        subst e'
        exact absurd q.symm (h3 _ (fx hd') _ (mem_foot e hd))
      | succ k =>
        simp at e e'
        rw [foot_inj h2 e e' hd hd' q]
theorem CellOk.sub {K : PySem.W.Frag} {A : Addr → Prop} {c : CA} {x : Cell} (h : CellOk K H A ρ c x) : ∃ o, H c.a = some o ∧ ∀ xs, o ≠ .tup xs := by
  cases x with
  | lst _ => obtain ⟨_, xs, e, _⟩ := h; exact ⟨_, e, fun _ z => nomatch z⟩
  | dK _ => obtain ⟨_, xs, e, _⟩ := h; exact ⟨_, e, fun _ z => nomatch z⟩
  | dT _ => obtain ⟨_, xs, e, _⟩ := h; exact ⟨_, e, fun _ z => nomatch z⟩
  | ins _ _ => obtain ⟨C, dx, xs, _, _, e, _⟩ := h; exact ⟨_, e, fun _ z => nomatch z⟩
  | gone => obtain ⟨_, u, e, n⟩ := h; exact ⟨_, e, n⟩
  | exc _ _ => obtain ⟨_, _, _, _, _, _, _, e, _⟩ := h; exact ⟨_, e, fun _ z => nomatch z⟩
theorem upd_staysG {A : Addr → Prop} {p : Addr} {u u' : HO} (hA : A p) (hx : H p = some u) (hu : ∀ zs, u ≠ .tup zs) : Stays A H (upd H p u') :=
  ⟨fun a zs e => by rw [upd_ne (fun z => by subst z; rw [hx] at e; exact hu _ (Option.some.inj e))]; exact e, fun a o n e => by rw [upd_ne (fun z => n (by subst z; exact hA))]; exact e⟩
theorem upd_dom {p : Addr} {o : HO} : ∀ a, H a ≠ none → upd H p o a ≠ none := fun a h => by
  by_cases z : a = p
  · subst z; rw [upd_same]; exact fun z => nomatch z
  · rw [upd_ne z]; exact h
theorem upd_ntG {p : Addr} {u' : HO} (hu' : ∀ zs, u' ≠ .tup zs) : ∀ a, (∀ zs, H a ≠ some (.tup zs)) → ∀ zs, upd H p u' a ≠ some (.tup zs) := fun a h zs e => by
  by_cases z : a = p
  · subst z; rw [upd_same] at e; exact hu' _ (Option.some.inj e)
  · rw [upd_ne z] at e; exact h zs e
theorem own_writeG (a : At K av H0 ρ0 ρ lo σ H env m) {i : Nat} {d d' : D} {p : Addr} {u u' : HO} (hi : env[i]? = some (.ow d)) (hp : lo i = some p) (hx : H p = some u) (hu : ∀ zs, u ≠ .tup zs) (hu' : ∀ zs, u' ≠ .tup zs) (r : OwnAt K (upd H p u') (aA av ρ lo) ρ p d') :
    SStep K av H0 ρ0 env ρ lo H ρ lo σ (upd H p u') (env.set i (.ow d')) m := by
  have s := a.st
  obtain ⟨f1, f2, f3, f4, f5⟩ := s.loF i p hp
  have hl := (List.getElem?_eq_some_iff.mp hi).1
  have pA : aA av ρ lo p := .inr (.inr ⟨i, hp⟩)
  have st := upd_staysG (u' := u') pA hx hu
  have hA : ∀ a, aA av ρ lo a → aA av ρ lo a ∨ H a = none := fun a z => .inl z
  have he : ∀ (n : Nat) (c : CA), ρ[n]? = some c → ∃ c', ρ[n]? = some c' ∧ c'.a = c.a := fun n c e => ⟨c, e, rfl⟩
  have other : ∀ q o, q ≠ p → H q = some o → upd H p u' q = some o := fun q o n e => by rw [upd_ne n]; exact e
  obtain ⟨p', hp', hσ, _⟩ := s.slot i _ hi
  rw [hp] at hp'
  cases hp'
  refine ⟨⟨⟨by simp [s.len], fun j x e => ?_, s.inj, fun j q e => ?_, s.fnd, fun q hq => ?_, s.avd, s.ml, fun n c x e1 e2 => (s.cells n c x e1 e2).mono st hA he fun o q => other _ o ((s.cells n c x e1 e2).apart e1 pA f2) q, s.ext, ⟨fun b o e n => other b o (fun z => ?_) (s.keep.keep b o e n), fun b h => upd_dom b (s.keep.dom b h)⟩⟩, by rw [List.length_set]; exact a.hl, a.far⟩, by simp, st, hA, he, fun q o hq e => other q o (fun z => f1 (z ▸ hq)) e, upd_dom⟩
  · by_cases h : j = i
    · subst h
      rw [List.getElem?_set_self hl] at e
      cases e
      exact ⟨p, hp, hσ, r⟩
    · rw [List.getElem?_set_ne (Ne.symm h)] at e
      refine (s.slot j x e).mono st hA he (fun q o hq e2 => other q o (fun z => ?_) e2) rfl
      subst z
      rcases hq with hq | hq
      · exact h (s.inj _ _ _ hq hp)
      · exact f1 hq
  · obtain ⟨h1, h2, h3, h4, h5⟩ := s.loF j q e
    exact ⟨h1, h2, h3, upd_dom q h4, upd_ntG hu' q h5⟩
  · obtain ⟨h1, h2, h3⟩ := s.fav q hq
    exact ⟨h1, upd_ntG hu' q h2, upd_dom q h3⟩
  · subst z; rw [f3] at e; cases e
theorem own_write (a : At K av H0 ρ0 ρ lo σ H env m) {i : Nat} {ds es : List D} {p : Addr} {xs ys : List V} (hi : env[i]? = some (.ow (.lst ds))) (hp : lo i = some p) (hx : H p = some (.lst xs)) (r : RelDs K H (aA av ρ lo) ρ es ys) :
    SStep K av H0 ρ0 env ρ lo H ρ lo σ (upd H p (.lst ys)) (env.set i (.ow (.lst es))) m :=
  own_writeG a hi hp hx (fun _ z => nomatch z) (fun _ z => nomatch z) ⟨ys, upd_same, r.mono (upd_staysG (.inr (.inr ⟨i, hp⟩)) hx fun _ z => nomatch z) (fun a z => .inl z) fun n c e => ⟨c, e, rfl⟩⟩
theorem cell_writeG (a : At K av H0 ρ0 ρ lo σ H env m) {n : Nat} {c : CA} {x0 x1 : Cell} {u u' : HO} (hc : ρ[n]? = some c) (hm : m[n]? = some x0) (hd : c.dead = false) (hx : H c.a = some u) (hu : ∀ zs, u ≠ .tup zs) (hu' : ∀ zs, u' ≠ .tup zs) (r : CellOk K (upd H c.a u') (aA av ρ lo) ρ c x1) :
    SStep K av H0 ρ0 env ρ lo H ρ lo σ (upd H c.a u') env (m.set n x1) := by
  have s := a.st
  have hf := mem_foot hc hd
  have pA : aA av ρ lo c.a := .inr (.inl hf)
  have st := upd_staysG (u' := u') pA hx hu
  have hA : ∀ a, aA av ρ lo a → aA av ρ lo a ∨ H a = none := fun a z => .inl z
  have he : ∀ (n : Nat) (c : CA), ρ[n]? = some c → ∃ c', ρ[n]? = some c' ∧ c'.a = c.a := fun n c e => ⟨c, e, rfl⟩
  have other : ∀ q o, q ≠ c.a → H q = some o → upd H c.a u' q = some o := fun q o n e => by rw [upd_ne n]; exact e
  refine ⟨⟨⟨s.len, fun j x e => (s.slot j x e).mono st hA he (fun q o hq e2 => other q o (fun z => ?_) e2) rfl, s.inj, fun j q e => ?_, s.fnd, fun q hq => ?_, s.avd, by rw [List.length_set]; exact s.ml, fun k c' x e1 e2 => ?_, s.ext, ⟨fun b o e nn => ?_, fun b h => upd_dom b (s.keep.dom b h)⟩⟩, a.hl, a.far⟩, rfl, st, hA, he, fun q o hq e => other q o (fun z => (s.fav _ hf).1 (z ▸ hq)) e, upd_dom⟩
  · subst z
    rcases hq with hq | hq
    · exact (s.loF _ _ hq).2.1 hf
    · exact (s.fav _ hf).1 hq
  · obtain ⟨h1, h2, h3, h4, h5⟩ := s.loF j q e
    exact ⟨h1, h2, h3, upd_dom q h4, upd_ntG hu' q h5⟩
  · obtain ⟨h1, h2, h3⟩ := s.fav q hq
    exact ⟨h1, upd_ntG hu' q h2, upd_dom q h3⟩
  · by_cases h : k = n
    · subst h
      rw [hc] at e1
      cases e1
      rw [List.getElem?_set_self (by rw [s.ml]; exact (List.getElem?_eq_some_iff.mp hc).1)] at e2
      cases e2
      exact r
    · rw [List.getElem?_set_ne (Ne.symm h)] at e2
      have hk := s.cells k c' x e1 e2
      refine hk.mono st hA he fun o q => other _ o (fun z => ?_) q
      rcases hk.life with q | ⟨_, q⟩
      · exact h (foot_inj s.fnd e1 hc q hd z)
      · exact q (z ▸ pA)
  · -- the frame's start: what is no cell of it there is kept
    refine other b o (fun z => ?_) (s.keep.keep b o e nn)
    subst z
    rcases s.ext.new _ hf with q | q
    · exact nn q
    · rw [q] at e; cases e
theorem cell_write (a : At K av H0 ρ0 ρ lo σ H env m) {n : Nat} {c : CA} {ds es : List D} {xs ys : List V} (hc : ρ[n]? = some c) (hm : m[n]? = some (.lst ds)) (hx : H c.a = some (.lst xs)) (r : RelDs K H (aA av ρ lo) ρ es ys) :
    SStep K av H0 ρ0 env ρ lo H ρ lo σ (upd H c.a (.lst ys)) env (m.set n (.lst es)) := by
  have h1 := (a.st.cells n c _ hc hm).1
  exact cell_writeG a hc hm h1.2 hx (fun _ z => nomatch z) (fun _ z => nomatch z) ⟨h1, ys, upd_same, r.mono (upd_staysG (.inr (.inl (mem_foot hc h1.2))) hx fun _ z => nomatch z) (fun a z => .inl z) fun n c e => ⟨c, e, rfl⟩⟩
theorem set_ok (a : At K av H0 ρ0 ρ lo σ H env m) {i : Nat} {f : List D → Option (List D)} {r : SR} (h : setAt env m i f = r) (hr : r ≠ .bad) : ∃ p ds es xs env' m', σ[i]? = some (some (.ref p)) ∧ H p = some (.lst xs) ∧ f ds = some es ∧ RelDs K H (aA av ρ lo) ρ ds xs ∧ r = .nx env' m' ∧
    ∀ ys, RelDs K H (aA av ρ lo) ρ es ys → SStep K av H0 ρ0 env ρ lo H ρ lo σ (upd H p (.lst ys)) env' m' := by
  unfold setAt at h
  split at h
  · rename_i ds hs
    have hi := at_slot hs (fun z => nomatch z)
    obtain ⟨p, h1, h2, xs, h3, h4⟩ := a.st.slot i _ hi
    split at h
    · rename_i es hf
      exact ⟨p, ds, es, xs, _, _, h2, h3, hf, h4, h.symm, fun ys r => own_write a hi h1 h3 r⟩
    · exact absurd h.symm hr
  · rename_i n hs
    have hi := at_slot hs (fun z => nomatch z)
    obtain ⟨_, v, h2, c, hc, rfl⟩ := a.st.slot i _ hi
    split at h
    · rename_i ds hm
      obtain ⟨_, xs, h3, h4⟩ := a.st.cells n c _ hc hm
      split at h
      · rename_i es hf
        exact ⟨c.a, ds, es, xs, _, _, h2, h3, hf, h4, h.symm, fun ys r => cell_write a hc hm h3 r⟩
      · exact absurd h.symm hr
    · exact absurd h.symm hr
  · exact absurd h.symm hr
theorem ref_at (a : At K av H0 ρ0 ρ lo σ H env m) {i : Nat} {f : List D → Option (List D)} (h : setAt env m1 i f ≠ .bad) : ∃ p, σ[i]? = some (some (.ref p)) := by
  unfold setAt at h
  split at h
  · rename_i ds hs
    have hi := at_slot hs (fun z => nomatch z)
    obtain ⟨p, h1, h2, xs, h3, h4⟩ := a.st.slot i _ hi
    exact ⟨p, h2⟩
  · rename_i n hs
    have hi := at_slot hs (fun z => nomatch z)
    obtain ⟨_, v, h2, c, hc, rfl⟩ := a.st.slot i _ hi
    exact ⟨_, h2⟩
  · exact absurd rfl h
theorem asg_reads {i : Nat} {ee : MP.E} (h : tS K F W (.asg (.nm i) ee) E σ H) : tE K F ee σ H fun x H1 => E.nx (σ.set i (some x)) H1 := by
  obtain ⟨av, H0, ρ0, ρ, lo, env, m, a, q⟩ := h
  simp only [evalS] at q
  cases hr : evalE F ee env m with
  | bad => rw [hr] at q; exact q.elim
  | ok x m1 =>
    rw [hr] at q
    simp only [putT] at q
    cases hp : put env i x with
    | none => rw [hp] at q; exact q.elim
    | some e1 =>
      rw [hp] at q
      refine run_any a hr fun v H1 ρ1 lo1 s1 v1 => ?_
      obtain ⟨lo2, s2, _⟩ := put_ok a s1 v1 hp
      exact q _ H1 ρ1 lo2 s2
end
section
variable {X : Cx} {F : CallF} {W : Nat} {pos : Pos} {e : Expr} {ee : E}
theorem st_asgN {i : Nat} {x : Str} {pos' : Pos} (hN : X.N.Nodup) (hi : X.N[i]? = some x) (hx : Loc X.env.scope x) (hf : X.fn x = true ∨ X.env.scope.names.lookup x = some .local) (he : PE X e (tE X.K F ee)) (hs : swapsWith e (some (.Name x pos')) pos.line X.env = pure false) :
    PS X (.Assign [.Name x pos'] e pos) (tS X.K F W (.asg (.nm i) ee)) := PS.imp (ps_set hN hi hx he hs hf) fun E σ H h => asg_reads h
theorem st_asgLc {i : Nat} {y : Str} {py : Pos} {elt tg iter : Expr} {ifs : List Expr} {scope : Scope} {own : List (Str × Nat)} {pos spos : Pos} {t : T} {k : ItK} {its eifs : List E} {eelt : E} (hc : X.calm = true) (hN : X.N.Nodup) (hy : X.N[i]? = some y) (hyl : X.env.scope.names.lookup y = some .local)
    (hsw : swapsWith (.ListComp elt [⟨tg, iter, ifs, 0⟩] scope pos) (some (.Name y py)) spos.line X.env = pure true) (hi : PI X tg iter (tI X.K F k its)) (ok : BlkOk X.N X.env.scope scope own)
    (hg : ∀ (s : Shared) (H : Hp) (C : Addr) (cl : List (Str × Addr)) (fp : List Addr), PG (X.blk s H scope (compEnvC scope cl C X.env) fp) tg (tG X.K t)) (ht : ∀ (s : Shared) (H : Hp) (C : Addr) (cl : List (Str × Addr)) (fp : List Addr), PTs (X.blk s H scope (compEnvC scope cl C X.env) fp) ifs (tTs X.K F eifs))
    (he : ∀ (s : Shared) (H : Hp) (C : Addr) (cl : List (Str × Addr)) (fp : List Addr), PE (X.blk s H scope (compEnvC scope cl C X.env) fp) elt (tE X.K F eelt)) (hs : ∀ x, foldedSetIterable iter X.env x = pure x) :
    PS X (.Assign [.Name y py] (.ListComp elt [⟨tg, iter, ifs, 0⟩] scope pos) spos) (tS X.K F W (.asg (.nm i) (.lc eelt (own.map (·.2)) t k its eifs))) :=
  PS.imp (ps_setLc hc hN hy hyl hsw hi ok hg ht he hs) fun E σ H h => lc_reads X.K F (asg_reads h)
theorem st_asgT {tg : Expr} {ts : List T} (hg : PG X tg (tG X.K (.tup ts))) (he : PE X e (tE X.K F ee)) (hs : swapsWithSole [tg] e pos.line X.env = pure false) (hw : swappedStores [tg] e X.env = pure none) (h1 : (assignEach [tg] X.env).map (·.2) = [assign tg X.env]) :
    PS X (.Assign [tg] e pos) (tS X.K F W (.asg (.tup ts) ee)) := PS.imp (ps_asg he hg hs hw h1) fun E σ H h => by
  obtain ⟨av, H0, ρ0, ρ, lo, env, m, a, q⟩ := h
  simp only [evalS] at q
  cases hr : evalE F ee env m with
  | bad => rw [hr] at q; exact q.elim
  | ok x m1 =>
    rw [hr] at q
    simp only [putT] at q
    cases ho : owns x.2 with
    | false => rw [ho] at q; exact q.elim
    | true =>
      rw [ho] at q
      simp only [if_true] at q
      cases hb : bindT (.tup ts) x.1 env with
      | none => rw [hb] at q; exact q.elim
      | some e1 =>
        rw [hb] at q
        refine run_sh a hr ho fun v H1 ρ1 lo1 s1 a1 r1 => ⟨av, H0, ρ0, ρ1, lo1, env, m1, x.1, e1, a1, r1, hb, fun σ' lo' a2 l2 ho2 hn2 sm => ?_⟩
        have ss := s1.s a a1.hl
        refine q σ' H1 ρ1 lo' ⟨a2, l2, ss.st, fun b z => ss.ha b ?_, ss.he, ss.avk, ss.dom⟩
        rcases z with z | z | ⟨j, z⟩
        · exact .inl z
        · exact .inr (.inl z)
        · by_cases hj : j ∈ tslots (.tup ts)
          · rw [hn2 j hj] at z; cases z
          · rw [ho2 j hj] at z; exact .inr (.inr ⟨j, z⟩)
theorem SStep.putSh {K : PySem.W.Frag} {av : Addr → Prop} {H0 H H1 : Hp} {ρ0 ρ ρ1 : List CA} {σ1 : L2.St} {env env1 : Env} {lo lo1 : Lo} {m1 : MH} (s : SStep K av H0 ρ0 env ρ lo H ρ1 lo1 σ1 H1 env1 m1) {i : Nat} (hi : i < env1.length) {d : D} {v : V} (r : RelD K H1 (aA av ρ1 lo1) ρ1 d v) :
    SStep K av H0 ρ0 env ρ lo H ρ1 (loC lo1 i) (σ1.set i (some v)) H1 (env1.set i (.sh d)) m1 ∧ ∀ d' v', RelD K H1 (aA av ρ1 lo1) ρ1 d' v' → RelD K H1 (aA av ρ1 (loC lo1 i)) ρ1 d' v' := by
  refine ⟨⟨⟨s.at'.st.putSh hi r, ?_, far_clr s.at'.far⟩, by rw [List.length_set]; exact s.len, s.st, fun b z => s.ha b (aA_loC z), s.he, s.avk, s.dom⟩, fun d' v' r' => r'.mono Stays.refl (fun b z => .inl (aA_loC z)) fun n c e => ⟨c, e, rfl⟩⟩
  rw [List.length_set, loC_ne (by omega)]
  exact s.at'.hl
theorem st_setIx {i : Nat} {x : Str} {b : Expr} {eb : E} {px ps : Pos} (hN : X.N[i]? = some x) (hv : Vis X.env.scope x) (hd : (x == ("__debug__" : Str)) = false) (hcd : (x == ("__classdict__" : Str)) = false) (hb : PE X b (tE X.K F eb)) (he : PE X e (tE X.K F ee))
    (ha : ∀ v, assign (.Subscript (.Name x px) b ps) X.env v = (do
      let ov ← holding [v] (eval (.Name x px) X.env)
      let iv ← holding [v, ov] (eval b X.env)
      standAt ps
      holding [v, ov, iv] (setItem ov iv v)
      release [v, ov, iv] [])) (hs : swapsWithSole [.Subscript (.Name x px) b ps] e pos.line X.env = pure false) :
    PS X (.Assign [.Subscript (.Name x px) b ps] e pos) (tS X.K F W (.setIx i eb ee)) := PS.imp (ps_asg he (pg_sub (pe_var hN hv hd hcd) hb set_list ha) hs) fun E σ H h => by
  obtain ⟨av, H0, ρ0, ρ, lo, env, m, a, q⟩ := h
  simp only [evalS] at q
  cases hr : evalE F ee env m with
  | bad => rw [hr] at q; exact q.elim
  | ok z m1 =>
    rw [hr] at q
    cases hk : evalE F eb env m1 with
    | bad => simp only [hk] at q; exact q.elim
    | ok y m2 =>
      simp only [hk] at q
      cases ho : owns z.2 with
      | false => rw [ho] at q; exact q.elim
      | true =>
        rw [ho] at q
        simp only [if_true] at q
        have hne : setAt env m2 i (fun ds => putIx ds y.1 z.1) ≠ .bad := fun w => by rw [w] at q; exact q
        refine run_sh a hr ho fun v H1 ρ1 lo1 s1 a1 r1 => ?_
        obtain ⟨p0, hσ0⟩ := ref_at a1 hne
        refine ⟨_, hσ0, run_pk a1 hk fun w H2 ρ2 lo2 s2 a2 r2 => ?_⟩
        obtain ⟨p, ds, es, xs, env', m', hσ, hx, hf, rs, er, step⟩ := set_ok a2 rfl hne
        rw [hσ0] at hσ
        cases hσ
        unfold putIx at hf
        split at hf <;> first | (cases hf; done) | skip
        rename_i k hy
        rw [Option.map_eq_some_iff] at hf
        obtain ⟨j, hj, rfl⟩ := hf
        rw [hy] at r2
        rw [er] at q
        refine ⟨p0, xs, k, j, rfl, r2.int, hx, by rw [← rs.length]; exact hj, ?_⟩
        exact q _ _ ρ2 lo2 (((s1.s a a1.hl).trans (s2.s a1 a2.hl)).trans (step _ (rs.set (s2.rel a1.st r1))))
variable {c : Expr} {ec : E} {sa sb : List Stmt} {ma mb : List S}
theorem st_if (hc : PT X c (tT X.K F ec)) (ha : PSs X sa (tSs X.K F W ma)) (hb : PSs X sb (tSs X.K F W mb)) : PS X (.If c sa sb pos) (tS X.K F W (.iff ec ma mb)) := PS.imp (ps_if hc ha hb) fun E σ H h => by
  obtain ⟨av, H0, ρ0, ρ, lo, env, m, a, q⟩ := h
  simp only [evalS] at q
  cases hr : evalE F ec env m with
  | bad => rw [hr] at q; exact q.elim
  | ok x m1 =>
    simp only [hr] at q
    cases ht : dTrue x.1 with
    | none => simp only [ht] at q; exact q.elim
    | some t =>
      simp only [ht] at q
      refine ⟨av, H0, ρ0, ρ, lo, env, m, x, t, m1, a, hr, ht, fun H1 ρ1 lo1 s1 l1 => ?_⟩
      have ss := s1.s a l1
      cases t with
      | true => exact ⟨av, H0, ρ0, ρ1, lo1, env, m1, ss.at', q.after ss⟩
      | false => exact ⟨av, H0, ρ0, ρ1, lo1, env, m1, ss.at', q.after ss⟩
end
end MP
namespace MP
open PySem PySem.Spec L2
section
variable {X : Cx} {F : CallF} {W : Nat} {pos : Pos}
theorem st_for {tg iter : Expr} {body : List Stmt} {t : T} {k : ItK} {its : List E} {mb : List S} (hp : PassesOwn (model X.prog X.w) X.A X.env X.xe) (hc : X.calm = true) (hi : PI X tg iter (tI X.K F k its)) (hg : PG X tg (tG X.K t)) (hb : PSs X body (tSs X.K F W mb))
    (hs : ∀ x, foldedSetIterable iter X.env x = pure x) : PS X (.For tg iter body [] pos) (tS X.K F W (.for_ t k its mb)) := PS.imp (ps_for hp hc hi hg hb hs) fun E σ H h => by
  obtain ⟨av, H0, ρ0, ρ, lo, env, m, a, q⟩ := h
  simp only [evalS] at q
  cases hr : evalPs F its env m with
  | bad => simp only [hr] at q; exact q.elim
  | ok ds m1 =>
    simp only [hr] at q
    split at q
    · exact q.elim
    rename_i hwk
    have hwk' : ∀ x ∈ ds, walkable x.2 = true := by simpa using hwk
    cases hx : itD k (ds.map (·.1)) with
    | none => simp only [hx] at q; exact q.elim
    | some xs =>
      simp only [hx] at q
      refine ⟨av, H0, ρ0, ρ, lo, env, m, ds, m1, xs, a, hr, hx, fun J vs H1 ρ1 lo1 s1 l1 p1 wk => ?_⟩
      have s1s := s1.s a l1
      refine ⟨fun i n σ2 H2 => n = xs.length - i ∧ i ≤ xs.length ∧ ∃ ρ2 lo2 env2 m2, SStep X.K av H0 ρ0 env ρ1 lo1 H1 ρ2 lo2 σ2 H2 env2 m2 ∧ ends X.K av H0 ρ0 env ρ lo H E (forLoop t (fun e' m' => evalSs F W mb e' m') (xs.drop i) env2 m2),
        ⟨xs.length, rfl, Nat.zero_le _, ρ1, lo1, env, m1, SStep.refl s1s.at', q⟩, ?_⟩
      rintro i n σ2 H2 ⟨rfl, hle, ρ2, lo2, env2, m2, ss, qe⟩
      have wks := wk H2 _ ρ2 (wk_all (ss.wks hwk' p1))
      cases hxi : xs[i]? with
      | none =>
        have hi : xs.length ≤ i := List.getElem?_eq_none_iff.mp hxi
        refine .inl ⟨wks.1 i hi, ?_⟩
        rw [List.drop_eq_nil_of_le hi] at qe
        exact qe σ2 H2 ρ2 lo2 (s1s.trans ss)
      | some d =>
        have hi : i < xs.length := (List.getElem?_eq_some_iff.mp hxi).1
        obtain ⟨go, yld⟩ := wks.2 i d hxi
        rw [List.drop_eq_getElem_cons hi, (List.getElem?_eq_some_iff.mp hxi).2] at qe
        simp only [forLoop] at qe
        cases hb : bindT t d env2 with
        | none => simp only [hb] at qe; exact qe.elim
        | some e1 =>
          simp only [hb] at qe
          refine .inr ⟨go, fun σ' H' => xs.length - (i + 1) = xs.length - (i + 1) ∧ i + 1 ≤ xs.length ∧ ∃ ρ2 lo2 env2 m2, SStep X.K av H0 ρ0 env ρ1 lo1 H1 ρ2 lo2 σ' H' env2 m2 ∧ ends X.K av H0 ρ0 env ρ lo H E (forLoop t (fun e' m' => evalSs F W mb e' m') (xs.drop (i + 1)) env2 m2), fun σ' H' w => ⟨_, by omega, w⟩, fun x H5 y => ?_⟩
          obtain ⟨kpy, rx⟩ := yld x H5 y
          have at5 : At X.K av H0 ρ0 ρ2 lo2 σ2 H5 env2 m2 := ⟨ss.at'.st.grow kpy, ss.at'.hl, ss.at'.far⟩
          refine ⟨av, H0, ρ0, ρ2, lo2, env2, m2, d, e1, at5, rx, hb, fun σ' lo3 at6 hl3 ho3 hn3 sm => ?_⟩
          have step : SStep X.K av H0 ρ0 env2 ρ2 lo2 H2 ρ2 lo3 σ' H5 e1 m2 := ⟨at6, hl3, Stays.of kpy, fun b z => .inl (by
            rcases z with z | z | ⟨j, z⟩
            · exact .inl z
            · exact .inr (.inl z)
            · by_cases hj : j ∈ tslots t
              · rw [hn3 j hj] at z; cases z
              · rw [ho3 j hj] at z; exact .inr (.inr ⟨j, z⟩)), fun n c e => ⟨c, e, rfl⟩, fun p o _ e => kpy p o e, dom_of kpy⟩
          have s12 := ss.trans step
          refine ⟨av, H0, ρ0, ρ2, lo3, e1, m2, at6, ?_⟩
          cases hbd : evalSs F W mb e1 m2 with
          | nx e3 m3 =>
            simp only [hbd] at qe
            exact fun σ7 H7 ρ7 lo7 s7 => ⟨rfl, hi, ρ7, lo7, e3, m3, s12.trans s7, qe⟩
          | cnt e3 m3 =>
            simp only [hbd] at qe
            exact fun σ7 H7 ρ7 lo7 s7 => ⟨rfl, hi, ρ7, lo7, e3, m3, s12.trans s7, qe⟩
          | brk e3 m3 =>
            simp only [hbd] at qe
            exact fun σ7 H7 ρ7 lo7 s7 => qe σ7 H7 ρ7 lo7 ((s1s.trans s12).trans s7)
          | ret d f m3 =>
            simp only [hbd] at qe
            exact qe
          | bad =>
            simp only [hbd] at qe
            exact qe.elim
theorem pub_go {K : PySem.W.Frag} {av : Addr → Prop} {H0 H : Hp} {ρ0 ρ : List CA} {lo : Lo} {σ : L2.St} {env : Env} {m : MH} {i : Nat} {d : D} {cell : Cell} (a : At K av H0 ρ0 ρ lo σ H env m) (hd : env.at i = .ow d)
    (hcell : ∀ {A : Addr → Prop} {ρ1 : List CA} {p : Addr}, OwnAt K H A ρ1 p d → CellOk K H A ρ1 ⟨p, [], false⟩ cell) :
    ∃ ρ' lo', SStep K av H0 ρ0 env ρ lo H ρ' lo' σ H (env.set i (.sh (.obj m.length))) (m ++ [cell]) := by
  have hi := at_slot hd (fun z => nomatch z)
  have hl := (List.getElem?_eq_some_iff.mp hi).1
  obtain ⟨p, h1, h2, ho⟩ := a.st.slot i _ hi
  obtain ⟨f1, f2, f3, f4, f5⟩ := a.st.loF i p h1
  have s := a.st
  have ft : foot (ρ ++ [⟨p, [], false⟩]) = foot ρ ++ [p] := by simp [foot, CA.ft]
  have memft : ∀ q, q ∈ foot (ρ ++ [⟨p, [], false⟩]) ↔ q ∈ foot ρ ∨ q = p := fun q => by rw [ft]; simp
  have hA : ∀ b, aA av (ρ ++ [⟨p, [], false⟩]) (loC lo i) b → aA av ρ lo b ∨ H b = none := fun b z => .inl (by
    rcases z with z | z | ⟨j, z⟩
    · exact .inl z
    · rcases (memft b).mp z with z | z
      · exact .inr (.inl z)
      · subst z; exact .inr (.inr ⟨i, h1⟩)
    · by_cases hj : j = i
      · subst hj; rw [loC_same] at z; cases z
      · rw [loC_ne hj] at z; exact .inr (.inr ⟨j, z⟩))
  have he : ∀ (n : Nat) (c : CA), ρ[n]? = some c → ∃ c', (ρ ++ [⟨p, [], false⟩])[n]? = some c' ∧ c'.a = c.a := fun n c e => ⟨c, by rw [List.getElem?_append_left (List.getElem?_eq_some_iff.mp e).1]; exact e, rfl⟩
  have ho' : OwnAt K H (aA av (ρ ++ [⟨p, [], false⟩]) (loC lo i)) (ρ ++ [⟨p, [], false⟩]) p d := ho.mono (Stays.refl (H := H)) hA he fun _ e => e
  refine ⟨ρ ++ [⟨p, [], false⟩], loC lo i, ⟨⟨by simp [s.len], fun j x ex => ?_, fun j k q e1 e2 => ?_, fun j q e => ?_, ?_, fun q hq => ?_, s.avd, by simp [s.ml], fun n c x e1 e2 => ?_, ?_, s.keep⟩, by rw [List.length_set, loC_ne (by omega)]; exact a.hl, far_clr a.far⟩, by simp, Stays.refl, hA, he, fun _ _ _ e => e, fun _ h => h⟩
  · by_cases h : j = i
    · subst h
      rw [List.getElem?_set_self hl] at ex
      cases ex
      exact ⟨loC_same, _, h2, ⟨p, [], false⟩, by rw [s.ml]; simp, rfl⟩
    · rw [List.getElem?_set_ne (Ne.symm h)] at ex
      exact (s.slot j x ex).mono Stays.refl hA he (fun _ _ _ e => e) (loC_ne h)
  · by_cases h1 : j = i
    · subst h1; rw [loC_same] at e1; cases e1
    by_cases h2 : k = i
    · subst h2; rw [loC_same] at e2; cases e2
    rw [loC_ne h1] at e1
    rw [loC_ne h2] at e2
    exact s.inj j k q e1 e2
  · by_cases hj : j = i
    · subst hj; rw [loC_same] at e; cases e
    rw [loC_ne hj] at e
    obtain ⟨g1, g2, g3⟩ := s.loF j q e
    refine ⟨g1, fun z => ?_, g3⟩
    rcases (memft q).mp z with z | z
    · exact g2 z
    · subst z; exact hj (s.inj _ _ _ e h1)
  · rw [ft, List.nodup_append]
    exact ⟨s.fnd, by simp, fun x hx y hy e => f2 (by simp at hy; rw [← hy, ← e]; exact hx)⟩
  · rcases (memft q).mp hq with z | z
    · exact s.fav q z
    · subst z; exact ⟨f1, f5, f4⟩
  · by_cases hn : n < ρ.length
    · rw [List.getElem?_append_left hn] at e1
      rw [List.getElem?_append_left (by rw [s.ml]; exact hn)] at e2
      exact (s.cells n c x e1 e2).mono Stays.refl hA he fun o q => q
    · have hn' : n = ρ.length := by
        have := (List.getElem?_eq_some_iff.mp e1).1
        simp at this
        omega
      subst hn'
      rw [List.getElem?_append_right (Nat.le_refl _)] at e1
      simp at e1
      subst e1
      rw [← s.ml, List.getElem?_append_right (Nat.le_refl _)] at e2
      simp at e2
      subst e2
      exact hcell ho'
  · refine ⟨by have := s.ext.le; simp; omega, fun n c0 e => ?_, fun q hq => ?_, fun n c0 c e0 e => ?_⟩
    · obtain ⟨c, e1, q1⟩ := s.ext.same n c0 e
      obtain ⟨c', e2, q2⟩ := he n c e1
      exact ⟨c', e2, q2.trans q1⟩
    · rcases (memft q).mp hq with z | z
      · exact s.ext.new q z
      · subst z; exact .inr f3
    · rw [List.getElem?_append_left (List.getElem?_eq_some_iff.mp (s.ext.same n c0 e0).choose_spec.1).1] at e
      exact s.ext.sub n c0 c e0 e
theorem ss_pub {i : Nat} {rest : List Stmt} {ss : List S} (h2 : PSs X rest (tSs X.K F W ss)) : PSs X rest (tSs X.K F W (.pub i :: ss)) := by
  refine ss_ghost h2 (fun {av H0 ρ0 ρ lo σ H env m env' m'} a e => ?_) fun env m => ?_
  · simp only [evalS] at e
    split at e <;> cases e
    · rename_i ds hd; exact pub_go a hd fun ⟨xs, e, r⟩ => ⟨⟨rfl, rfl⟩, xs, e, r⟩
    · rename_i ds hd; exact pub_go a hd fun ⟨xs, e, r⟩ => ⟨⟨rfl, rfl⟩, xs, e, r⟩
    · rename_i ds hd; exact pub_go a hd fun ⟨xs, e, r⟩ => ⟨⟨rfl, rfl⟩, xs, e, r⟩
  · simp only [evalS]
    cases h : env.at i <;> first | (right; rfl) | skip
    rename_i d
    cases d <;> first | (right; rfl) | (left; exact ⟨_, _, rfl⟩)
end
end MP
namespace MP
open PySem PySem.Spec PyProof.Rows L2
abbrev SpG := List V → Hp → VK → Prop
structure FnG (P : Program) (w : World) (K : PySem.W.Frag) (mg : Str → Option Value) (base : Heap) (k : Nat) (f : Addr) (fd : FuncData) (ps : List Str) (sp : SpG) : Prop where
  len : ∀ vs H Q, sp vs H Q → vs.length = ps.length
  run : ∀ (A : Around) (outer : List PySem.Env) (s : Shared) (H : Hp) (args : Args) (us : List Value) (vs : List V) (Q : VK), Room k A → A.guards = some [] → Env0 P w K mg base A outer s H → BindsTo s fd args (ps.zip us) → Vals vs us → sp vs H Q →
    codeAny (model P w) A (.call (.ref f) args) (CR CX0 outer P w H s Q fun _ _ _ => False) s
section
variable {P : Program} {w : World} {K : PySem.W.Frag} {mg : Str → Option Value} {base : Heap}
theorem fnG_of {x qual : Str} {st : Stmt} {f : Addr} {fd : FuncData} {N ps : List Str} {k : Nat} {sp : SpG} (F : L2.Fun K x qual st f fd) (S : FnScope N ps (defScope st)) (len : ∀ vs H Q, sp vs H Q → vs.length = ps.length)
    (hbody : ∀ (cdv : Value) (A : Around) (outer : List PySem.Env) (s : Shared) (H : Hp) (vs : List V) (Q : VK), Room k (A.deeper (envOfC qual (defScope st) s.heap.objs.size f cdv)) → A.guards = some [] → sp vs H Q →
      ∃ t, PSs (cxOf CX0 P w K mg base N qual (defScope st) f cdv A outer s H fun _ _ _ => False).nox (defBody st) t ∧ t { nx := fun _ H' => Q .non H', rt := Q } (L2.start N vs) H) : FnG P w K mg base (k + 1) f fd ps sp := by
  obtain ⟨oc, od, kV, doc, pm, an, cdv, ct, osl, rfl, lk, hcd⟩ := F.ex
  refine ⟨len, fun A outer s H args us vs Q hr hG e0 hb r hsp => ?_⟩
  have hl := len _ _ _ hsp
  have KX : K.In s.heap := e0.mod.kin.keeps fun b o e => (e0.bs b o e).1
  have lim : s.heap.NoLimit := e0.mod.nolimit.keeps fun b o e => (e0.bs b o e).1
  have hkind : ∀ y ∈ ps.zip us, (defScope st).names.lookup y.1 = some .local ∨ ((defScope st).names.lookup y.1 = some .cell ∧ ((cellsFrom (s.heap.objs.size + 1) (defScope st).names []).lookup y.1).isSome = true) := fun ⟨n, v⟩ hy =>
    (S.par n (List.of_mem_zip hy).1).imp id fun q => ⟨q, PySem.W.cellsFrom_some _ _ _ (.inl q)⟩
  refine codeAny_call_function hr.depth (KX _ _ lk) rfl S.co S.gen rfl (PySem.W.codeRec_of KX hcd) (hb _ _ _ _ ?_)
  refine wpAny_newFunctionEnv_cells S.kind hkind fun env he s1 x => ?_
  subst he
  refine ⟨lim.keeps x.toInCall.keep, codeAny_func ?_⟩
  obtain ⟨t, ht, hq⟩ := hbody cdv A outer s H vs Q (hr.deeper _) hG hsp
  have I : Inv (cxOf CX0 P w K mg base N qual (defScope st) f cdv A outer s H fun _ _ _ => False) [] (L2.start N vs) H s1 := inv_start S hr.hd e0 hl r x
  refine wpAny_mono (ht.nox.run [] s1 (L2.start N vs) H _ I hq) (fun fl s' hs => ?_) fun e s' hs => hs
  cases fl with
  | ret u => obtain ⟨v, σ', H', J, rv, q⟩ := hs; exact ⟨v, H', J.os, J.bare, J.base, J.hok, rv, q⟩
  | next => obtain ⟨σ', H', J, q⟩ := hs; exact ⟨.non, H', J.os, J.bare, J.base, J.hok, rfl, q⟩
  | brk => obtain ⟨_, _, _, q⟩ := hs; exact q.elim
  | cont => obtain ⟨_, _, _, q⟩ := hs; exact q.elim
end
section
variable {X : Cx} {k : Nat} {f : Addr} {fd : FuncData} {ps : List Str} {sp : SpG} {x : Str} {p pos : Pos} {e : Expr} {es : List Expr} {t : TA}
theorem run_fnG {pins : List (Addr × Obj)} {σ : L2.St} {H : Hp} {s : Shared} {Q : VK} {us : List Value} {vs : List V} (F : FnG X.prog X.w X.K X.mg X.base k f fd ps sp) (hr : Room k X.A) (hG : X.A.guards = some []) (hb : Binds X.K fd ps [])
    (I : Inv X pins σ H s) (r : Vals vs us) (h : sp vs H Q) : wpAny (model X.prog X.w) X.A (call (.ref f) us) (EP X pins σ Q) X.xe s := by
  have hl : (us ++ []).length = ps.length := by rw [List.append_nil, ← r.length]; exact F.len _ _ _ h
  have hb' := hb s us I.kIn hl
  rw [List.append_nil] at hb'
  refine wpAny_call (codeAny_mono (F.run X.A X.stack s H ⟨us, []⟩ us vs Q hr hG I.env0 hb' r h) fun r s' hq => ?_)
  cases r with
  | error e => exact False.elim hq
  | ok fl =>
    cases fl with
    | ret u => exact I.after hq
    | next => exact False.elim hq
    | brk => exact False.elim hq
    | cont => exact False.elim hq
def tCallG (sp : SpG) (t : TA) : TE := fun σ H Q => t σ H fun vs H1 => sp vs H1 Q
theorem pe_callG (F : FnG X.prog X.w X.K X.mg X.base k f fd ps sp) (hr : Room k X.A) (hG : X.A.guards = some []) (hg : Gl X x) (hm : X.mg x = some (.ref f)) (hk : PySem.W.keepIn X.K (.ref f) = true) (hb : Binds X.K fd ps [])
    (ha : PA X (e :: es) t) (hdb : (x == ("__debug__" : Str)) = false) (he : starEach (e :: es) X.env = (false, eval e X.env) :: starEach es X.env) (hpl : (backTo pos (starEach es X.env)).any (·.1) = false) :
    PE X (.Call (.Name x p) (e :: es) [] pos) (tCallG sp t) := by
  refine ⟨fun pins s σ H Q I h => ?_⟩
  refine wpAny_Call_Name_kw (ld_glob I hg hm ?_ hdb)
  refine PySem.W.callWith_K (h₀ := X.base) I.ok.mod.kin hk (thn (ha.run pos pins s σ H _ I h) fun us s1 ⟨vs, H1, I1, r, q⟩ => ⟨I1.kIn, ?_⟩) he hpl
  exact run_fnG F hr hG hb I1 r q
theorem pe_callG0 (F : FnG X.prog X.w X.K X.mg X.base k f fd ps sp) (hr : Room k X.A) (hG : X.A.guards = some []) (hg : Gl X x) (hm : X.mg x = some (.ref f)) (hk : PySem.W.keepIn X.K (.ref f) = true) (hb : Binds X.K fd ps [])
    (hdb : (x == ("__debug__" : Str)) = false) : PE X (.Call (.Name x p) [] [] pos) (tCallG sp tNil) := by
  refine ⟨fun pins s σ H Q I h => ?_⟩
  refine wpAny_Call_Name_kw (ld_glob I hg hm ?_ hdb)
  exact PySem.W.callWith_K0 I.kIn hk (run_fnG (us := []) F hr hG hb I .nil h)
end
structure Pre (K : PySem.W.Frag) (av : Addr → Prop) (ρ : List CA) (H : Hp) (m : MH) : Prop where
  fnd : (foot ρ).Nodup
  fav : ∀ p ∈ foot ρ, ¬ av p ∧ (∀ xs, H p ≠ some (.tup xs)) ∧ H p ≠ none
  avd : ∀ p, av p → H p ≠ none
  ml : m.length = ρ.length
  cells : ∀ (n : Nat) (c : CA) (x : Cell), ρ[n]? = some c → m[n]? = some x → CellOk K H (aR av ρ none) ρ c x
def spOf (K : PySem.W.Frag) (F : CallF) (f : Nat) : SpG := fun vs H Q => ∃ av ρ as m d fresh m', Pre K av ρ H m ∧ Paired (ArgR K H (aR av ρ none) ρ) as vs ∧ F f as m = .ok (d, fresh) m' ∧ ∀ v H' ρ', RetOk K av H ρ d fresh m' v H' ρ' → Q v H'
section
variable {K : PySem.W.Frag} {F : CallF} {av : Addr → Prop} {H0 H H1 H2 H' : Hp} {ρ0 ρ ρ1 ρ2 ρ' : List CA} {σ : L2.St} {env : Env} {lo lo1 lo2 lo' : Lo} {m m1 m2 m' : MH}
theorem slot_start {as : List Arg} {vs : List V} (r : Paired (ArgR K H (aR av ρ none) ρ) as vs) : ∀ i : Nat, (as[i]? = none ∧ vs[i]? = none) ∨ ∃ a v, as[i]? = some a ∧ vs[i]? = some v ∧ ArgR K H (aR av ρ none) ρ a v := by
  induction r with
  | nil => intro i; exact .inl ⟨rfl, rfl⟩
  | cons h t ih =>
    intro i
    cases i with
    | zero => exact .inr ⟨_, _, rfl, rfl, h⟩
    | succ i => exact ih i
theorem at_start {fd : FD} {N : List Str} {as : List Arg} {vs : List V} (p : Pre K av ρ H m) (r : Paired (ArgR K H (aR av ρ none) ρ) as vs) (hN : N.length = fd.nl) (hl : as.length ≤ fd.nl) : At K av H ρ ρ (fun _ => none) (L2.start N vs) H (startEnv fd as) m := by
  have hA : ∀ a, aA av ρ (fun _ => none) a → aR av ρ none a ∨ H a = none := fun a z => by
    rcases z with z | z | ⟨_, z⟩
    · exact .inl (.inl z)
    · exact .inl (.inr (.inl z))
    · cases z
  have he : ∀ (n : Nat) (c : CA), ρ[n]? = some c → ∃ c', ρ[n]? = some c' ∧ c'.a = c.a := fun n c e => ⟨c, e, rfl⟩
  have hlen := Paired.length r
  refine ⟨⟨?_, fun i s e => ?_, fun i j p z => (nomatch z), fun i p z => (nomatch z), p.fnd, p.fav, p.avd, p.ml, fun n c x e1 e2 => (p.cells n c x e1 e2).mono Stays.refl hA he fun o q => q, Ext.refl, Keeps.refl⟩, rfl, 0, fun _ _ => rfl⟩
  · unfold startEnv L2.start
    rw [List.length_append, List.length_append, List.length_map, List.length_map, List.length_replicate, List.length_replicate]
    omega
  · rcases slot_start r i with ⟨h1, h2⟩ | ⟨a, v, h1, h2, q⟩
    · have hi : as.length ≤ i := List.getElem?_eq_none_iff.mp h1
      unfold startEnv at e
      rw [List.getElem?_append_right (by simpa using hi), List.getElem?_replicate] at e
      split at e <;> cases e
      rfl
    · have hi : i < as.length := (List.getElem?_eq_some_iff.mp h1).1
      unfold startEnv at e
      rw [List.getElem?_append_left (by simpa using hi), List.getElem?_map, h1] at e
      have es : (L2.start N vs)[i]? = some (some v) := by
        unfold L2.start
        rw [List.getElem?_append_left (by simpa using (by omega : i < vs.length)), List.getElem?_map, h2]
        rfl
      obtain ⟨d, b⟩ := a
      cases b with
      | false =>
        cases e
        rcases q with ⟨_, q⟩ | ⟨z, _⟩
        · exact ⟨rfl, v, es, q.mono Stays.refl hA he⟩
        · cases z
      | true =>
        cases e
        rcases q with ⟨z, _⟩ | ⟨_, p, rfl, hp, hf, q⟩
        · cases z
        · refine ⟨rfl, p, es, ?_, q.mono Stays.refl hA he fun _ e => e⟩
          rcases hp with hp | hp | hp
          · exact hp
          · exact absurd hp hf
          · cases hp
theorem body_ok {X : Cx} {FT : Nat → Option FD} {W n f : Nat} {fd : FD} {N : List Str} {body : List Stmt} {vs : List V} {H : Hp} {Q : VK} (hf : FT f = some fd) (hN : N.length = fd.nl) (hnp : fd.np ≤ fd.nl)
    (hb : PSs X body (tSs X.K (callF FT W n) W fd.body)) (h : spOf X.K (callF FT W (n + 1)) f vs H Q) : ∃ t, PSs X body t ∧ t { nx := fun _ H' => Q .non H', rt := Q } (L2.start N vs) H := by
  refine ⟨_, hb, ?_⟩
  obtain ⟨av, ρ, as, m, d, fresh, m', p, r, e, q⟩ := h
  simp only [callF, hf] at e
  split at e
  · rename_i hl
    have a0 := at_start (N := N) (fd := fd) p r hN (by omega)
    refine ⟨av, H, ρ, ρ, _, startEnv fd as, m, a0, ?_⟩
    cases hr : evalSs (callF FT W n) W fd.body (startEnv fd as) m with
    | nx e1 m1 =>
      rw [hr] at e
      cases e
      exact fun σ' H' ρ' lo' s => q .non H' ρ' (ret_sh s.at'.st rfl)
    | ret d' f' m1 =>
      rw [hr] at e
      cases e
      exact fun v H' ρ' rt => q v H' ρ' rt
    | brk e1 m1 => rw [hr] at e; cases e
    | cnt e1 m1 => rw [hr] at e; cases e
    | bad => rw [hr] at e; cases e
  · cases e
theorem sp_len {FT : Nat → Option FD} {W n f : Nat} {fd : FD} {ps : List Str} {vs : List V} {H : Hp} {Q : VK} (hf : FT f = some fd) (hp : ps.length = fd.np) (h : spOf K (callF FT W n) f vs H Q) : vs.length = ps.length := by
  obtain ⟨av, ρ, as, m, d, fresh, m', p, r, e, q⟩ := h
  cases n with
  | zero => cases e
  | succ n =>
    simp only [callF, hf] at e
    split at e
    · rename_i hl
      rw [← Paired.length r, hl, hp]
    · cases e
theorem call_back (a : At K av H0 ρ0 ρ lo σ H env m) {d : D} {fresh : Bool} {v : V} (r : RetOk K (fun x => av x ∨ ∃ i, lo i = some x) H ρ d fresh m' v H' ρ') :
    ∃ lo', Step K av H0 ρ0 σ env ρ lo H ρ' lo' H' m' ∧ VOk K H' (aA av ρ' lo') av ρ' lo' env.length (d, if fresh then .fr else .sh) v := by
  obtain ⟨o, hc, hv⟩ := r.val
  have st := a.st.stays r.keep
  have same : ∀ {lo' : Lo}, (∀ i p, lo' i = some p → lo i = some p ∨ o = some p) → (∀ i p, lo i = some p → lo' i = some p) → (∀ p, o = some p → ∃ i, lo' i = some p) → (∀ x, aR (fun x => av x ∨ ∃ i, lo i = some x) ρ' o x → aA av ρ' lo' x) ∧ ∀ x, aA av ρ' lo' x → aR (fun x => av x ∨ ∃ i, lo i = some x) ρ' o x := fun {lo'} h1 h2 h3 => ⟨fun x z => by
      rcases z with (z | ⟨i, z⟩) | z | z
      · exact .inl z
      · exact .inr (.inr ⟨i, h2 i x z⟩)
      · exact .inr (.inl z)
      · exact .inr (.inr (h3 x z)), fun x z => by
      rcases z with z | z | ⟨i, z⟩
      · exact .inl (.inl z)
      · exact .inr (.inl z)
      · rcases h1 i x z with z | z
        · exact .inl (.inr ⟨i, z⟩)
        · exact .inr (.inr z)⟩
  have he : ∀ (n : Nat) (c : CA), ρ'[n]? = some c → ∃ c', ρ'[n]? = some c' ∧ c'.a = c.a := fun n c e => ⟨c, e, rfl⟩
  have mk : ∀ {lo' : Lo}, (∀ i p, lo' i = some p → lo i = some p ∨ o = some p) → (∀ i p, lo i = some p → lo' i = some p) → (∀ p, o = some p → ∃ i, lo' i = some p) → (∀ i, i ≠ env.length → lo' i = lo i) → (∀ i j p, lo' i = some p → lo' j = some p → i = j) →
      (∀ p, o = some p → H p = none ∧ ¬ av p ∧ p ∉ foot ρ' ∧ H' p ≠ none ∧ ∀ xs, H' p ≠ some (.tup xs)) → Stt K av H0 ρ0 ρ' lo' σ H' env m' := fun {lo'} h1 h2 h3 h4 h5 h6 => by
    obtain ⟨sub1, sub2⟩ := same h1 h2 h3
    have hA : ∀ x, aA av ρ' lo' x → aA av ρ lo x ∨ H x = none := fun x z => by
      rcases z with z | z | ⟨i, z⟩
      · exact .inl (.inl z)
      · exact (r.ext.new x z).imp (fun z => .inr (.inl z)) id
      · rcases h1 i x z with z | z
        · exact .inl (.inr (.inr ⟨i, z⟩))
        · exact .inr (h6 x z).1
    refine ⟨a.st.len, fun i s e => ?_, h5, fun i p e => ?_, r.fnd, fun p hp => ?_, a.st.avd, r.ml, fun n c x e1 e2 => (hc n c x e1 e2).mono Stays.refl (fun x z => .inl (sub2 x z)) he fun o q => q, a.st.ext.trans (fun p o h n => a.st.keep.keep p o h n) a.st.keep.dom r.ext, a.st.keep.trans a.st.ext r.keep⟩
    · have hi := (List.getElem?_eq_some_iff.mp e).1
      refine (a.st.slot i s e).mono st hA r.ext.same (fun p o' hp eo => r.keep.keep p o' eo fun z => ?_) (h4 i (by omega))
      rcases hp with hp | hp
      · exact (a.st.loF i p hp).2.1 z
      · exact (a.st.fav p z).1 hp
    · rcases h1 i p e with e | e
      · obtain ⟨f1, f2, f3, f4, f5⟩ := a.st.loF i p e
        cases q : H p with
        | none => exact absurd q f4
        | some o' =>
          have k := r.keep.keep p o' q f2
          refine ⟨f1, fun z => ?_, f3, (fun z => by rw [k] at z; cases z), fun xs z => by rw [k] at z; cases z; exact f5 xs q⟩
          rcases r.ext.new p z with z | z
          · exact f2 z
          · exact f4 z
      · obtain ⟨g1, g2, g3, g4, g5⟩ := h6 p e
        refine ⟨g2, g3, ?_, g4, g5⟩
        cases q : H0 p with
        | none => rfl
        | some o' => exact absurd g1 (a.st.keep.dom p (by rw [q]; exact fun z => nomatch z))
    · obtain ⟨g1, g2, g3⟩ := r.fav p hp
      exact ⟨fun z => g1 (.inl z), g2, g3⟩
  cases fresh with
  | false =>
    obtain ⟨rfl, hr⟩ := hv
    obtain ⟨sub1, sub2⟩ := same (lo' := lo) (fun _ _ z => .inl z) (fun _ _ z => z) (by intro p z; cases z)
    refine ⟨lo, ⟨mk (fun _ _ z => .inl z) (fun _ _ z => z) (by intro p z; cases z) (fun _ _ => rfl) a.st.inj (by intro p z; cases z), fun _ _ => rfl, fun p e => (by rw [a.hl] at e; cases e), r.keep, r.ext⟩, ?_⟩
    exact RelD.mono Stays.refl (fun x z => .inl (sub2 x z)) he d v hr
  | true =>
    obtain ⟨p, rfl, rfl, hp, hnav, hnf, ho⟩ := hv
    have hnlo : ∀ i, lo i ≠ some p := fun i z => hnav (.inr ⟨i, z⟩)
    have h1 : ∀ i q, loS lo env.length p i = some q → lo i = some q ∨ some p = some q := fun i q e => by
      by_cases z : i = env.length
      · subst z; rw [loS_same] at e; exact .inr e
      · rw [loS_ne z] at e; exact .inl e
    have h2 : ∀ i q, lo i = some q → loS lo env.length p i = some q := fun i q e => by
      by_cases z : i = env.length
      · subst z; rw [a.hl] at e; cases e
      · rw [loS_ne z]; exact e
    have h3 : ∀ q, some p = some q → ∃ i, loS lo env.length p i = some q := fun q e => ⟨_, loS_same.trans e⟩
    obtain ⟨sub1, sub2⟩ := same h1 h2 h3
    refine ⟨loS lo env.length p, ⟨mk h1 h2 h3 (fun i z => loS_ne z) (fun i j q e1 e2 => ?_) fun q e => ?_, fun i z => loS_ne z, fun q e => ?_, r.keep, r.ext⟩, p, rfl, loS_same, ho.mono Stays.refl (fun x z => .inl (sub2 x z)) he fun _ e => e⟩
    · by_cases z1 : i = env.length
      · by_cases z2 : j = env.length
        · rw [z1, z2]
        · rw [z1, loS_same] at e1; cases e1; rw [loS_ne z2] at e2; exact absurd e2 (hnlo j)
      · rw [loS_ne z1] at e1
        by_cases z2 : j = env.length
        · rw [z2, loS_same] at e2; cases e2; exact absurd e1 (hnlo i)
        · rw [loS_ne z2] at e2; exact a.st.inj _ _ _ e1 e2
    · cases e; exact ⟨hp, fun z => hnav (.inl z), hnf, ho.there, ho.notTup⟩
    · rw [loS_same] at e; cases e; exact hp
theorem call_pre (a : At K av H0 ρ0 ρ lo σ H env m) : Pre K (fun x => av x ∨ ∃ i, lo i = some x) ρ H m := by
  refine ⟨a.st.fnd, fun p hp => ?_, fun p hp => ?_, a.st.ml, fun n c x e1 e2 => (a.st.cells n c x e1 e2).mono Stays.refl (fun x z => .inl ?_) (fun n c e => ⟨c, e, rfl⟩) fun o q => q⟩
  · obtain ⟨h1, h2, h3⟩ := a.st.fav p hp
    refine ⟨fun z => ?_, h2, h3⟩
    rcases z with z | ⟨i, z⟩
    · exact h1 z
    · exact (a.st.loF i p z).2.1 hp
  · rcases hp with z | ⟨i, z⟩
    · exact a.st.keep.dom p (a.st.avd p z)
    · exact (a.st.loF i p z).2.2.2.1
  · rcases z with (z | z) | z | z
    · exact .inl z
    · exact .inr (.inr z)
    · exact .inr (.inl z)
    · cases z
theorem call_args (a : At K av H0 ρ0 ρ lo σ H env m) : ∀ {as : List Arg} {vs : List V}, Paired (ArgR K H (aA av ρ lo) ρ) as vs → Paired (ArgR K H (aR (fun x => av x ∨ ∃ i, lo i = some x) ρ none) ρ) as vs
  | _, _, .nil => .nil
  | _, _, .cons r t => .cons (by
      have hA : ∀ x, aR (fun x => av x ∨ ∃ i, lo i = some x) ρ none x → aA av ρ lo x ∨ H x = none := fun x z => .inl (by
        rcases z with (z | z) | z | z
        · exact .inl z
        · exact .inr (.inr z)
        · exact .inr (.inl z)
        · cases z)
      rcases r with ⟨e, r⟩ | ⟨e, p, rfl, hp, hf, o⟩
      · exact .inl ⟨e, r.mono Stays.refl hA fun n c e => ⟨c, e, rfl⟩⟩
      · refine .inr ⟨e, p, rfl, ?_, hf, o.mono Stays.refl hA (fun n c e => ⟨c, e, rfl⟩) fun _ e => e⟩
        rcases hp with hp | hp | hp
        · exact .inl (.inl hp)
        · exact .inr (.inl hp)
        · exact .inl (.inr hp)) (call_args a t)
end
section
variable {X : Cx} {F : CallF} {k : Nat} {fa : Addr} {fd : FuncData} {ps : List Str} {f : Nat} {x : Str} {p pos : Pos} {es : List Expr} {ees : List E}
theorem call_reads (K : PySem.W.Frag) {σ : L2.St} {H : Hp} {Q : VK} (h : tE K F (.call f ees) σ H Q) : tCallG (spOf K F f) (tAs K F ees) σ H Q := by
  obtain ⟨av, H0, ρ0, ρ, lo, env, m, x, m', a, he, q⟩ := h
  simp only [evalE] at he
  obtain ⟨as, m1, h1, he⟩ := bind_ok he
  obtain ⟨r, m2, h2, he⟩ := bind_ok he
  cases he
  refine ⟨av, H0, ρ0, ρ, lo, env, m, as, m1, a, h1, fun vs H1 ρ1 lo1 s1 l1 p1 => ?_⟩
  have a1 := s1.at l1 a
  refine ⟨_, ρ1, as, m1, r.1, r.2, _, call_pre a1, call_args a1 p1, h2, fun v H2 ρ2 rt => ?_⟩
  obtain ⟨lo2, s2, v2⟩ := call_back a1 rt
  exact q v H2 ρ2 lo2 (s1.trans s2) v2
theorem s_call0 (Fn : FnG X.prog X.w X.K X.mg X.base k fa fd ps (spOf X.K F f)) (hr : Room k X.A) (hG : X.A.guards = some []) (hg : Gl X x) (hm : X.mg x = some (.ref fa)) (hk : PySem.W.keepIn X.K (.ref fa) = true) (hb : Binds X.K fd ps [])
    (hdb : (x == ("__debug__" : Str)) = false) : PE X (.Call (.Name x p) [] [] pos) (tE X.K F (.call f [])) :=
  PE.imp (pe_callG0 Fn hr hG hg hm hk hb hdb) fun σ H Q h => by
    obtain ⟨av, H0, ρ0, ρ, lo, env, m, as, m1, a, h1, q⟩ := call_reads X.K h
    cases h1
    exact q [] H ρ lo a.refl a.hl .nil
theorem s_call {e : Expr} {es : List Expr} (Fn : FnG X.prog X.w X.K X.mg X.base k fa fd ps (spOf X.K F f)) (hr : Room k X.A) (hG : X.A.guards = some []) (hg : Gl X x) (hm : X.mg x = some (.ref fa)) (hk : PySem.W.keepIn X.K (.ref fa) = true) (hb : Binds X.K fd ps [])
    (hdb : (x == ("__debug__" : Str)) = false) (hn : ∀ z ∈ e :: es, NoStar z) (ha : PA X (e :: es) (tAs X.K F ees)) : PE X (.Call (.Name x p) (e :: es) [] pos) (tE X.K F (.call f ees)) :=
  PE.imp (pe_callG Fn hr hG hg hm hk hb ha hdb (star_ok (hn e List.mem_cons_self)) (nost fun x hx => hn x (List.mem_cons_of_mem _ hx))) fun σ H Q h => call_reads X.K h
end
end MP
namespace MP
open PySem PySem.Spec PyProof.Rows L2
section
variable {X : Cx} {F : CallF} {W : Nat} {e b : Expr} {ee eb : E} {pos : Pos}
theorem RelDs.eraseIdx {K : PySem.W.Frag} {H : Hp} {A : Addr → Prop} {ρ : List CA} : ∀ {ds : List D} {vs : List V} (n : Nat), RelDs K H A ρ ds vs → RelDs K H A ρ (ds.eraseIdx n) (vs.eraseIdx n)
  | [], _, n, h => by cases h; rfl
  | d :: ds, _, 0, h => by obtain ⟨v, r, rfl, h1, h2⟩ := h; exact h2
  | d :: ds, _, n + 1, h => by obtain ⟨v, r, rfl, h1, h2⟩ := h; exact ⟨v, _, rfl, h1, RelDs.eraseIdx n h2⟩
end
section
variable {K : PySem.W.Frag} {H : Hp} {A A' : Addr → Prop} {ρ : List CA}
mutual
theorem RelD.cut (hA : ∀ a, A' a → A a) : ∀ (d : D) (v : V), noObj d = true → RelD K H A ρ d v → RelD K H A' [] d v
  | .non, _, _, h => h
  | .bl _, _, _, h => h
  | .int _, _, _, h => h
  | .str _, _, _, h => h
  | .tup ds, _, n, h => by
    obtain ⟨a, xs, e, h1, h2⟩ := h
    exact ⟨a, xs, e, h1, RelDs.cut hA ds xs n h2⟩
  | .lst ds, _, n, h => by
    obtain ⟨a, xs, e, h1, na, h2⟩ := h
    exact ⟨a, xs, e, h1, fun z => na (hA a z), RelDs.cut hA ds xs n h2⟩
  | .dK ds, _, n, h => by
    obtain ⟨a, xs, e, h1, na, h2⟩ := h
    exact ⟨a, xs, e, h1, fun z => na (hA a z), RelK.cut hA ds xs n h2⟩
  | .dT ds, _, n, h => by
    obtain ⟨a, xs, e, h1, na, h2⟩ := h
    exact ⟨a, xs, e, h1, fun z => na (hA a z), RelT.cut hA ds xs n h2⟩
  | .obj _, _, n, _ => nomatch n
  | .scr ns, _, _, h => by
    obtain ⟨a, e, h⟩ := h
    exact ⟨a, e, h.imp (fun ⟨o, h1, na⟩ => ⟨o, h1, fun z => na (hA a z)⟩) id⟩
theorem RelDs.cut (hA : ∀ a, A' a → A a) : ∀ (ds : List D) (vs : List V), noObjs ds = true → RelDs K H A ρ ds vs → RelDs K H A' [] ds vs
  | [], _, _, h => h
  | d :: ds, _, n, h => by
    obtain ⟨v, r, e, h1, h2⟩ := h
    have n' : noObj d = true ∧ noObjs ds = true := by simpa [noObjs] using n
    exact ⟨v, r, e, RelD.cut hA d v n'.1 h1, RelDs.cut hA ds r n'.2 h2⟩
theorem RelK.cut (hA : ∀ a, A' a → A a) : ∀ (ds : List (Key × D)) (vs : List (Key × V)), noObjK ds = true → RelK K H A ρ ds vs → RelK K H A' [] ds vs
  | [], _, _, h => h
  | (k, d) :: ds, _, n, h => by
    obtain ⟨v, r, e, h1, h2⟩ := h
    have n' : noObj d = true ∧ noObjK ds = true := by simpa [noObjK] using n
    exact ⟨v, r, e, RelD.cut hA d v n'.1 h1, RelK.cut hA ds r n'.2 h2⟩
theorem RelT.cut (hA : ∀ a, A' a → A a) : ∀ (ds : List (List Key × D)) (vs : List (List Key × V)), noObjT ds = true → RelT K H A ρ ds vs → RelT K H A' [] ds vs
  | [], _, _, h => h
  | (k, d) :: ds, _, n, h => by
    obtain ⟨v, r, e, h1, h2⟩ := h
    have n' : noObj d = true ∧ noObjT ds = true := by simpa [noObjT] using n
    exact ⟨v, r, e, RelD.cut hA d v n'.1 h1, RelT.cut hA ds r n'.2 h2⟩
end
end
section
variable {K : PySem.W.Frag} {F : CallF} {av : Addr → Prop} {H0 H H1 H2 H' : Hp} {ρ0 ρ ρ1 ρ2 ρ' : List CA} {σ : L2.St} {env : Env} {lo lo1 lo2 lo' : Lo} {m m1 m2 m' : MH}
def avZ (av : Addr → Prop) (lo : Lo) : Addr → Prop := fun x => av x ∨ ∃ i, lo i = some x
mutual
theorem RelD.dz (s : Stt K av H0 ρ0 ρ lo σ H env m) : ∀ (d : D) (v : V) (d' : D), RelD K H (aA av ρ lo) ρ d v → dz m d = some d' → RelD K H (aR (avZ av lo) [] none) [] d' v
  | .non, _, _, h, e => by cases e; exact h
  | .bl _, _, _, h, e => by cases e; exact h
  | .int _, _, _, h, e => by cases e; exact h
  | .str _, _, _, h, e => by cases e; exact h
  | .tup ds, _, _, h, e => by
    simp only [MP.dz, Option.map_eq_some_iff] at e
    obtain ⟨ds', e1, rfl⟩ := e
    obtain ⟨a, xs, rfl, h1, h2⟩ := h
    exact ⟨a, xs, rfl, h1, RelDs.dz s ds xs ds' h2 e1⟩
  | .lst ds, _, _, h, e => by
    simp only [MP.dz, Option.map_eq_some_iff] at e
    obtain ⟨ds', e1, rfl⟩ := e
    obtain ⟨a, xs, rfl, h1, na, h2⟩ := h
    refine ⟨a, xs, rfl, h1, fun z => na ?_, RelDs.dz s ds xs ds' h2 e1⟩
    rcases z with (z | z) | z | z
    · exact .inl z
    · exact .inr (.inr z)
    · cases z
    · cases z
  | .dK ds, v, _, h, e => by
    simp only [MP.dz] at e
    split at e <;> cases e
    rename_i hn
    refine RelD.cut (fun a z => ?_) (.dK ds) v hn h
    rcases z with (z | z) | z | z
    · exact .inl z
    · exact .inr (.inr z)
    · cases z
    · cases z
  | .dT ds, v, _, h, e => by
    simp only [MP.dz] at e
    split at e <;> cases e
    rename_i hn
    refine RelD.cut (fun a z => ?_) (.dT ds) v hn h
    rcases z with (z | z) | z | z
    · exact .inl z
    · exact .inr (.inr z)
    · cases z
    · cases z
  | .obj n, _, _, h, e => by
    obtain ⟨c, hc, rfl⟩ := h
    have hcl : ∀ c0 : CA, ρ[n]? = some c0 → c0.dead = false → (¬ aR (avZ av lo) [] none c0.a) := fun c0 hc hdd z => by
      have hf := mem_foot hc hdd
      rcases z with (z | ⟨i, z⟩) | z | z
      · exact (s.fav _ hf).1 z
      · exact (s.loF i _ z).2.1 hf
      · cases z
      · cases z
    have hsub : ∀ a, aR (avZ av lo) [] none a → aA av ρ lo a := fun a z => by
      rcases z with (z | z) | z | z
      · exact .inl z
      · exact .inr (.inr z)
      · cases z
      · cases z
    simp only [MP.dz] at e
    split at e <;> first | (cases e; done) | skip
    · rename_i ds hm
      split at e <;> cases e
      rename_i hn
      obtain ⟨⟨_, hdd⟩, xs, h3, h4⟩ := s.cells n c _ hc hm
      exact ⟨c.a, xs, rfl, h3, hcl c hc hdd, RelDs.cut hsub ds xs hn h4⟩
    · rename_i ds hm
      split at e <;> cases e
      rename_i hn
      obtain ⟨⟨_, hdd⟩, xs, h3, h4⟩ := s.cells n c _ hc hm
      exact ⟨c.a, xs, rfl, .inl h3, hcl c hc hdd, RelK.cut hsub ds xs hn h4⟩
    · rename_i ds hm
      split at e <;> cases e
      rename_i hn
      obtain ⟨⟨_, hdd⟩, xs, h3, h4⟩ := s.cells n c _ hc hm
      exact ⟨c.a, xs, rfl, .inl h3, hcl c hc hdd, RelT.cut hsub ds xs hn h4⟩
  | .scr ns, v, _, h, e => by
    cases e
    refine RelD.cut (fun a z => ?_) (.scr ns) v rfl h
    rcases z with (z | z) | z | z
    · exact .inl z
    · exact .inr (.inr z)
    · cases z
    · cases z
theorem RelDs.dz (s : Stt K av H0 ρ0 ρ lo σ H env m) : ∀ (ds : List D) (vs : List V) (ds' : List D), RelDs K H (aA av ρ lo) ρ ds vs → dzs m ds = some ds' → RelDs K H (aR (avZ av lo) [] none) [] ds' vs
  | [], _, _, h, e => by cases e; exact h
  | d :: ds, _, _, h, e => by
    obtain ⟨v, r, rfl, h1, h2⟩ := h
    simp only [MP.dzs, Option.bind_eq_some_iff, Option.map_eq_some_iff] at e
    obtain ⟨d', e1, ds', e2, rfl⟩ := e
    exact ⟨v, r, rfl, RelD.dz s d v d' h1 e1, RelDs.dz s ds r ds' h2 e2⟩
end
end
section
variable {X : Cx} {F : CallF} {k : Nat} {fa : Addr} {fd : FuncData} {ps : List Str} {f : Nat} {x : Str} {p pos : Pos} {es : List Expr} {ees : List E}
end
section
variable {X : Cx} {F : CallF} {W : Nat} {e : Expr} {ee : E} {pos : Pos}
end
end MP
namespace MP
open PySem PySem.Spec L2
def plainRB : Expr → Bool | .Name .. => true | .Attribute .. => true | .Subscript .. => true | _ => false
theorem plainR_ok {e : Expr} (h : plainRB e = true) {m : Str} {env : PySem.Env} : attributeBase e m env (eval e env) = eval e env := by
  cases e <;> first | rfl | cases h
theorem RelF.get {K : PySem.W.Frag} {H : Hp} {A : Addr → Prop} {ρ : List CA} {fs : List (Str × D)} {ws : List (Str × V)} (r : RelF K H A ρ fs ws) {f : Str} {d : D} (h : fs.lookup f = some d) : ∃ v, ws.lookup f = some v ∧ RelD K H A ρ d v := by
  unfold RelF at r
  induction r with
  | nil => cases h
  | @cons p q ps qs hp t ih =>
    obtain ⟨g, x⟩ := p
    obtain ⟨g', y⟩ := q
    obtain ⟨e, hr⟩ := hp
    have e : g = g' := e
    subst e
    rw [List.lookup_cons] at h ⊢
    split at h
    · cases h; exact ⟨y, rfl, hr⟩
    · exact ih h
theorem RelF.none {K : PySem.W.Frag} {H : Hp} {A : Addr → Prop} {ρ : List CA} {fs : List (Str × D)} {ws : List (Str × V)} (r : RelF K H A ρ fs ws) {f : Str} (h : fs.lookup f = none) : ws.lookup f = none := by
  unfold RelF at r
  induction r with
  | nil => rfl
  | @cons p q ps qs hp t ih =>
    obtain ⟨g, x⟩ := p
    obtain ⟨g', y⟩ := q
    obtain ⟨e, hr⟩ := hp
    have e : g = g' := e
    subst e
    rw [List.lookup_cons] at h ⊢
    split at h
    · cases h
    · exact ih h
theorem RelF.put {K : PySem.W.Frag} {H : Hp} {A : Addr → Prop} {ρ : List CA} {fs : List (Str × D)} {ws : List (Str × V)} (r : RelF K H A ρ fs ws) {f : Str} {d : D} {v : V} (h : RelD K H A ρ d v) : RelF K H A ρ (putFD f d fs) (putF f v ws) := by
  unfold RelF at r ⊢
  induction r with
  | nil => exact .cons ⟨rfl, h⟩ .nil
  | @cons p q ps qs hp t ih =>
    obtain ⟨g, x⟩ := p
    obtain ⟨g', y⟩ := q
    obtain ⟨e, hr⟩ := hp
    have e : g = g' := e
    subst e
    unfold putFD putF
    by_cases hg : g = f
    · rw [if_pos hg, if_pos hg]; exact .cons ⟨rfl, h⟩ t
    · rw [if_neg hg, if_neg hg]; exact .cons ⟨rfl, hr⟩ ih
theorem RelF.length {K : PySem.W.Frag} {H : Hp} {A : Addr → Prop} {ρ : List CA} {fs : List (Str × D)} {ws : List (Str × V)} (r : RelF K H A ρ fs ws) : fs.length = ws.length := Paired.length r
structure ClsK (K : PySem.W.Frag) (x : Str) (C : Addr) : Prop where
  at_ : PySem.W.nsIn K mainGlobals x = some (some (.ref C))
  cls : Cls K C
theorem ClsK.uniq {K : PySem.W.Frag} {x : Str} {C C' : Addr} (h : ClsK K x C) (h' : PySem.W.nsIn K mainGlobals x = some (some (.ref C'))) : C' = C := by
  have := h.at_
  rw [h'] at this
  cases this
  rfl
section
variable {X : Cx} {F : CallF} {W : Nat} {e a b : Expr} {ee ea eb : E} {pos : Pos} {y f : Str} {C : Addr}
theorem bindIf {p : Prop} [Decidable p] {α : Type} {r : Res α} {x : α} {m : MH} (h : (if p then r else .bad) = .ok x m) : p ∧ r = .ok x m := by
  split at h
  · rename_i hp; exact ⟨hp, h⟩
  · cases h
variable {o k d0 : Expr} {eo ek ed : E} {pa pc : Pos}
end
end MP
namespace MP
open PySem PySem.Spec L2
section
variable {K : PySem.W.Frag} {av : Addr → Prop} {H0 H H1 H2 H' : Hp} {ρ0 ρ ρ1 ρ2 ρ' : List CA} {σ σ1 σ2 σ' : L2.St} {env env1 env2 env' : Env} {lo lo1 lo2 lo' : Lo} {m m1 m2 m' : MH}
theorem insOf_ok {d : D} {n : Nat} {y : Str} {fs : List (Str × D)} (h : insOf m d = some (n, y, fs)) : d = .obj n ∧ m[n]? = some (.ins y fs) := by
  unfold insOf at h
  split at h <;> first | (cases h; done) | skip
  rename_i k
  cases hm : m[k]? with
  | none => rw [hm] at h; cases h
  | some c =>
    rw [hm] at h
    cases c <;> first | (cases h; done) | skip
    cases h
    exact ⟨rfl, hm⟩
theorem RelD.wr {A : Addr → Prop} {p : Addr} {u u' : HO} (hA : A p) (hx : H p = some u) (hu : ∀ zs, u ≠ .tup zs) {d : D} {v : V} (r : RelD K H A ρ d v) : RelD K (upd H p u') A ρ d v :=
  r.mono (upd_staysG hA hx hu) (fun a z => .inl z) fun n c e => ⟨c, e, rfl⟩
theorem RelK.wr {A : Addr → Prop} {p : Addr} {u u' : HO} (hA : A p) (hx : H p = some u) (hu : ∀ zs, u ≠ .tup zs) {d : List (Key × D)} {v : List (Key × V)} (r : RelK K H A ρ d v) : RelK K (upd H p u') A ρ d v :=
  r.mono (upd_staysG hA hx hu) (fun a z => .inl z) fun n c e => ⟨c, e, rfl⟩
theorem RelT.wr {A : Addr → Prop} {p : Addr} {u u' : HO} (hA : A p) (hx : H p = some u) (hu : ∀ zs, u ≠ .tup zs) {d : List (List Key × D)} {v : List (List Key × V)} (r : RelT K H A ρ d v) : RelT K (upd H p u') A ρ d v :=
  r.mono (upd_staysG hA hx hu) (fun a z => .inl z) fun n c e => ⟨c, e, rfl⟩
theorem RelF.wr {A : Addr → Prop} {p : Addr} {u u' : HO} (hA : A p) (hx : H p = some u) (hu : ∀ zs, u ≠ .tup zs) {d : List (Str × D)} {v : List (Str × V)} (r : RelF K H A ρ d v) : RelF K (upd H p u') A ρ d v :=
  r.mono (upd_staysG hA hx hu) (fun a z => .inl z) fun n c e => ⟨c, e, rfl⟩
end
section
variable {X : Cx} {F : CallF} {W : Nat} {o e k x : Expr} {eo ee ek ex : E} {pos pos' : Pos} {y f : Str} {C : Addr}
end
end MP
namespace MP
open PySem PySem.Spec L2
section
variable {X : Cx} {o : Expr} {f : Str} {to : TE} {pos : Pos}
end
section
variable {X : Cx} {F : CallF} {W : Nat} {o e : Expr} {eo ee : E} {pos pn pf : Pos} {y f n : Str} {C : Addr} {i kt : Nat} {pt : Pos}
end
section
variable {X : Cx} {body : List Stmt} {h₀ : ExceptHandler} {hs : List ExceptHandler} {t : TS} {pos : Pos}
end
end MP
namespace MP
open PySem PySem.Spec L2
section
variable {X : Cx}
end
section
variable {X : Cx} {F : CallF} {a b c : Expr} {ea eb ec : E} {p pos : Pos}
end
end MP
namespace MP
open PySem PySem.Spec PyProof.Rows L2
section
variable {X : Cx}
end
section
variable {K : PySem.W.Frag} {H : Hp} {ρ : List CA}
theorem RelG.drop {κ : Type} [DecidableEq κ] {A : Addr → Prop} (k : κ) : ∀ {kvs : List (κ × D)} {ws : List (κ × V)}, RelG K H A ρ kvs ws → RelG K H A ρ (dropD kvs k) (dropK ws k)
  | _, _, .nil => .nil
  | _, _, .cons (a := p) (b := q) (l₁ := kvs) (l₂ := ws) h t => by
    have ih := RelG.drop k t
    by_cases e : p.1 = k
    · have e' : q.1 = k := h.1.symm.trans e
      have z1 : dropD (p :: kvs) k = dropD kvs k := List.filter_cons_of_neg (by simp [e])
      have z2 : dropK (q :: ws) k = dropK ws k := List.filter_cons_of_neg (by simp [e'])
      rw [z1, z2]
      exact ih
    · have e' : ¬ q.1 = k := fun z => e (h.1.trans z)
      have z1 : dropD (p :: kvs) k = p :: dropD kvs k := List.filter_cons_of_pos (by simp [e])
      have z2 : dropK (q :: ws) k = q :: dropK ws k := List.filter_cons_of_pos (by simp [e'])
      rw [z1, z2]
      exact .cons h ih
end
section
variable {X : Cx} {F : CallF} {W : Nat} {pos : Pos}
end
end MP
namespace MP
open PySem PySem.Spec PyProof.Rows L2
section
variable {X : Cx} {pins : List (Addr × Obj)} {σ : L2.St} {H : Hp} {s : Shared} {A : Around} {E : Value → Shared → Prop}
end
section
variable {X : Cx}
end
section
variable {X : Cx} {F : CallF} {W : Nat} {pos : Pos}
end
end MP
namespace MP
open PySem PySem.Spec PyProof.Rows L2
open PySem.Sem (wp)
section
variable {prog : Program} {w : World} {A : Around} {E : Value → Shared → Prop} {s : Shared} {tp tq : Bool}
theorem noe_item {it l : Addr} {i : Nat} {items : Array Value} {x : Value} {Q : Option Value → Shared → Prop} (a : SIt tp s.heap it l i) (c : SSq tp s.heap l items) (hx : items[i]? = some x)
    (q : ∀ g, SIt tp g it l (i + 1) → Heap.SameBut it s.heap g → Q (some x) { s with heap := g }) : wpAny (model prog w) A (Builtin.SmallTypes.nextOrEnd (.ref it)) Q E s := by
  unfold Builtin.SmallTypes.nextOrEnd
  exact wpAny_bind (wpAny_attempt (nx_item a c hx fun g h1 h2 => wpAny_pure (q g h1 h2)))
theorem noe_end {it l : Addr} {i : Nat} {items : Array Value} {Q : Option Value → Shared → Prop} (hh : A.handled = none) (a : SIt tp s.heap it l i) (c : SSq tp s.heap l items) (hx : items[i]? = none)
    (q : ∀ g, Heap.ExtBut it s.heap g → Q none { s with heap := g }) : wpAny (model prog w) A (Builtin.SmallTypes.nextOrEnd (.ref it)) Q E s := by
  unfold Builtin.SmallTypes.nextOrEnd
  refine wpAny_bind (wpAny_attempt (nx_end hh a c hx fun g e h1 ⟨o, ho, hc⟩ => ?_))
  exact wpAny_bind (wpAny_isInstance (T := "StopIteration") (b := true) ⟨o, ho, hc⟩ isSubtype_stop (wpAny_pure (q g h1)))
theorem stop_it {Q : PySem.Fin → Shared → Prop} (hh : A.handled = none) (q : ∀ g e, (∀ b o, s.heap.get? b = some o → g.get? b = some o) → (∃ o, g.get? e = some o ∧ o.cls = .type "StopIteration") → E (.ref e) { s with heap := g }) :
    wpAny (model prog w) A (Builtin.SmallTypes.stopIteration (α := PySem.Fin)) Q E s := by
  show wpAny _ _ (newExc (.type "StopIteration") [] >>= _) _ _ _
  refine wpAny_bind ?_
  simp only [newExc, newTuple]
  refine wpAny_bind (wpAny_newObj_type ?_ (by size_fits))
  refine wpAny_bind (m := firstArgMember _ _) (wpAny_of_eq (a := Value.none) (by first | rfl | (simp only [firstArgMember]; rfl)) ?_)
  refine wpAny_newObj_type ?_ (by size_fits)
  simp only [raiseNew]
  refine wpAny_bind (wpAny_handled ?_)
  rw [hh]
  refine wpAny_bind (wpAny_pure (wpAny_throw ?_))
  exact q _ _ (fun b o e => Heap.get?_push_of_some _ (Heap.get?_push_of_some _ e)) ⟨_, Heap.get?_push_size _ rfl, rfl⟩
def ZipRecS (h : Heap) (z TI TO : Addr) (f0 : Value) (f1 : Bool) : Prop := h.get? z = some { cls := .type "zip", dict := none, data := .fields #[f0, .bool f1, .bool true, .ref TI, .ref TO], slots := #[] }
def ZipAtS (h : Heap) (z TI TO : Addr) : Prop := ∃ f0 f1, ZipRecS h z TI TO f0 f1 ∧ Out f0
theorem zip_freeS {z TI TO : Addr} {f0 : Value} {f1 : Bool} {Q : Bool → Shared → Prop} (hz : ZipRecS s.heap z TI TO f0 f1) (ho : Out f0) (qt : Q true s) (qf : ∀ g, ZipAtS g z TI TO → Heap.SameBut z s.heap g → Q false { s with heap := g }) :
    wpAny (model prog w) A (Builtin.SmallTypes.ownedTupleIsFree (.ref z)) Q E s := by
  unfold Builtin.SmallTypes.ownedTupleIsFree
  rcases ho with rfl | ⟨T, rfl⟩
  · exact wpAny_bind (wpAny_field hz rfl (x := .none) rfl (wpAny_pure qt))
  · refine wpAny_bind (wpAny_field hz rfl (x := rawInt T) rfl ?_)
    show wpAny _ _ (loadIfAlive ((T : Int).toNat) >>= _) _ _ _
    rw [Int.toNat_natCast]
    cases hT : s.heap.get? T with
    | none =>
      have al : wpAny (model prog w) A (loadIfAlive T) (fun o s' => o = none ∧ s' = s) E s := fun _ _ _ => ⟨hT, rfl⟩
      refine wpAny_bind (wpAny_mono al (fun o s' ⟨e1, e2⟩ => ?_) fun _ _ e => e)
      subst e1 e2
      exact wpAny_pure qt
    | some o =>
      refine wpAny_bind (PySem.W.kdx_alive hT ?_)
      simp only [Option.isNone_some, Bool.false_eq_true, if_false]
      refine wpAny_bind (wpAny_field hz rfl (x := .bool f1) rfl ?_)
      cases f1 with
      | true => exact wpAny_pure (qf s.heap ⟨_, _, hz, .inr ⟨T, rfl⟩⟩ (Heap.SameBut.refl _ _))
      | false => exact wpAny_bind (wpAny_setField_rec hz (by simp) fun g hg sg => wpAny_pure (qf g ⟨_, _, hg, .inr ⟨T, rfl⟩⟩ sg))
theorem zip_itemS {z TI TO i1 i2 l1 l2 : Addr} {k1 k2 : Nat} {xs ys : Array Value} {x y : Value} {Q : Value → Shared → Prop} (D : ZipApart z TI TO i1 i2 l1 l2)
    (hz : ZipAtS s.heap z TI TO) (hTI : IsPair s.heap TI (.ref i1) (.ref i2)) (hTO : ∃ a b, IsPair s.heap TO a b) (h1 : SIt tp s.heap i1 l1 k1) (h2 : SIt tq s.heap i2 l2 k2) (hl1 : SSq tp s.heap l1 xs) (hl2 : SSq tq s.heap l2 ys) (hx : xs[k1]? = some x) (hy : ys[k2]? = some y)
    (q : ∀ g, ZipAtS g z TI TO → (∃ a b, IsPair g TO a b) → SIt tp g i1 l1 (k1 + 1) → SIt tq g i2 l2 (k2 + 1) → IsPair g s.heap.objs.size x y → g.objs.size = s.heap.objs.size + 1 →
      (∀ c o, c ≠ z → c ≠ TO → c ≠ i1 → c ≠ i2 → s.heap.get? c = some o → g.get? c = some o) → Q (.ref s.heap.objs.size) { s with heap := g }) :
    wpAny (model prog w) A (Builtin.«zip.__next__» ⟨[.ref z], []⟩) (fun fin s' => ∃ v, fin = .done (.ret v) ∧ Q v s') E s := by
  obtain ⟨f0, f1, hz, ho⟩ := hz
  obtain ⟨a, b, hTO⟩ := hTO
  show wpAny _ _ (field (.ref z) 2 >>= _) _ _ _
  refine wpAny_bind (wpAny_field hz rfl (x := .bool true) rfl ?_)
  show wpAny _ _ (field (.ref z) 3 >>= _) _ _ _
  refine wpAny_bind (wpAny_field hz rfl (x := .ref TI) rfl (wpAny_bind (wpAny_seqItems hTI rfl ?_)))
  show wpAny _ _ (Builtin.SmallTypes.ownedTupleIsFree (.ref z) >>= _) _ _ _
  refine wpAny_bind (zip_freeS hz ho ?_ fun g1 hz1 e1 => ?_)
  · -- the pair is made in the zip's own tuple
    simp only [if_true]
    refine wpAny_bind (wpAny_rule (wpAny_bind (wpAny_field hz rfl (x := .ref TO) rfl (wpAny_bind (wpAny_setField_rec hz (by simp) fun g1 hz1 e1 => ?_)))))
    have hz1 : ZipRecS g1 z TI TO .ellipsis f1 := hz1
    refine wpAny_bind ?_
    simp only [List.zipIdx_cons, List.zipIdx_nil, List.forIn_cons, List.forIn_nil]
    refine wpAny_bind (wpAny_bind (wpAny_onRaise ?_))
    show wpAny _ _ (Builtin.SmallTypes.nextOrEnd (.ref i1)) _ _ _
    refine (noe_item (h1.ext e1.extBut D.i1z) (hl1.ext e1.extBut D.l1z) hx fun g2 n1 e2 => ?_)
    have t2 : IsPair g2 TO a b := e2.extBut _ _ D.TOi1 (e1.extBut _ _ D.TOz hTO)
    refine wpAny_bind (wpAny_seqItems t2 rfl (wpAny_bind (wpAny_updateSeq_pair t2 fun g3 t3 e3 => wpAny_bind (wpAny_letGo (wpAny_pure ?_)))))
    have t3 : IsPair g3 TO x b := t3
    refine wpAny_bind (wpAny_bind (wpAny_onRaise ?_))
    show wpAny _ _ (Builtin.SmallTypes.nextOrEnd (.ref i2)) _ _ _
    refine (noe_item (((h2.ext e1.extBut D.i2z).ext e2.extBut D.i12.symm).ext e3.extBut D.TOi2.symm) (((hl2.ext e1.extBut D.l2z).ext e2.extBut D.l2i1).ext e3.extBut D.l2TO) hy fun g4 n2 e4 => ?_)
    have t4 : IsPair g4 TO x b := e4.extBut _ _ D.TOi2 t3
    refine wpAny_bind (wpAny_seqItems t4 rfl (wpAny_bind (wpAny_updateSeq_pair t4 fun g5 t5 e5 => wpAny_bind (wpAny_letGo (wpAny_pure (wpAny_pure ?_))))))
    have t5 : IsPair g5 TO x y := t5
    refine wpAny_bind (wpAny_seqItems t5 rfl (wpAny_bind (wpAny_newTuple ?_)))
    have sz : g5.objs.size = s.heap.objs.size := by rw [e5.1, e4.1, e3.1, e2.1, e1.1]
    have z5 : ZipRecS g5 z TI TO .ellipsis f1 := e5.extBut _ _ D.TOz.symm (e4.extBut _ _ D.i2z.symm (e3.extBut _ _ D.TOz.symm (e2.extBut _ _ D.i1z.symm hz1)))
    have k5 : ∀ c o, c ≠ z → c ≠ TO → c ≠ i1 → c ≠ i2 → s.heap.get? c = some o → g5.get? c = some o := fun c o c1 c2 c3 c4 e => e5.extBut _ _ c2 (e4.extBut _ _ c4 (e3.extBut _ _ c2 (e2.extBut _ _ c3 (e1.extBut _ _ c1 e))))
    have n15 : SIt tp g5 i1 l1 (k1 + 1) := ((n1.ext e3.extBut D.TOi1.symm).ext e4.extBut D.i12).ext e5.extBut D.TOi1.symm
    have n25 : SIt tq g5 i2 l2 (k2 + 1) := n2.ext e5.extBut D.TOi2.symm
    have up : ∀ {c : Addr} {o : Obj}, g5.get? c = some o → (g5.push { cls := .type "tuple", data := .seq #[x, y] }).get? c = some o := fun e => Heap.get?_push_of_some _ e
    have new : IsPair (g5.push { cls := .type "tuple", data := .seq #[x, y] }) g5.objs.size x y := Heap.get?_push_size _ rfl
    have gz : (g5.push { cls := .type "tuple", data := .seq #[x, y] }).objs.size = g5.objs.size + 1 := Heap.size_push ..
    have zlt : z < g5.objs.size := Heap.lt_size z5
    have tlt : TO < g5.objs.size := Heap.lt_size t5
    show wpAny _ _ (Builtin.SmallTypes.ownedTupleHandOut (.ref z) (.ref g5.objs.size) >>= _) _ _ _
    unfold Builtin.SmallTypes.ownedTupleHandOut
    refine wpAny_bind (wpAny_bind (wpAny_setField_rec (up z5) (by simp) fun g7 z7 e7 => wpAny_setField_rec z7 (by simp) fun g8 z8 e8 => wpAny_pure ⟨_, rfl, ?_⟩))
    have kk : ∀ c o, c ≠ z → (g5.push { cls := .type "tuple", data := .seq #[x, y] }).get? c = some o → g8.get? c = some o := fun c o n e => e8.extBut _ _ n (e7.extBut _ _ n e)
    have r := q g8 ⟨_, _, z8, .inr ⟨g5.objs.size, rfl⟩⟩ ⟨x, y, kk _ _ D.TOz (up t5)⟩ (n15.at' fun o e => kk _ _ D.i1z (up e)) (n25.at' fun o e => kk _ _ D.i2z (up e)) (by rw [← sz]; exact kk _ _ (Nat.ne_of_gt zlt) new)
      (by rw [show g8.objs.size = _ from e8.1, show g7.objs.size = _ from e7.1, gz, sz]) fun c o c1 c2 c3 c4 e => kk c o c1 (up (k5 c o c1 c2 c3 c4 e))
    rw [← sz] at r
    exact r
  · -- .. in a new one
    simp only [Bool.false_eq_true, if_false]
    refine wpAny_bind ?_
    rw [← Array.forIn_toList]
    simp only [List.forIn_cons, List.forIn_nil]
    refine wpAny_bind (wpAny_bind (wpAny_holding ?_))
    show wpAny _ _ (Builtin.SmallTypes.nextOrEnd (.ref i1)) _ _ _
    refine (noe_item (s := { s with heap := g1 }) (h1.ext e1.extBut D.i1z) (hl1.ext e1.extBut D.l1z) hx fun g2 n1 e2 => wpAny_pure ?_)
    refine wpAny_bind (wpAny_bind (wpAny_holding ?_))
    show wpAny _ _ (Builtin.SmallTypes.nextOrEnd (.ref i2)) _ _ _
    refine (noe_item (s := { s with heap := g2 }) ((h2.ext e1.extBut D.i2z).ext e2.extBut D.i12.symm) ((hl2.ext e1.extBut D.l2z).ext e2.extBut D.l2i1) hy fun g3 n2 e3 => wpAny_pure (wpAny_pure ?_))
    show wpAny _ _ (newTuple [x, y] >>= _) _ _ _
    refine wpAny_bind (wpAny_newTuple (wpAny_pure ⟨_, rfl, ?_⟩))
    have sz : g3.objs.size = s.heap.objs.size := by rw [e3.1, e2.1, e1.1]
    obtain ⟨u0, u1, z1, o1⟩ := hz1
    have z3 : ZipRecS g3 z TI TO u0 u1 := e3.extBut _ _ D.i2z.symm (e2.extBut _ _ D.i1z.symm z1)
    have k3 : ∀ c o, c ≠ z → c ≠ i1 → c ≠ i2 → s.heap.get? c = some o → g3.get? c = some o := fun c o c1 c2 c3 e => e3.extBut _ _ c3 (e2.extBut _ _ c2 (e1.extBut _ _ c1 e))
    have n13 : SIt tp g3 i1 l1 (k1 + 1) := n1.ext e3.extBut D.i12
    have up : ∀ {c : Addr} {o : Obj}, g3.get? c = some o → (g3.push { cls := .type "tuple", data := .seq #[x, y] }).get? c = some o := fun e => Heap.get?_push_of_some _ e
    have r := q (g3.push { cls := .type "tuple", data := .seq #[x, y] }) ⟨_, _, up z3, o1⟩ ⟨a, b, up (k3 _ _ D.TOz D.TOi1 D.TOi2 hTO)⟩ (n13.at' fun o e => up e) (n2.at' fun o e => up e) (by rw [← sz]; exact Heap.get?_push_size _ rfl)
      (by rw [Heap.size_push, sz]) fun c o c1 c2 c3 c4 e => up (k3 c o c1 c3 c4 e)
    rw [← sz] at r
    exact r
theorem zip_endS {z TI TO i1 i2 l1 l2 : Addr} {k1 k2 : Nat} {xs ys : Array Value} {Q : Fin → Shared → Prop} (hh : A.handled = none) (D : ZipApart z TI TO i1 i2 l1 l2)
    (hz : ZipAtS s.heap z TI TO) (hTI : IsPair s.heap TI (.ref i1) (.ref i2)) (hTO : ∃ a b, IsPair s.heap TO a b) (h1 : SIt tp s.heap i1 l1 k1) (h2 : SIt tq s.heap i2 l2 k2) (hl1 : SSq tp s.heap l1 xs) (hl2 : SSq tq s.heap l2 ys) (hend : xs[k1]? = none ∧ ys[k2]? = none)
    (q : ∀ g e, (∀ c o, c ≠ z → c ≠ TO → c ≠ i1 → c ≠ i2 → s.heap.get? c = some o → g.get? c = some o) → (∃ o, g.get? e = some o ∧ o.cls = .type "StopIteration") → E (.ref e) { s with heap := g }) :
    wpAny (model prog w) A (Builtin.«zip.__next__» ⟨[.ref z], []⟩) Q E s := by
  obtain ⟨f0, f1, hz, ho⟩ := hz
  obtain ⟨a, b, hTO⟩ := hTO
  show wpAny _ _ (field (.ref z) 2 >>= _) _ _ _
  refine wpAny_bind (wpAny_field hz rfl (x := .bool true) rfl ?_)
  show wpAny _ _ (field (.ref z) 3 >>= _) _ _ _
  refine wpAny_bind (wpAny_field hz rfl (x := .ref TI) rfl (wpAny_bind (wpAny_seqItems hTI rfl ?_)))
  show wpAny _ _ (Builtin.SmallTypes.ownedTupleIsFree (.ref z) >>= _) _ _ _
  refine wpAny_bind (zip_freeS hz ho ?_ fun g1 hz1 e1 => ?_)
  · simp only [if_true]
    refine wpAny_bind (wpAny_rule (wpAny_bind (wpAny_field hz rfl (x := .ref TO) rfl (wpAny_bind (wpAny_setField_rec hz (by simp) fun g1 hz1 e1 => ?_)))))
    have hz1 : ZipRecS g1 z TI TO .ellipsis f1 := hz1
    refine wpAny_bind ?_
    simp only [List.zipIdx_cons, List.zipIdx_nil, List.forIn_cons, List.forIn_nil]
    refine wpAny_bind (wpAny_bind (wpAny_onRaise ?_))
    show wpAny _ _ (Builtin.SmallTypes.nextOrEnd (.ref i1)) _ _ _
    refine (noe_end hh (h1.ext e1.extBut D.i1z) (hl1.ext e1.extBut D.l1z) hend.1 fun g2 e2 => ?_)
    have hz2 : ZipRecS g2 z TI TO .ellipsis f1 := e2 _ _ D.i1z.symm hz1
    refine wpAny_bind (wpAny_setField_rec (s := { s with heap := g2 }) hz2 (by simp) fun g3 hz3 e3 => wpAny_bind ?_)
    wp_delta
    refine wpAny_bind ?_
    simp only [List.drop_succ_cons, List.drop_zero, List.zipIdx_cons, List.zipIdx_nil, List.forIn_cons, List.forIn_nil]
    refine wpAny_bind (wpAny_bind (noe_end (s := { s with heap := g3 }) hh (((h2.ext e1.extBut D.i2z).ext e2 D.i12.symm).ext e3.extBut D.i2z) (((hl2.ext e1.extBut D.l2z).ext e2 D.l2i1).ext e3.extBut D.l2z) hend.2 fun g4 e4 => ?_))
    simp only [Option.isSome_none, Bool.false_eq_true, if_false]
    refine wpAny_pure (wpAny_pure (wpAny_bind (wpAny_rule (stop_it (s := { s with heap := g4 }) hh fun g5 e e5 he => ?_))))
    exact q g5 e (fun c o c1 c2 c3 c4 x => e5 _ _ (e4 _ _ c4 (e3.extBut _ _ c1 (e2 _ _ c3 (e1.extBut _ _ c1 x))))) he
  · simp only [Bool.false_eq_true, if_false]
    refine wpAny_bind ?_
    rw [← Array.forIn_toList]
    simp only [List.forIn_cons, List.forIn_nil]
    refine wpAny_bind (wpAny_bind (wpAny_holding ?_))
    show wpAny _ _ (Builtin.SmallTypes.nextOrEnd (.ref i1)) _ _ _
    refine (noe_end (s := { s with heap := g1 }) hh (h1.ext e1.extBut D.i1z) (hl1.ext e1.extBut D.l1z) hend.1 fun g2 e2 => ?_)
    refine wpAny_bind ?_
    wp_delta
    refine wpAny_bind ?_
    simp only [List.drop_succ_cons, List.drop_zero, List.zipIdx_cons, List.zipIdx_nil, List.forIn_cons, List.forIn_nil]
    refine wpAny_bind (wpAny_bind (noe_end (s := { s with heap := g2 }) hh ((h2.ext e1.extBut D.i2z).ext e2 D.i12.symm) ((hl2.ext e1.extBut D.l2z).ext e2 D.l2i1) hend.2 fun g4 e4 => ?_))
    simp only [Option.isSome_none, Bool.false_eq_true, if_false]
    refine wpAny_pure (wpAny_pure (wpAny_bind (wpAny_rule (stop_it (s := { s with heap := g4 }) hh fun g5 e e5 he => ?_))))
    exact q g5 e (fun c o c1 c2 c3 c4 x => e5 _ _ (e4 _ _ c4 (e2 _ _ c3 (e1.extBut _ _ c1 x)))) he
theorem zip_pyNextS {z TI TO i1 i2 l1 l2 : Addr} {k1 k2 : Nat} {xs ys : Array Value} {x y : Value} {Q : Option Value → Shared → Prop} (D : ZipApart z TI TO i1 i2 l1 l2)
    (hz : ZipAtS s.heap z TI TO) (hTI : IsPair s.heap TI (.ref i1) (.ref i2)) (hTO : ∃ a b, IsPair s.heap TO a b) (h1 : SIt tp s.heap i1 l1 k1) (h2 : SIt tq s.heap i2 l2 k2) (hl1 : SSq tp s.heap l1 xs) (hl2 : SSq tq s.heap l2 ys) (hx : xs[k1]? = some x) (hy : ys[k2]? = some y)
    (q : ∀ g, ZipAtS g z TI TO → (∃ a b, IsPair g TO a b) → SIt tp g i1 l1 (k1 + 1) → SIt tq g i2 l2 (k2 + 1) → IsPair g s.heap.objs.size x y → g.objs.size = s.heap.objs.size + 1 →
      (∀ c o, c ≠ z → c ≠ TO → c ≠ i1 → c ≠ i2 → s.heap.get? c = some o → g.get? c = some o) → Q (some (.ref s.heap.objs.size)) { s with heap := g }) :
    wpAny (model prog w) A (pyNext (.ref z)) Q E s := by
  have ty : s.TypeIs (.ref z) "zip" := by obtain ⟨_, _, e, _⟩ := hz; exact ⟨_, e, rfl⟩
  unfold pyNext
  refine wpAny_bind (wpAny_attempt (wpAny_callSpecial?_slot (name := Str.ofString "__next__") ty F.slot_zip_next (wpAny_call_entry F.slot_zip_next ty F.entry_zip_next ?_ (F.args_zip_next_1 _))))
  exact zip_itemS D hz hTI hTO h1 h2 hl1 hl2 hx hy fun g a1 a2 a3 a4 a5 a6 a7 => wpAny_pure (q g a1 a2 a3 a4 a5 a6 a7)
theorem zip_pyEndS {z TI TO i1 i2 l1 l2 : Addr} {k1 k2 : Nat} {xs ys : Array Value} {Q : Option Value → Shared → Prop} (hh : A.handled = none) (D : ZipApart z TI TO i1 i2 l1 l2)
    (hz : ZipAtS s.heap z TI TO) (hTI : IsPair s.heap TI (.ref i1) (.ref i2)) (hTO : ∃ a b, IsPair s.heap TO a b) (h1 : SIt tp s.heap i1 l1 k1) (h2 : SIt tq s.heap i2 l2 k2) (hl1 : SSq tp s.heap l1 xs) (hl2 : SSq tq s.heap l2 ys) (hend : xs[k1]? = none ∧ ys[k2]? = none)
    (q : ∀ g, (∀ c o, c ≠ z → c ≠ TO → c ≠ i1 → c ≠ i2 → s.heap.get? c = some o → g.get? c = some o) → Q none { s with heap := g }) : wpAny (model prog w) A (pyNext (.ref z)) Q E s := by
  have ty : s.TypeIs (.ref z) "zip" := by obtain ⟨_, _, e, _⟩ := hz; exact ⟨_, e, rfl⟩
  unfold pyNext
  refine wpAny_bind (wpAny_attempt (wpAny_callSpecial?_slot (name := Str.ofString "__next__") ty F.slot_zip_next (wpAny_call_entry F.slot_zip_next ty F.entry_zip_next ?_ (F.args_zip_next_1 _))))
  refine zip_endS hh D hz hTI hTO h1 h2 hl1 hl2 hend fun g e hk he => ?_
  obtain ⟨o, ho, hc⟩ := he
  exact wpAny_bind (wpAny_isInstance (T := "StopIteration") (b := true) ⟨o, ho, hc⟩ isSubtype_stop (wpAny_pure (q _ hk)))
theorem let_zipS {tg : Expr} {z TI TO : Addr} {u : Value} {Q : Unit → Shared → Prop} (hz : ZipAtS s.heap z TI TO) (q : ∀ g, ZipAtS g z TI TO → Heap.SameBut z s.heap g → Q () { s with heap := g }) : wpAny (model prog w) A (letOwnedTupleGo tg (.ref z) u) Q E s := by
  obtain ⟨f0, f1, hz, ho⟩ := hz
  have stay : Q () s := q s.heap ⟨f0, f1, hz, ho⟩ (Heap.SameBut.refl _ _)
  have go : ∀ T : Addr, wpAny (model prog w) A (if (["enumerate", "zip", "dict_itemiterator", "dict_reverseitemiterator", "odict_iterator", "itertools.zip_longest", "itertools.pairwise"].contains "zip" && (#[f0, .bool f1, .bool true, .ref TI, .ref TO] : Array Value)[0]? == some (rawInt T)) = true then (do rule "for.unpacks-the-owned-tuple"; updateField z 0 .none) else pure ()) Q E s := fun T => by
    split
    · refine wpAny_bind (wpAny_rule ?_)
      show wpAny _ _ (setField (.ref z) 0 .none) Q E s
      exact wpAny_setField_rec hz (by simp) fun g hg sg => q g ⟨_, _, hg, .inl rfl⟩ sg
    · exact wpAny_pure stay
  unfold letOwnedTupleGo
  cases tg <;> first
    | exact wpAny_pure stay
    | (cases u <;> first
        | exact wpAny_pure stay
        | exact wpAny_bind (wpAny_load hz (go _)))
end
def ItzGS (K : PySem.W.Frag) (tp tq : Bool) (a b : Addr) : It :=
  ⟨fun i H => ∃ (xs ys : List V) (x y : V), SqX tp K H a xs ∧ SqX tq K H b ys ∧ xs[i]? = some x ∧ ys[i]? = some y,
    fun i H v H' => ∃ T x y, v = .ref T ∧ H T = none ∧ H' = upd H T (.tup [x, y]) ∧ (∀ xs, SqX tp K H a xs → xs[i]? = some x) ∧ ∀ ys, SqX tq K H b ys → ys[i]? = some y,
    fun i H => ∃ xs ys : List V, SqX tp K H a xs ∧ SqX tq K H b ys ∧ xs.length ≤ i ∧ ys.length ≤ i⟩
theorem turn_zipGS {P : Program} {w : World} {K : PySem.W.Frag} {tg : Expr} {tp tq : Bool} {a b z TI TO i1 i2 : Addr} (D : ZipApart z TI TO i1 i2 a b) :
    Turn P w K tg (ItzGS K tp tq a b) [z, TI, TO, i1, i2] z (fun i h => ZipAtS h z TI TO ∧ IsPair h TI (.ref i1) (.ref i2) ∧ (∃ x y, IsPair h TO x y) ∧ SIt tp h i1 a i ∧ SIt tq h i2 b i) where
  mem := by simp
  obj := fun i h ⟨⟨_, _, hz, _⟩, hTI, ⟨x, y, hTO⟩, n1, n2⟩ c hc => by
    have e' : c = z ∨ c = TI ∨ c = TO ∨ c = i1 ∨ c = i2 := by simpa using hc
    rcases e' with q | q | q | q | q <;> subst q
    · exact ⟨_, hz, fun v q => nomatch q⟩
    · exact ⟨_, hTI, fun v q => nomatch q⟩
    · exact ⟨_, hTO, fun v q => nomatch q⟩
    · exact n1.there
    · exact n2.there
  keep := fun i h h' ⟨⟨f0, f1, hz, ho⟩, hTI, ⟨x, y, hTO⟩, n1, n2⟩ k =>
    ⟨⟨f0, f1, k z (by simp) _ hz, ho⟩, k TI (by simp) _ hTI, ⟨x, y, k TO (by simp) _ hTO⟩, n1.at' fun o q => k i1 (by simp) o q, n2.at' fun o q => k i2 (by simp) o q⟩
  item := by
    intro X hP hw hK hc i pins s σ H E I hf ⟨hz, hTI, hTO, n1, n2⟩ ⟨xs, ys, x, y, hqx, hqy, hx, hy⟩
    subst hP hw hK
    obtain ⟨its, rv, p, _⟩ := inv_seq I hqx
    obtain ⟨its2, rv2, p2, _⟩ := inv_seq I hqy
    obtain ⟨u, hu, ru⟩ := rv.get hx
    obtain ⟨u2, hu2, ru2⟩ := rv2.get hy
    have lt : ∀ c, c = z ∨ c = TI ∨ c = TO ∨ c = i1 ∨ c = i2 → c < s.heap.objs.size := fun c q => by
      rcases q with q | q | q | q | q <;> subst q
      · obtain ⟨_, _, e, _⟩ := hz; exact Heap.lt_size e
      · exact Heap.lt_size hTI
      · obtain ⟨_, _, e⟩ := hTO; exact Heap.lt_size e
      · obtain ⟨_, e, _⟩ := n1.there; exact Heap.lt_size e
      · obtain ⟨_, e, _⟩ := n2.there; exact Heap.lt_size e
    refine zip_pyNextS D hz hTI hTO n1 n2 p p2 (x := u) (y := u2) (by simpa using hu) (by simpa using hu2) fun g zg tg' m1 m2 hT hsz hk => ?_
    refine ⟨_, rfl, let_zipS (s := { s with heap := g }) zg fun g' zg' sb => ?_⟩
    have hT2 : IsPair g' s.heap.objs.size u u2 := (sb.2 _ (Nat.ne_of_gt (lt z (.inl rfl)))).trans hT
    have new : ObjOk X.prog X.w (upd H s.heap.objs.size (.tup [x, y])) g' s.heap.objs.size (.tup [x, y]) := ⟨by show 2 ≤ sizeLine; decide, [u, u2], .cons ru (.cons ru2 .nil), ⟨_, hT2, rfl, _, rfl⟩⟩
    have away : ∀ c, c ∉ [z, TI, TO, i1, i2] → c ≠ z ∧ c ≠ TO ∧ c ≠ i1 ∧ c ≠ i2 := fun c h => by simp at h; exact ⟨h.1, h.2.2.1, h.2.2.2.1, h.2.2.2.2⟩
    have I1 : Inv X pins σ (upd H s.heap.objs.size (.tup [x, y])) { s with heap := g' } := I.turnedNew (t' := s.toks) (ch := [z, TI, TO, i1, i2]) (fun c o hb q => let ⟨c1, c2, c3, c4⟩ := away c hb; (sb.2 c c1).trans (hk c o c1 c2 c3 c4 q)) hf (Nat.le_refl _) new
    refine ⟨.ref s.heap.objs.size, _, I1, rfl, ⟨_, x, y, rfl, I.hok.fresh (Nat.le_refl _), rfl, fun l hl => by rw [inv_inj I hl hqx]; exact hx, fun l hl => by rw [inv_inj I hl hqy]; exact hy⟩, ⟨zg', ?_, ?_, ?_, ?_⟩, fun c hcm => ?_⟩
    · exact (sb.2 _ D.TIz).trans (hk _ _ D.TIz D.TITO D.TIi1 D.TIi2 hTI)
    · obtain ⟨x', y', e⟩ := tg'; exact ⟨x', y', (sb.2 _ D.TOz).trans e⟩
    · exact m1.at' fun o q => (sb.2 _ D.i1z).trans q
    · exact m2.at' fun o q => (sb.2 _ D.i2z).trans q
    · have := lt c (by simpa using hcm)
      rw [upd_ne (Nat.ne_of_lt this)]
      exact (hf c hcm).1
  done := by
    intro X hP hw hK hc i pins s σ H E I hf ⟨hz, hTI, hTO, n1, n2⟩ ⟨xs, ys, hqx, hqy, hend⟩
    subst hP hw hK
    obtain ⟨its, rv, p, _⟩ := inv_seq I hqx
    obtain ⟨its2, rv2, p2, _⟩ := inv_seq I hqy
    have l1 := rv.length
    have l2 := rv2.length
    have he : its.toArray[i]? = none ∧ its2.toArray[i]? = none := ⟨by simp; omega, by simp; omega⟩
    exact zip_pyEndS (I.ok.hd hc) D hz hTI hTO n1 n2 p p2 he fun g hk => ⟨rfl, I.turnedL (t' := s.toks) (ch := [z, TI, TO, i1, i2]) (fun c o hb q => hk c o (fun q' => hb (by simp [q'])) (fun q' => hb (by simp [q'])) (fun q' => hb (by simp [q'])) (fun q' => hb (by simp [q'])) q) hf⟩
  self := fun A i s Q E ⟨⟨_, _, hz, _⟩, _⟩ h => by
    have ty : s.TypeIs (.ref z) "zip" := ⟨_, hz, rfl⟩
    refine wpAny_pyIter_slot ty F.slot_zip_iter (wpAny_call_entry F.slot_zip_iter ty F.entry_zip_iter ?_ (F.args_zip_iter_1 _))
    exact wpAny_pure ⟨_, rfl, "zip", _, ty, F.slot_zip_next.lookup, h⟩
theorem typeCall_zipS (a b : Value) : checkTypeCall "zip" ⟨[a, b], [(Str.ofString "strict", .bool true)]⟩ = pure () := by kernel_rfl
theorem newCall_zipS (a b : Value) : checkBuiltinCall "zip.__new__" ⟨[.type "zip", a, b], [(Str.ofString "strict", .bool true)]⟩ = pure () := by kernel_rfl
theorem args_initS (obj a b : Value) : argsOk "object.__init__" ⟨[obj, a, b], [(Str.ofString "strict", .bool true)]⟩ := by unfold argsOk; kernel_rfl
def itOb (t : Bool) (l : Addr) : Obj := { cls := .type (if t then "tuple_iterator" else "list_iterator"), data := .fields #[.ref l, .int 0 0] }
theorem SSq.push {tp : Bool} {h : Heap} {l : Addr} {xs : Array Value} (x : SSq tp h l xs) (o : Obj) : SSq tp (h.push o) l xs := by
  cases tp
  · exact Heap.IsList.push x _
  · exact Heap.IsTuple.push x _
theorem iter_seq {prog : Program} {w : World} {A : Around} {E : Value → Shared → Prop} {s : Shared} {tp : Bool} {l : Addr} {xs : Array Value} {Q : Value → Shared → Prop} (h : SSq tp s.heap l xs) (q : Q (.ref s.heap.objs.size) { s with heap := s.heap.push (itOb tp l) }) : wpAny (model prog w) A (pyIter (.ref l)) Q E s := by
  cases tp
  · exact wpAny_pyIter_list h q
  · exact wpAny_pyIter_tuple h q
set_option maxHeartbeats 4000000 in
theorem mk_zipS {prog : Program} {w : World} {A : Around} {E : Value → Shared → Prop} {s : Shared} {tp tq : Bool} {l1 l2 : Addr} {xs ys : Array Value} {Q : Value → Shared → Prop} (h1 : SSq tp s.heap l1 xs) (h2 : SSq tq s.heap l2 ys)
    (q : ∀ g, ZipAtS g (s.heap.objs.size + 4) (s.heap.objs.size + 2) (s.heap.objs.size + 3) → IsPair g (s.heap.objs.size + 2) (.ref s.heap.objs.size) (.ref (s.heap.objs.size + 1)) → IsPair g (s.heap.objs.size + 3) .none .none →
      SIt tp g s.heap.objs.size l1 0 → SIt tq g (s.heap.objs.size + 1) l2 0 → (∀ c o, s.heap.get? c = some o → g.get? c = some o) → Q (.ref (s.heap.objs.size + 4)) { s with heap := g }) :
    wpAny (model prog w) A (call (.type "zip") [.ref l1, .ref l2] [(Str.ofString "strict", .bool true)]) Q E s := by
  let g1 := s.heap.push (itOb tp l1)
  let g2 := g1.push (itOb tq l2)
  let g3 := g2.push { cls := .type "tuple", data := .seq #[.ref s.heap.objs.size, .ref g1.objs.size] }
  let g4 := g3.push { cls := .type "tuple", data := .seq #[.none, .none] }
  let g5 := g4.push { cls := .type "zip", data := .fields #[.none, .bool false, .bool true, .ref g2.objs.size, .ref g3.objs.size] }
  have made : Meets (Builtin.«zip.__new__» ⟨[.type "zip", .ref l1, .ref l2], [(Str.ofString "strict", .bool true)]⟩) (fun _ R s' => s' = s ∧ R (.ok (.ret (.ref g4.objs.size))) { s with heap := g5 }) :=
    .of_wp fun prog w A R s' h => by
      obtain ⟨rfl, h⟩ := h
      have hsub := sub_zip
      have es : (Str.ofString "strict" != ("strict" : Str)) = false := by decide +kernel
      obtain ⟨hp, g, d, tk, os⟩ := s'
      have a1 : SSq tp (Shared.heap ⟨hp, g, d, tk, os⟩) l1 xs := h1
      have a2 : SSq tq (Shared.heap ⟨hp.push (itOb tp l1), g, d, tk, os⟩) l2 ys := SSq.push h2 _
      wp_walk using iter_seq a1, iter_seq a2
      exact ⟨_, rfl, h⟩
  have z1 : g1.objs.size = s.heap.objs.size + 1 := Heap.size_push ..
  have z2 : g2.objs.size = s.heap.objs.size + 2 := by show (g1.push _).objs.size = _; rw [Heap.size_push, z1]
  have z3 : g3.objs.size = s.heap.objs.size + 3 := by show (g2.push _).objs.size = _; rw [Heap.size_push, z2]
  have z4 : g4.objs.size = s.heap.objs.size + 4 := by show (g3.push _).objs.size = _; rw [Heap.size_push, z3]
  refine callType_newKw F.called_zip (by decide) (typeCall_zipS _ _) (newCall_zipS _ _) (fun obj => args_initS obj _ _) F.entry_zip_new made ⟨rfl, ?_⟩
  have e5 : g5.get? g4.objs.size = some _ := Heap.get?_push_size _ rfl
  have e4 : g5.get? g3.objs.size = some _ := Heap.get?_push_of_some _ (Heap.get?_push_size _ rfl)
  have e3 : g5.get? g2.objs.size = some _ := Heap.get?_push_of_some _ (Heap.get?_push_of_some _ (Heap.get?_push_size _ rfl))
  have e2 : g5.get? g1.objs.size = some (itOb tq l2) := Heap.get?_push_of_some _ (Heap.get?_push_of_some _ (Heap.get?_push_of_some _ (Heap.get?_push_size _ rfl)))
  have e1 : g5.get? s.heap.objs.size = some (itOb tp l1) := Heap.get?_push_of_some _ (Heap.get?_push_of_some _ (Heap.get?_push_of_some _ (Heap.get?_push_of_some _ (Heap.get?_push_size _ rfl))))
  rw [z2, z3, z4] at e5
  rw [z1, z2] at e3
  rw [z3] at e4
  rw [z1] at e2
  rw [z4]
  refine ⟨⟨_, e5, rfl⟩, q _ ⟨_, _, e5, .inl rfl⟩ e3 e4 ?_ ?_ fun c o x => Heap.get?_push_of_some _ (Heap.get?_push_of_some _ (Heap.get?_push_of_some _ (Heap.get?_push_of_some _ (Heap.get?_push_of_some _ x))))⟩
  · cases tp
    · exact ⟨_, e1, rfl, rfl⟩
    · exact ⟨_, e1, rfl, rfl⟩
  · cases tq
    · exact ⟨_, e2, rfl, rfl⟩
    · exact ⟨_, e2, rfl, rfl⟩
section
variable {M : Model} {A : Around} {E : Value → Shared → Prop} {s : Shared} {env : PySem.Env}
theorem callWith_typeKw {pos : Pos} {T : String} {e : Expr} {rest : List Expr} {kws : List Keyword} {Q : Value → Shared → Prop}
    (h : wpAny M A (spliced (backTo pos (starEach (e :: rest) env))) (fun vs s₁ => wpAny M A (evalAll ((backToKw pos (keywordEach kws env)).map (·.2)))
      (fun kvs s₂ => wpAny M A (call (.type T) vs (((backToKw pos (keywordEach kws env)).filterMap (·.1)).zip kvs)) Q E s₂) E s₁) E s)
    (he : backTo pos (starEach (e :: rest) env) = (false, eval e env) :: backTo pos (starEach rest env))
    (hplain : (backTo pos (starEach (e :: rest) env)).any (·.1) = false)
    (hall : (backToKw pos (keywordEach kws env)).all (·.1.isSome) = true)
    (hkw : (backToKw pos (keywordEach kws env)).any (·.1.isNone) = false) :
    wpAny M A (callWith pos (.type T) [] (backTo pos (starEach (e :: rest) env)) (backToKw pos (keywordEach kws env))) Q E s := by
  have h2 : wpAny M A (evalArgs (.type T) true (backTo pos (starEach (e :: rest) env)) (backToKw pos (keywordEach kws env))) (fun a s₁ => wpAny M A (call (.type T) ([] ++ a.pos) a.kw) Q E s₁) E s := by
    rw [he] at h ⊢
    exact PyProof.Rows.evalArgs_kwB hall h
  unfold callWith
  refine wpAny_bind (wpAny_holding (wpAny_mono h2 (fun a s₁ h₁ => wpAny_bind (wpAny_standAt ?_)) fun _ _ x => x))
  simp only [hplain, hkw, Bool.or_false]
  refine wpAny_bind (wpAny_pure ?_)
  exact wpAny_bind (wpAny_mono h₁ (fun r s₂ hr => wpAny_bind (wpAny_holding (wpAny_point (wpAny_pure hr)))) fun _ _ x => x)
end
def iZipGS (K : PySem.W.Frag) (ta : TA) : TI := fun σ H R => ta σ H fun vs H1 => ∃ tp tq a b xs ys, vs = [.ref a, .ref b] ∧ SqX tp K H1 a xs ∧ SqX tq K H1 b ys ∧ R (ItzGS K tp tq a b) H1
theorem pi_zipGS {X : Cx} {e e2 : Expr} {ta : TA} {p pos kpos : Pos} {kc : Const} {kk : Nat} {kp : Pos} {tg : Expr} (hg : Gl X "zip") (hm : X.mg "zip" = none) (ha : PA X [e, e2] ta)
    (hk : PE X (.Constant kc kk kp) fun _ H Q => Q (.bl true) H)
    (hs : backTo pos (starEach [e, e2] X.env) = (false, eval e X.env) :: backTo pos (starEach [e2] X.env)) (hpl : (backTo pos (starEach [e, e2] X.env)).any (·.1) = false) :
    PI X tg (.Call (.Name "zip" p) [e, e2] [⟨some (Str.ofString "strict"), .Constant kc kk kp, kpos⟩] pos) (iZipGS X.K ta) := by
  refine ⟨fun pins s σ H R I h => ?_⟩
  refine wpAny_Call_Name_kw (ld_blt I hg hm PyProof.Rows.boot_zip (callWith_typeKw (thn (ha.run pos pins s σ H _ I h) fun us s1 ⟨vs, H1, I1, r1, tp, tq, a, b, xs, ys, ex, hqx, hqy, q⟩ => thn ((pk_cons (nm := some (Str.ofString "strict")) (kpos := kpos) hk pk_nil).run pos pins s1 σ H1 (fun zs H2 => zs = [.bl true] ∧ H2 = H1) I1 ⟨rfl, rfl⟩) fun ws s2 ⟨zs, H2, I2, r2, e1, e2⟩ => ?_) hs hpl rfl rfl))
  subst ex e1 e2
  obtain ⟨u, u2, rfl, ru, ru2⟩ := vals2 r1
  cases ru
  cases ru2
  obtain ⟨w1, rfl, rw1⟩ := r2.one
  cases rw1
  obtain ⟨its, rv, p1, la⟩ := inv_seq I2 hqx
  obtain ⟨its2, rv2, p2, lb⟩ := inv_seq I2 hqy
  show wpAny _ _ (call (.type "zip") [.ref a, .ref b] [(Str.ofString "strict", .bool true)]) _ _ _
  refine mk_zipS p1 p2 fun g hz hTI hTO n1 n2 hk => ?_
  have st : ZipAtS g (s2.heap.objs.size + 4) (s2.heap.objs.size + 2) (s2.heap.objs.size + 3) := hz
  have self : ∀ {Q : Value → Shared → Prop}, Q (.ref (s2.heap.objs.size + 4)) { s2 with heap := g } → wpAny (model X.prog X.w) X.A (pyIter (.ref (s2.heap.objs.size + 4))) Q X.xe { s2 with heap := g } := fun {Q} h => by
    obtain ⟨_, _, hz, _⟩ := hz
    have ty : ({ s2 with heap := g } : Shared).TypeIs (.ref (s2.heap.objs.size + 4)) "zip" := ⟨_, hz, rfl⟩
    refine wpAny_pyIter_slot ty F.slot_zip_iter (wpAny_call_entry F.slot_zip_iter ty F.entry_zip_iter ?_ (F.args_zip_iter_1 _))
    exact wpAny_pure ⟨_, rfl, "zip", _, ty, F.slot_zip_next.lookup, h⟩
  refine self ?_
  have I3 : Inv X pins σ H2 { s2 with heap := g } := I2.kept (t' := s2.toks) hk
  refine ⟨s2.heap.objs.size + 4, [s2.heap.objs.size + 4, s2.heap.objs.size + 2, s2.heap.objs.size + 3, s2.heap.objs.size, s2.heap.objs.size + 1], _, _, H2, rfl, I3, turn_zipGS (PySem.W.ktu_apart s2.heap.objs.size a b la lb), ⟨st, hTI, ⟨_, _, hTO⟩, n1, n2⟩, fun c hcm => ?_, q⟩
  have hle : s2.heap.objs.size ≤ c := by
    have e' : c = s2.heap.objs.size + 4 ∨ c = s2.heap.objs.size + 2 ∨ c = s2.heap.objs.size + 3 ∨ c = s2.heap.objs.size ∨ c = s2.heap.objs.size + 1 := by simpa using hcm
    rcases e' with e' | e' | e' | e' | e' <;> subst e'
    · exact Nat.le_add_right _ _
    · exact Nat.le_add_right _ _
    · exact Nat.le_add_right _ _
    · exact Nat.le_refl _
    · exact Nat.le_add_right _ _
  exact I2.fpOk hle (I2.hok.fresh hle)
end MP
namespace MP
open PySem PySem.Spec PyProof.Rows L2
open PySem.Sem (wp)
section
variable {prog : Program} {w : World} {A : Around} {E : Value → Shared → Prop} {tp tq : Bool} {z TI TO i1 i2 l1 l2 S : Addr} {xs ys : Array Value} {b0 : Nat}
end
end MP
namespace MP
open PySem PySem.Spec PyProof.Rows L2
section
variable {X : Cx} {F : CallF} {a b tg : Expr} {ea eb : E} {pos p pos2 p2 kpos : Pos}
theorem walks_zipGS {K : PySem.W.Frag} {H : Hp} {A : Addr → Prop} {ρ : List CA} {a b : Addr} {xs ys : List D} {tp tq : Bool} (hlen : xs.length = ys.length) (h : Pk K H A ρ (match tp with | true => .tup xs | false => .lst xs) (.ref a)) (h' : Pk K H A ρ (match tq with | true => .tup ys | false => .lst ys) (.ref b)) : Walks K (ItzGS K tp tq a b) (zipD xs ys) H A ρ := by
  obtain ⟨p, vs, e, h1, h2⟩ := pk_seq h
  cases e
  obtain ⟨p', ws, e, h1', h2'⟩ := pk_seq h'
  cases e
  refine ⟨fun i hi => ⟨vs, ws, h1, h1', ?_⟩, fun i d hd => ?_⟩
  · rw [← h2.length, ← h2'.length]
    have : min xs.length ys.length ≤ i := by simpa [zipD] using hi
    omega
  obtain ⟨y, z, hy, hz, rfl⟩ := zip_get hd
  obtain ⟨v, h3, h4⟩ := h2.get hy
  obtain ⟨v', h3', h4'⟩ := h2'.get hz
  refine ⟨⟨vs, ws, v, v', h1, h1', h3, h3'⟩, fun x H' ⟨t, z, z', e, ht, e2, q, q'⟩ => ?_⟩
  subst e e2
  have := q vs h1
  rw [h3] at this
  cases this
  have := q' ws h1'
  rw [h3'] at this
  cases this
  have g := upd_kept (o := .tup [v, v']) ht
  exact ⟨g, t, _, rfl, upd_same, v, _, rfl, rel_grow g h4, v', [], rfl, rel_grow g h4', rfl⟩
theorem len2 {ees : List E} {env : Env} {m m' : MH} {ds : List (D × Mode)} (hl : ees.length = 2) (he : evalPs F ees env m = .ok ds m') : ds.length = 2 := by
  match ees, hl with
  | [e, f], _ => simp only [evalPs] at he; obtain ⟨x, m1, _, he⟩ := bind_ok he; obtain ⟨y, m2, h2, he⟩ := bind_ok he; obtain ⟨z, m2, h3, h2⟩ := bind_ok h2; cases h2; cases he; rfl
theorem itD_zip {st : Bool} {d d' : D} {xs : List D} (hi : itD (.zip st) [d, d'] = some xs) : ∃ (tp tq : Bool) (zs ws : List D), d = (match tp with | true => .tup zs | false => .lst zs) ∧ d' = (match tq with | true => .tup ws | false => .lst ws) ∧ xs = zipD zs ws ∧ (st = true → zs.length = ws.length) := by
  have go : ∀ {zs ws : List D}, (if (st && zs.length != ws.length) = true then none else some (zipD zs ws)) = some xs → xs = zipD zs ws ∧ (st = true → zs.length = ws.length) := fun {zs ws} h => by
    split at h
    · cases h
    · rename_i hn
      refine ⟨(Option.some.inj h).symm, fun e => ?_⟩
      subst e
      simpa using hn
  cases d <;> first | (simp [itD] at hi; done) | skip
  · cases d' <;> first | (simp [itD] at hi; done) | skip
    · exact ⟨true, true, _, _, rfl, rfl, go hi⟩
    · exact ⟨true, false, _, _, rfl, rfl, go hi⟩
  · cases d' <;> first | (simp [itD] at hi; done) | skip
    · exact ⟨false, true, _, _, rfl, rfl, go hi⟩
    · exact ⟨false, false, _, _, rfl, rfl, go hi⟩
theorem si_zipS {kk : Nat} {kp : Pos} {ees : List E} (hg : Gl X "zip") (hm : X.mg "zip" = none) (hn : NoStar a) (hb : NoStar b) (ha : PA X [a, b] (tPs X.K F ees)) (hl : ees.length = 2) :
    PI X tg (.Call (.Name "zip" p) [a, b] [⟨some (Str.ofString "strict"), .Constant (.bool true) kk kp, kpos⟩] pos) (tI X.K F (.zip true) ees) := by
  refine ⟨fun pins s σ H R I h => (pi_zipGS hg hm ha pe_bl (by rw [star_ok hn]; rfl) (by rw [star_ok hn, star_ok hb]; rfl)).run pins s σ H R I ?_⟩
  obtain ⟨av, H0, ρ0, ρ, lo, env, m, ds, m', xs, at0, he, hi, q⟩ := h
  refine ⟨av, H0, ρ0, ρ, lo, env, m, ds, m', at0, he, fun vs H1 ρ1 lo1 s1 l1 p1 => ?_⟩
  match ds, len2 hl he with
  | [x, y], _ =>
    obtain ⟨d, md⟩ := x
    obtain ⟨d', md'⟩ := y
    obtain ⟨tp, tq, zs, ws, rfl, rfl, rfl, hlen⟩ := itD_zip (show itD (.zip true) [d, d'] = some xs from hi)
    obtain ⟨x, v, y, w, e1, rfl, e2, e3, pv, pw⟩ := wk2 p1 rfl
    cases e1
    obtain ⟨r, us, rfl, g1, g2⟩ := pk_seq pv.1
    obtain ⟨r', us', rfl, g1', g2'⟩ := pk_seq pw.1
    exact ⟨tp, tq, r, r', us, us', rfl, g1, g1', q _ _ H1 ρ1 lo1 s1 l1 p1 fun _ _ _ h => walks_zipGS (hlen rfl) (pall2 h).1 (pall2 h).2⟩
end
end MP
namespace MP
open PySem PySem.Spec PyProof.Rows L2
section
variable {X : Cx} {F : CallF} {W : Nat} {e b : Expr} {ee ea eb : E} {pos : Pos}
end
end MP
namespace MP
open PySem PySem.Spec PyProof.Rows L2 L2.DX
section
variable {prog : Program} {w : World} {A : Around} {E : Value → Shared → Prop} {s : Shared}
end
section
variable {X : Cx} {H : Hp} {A : Addr → Prop} {ρ : List CA}
end
section
variable {X : Cx} {e : Expr} {te : TE} {apos cpos : Pos}
end
section
variable {X : Cx} {F : CallF} {e : Expr} {ee : E} {pos : Pos}
end
end MP
namespace MP
open PySem PySem.Spec PyProof.Rows L2 L2.DX
section
variable {X : Cx} {F : CallF} {e : Expr} {te : TE} {ee : E} {p apos cpos pos : Pos}
end
end MP
namespace MP
open PySem PySem.Spec PyProof.Rows L2 L2.DX
section
variable {X : Cx} {F : CallF} {e : Expr} {te : TE} {ee : E} {p apos cpos pos : Pos}
end
end MP
namespace MP
open PySem PySem.Spec PyProof.Rows L2
open PySem.SeqAt (EqAt)
section
variable {X : Cx}
variable {F : CallF} {W : Nat} {pos : Pos} {e b o : Expr} {ee ea eb eo : E}
end
section
variable {m m' : MH}
end
section
variable {X : Cx} {F : CallF} {W : Nat} {pos : Pos} {o k : Expr} {eo ek : E}
end
end MP
namespace MP
open PySem PySem.Spec PyProof.Rows L2
section
variable {X : Cx} {F : CallF} {W : Nat} {pos : Pos} {o : Expr} {eo : E}
end
end MP
namespace MP
open PySem PySem.Spec PyProof.Rows L2
section
variable {X : Cx} {k : Nat} {f C : Addr} {fd : FuncData} {ps : List Str} {sp : SpG} {x m : Str} {p pos apos : Pos} {o e : Expr} {es : List Expr} {ta : TE} {t : TA}
def tMethG (C : Addr) (m : Str) (sp : SpG) (ta : TE) (t : TA) : TE := fun σ H Q => ta σ H fun x H1 => ∃ a dx fs, x = .ref a ∧ H1 a = some (.ins C dx fs) ∧ fs.lookup m = none ∧ t σ H1 fun vs H2 => sp (x :: vs) H2 Q
def tMakeG (C : Addr) (sp : SpG) (t : TA) : TE := fun σ H Q => t σ H fun vs H1 => ∀ x dx, H1 x = none → H1 dx = none → dx ≠ x →
  sp (.ref x :: vs) (upd (upd H1 dx (.own x)) x (.ins C dx [])) (fun v H2 => v = .non ∧ Q (.ref x) H2)
theorem guards_make {A : Around} (h : A.guards = some []) {C : Addr} {us : List Value} {kw : List (Str × Value)} : (A.under (.builtin "type.__call__" ⟨.ref C :: us, kw⟩)).guards = some [] := by
  first | exact h | (simpa [Around.under, Code.isGuard, guardIds] using h)
end
section
variable {K : PySem.W.Frag} {av : Addr → Prop} {H0 H H1 H2 H' : Hp} {ρ0 ρ ρ1 ρ2 ρ' : List CA} {σ : L2.St} {env : Env} {lo lo1 lo2 lo' : Lo} {m m1 m2 m' : MH}
theorem At.made (a : At K av H0 ρ0 ρ lo σ H env m) {x dx C : Addr} {y : Str} (hx : H x = none) (hd : H dx = none) (hne : dx ≠ x) (hC : PySem.W.nsIn K mainGlobals y = some (some (.ref C))) :
    Step K av H0 ρ0 σ env ρ lo H (ρ ++ [⟨x, [dx], false⟩]) lo (upd (upd H dx (.own x)) x (.ins C dx [])) (m ++ [.ins y []]) := by
  have s := a.st
  have k : ∀ b u, H b = some u → upd (upd H dx (.own x)) x (.ins C dx []) b = some u := fun b u e => by rw [upd_ne (ne_of_none e hx), upd_ne (ne_of_none e hd)]; exact e
  have s' := s.grow k
  have ft : foot (ρ ++ [⟨x, [dx], false⟩]) = foot ρ ++ [x, dx] := by simp [foot, CA.ft]
  have memft : ∀ q, q ∈ foot (ρ ++ [⟨x, [dx], false⟩]) ↔ q ∈ foot ρ ∨ q = x ∨ q = dx := fun q => by rw [ft]; simp
  have he : ∀ (n : Nat) (c : CA), ρ[n]? = some c → ∃ c', (ρ ++ [⟨x, [dx], false⟩])[n]? = some c' ∧ c'.a = c.a := fun n c e => ⟨c, by rw [List.getElem?_append_left (List.getElem?_eq_some_iff.mp e).1]; exact e, rfl⟩
  have hA : ∀ b, aA av (ρ ++ [⟨x, [dx], false⟩]) lo b → aA av ρ lo b ∨ H b = none := fun b z => by
    rcases z with z | z | ⟨j, z⟩
    · exact .inl (.inl z)
    · rcases (memft b).mp z with z | z | z
      · exact .inl (.inr (.inl z))
      · exact .inr (z ▸ hx)
      · exact .inr (z ▸ hd)
    · exact .inl (.inr (.inr ⟨j, z⟩))
  have old : ∀ b, H b ≠ none → b ≠ x ∧ b ≠ dx := fun b h => ⟨fun z => h (z ▸ hx), fun z => h (z ▸ hd)⟩
  have ux : upd (upd H dx (.own x)) x (.ins C dx []) x = some (.ins C dx []) := upd_same
  have ud : upd (upd H dx (.own x)) x (.ins C dx []) dx = some (.own x) := by rw [upd_ne hne, upd_same]
  refine ⟨⟨s.len, fun j z e => (s.slot j z e).mono (Stays.of k) hA he (fun q o _ e => k q o e) rfl, s.inj, fun j q e => ?_, ?_, fun q hq => ?_, s.avd, by simp [s.ml], fun n c z e1 e2 => ?_, ?_, s'.keep⟩, fun _ _ => rfl, fun p e => (by rw [a.hl] at e; cases e), ⟨fun b u e _ => k b u e, dom_of k⟩, ⟨by simp, he, fun q hq => ?_, fun n c0 c e0 e => ?_⟩⟩
  · obtain ⟨g1, g2, g3, g4, g5⟩ := s'.loF j q e
    refine ⟨g1, fun z => ?_, g3, g4, g5⟩
    have ho := old q (s.loF j q e).2.2.2.1
    rcases (memft q).mp z with z | z | z
    · exact g2 z
    · exact ho.1 z
    · exact ho.2 z
  · rw [ft, List.nodup_append]
    refine ⟨s.fnd, ?_, fun q hq r hr e => ?_⟩
    · simp; exact Ne.symm hne
    · have ho := old q (s.fav q hq).2.2
      simp at hr
      rcases hr with hr | hr
      · exact ho.1 (e.trans hr)
      · exact ho.2 (e.trans hr)
  · rcases (memft q).mp hq with z | z | z
    · exact s'.fav q z
    · subst z
      exact ⟨fun z => s.keep.dom q (s.avd q z) hx, fun xs e => (by rw [ux] at e; cases e), by rw [ux]; exact fun z => nomatch z⟩
    · subst z
      exact ⟨fun z => s.keep.dom q (s.avd q z) hd, fun xs e => (by rw [ud] at e; cases e), by rw [ud]; exact fun z => nomatch z⟩
  · by_cases hn : n < ρ.length
    · rw [List.getElem?_append_left hn] at e1
      rw [List.getElem?_append_left (by rw [s.ml]; exact hn)] at e2
      exact (s.cells n c z e1 e2).mono (Stays.of k) hA he fun o q => k _ o q
    · have hn' : n = ρ.length := by
        have := (List.getElem?_eq_some_iff.mp e1).1
        simp at this
        omega
      subst hn'
      rw [List.getElem?_append_right (Nat.le_refl _)] at e1
      simp at e1
      subst e1
      rw [← s.ml, List.getElem?_append_right (Nat.le_refl _)] at e2
      simp at e2
      subst e2
      exact ⟨C, dx, [], hC, ⟨rfl, rfl⟩, ux, .nil⟩
  · have h0 : ∀ b, H b = none → H0 b = none := fun b h => by
      cases q : H0 b with
      | none => rfl
      | some u => exact absurd h (s.keep.dom b (by rw [q]; exact fun z => nomatch z))
    refine ⟨by have := s.ext.le; simp; omega, fun n c0 e => ?_, fun q hq => ?_, fun n c0 c e0 e => ?_⟩
    · obtain ⟨c, e1, q1⟩ := s.ext.same n c0 e
      obtain ⟨c', e2, q2⟩ := he n c e1
      exact ⟨c', e2, q2.trans q1⟩
    · have h0 : ∀ b, H b = none → H0 b = none := fun b h => by
        cases q : H0 b with
        | none => rfl
        | some u => exact absurd h (s.keep.dom b (by rw [q]; exact fun z => nomatch z))
      rcases (memft q).mp hq with z | z | z
      · exact s.ext.new q z
      · exact .inr (h0 q (z ▸ hx))
      · exact .inr (h0 q (z ▸ hd))
    · rw [List.getElem?_append_left (List.getElem?_eq_some_iff.mp (s.ext.same n c0 e0).choose_spec.1).1] at e
      exact s.ext.sub n c0 c e0 e
  · rcases (memft q).mp hq with z | z | z
    · exact .inl z
    · exact .inr (z ▸ hx)
    · exact .inr (z ▸ hd)
  · rw [List.getElem?_append_left (List.getElem?_eq_some_iff.mp e0).1, e0] at e
    cases e; rfl
end
section
variable {X : Cx} {F : CallF} {k : Nat} {fa C : Addr} {fd : FuncData} {ps : List Str} {f : Nat} {x m y : Str} {p pos apos : Pos} {o e : Expr} {es : List Expr} {eo : E} {ees : List E}
end
section
variable {K : PySem.W.Frag} {F : CallF} {av : Addr → Prop} {H0 H H1 H2 H' : Hp} {ρ0 ρ ρ1 ρ2 ρ' : List CA} {σ : L2.St} {env : Env} {lo lo1 lo2 lo' : Lo} {m m1 m2 m' : MH}
mutual
theorem RelD.far {A A' : Addr → Prop} (hA : ∀ a, A' a → A a ∨ H a = none) : ∀ (d : D) (v : V), noObj d = true → RelD K H A ρ d v → RelD K H A' ρ' d v
  | .non, _, _, h => h
  | .bl _, _, _, h => h
  | .int _, _, _, h => h
  | .str _, _, _, h => h
  | .tup ds, _, n, h => by
    obtain ⟨a, xs, e, h1, h2⟩ := h
    exact ⟨a, xs, e, h1, RelDs.far hA ds xs n h2⟩
  | .lst ds, _, n, h => by
    obtain ⟨a, xs, e, h1, na, h2⟩ := h
    exact ⟨a, xs, e, h1, fun z => (hA a z).elim na fun q => (by rw [q] at h1; cases h1), RelDs.far hA ds xs n h2⟩
  | .dK ds, _, n, h => by
    obtain ⟨a, xs, e, h1, na, h2⟩ := h
    exact ⟨a, xs, e, h1, fun z => (hA a z).elim na fun q => (by rcases h1 with h1 | ⟨o, h1⟩ <;> (rw [q] at h1; cases h1)), RelK.far hA ds xs n h2⟩
  | .dT ds, _, n, h => by
    obtain ⟨a, xs, e, h1, na, h2⟩ := h
    exact ⟨a, xs, e, h1, fun z => (hA a z).elim na fun q => (by rcases h1 with h1 | ⟨o, h1⟩ <;> (rw [q] at h1; cases h1)), RelT.far hA ds xs n h2⟩
  | .obj _, _, n, _ => nomatch n
  | .scr ns, _, _, h => by
    obtain ⟨a, e, h⟩ := h
    exact ⟨a, e, h.imp (fun ⟨o, h1, na⟩ => ⟨o, h1, fun z => (hA a z).elim na fun q => (by rw [q] at h1; cases h1)⟩) id⟩
theorem RelDs.far {A A' : Addr → Prop} (hA : ∀ a, A' a → A a ∨ H a = none) : ∀ (ds : List D) (vs : List V), noObjs ds = true → RelDs K H A ρ ds vs → RelDs K H A' ρ' ds vs
  | [], _, _, h => h
  | d :: ds, _, n, h => by
    obtain ⟨v, r, e, h1, h2⟩ := h
    have n' : noObj d = true ∧ noObjs ds = true := by simpa [noObjs] using n
    exact ⟨v, r, e, RelD.far hA d v n'.1 h1, RelDs.far hA ds r n'.2 h2⟩
theorem RelK.far {A A' : Addr → Prop} (hA : ∀ a, A' a → A a ∨ H a = none) : ∀ (ds : List (Key × D)) (vs : List (Key × V)), noObjK ds = true → RelK K H A ρ ds vs → RelK K H A' ρ' ds vs
  | [], _, _, h => h
  | (k, d) :: ds, _, n, h => by
    obtain ⟨v, r, e, h1, h2⟩ := h
    have n' : noObj d = true ∧ noObjK ds = true := by simpa [noObjK] using n
    exact ⟨v, r, e, RelD.far hA d v n'.1 h1, RelK.far hA ds r n'.2 h2⟩
theorem RelT.far {A A' : Addr → Prop} (hA : ∀ a, A' a → A a ∨ H a = none) : ∀ (ds : List (List Key × D)) (vs : List (List Key × V)), noObjT ds = true → RelT K H A ρ ds vs → RelT K H A' ρ' ds vs
  | [], _, _, h => h
  | (k, d) :: ds, _, n, h => by
    obtain ⟨v, r, e, h1, h2⟩ := h
    have n' : noObj d = true ∧ noObjT ds = true := by simpa [noObjT] using n
    exact ⟨v, r, e, RelD.far hA d v n'.1 h1, RelT.far hA ds r n'.2 h2⟩
end
theorem OwnAt.far {A A' : Addr → Prop} {p : Addr} (hA : ∀ a, A' a → A a ∨ H a = none) {d : D} (n : noObj d = true) (h : OwnAt K H A ρ p d) : OwnAt K H A' ρ' p d := by
  cases d <;> first | exact h.elim | skip
  · obtain ⟨xs, e, r⟩ := h; exact ⟨xs, e, RelDs.far hA _ xs n r⟩
  · obtain ⟨xs, e, r⟩ := h; exact ⟨xs, e, RelK.far hA _ xs n r⟩
  · obtain ⟨xs, e, r⟩ := h; exact ⟨xs, e, RelT.far hA _ xs n r⟩
end
section
variable {X : Cx} {F : CallF} {k : Nat} {fa : Addr} {fd : FuncData} {ps : List Str} {f : Nat} {x : Str} {p pos : Pos} {es : List Expr} {ees : List E}
end
end MP
namespace MP
open PySem PySem.Spec L2
def dctH : HO → Bool
  | .dK _ => true
  | .dT _ => true
  | _ => false
structure Lck (p : Addr) (u : HO) (o : Obj) (H H' : Hp) : Prop where
  d : dctH u = true
  ne : ∀ a, a ≠ p → H' a = H a
  at_ : (H p = some u ∧ H' p = some (.frz o u)) ∨ (H p = some (.frz o u) ∧ H' p = some u)
section
variable {K : PySem.W.Frag} {H H' : Hp} {A : Addr → Prop} {ρ : List CA} {p : Addr} {u : HO} {o : Obj}
theorem Lck.symm (L : Lck p u o H H') : Lck p u o H' H := ⟨L.d, fun a h => (L.ne a h).symm, L.at_.symm.imp (fun h => ⟨h.2, h.1⟩) fun h => ⟨h.2, h.1⟩⟩
theorem Lck.keep (L : Lck p u o H H') {a : Addr} {w : HO} (e : H a = some w) (h1 : w ≠ u) (h2 : w ≠ .frz o u) : H' a = some w := by
  rw [L.ne a fun z => ?_]; exact e
  subst z
  rcases L.at_ with ⟨q, _⟩ | ⟨q, _⟩ <;> rw [q] at e <;> cases e
  · exact h1 rfl
  · exact h2 rfl
theorem Lck.tup (L : Lck p u o H H') {a : Addr} {xs : List V} (e : H a = some (.tup xs)) : H' a = some (.tup xs) := L.keep e (fun z => by have := L.d; rw [← z] at this; cases this) fun z => nomatch z
theorem Lck.lst (L : Lck p u o H H') {a : Addr} {xs : List V} (e : H a = some (.lst xs)) : H' a = some (.lst xs) := L.keep e (fun z => by have := L.d; rw [← z] at this; cases this) fun z => nomatch z
theorem Lck.frzL (L : Lck p u o H H') {a : Addr} {o' : Obj} {xs : List V} (e : H a = some (.frz o' (.lst xs))) : H' a = some (.frz o' (.lst xs)) := L.keep e (fun z => by have := L.d; rw [← z] at this; cases this) fun z => by
  cases z
  exact absurd L.d (fun y => by cases y)
theorem Lck.rd (L : Lck p u o H H') {a : Addr} {w : HO} (hw : dctH w = true) (e : Rd H a w) : Rd H' a w := by
  by_cases h : a = p
  · subst h
    have nf : ∀ o', w ≠ .frz o' u := fun o' z => by rw [z] at hw; cases hw
    have nf2 : ∀ o' w', u ≠ .frz o' w' := fun o' w' z => by have := L.d; rw [z] at this; cases this
    rcases L.at_ with ⟨q, q'⟩ | ⟨q, q'⟩
    · rcases e with e | ⟨o', e⟩
      · rw [q] at e; cases e; exact .inr ⟨o, q'⟩
      · rw [q] at e; cases e; exact absurd rfl (nf2 _ _)
    · rcases e with e | ⟨o', e⟩
      · rw [q] at e; cases e; exact absurd rfl (nf _)
      · rw [q] at e; cases e; exact .inl q'
  · rcases e with e | ⟨o', e⟩
    · exact .inl (by rw [L.ne a h]; exact e)
    · exact .inr ⟨o', by rw [L.ne a h]; exact e⟩
theorem Lck.there (L : Lck p u o H H') {a : Addr} (h : H a ≠ none) : H' a ≠ none := by
  by_cases z : a = p
  · subst z
    rcases L.at_ with ⟨_, q⟩ | ⟨_, q⟩ <;> (rw [q]; exact fun z => nomatch z)
  · rw [L.ne a z]; exact h
theorem Lck.nt (L : Lck p u o H H') {a : Addr} (h : ∀ xs, H a ≠ some (.tup xs)) : ∀ xs, H' a ≠ some (.tup xs) := fun xs e => h xs (L.symm.tup e)
mutual
theorem RelD.lck (L : Lck p u o H H') : ∀ (d : D) (v : V), RelD K H A ρ d v → RelD K H' A ρ d v
  | .non, v, h => h
  | .bl _, v, h => h
  | .int _, v, h => h
  | .str _, v, h => h
  | .tup ds, v, h => by obtain ⟨a, xs, e, h1, h2⟩ := h; exact ⟨a, xs, e, L.tup h1, RelDs.lck L ds xs h2⟩
  | .lst ds, v, h => by obtain ⟨a, xs, e, h1, n, h2⟩ := h; exact ⟨a, xs, e, L.lst h1, n, RelDs.lck L ds xs h2⟩
  | .dK kvs, v, h => by obtain ⟨a, ws, e, h1, n, h2⟩ := h; exact ⟨a, ws, e, L.rd rfl h1, n, RelK.lck L kvs ws h2⟩
  | .dT kvs, v, h => by obtain ⟨a, ws, e, h1, n, h2⟩ := h; exact ⟨a, ws, e, L.rd rfl h1, n, RelT.lck L kvs ws h2⟩
  | .obj n, v, h => h
  | .scr ns, v, h => by
    obtain ⟨a, e, h⟩ := h
    exact ⟨a, e, h.imp (fun ⟨o', h1, n⟩ => ⟨o', L.frzL h1, n⟩) id⟩
theorem RelDs.lck (L : Lck p u o H H') : ∀ (ds : List D) (vs : List V), RelDs K H A ρ ds vs → RelDs K H' A ρ ds vs
  | [], _, h => h
  | d :: ds, _, h => by obtain ⟨v, r, e, h1, h2⟩ := h; exact ⟨v, r, e, RelD.lck L d v h1, RelDs.lck L ds r h2⟩
theorem RelK.lck (L : Lck p u o H H') : ∀ (ds : List (Key × D)) (vs : List (Key × V)), RelK K H A ρ ds vs → RelK K H' A ρ ds vs
  | [], _, h => h
  | (k, d) :: ds, _, h => by obtain ⟨v, r, e, h1, h2⟩ := h; exact ⟨v, r, e, RelD.lck L d v h1, RelK.lck L ds r h2⟩
theorem RelT.lck (L : Lck p u o H H') : ∀ (ds : List (List Key × D)) (vs : List (List Key × V)), RelT K H A ρ ds vs → RelT K H' A ρ ds vs
  | [], _, h => h
  | (k, d) :: ds, _, h => by obtain ⟨v, r, e, h1, h2⟩ := h; exact ⟨v, r, e, RelD.lck L d v h1, RelT.lck L ds r h2⟩
end
theorem PeekAt.lck (L : Lck p u o H H') {q : Addr} : ∀ {d : D}, PeekAt K H A ρ q d → PeekAt K H' A ρ q d
  | .lst ds, h => let ⟨xs, e, r⟩ := h; ⟨xs, L.lst e, r.lck L⟩
  | .dK _, h => let ⟨xs, e, r⟩ := h; ⟨xs, L.rd rfl e, r.lck L⟩
  | .dT _, h => let ⟨xs, e, r⟩ := h; ⟨xs, L.rd rfl e, r.lck L⟩
  | .non, h => h.elim
  | .bl _, h => h.elim
  | .int _, h => h.elim
  | .str _, h => h.elim
  | .tup _, h => h.elim
  | .obj _, h => h.elim
  | .scr _, h => h.elim
theorem OwnAt.lck (L : Lck p u o H H') {q : Addr} (hq : q ≠ p) : ∀ {d : D}, OwnAt K H A ρ q d → OwnAt K H' A ρ q d
  | .lst ds, h => let ⟨xs, e, r⟩ := h; ⟨xs, (L.ne q hq).trans e, r.lck L⟩
  | .dK _, h => let ⟨xs, e, r⟩ := h; ⟨xs, (L.ne q hq).trans e, r.lck L⟩
  | .dT _, h => let ⟨xs, e, r⟩ := h; ⟨xs, (L.ne q hq).trans e, r.lck L⟩
  | .non, h => h.elim
  | .bl _, h => h.elim
  | .int _, h => h.elim
  | .str _, h => h.elim
  | .tup _, h => h.elim
  | .obj _, h => h.elim
  | .scr _, h => h.elim
theorem CellOk.lck (L : Lck p u o H H') {c : CA} (hc : c.dead = false → c.a ≠ p) : ∀ {x : Cell}, CellOk K H A ρ c x → CellOk K H' A ρ c x
  | .lst ds, h => let ⟨e, xs, e2, r⟩ := h; ⟨e, xs, (L.ne _ (hc e.2)).trans e2, r.lck L⟩
  | .dK ds, h => let ⟨e, xs, e2, r⟩ := h; ⟨e, xs, (L.ne _ (hc e.2)).trans e2, r.lck L⟩
  | .dT ds, h => let ⟨e, xs, e2, r⟩ := h; ⟨e, xs, (L.ne _ (hc e.2)).trans e2, r.lck L⟩
  | .ins x fs, h => let ⟨C, dx, ws, e, e2, e3, r⟩ := h; ⟨C, dx, ws, e, e2, (L.ne _ (hc e2.2)).trans e3, Paired.mapP r fun p q z => ⟨z.1, RelD.lck L p.2 q.2 z.2⟩⟩
  | .exc C vs, h => let ⟨e, Ca, dx, fs, ws, h1, h2, h3, h4, h5, h6⟩ := h
    ⟨e, Ca, dx, fs, ws, h1, h2, L.keep h3 (fun z => by have := L.d; rw [← z] at this; cases this) (fun z => nomatch z), L.keep h4 (fun z => by have := L.d; rw [← z] at this; cases this) (fun z => nomatch z), h5.lck L, h6⟩
  | .gone, h => by
    obtain ⟨e, w, e2, r⟩ := h
    cases e3 : H' c.a with
    | none => exact absurd e3 (L.there (by rw [e2]; exact fun z => nomatch z))
    | some w' => exact ⟨e, w', e3, fun zs z => L.nt (fun xs y => r xs (Option.some.inj (e2.symm.trans y))) zs (by rw [e3, z])⟩
variable {av : Addr → Prop} {H0 H0' : Hp} {ρ0 : List CA} {lo : Lo} {σ : L2.St} {env : MP.Env} {m : MH}
theorem SlotOk.lck (L : Lck p u o H H') {A : Addr → Prop} {σi : Option (Option V)} {l : Option Addr} (hl : l ≠ some p) : ∀ {s : Slot}, SlotOk K H A av ρ σi l s → SlotOk K H' A av ρ σi l s
  | .un, h => h
  | .sh d, h => let ⟨n, v, e, r⟩ := h; ⟨n, v, e, r.lck L⟩
  | .ow d, h => let ⟨p', e, e2, r⟩ := h; ⟨p', e, e2, r.lck L fun z => hl (by rw [e, z])⟩
  | .bw d, h => let ⟨n, p', e, e2, r⟩ := h; ⟨n, p', e, e2, r.lck L⟩
structure Fix (av : Addr → Prop) (ρ : List CA) (lo : Lo) (p : Addr) : Prop where
  ft : p ∉ foot ρ
  lo : ∀ i, lo i ≠ some p
theorem Stt.lckX {ρ0' : List CA} (s : Stt K av H0 ρ0 ρ lo σ H env m) (L : Lck p u o H H') (fx : Fix av ρ lo p) (hk : Keeps H0' H' ρ0') (ex : Ext H0' ρ0' ρ) (n1 : ∀ a, a ≠ p → H0 a = none → H0' a = none) (n2 : av p → H0' p ≠ none) (n3 : ∀ a, a ≠ p → av a → H0' a ≠ none) : Stt K av H0' ρ0' ρ lo σ H' env m where
  len := s.len
  slot := fun i x e => (s.slot i x e).lck L (fx.lo i)
  inj := s.inj
  loF := fun i q e => by
    obtain ⟨h1, h2, h3, h4, h5⟩ := s.loF i q e
    exact ⟨h1, h2, n1 q (fun z => fx.lo i (z ▸ e)) h3, L.there h4, L.nt h5⟩
  fnd := s.fnd
  fav := fun q hq => let ⟨h1, h2, h3⟩ := s.fav q hq; ⟨h1, L.nt h2, L.there h3⟩
  avd := fun q hq => by
    by_cases z : q = p
    · subst z; exact n2 hq
    · exact n3 q z hq
  ml := s.ml
  cells := fun n c x e1 e2 => (s.cells n c x e1 e2).lck L fun hd z => fx.ft (z ▸ mem_foot e1 hd)
  ext := ex
  keep := hk
theorem Stt.lck {ρ0' : List CA} (s : Stt K av H0 ρ0 ρ lo σ H env m) (L : Lck p u o H H') (fx : Fix av ρ lo p) (hk : Keeps H0' H' ρ0') (n1 : ∀ a, a ≠ p → H0' a = H0 a) (n2 : av p → H0' p ≠ none) (kl : ρ0'.length = ρ0.length) (kg : ∀ (n : Nat) (c : CA), ρ0'[n]? = some c → ∃ c0 : CA, ρ0[n]? = some c0 ∧ c.a = c0.a ∧ c.sub = c0.sub) (km : ∀ q, q ≠ p → q ∈ foot ρ0 → q ∈ foot ρ0') : Stt K av H0' ρ0' ρ lo σ H' env m :=
  s.lckX L fx hk ⟨by rw [kl]; exact s.ext.le, fun n c e => by
      obtain ⟨c0, e0, h1, _⟩ := kg n c e
      obtain ⟨c1, e1, h2⟩ := s.ext.same n c0 e0
      exact ⟨c1, e1, h2.trans h1.symm⟩,
    fun q hq => have hn : q ≠ p := fun y => fx.ft (y ▸ hq)
      (s.ext.new q hq).imp (km q hn) fun z => by rw [n1 q hn]; exact z,
    fun n c c1 e e1 => by
      obtain ⟨c0, e0, _, h2⟩ := kg n c e
      exact (s.ext.sub n c0 c1 e0 e1).trans h2.symm⟩ (fun a h e => by rw [n1 a h]; exact e) n2 fun a h z => by rw [n1 a h]; exact s.avd a z
def kill (p : Addr) (ρ : List CA) : List CA := ρ.map fun c => if c.a = p then { c with dead := true } else c
theorem kill_len (p : Addr) (ρ : List CA) : (kill p ρ).length = ρ.length := by unfold kill; rw [List.length_map]
theorem kill_get {p : Addr} {ρ : List CA} {n : Nat} {c : CA} (e : (kill p ρ)[n]? = some c) : ∃ c0 : CA, ρ[n]? = some c0 ∧ c.a = c0.a ∧ c.sub = c0.sub := by
  unfold kill at e
  rw [List.getElem?_map, Option.map_eq_some_iff] at e
  obtain ⟨c0, h, rfl⟩ := e
  exact ⟨c0, h, by split <;> rfl, by split <;> rfl⟩
theorem kill_at {p : Addr} {ρ : List CA} {n : Nat} {c0 : CA} (e : ρ[n]? = some c0) : ∃ c : CA, (kill p ρ)[n]? = some c ∧ c.a = c0.a ∧ c.sub = c0.sub := by
  refine ⟨_, by unfold kill; rw [List.getElem?_map, e]; rfl, by show (if c0.a = p then _ else _ : CA).a = _; split <;> rfl, by show (if c0.a = p then _ else _ : CA).sub = _; split <;> rfl⟩
theorem kill_sub {p q : Addr} {ρ : List CA} (h : q ∈ foot (kill p ρ)) : q ∈ foot ρ := by
  obtain ⟨c, hc, hq⟩ := List.mem_flatMap.mp h
  unfold kill at hc
  obtain ⟨c0, h0, rfl⟩ := List.mem_map.mp hc
  refine List.mem_flatMap.mpr ⟨c0, h0, ?_⟩
  split at hq
  · unfold CA.ft at hq ⊢
    rw [if_pos rfl] at hq
    split
    · exact hq
    · exact List.mem_cons_of_mem _ hq
  · exact hq
theorem kill_mem {p q : Addr} {ρ : List CA} (hn : q ≠ p) (h : q ∈ foot ρ) : q ∈ foot (kill p ρ) := by
  obtain ⟨c, hc, hq⟩ := List.mem_flatMap.mp h
  refine List.mem_flatMap.mpr ⟨_, List.mem_map.mpr ⟨c, hc, rfl⟩, ?_⟩
  split
  · rename_i e
    unfold CA.ft at hq ⊢
    rw [if_pos rfl]
    split at hq
    · exact hq
    · rcases List.mem_cons.mp hq with z | z
      · exact absurd (z.trans e) hn
      · exact z
  · exact hq
theorem kill_not {p : Addr} {ρ : List CA} (h : ∀ c ∈ ρ, p ∉ c.sub) : p ∉ foot (kill p ρ) := fun z => by
  obtain ⟨c, hc, hq⟩ := List.mem_flatMap.mp z
  unfold kill at hc
  obtain ⟨c0, h0, rfl⟩ := List.mem_map.mp hc
  have hs := h c0 h0
  split at hq
  · unfold CA.ft at hq
    rw [if_pos rfl] at hq
    exact hs hq
  · rename_i e
    unfold CA.ft at hq
    split at hq
    · exact hs hq
    · rcases List.mem_cons.mp hq with y | y
      · exact e y.symm
      · exact hs y
structure CanLk (K : PySem.W.Frag) (av : Addr → Prop) (H0 : Hp) (ρ0 ρ : List CA) (lo : Lo) (H : Hp) (p : Addr) (u : HO) : Prop where
  d : dctH u = true
  at_ : H p = some u
  hp : ¬ aA av ρ lo p ∨ av p
  fx : Fix av ρ lo p
  f0 : ∀ c ∈ ρ0, p ∉ c.sub
section
variable (c : CanLk K av H0 ρ0 ρ lo H p u)
include c
theorem CanLk.L (o : Obj) : Lck p u o H (upd H p (.frz o u)) := ⟨c.d, fun a h => upd_ne h, .inl ⟨c.at_, upd_same⟩⟩
theorem CanLk.k0 : p ∉ foot (kill p ρ0) := kill_not c.f0
theorem CanLk.at (a : At K av H0 ρ0 ρ lo σ H env m) (o : Obj) : At K av (upd H0 p (.frz o u)) (kill p ρ0) ρ lo σ (upd H p (.frz o u)) env m := by
  refine ⟨a.st.lck (c.L o) c.fx ⟨fun q w e n => ?_, fun q h => ?_⟩ (fun q h => upd_ne h) (fun _ => by rw [upd_same]; exact fun z => nomatch z) (kill_len _ _) (fun n c1 e => kill_get e) fun q h => kill_mem h, a.hl, a.far⟩
  · by_cases z : q = p
    · subst z; rw [upd_same] at e ⊢; exact e
    · rw [upd_ne z] at e ⊢; exact a.st.keep.keep q w e fun y => n (kill_mem z y)
  · by_cases z : q = p
    · subst z; rw [upd_same]; exact fun z => nomatch z
    · rw [upd_ne z] at h ⊢; exact a.st.keep.dom q h
theorem CanLk.back {H2 : Hp} {ρ2 : List CA} {o : Obj} (e0 : Ext (upd H0 p (.frz o u)) (kill p ρ0) ρ2) (e1 : Ext H0 ρ0 ρ) (k : Keeps (upd H0 p (.frz o u)) H2 (kill p ρ0)) (k0 : Keeps H0 H ρ0) :
    H2 p = some (.frz o u) ∧ Lck p u o H2 (upd H2 p u) ∧ Keeps H0 (upd H2 p u) ρ0 ∧ Ext H0 ρ0 ρ2 := by
  have h2 : H2 p = some (.frz o u) := k.keep p _ upd_same c.k0
  refine ⟨h2, ⟨c.d, fun a h => upd_ne h, .inr ⟨h2, upd_same⟩⟩, ⟨fun q w e n => ?_, fun q h => ?_⟩, by have := e0.le; rwa [kill_len] at this, fun n c0 e => ?_, fun q hq => ?_, fun n c0 c1 e e' => ?_⟩
  · by_cases z : q = p
    · subst z
      have := k0.keep q w e n
      rw [c.at_] at this; cases this
      exact upd_same
    · rw [upd_ne z]; exact k.keep q w (by rw [upd_ne z]; exact e) fun y => n (kill_sub y)
  · by_cases z : q = p
    · subst z; rw [upd_same]; exact fun z => nomatch z
    · rw [upd_ne z]; exact k.dom q (by rw [upd_ne z]; exact h)
  · obtain ⟨c1, g1, g2, g3⟩ := kill_at (p := p) e
    obtain ⟨c2, g4, g5⟩ := e0.same n c1 g1
    exact ⟨c2, g4, g5.trans g2⟩
  · refine (e0.new q hq).imp kill_sub fun z => ?_
    by_cases y : q = p
    · subst y; rw [upd_same] at z; cases z
    · rw [upd_ne y] at z; exact z
  · obtain ⟨c2, g1, g2, g3⟩ := kill_at (p := p) e
    exact (e0.sub n c2 c1 g1 e').trans g3
theorem CanLk.step (a : At K av H0 ρ0 ρ lo σ H env m) {o : Obj} {ρ2 : List CA} {lo2 : Lo} {σ2 : L2.St} {H2 : Hp} {env2 : MP.Env} {m2 : MH} (s : SStep K av (upd H0 p (.frz o u)) (kill p ρ0) env ρ lo (upd H p (.frz o u)) ρ2 lo2 σ2 H2 env2 m2) :
    H2 p = some (.frz o u) ∧ SStep K av H0 ρ0 env ρ lo H ρ2 lo2 σ2 (upd H2 p u) env2 m2 := by
  obtain ⟨h2, L2, kp, ex⟩ := c.back s.at'.st.ext a.st.ext s.at'.st.keep a.st.keep
  have ft : p ∉ foot ρ2 := fun z => c.hp.elim (fun n => (s.ha p (.inr (.inl z))).elim n fun q => by rw [upd_same] at q; cases q) fun h => (s.at'.st.fav p z).1 h
  have fl : ∀ i, lo2 i ≠ some p := fun i z => c.hp.elim (fun n => (s.ha p (.inr (.inr ⟨i, z⟩))).elim n fun q => by rw [upd_same] at q; cases q) fun h => (s.at'.st.loF i p z).1 h
  refine ⟨h2, ⟨⟨s.at'.st.lckX L2 ⟨ft, fl⟩ kp ex (fun q h e => by rw [upd_ne h] at e; exact e) (fun h => a.st.avd p h) (fun q _ h => a.st.avd q h), s.at'.hl, s.at'.far⟩, s.len, ⟨fun q xs e => L2.tup (s.st.tup q xs ((c.L o).tup e)), fun q w n e => ?_⟩, fun q z => (s.ha q z).imp id fun y => ?_, s.he, fun q w h e => ?_, fun q h => L2.there (s.dom q ((c.L o).there h))⟩⟩
  · by_cases z : q = p
    · subst z; rw [c.at_] at e; cases e; exact upd_same
    · rw [upd_ne z]; exact s.st.rest q w n (by rw [upd_ne z]; exact e)
  · by_cases z : q = p
    · subst z; rw [upd_same] at y; cases y
    · rw [upd_ne z] at y; exact y
  · by_cases z : q = p
    · subst z; rw [c.at_] at e; cases e; exact upd_same
    · rw [upd_ne z]; exact s.avk q w h (by rw [upd_ne z]; exact e)
theorem CanLk.ret (a : At K av H0 ρ0 ρ lo σ H env m) {o : Obj} {ρ2 : List CA} {d : D} {f : Bool} {m2 : MH} {v : V} {H2 : Hp} (s : RetOk K av (upd H0 p (.frz o u)) (kill p ρ0) d f m2 v H2 ρ2) : H2 p = some (.frz o u) ∧ RetOk K av H0 ρ0 d f m2 v (upd H2 p u) ρ2 := by
  obtain ⟨h2, L2, kp, ex⟩ := c.back s.ext a.st.ext s.keep a.st.keep
  obtain ⟨o', hc, hv⟩ := s.val
  have ft : p ∉ foot ρ2 := fun z => by
    rcases s.ext.new p z with y | y
    · exact c.k0 y
    · rw [upd_same] at y; cases y
  refine ⟨h2, ⟨s.fnd, fun q hq => let ⟨h1, h2, h3⟩ := s.fav q hq; ⟨h1, L2.nt h2, L2.there h3⟩, s.ml, ex, kp, o', fun n x y e1 e2 => (hc n x y e1 e2).lck L2 fun hd z => ft (z ▸ mem_foot e1 hd), ?_⟩⟩
  cases f with
  | true =>
    obtain ⟨q, g1, g2, g3, g4, g5, g6⟩ := hv
    have qp : q ≠ p := fun z => by rw [z, upd_same] at g3; cases g3
    exact ⟨q, g1, g2, by rw [upd_ne qp] at g3; exact g3, g4, g5, g6.lck L2 qp⟩
  | false => exact ⟨hv.1, hv.2.lck L2⟩
theorem CanLk.ends (a : At K av H0 ρ0 ρ lo σ H env m) {E : Ends} {o : Obj} : ∀ {r : SR}, MP.ends K av H0 ρ0 env ρ lo H E r → MP.ends K av (upd H0 p (.frz o u)) (kill p ρ0) env ρ lo (upd H p (.frz o u)) ⟨fun σ' H' => H' p = some (.frz o u) ∧ E.nx σ' (upd H' p u), fun v H' => H' p = some (.frz o u) ∧ E.rt v (upd H' p u), fun σ' H' => H' p = some (.frz o u) ∧ E.bk σ' (upd H' p u), fun σ' H' => H' p = some (.frz o u) ∧ E.ct σ' (upd H' p u)⟩ r
  | .nx _ _, h => fun σ' H' ρ' lo' s => let ⟨q, t⟩ := c.step a s; ⟨q, h _ _ _ _ t⟩
  | .brk _ _, h => fun σ' H' ρ' lo' s => let ⟨q, t⟩ := c.step a s; ⟨q, h _ _ _ _ t⟩
  | .cnt _ _, h => fun σ' H' ρ' lo' s => let ⟨q, t⟩ := c.step a s; ⟨q, h _ _ _ _ t⟩
  | .ret _ _ _, h => fun v H' ρ' s => let ⟨q, t⟩ := c.ret a s; ⟨q, h _ _ _ t⟩
  | .bad, h => h
end
end
end MP
namespace MP
open PySem PySem.Spec L2
section
variable {K : PySem.W.Frag} {H : Hp} {A : Addr → Prop} {ρ : List CA} {p : Addr} {o : Obj}
theorem RelK.keys : ∀ {kvs : List (Key × D)} {ws : List (Key × V)}, RelK K H A ρ kvs ws → kvs.map (·.1) = ws.map (·.1)
  | [], _, h => by cases h; rfl
  | (k, d) :: r, _, h => by obtain ⟨v, q, rfl, _, h2⟩ := h; rw [List.map_cons, List.map_cons, RelK.keys h2]
theorem RelT.keys : ∀ {kvs : List (List Key × D)} {ws : List (List Key × V)}, RelT K H A ρ kvs ws → kvs.map (·.1) = ws.map (·.1)
  | [], _, h => by cases h; rfl
  | (k, d) :: r, _, h => by obtain ⟨v, q, rfl, _, h2⟩ := h; rw [List.map_cons, List.map_cons, RelT.keys h2]
end
section
variable {K : PySem.W.Frag} {F : CallF} {W : Nat} {av : Addr → Prop} {H0 H H1 : Hp} {ρ0 ρ ρ1 : List CA} {σ : L2.St} {env : MP.Env} {lo lo1 : Lo} {m m1 : MH} {p : Addr} {u : HO}
end
section
variable {X : Cx} {F : CallF} {W : Nat} {pos : Pos}
theorem s_dictT0 : PE X (.Dict [] [] pos) (tE X.K F (.c (.dT []))) := by
  refine PE.imp pe_dnewT fun σ H Q h => ?_
  obtain ⟨av, H0, ρ0, ρ, lo, env, m, x, m', a, he, q⟩ := h
  cases he
  exact fun p hp => fin (d := .dT []) a.refl a q _ _ ⟨kept_upd hp, p, rfl, hp, [], upd_same, rfl⟩
end
end MP
namespace MP
open PySem PySem.Spec PyProof.Rows L2
section
variable {X : Cx} {F : CallF} {W : Nat}
variable {K : PySem.W.Frag} {av : Addr → Prop} {H0 H : Hp} {ρ0 ρ : List CA} {lo : Lo} {σ : L2.St} {env : MP.Env} {m : MH}
end
section
variable {X : Cx} {F : CallF} {W : Nat} {pos : Pos}
end
end MP
namespace MP
open PySem PySem.Spec L2
theorem foot_kill {ρ : List CA} {n : Nat} {c : CA} (e : ρ[n]? = some c) (hs : c.sub = []) (hd : c.dead = false) : ∃ l1 l2, foot ρ = l1 ++ c.a :: l2 ∧ foot (ρ.set n { c with dead := true }) = l1 ++ l2 := by
  have hn := (List.getElem?_eq_some_iff.mp e).1
  have hc := (List.getElem?_eq_some_iff.mp e).2
  refine ⟨foot (ρ.take n), foot (ρ.drop (n + 1)), ?_, ?_⟩
  · have q : ρ = ρ.take n ++ c :: ρ.drop (n + 1) := by rw [← hc, List.getElem_cons_drop, List.take_append_drop]
    have h : foot ρ = foot (ρ.take n ++ c :: ρ.drop (n + 1)) := congrArg foot q
    rw [h]
    unfold foot
    rw [List.flatMap_append, List.flatMap_cons]
    have f : c.ft = [c.a] := by unfold CA.ft; rw [hd, hs]; rfl
    rw [f]
    rfl
  · rw [List.set_eq_take_append_cons_drop, if_pos hn]
    unfold foot
    rw [List.flatMap_append, List.flatMap_cons]
    have f : ({ c with dead := true } : CA).ft = [] := by unfold CA.ft; rw [if_pos rfl]; exact hs
    rw [f]
    rfl
theorem RelF.swap {K : PySem.W.Frag} {H : Hp} {A : Addr → Prop} {ρ : List CA} {fs : List (Str × D)} {ws : List (Str × V)} (r : RelF K H A ρ fs ws) {f : Str} {d : D} {v : V} (hw : ws.lookup f = some v) (h : RelD K H A ρ d v) : RelF K H A ρ (putFD f d fs) ws := by
  unfold RelF at r ⊢
  induction r with
  | nil => cases hw
  | @cons p q ps qs hp t ih =>
    obtain ⟨g, x⟩ := p
    obtain ⟨g', y⟩ := q
    obtain ⟨e, hr⟩ := hp
    have e : g = g' := e
    subst e
    rw [List.lookup_cons] at hw
    unfold putFD
    by_cases hg : g = f
    · subst hg
      rw [if_pos rfl]
      simp at hw
      subst hw
      exact .cons ⟨rfl, h⟩ t
    · rw [if_neg hg]
      have hf : (f == g) = false := by simpa using fun z : f = g => hg z.symm
      rw [hf] at hw
      exact .cons ⟨rfl, hr⟩ (ih hw)
section
variable {X : Cx} {F : CallF} {W : Nat} {pos : Pos}
theorem frzR_ok {d : D} {f : Str} {m m' : MH} (h : frzR d f m = some m') : ∃ k x fs n c d', d = .obj k ∧ m[k]? = some (.ins x fs) ∧ fs.lookup f = some (.obj n) ∧ m[n]? = some c ∧ ((∃ kvs, c = .dK kvs ∧ d' = .dK kvs) ∨ (∃ kvs, c = .dT kvs ∧ d' = .dT kvs) ∨ ∃ ds, c = .lst ds ∧ d' = .lst ds) ∧ fs.length < 1000 ∧ m' = (m.set n .gone).set k (.ins x (putFD f d' fs)) := by
  unfold frzR at h
  cases hi : insOf m d with
  | none => rw [hi] at h; cases h
  | some t =>
    obtain ⟨k, x, fs⟩ := t
    rw [hi] at h
    simp only at h
    obtain ⟨e1, hm⟩ := insOf_ok hi
    cases hl : fs.lookup f with
    | none => rw [hl] at h; cases h
    | some v =>
      rw [hl] at h
      cases v <;> first | (cases h; done) | skip
      rename_i n
      simp only at h
      cases hn : m[n]? with
      | none => rw [hn] at h; cases h
      | some c =>
        rw [hn] at h
        cases c <;> first | (cases h; done) | skip
        all_goals
          simp only at h
          split at h <;> cases h
          rename_i hz
        · exact ⟨k, x, fs, n, _, _, e1, hm, hl, hn, .inr (.inr ⟨_, rfl, rfl⟩), hz, rfl⟩
        · exact ⟨k, x, fs, n, _, _, e1, hm, hl, hn, .inl ⟨_, rfl, rfl⟩, hz, rfl⟩
        · exact ⟨k, x, fs, n, _, _, e1, hm, hl, hn, .inr (.inl ⟨_, rfl, rfl⟩), hz, rfl⟩
theorem ss_frzA {i : Nat} {f : Str} {rest : List Stmt} {ss : List S} (h2 : PSs X rest (tSs X.K F W ss)) : PSs X rest (tSs X.K F W (.frzA i f :: ss)) := by
  refine ss_ghost h2 (fun {av H0 ρ0 ρ lo σ H env m env' m'} a e => ?_) fun env m => ?_
  · simp only [evalS] at e
    cases hi : env.at i <;> first | (rw [hi] at e; cases e; done) | skip
    rename_i d
    rw [hi] at e
    simp only at e
    cases hf : frzR d f m with
    | none => rw [hf] at e; cases e
    | some mm =>
      rw [hf] at e
      cases e
      obtain ⟨k, x, fs, n, c0, d', rfl, hk, hl, hn, hc, hz, rfl⟩ := frzR_ok hf
      have s := a.st
      have hkn : k ≠ n := fun z => by
        subst z
        rw [hk] at hn; cases hn
        rcases hc with ⟨_, z, _⟩ | ⟨_, z, _⟩ | ⟨_, z, _⟩ <;> cases z
      have hnl : n < ρ.length := by rw [← s.ml]; exact (List.getElem?_eq_some_iff.mp hn).1
      have hkl : k < ρ.length := by rw [← s.ml]; exact (List.getElem?_eq_some_iff.mp hk).1
      obtain ⟨c, ec⟩ : ∃ c, ρ[n]? = some c := ⟨_, List.getElem?_eq_getElem hnl⟩
      obtain ⟨ck, eck⟩ : ∃ c, ρ[k]? = some c := ⟨_, List.getElem?_eq_getElem hkl⟩
      have co := s.cells n c _ ec hn
      have cok := s.cells k ck _ eck hk
      obtain ⟨hsub, hdead⟩ : c.sub = [] ∧ c.dead = false := by
        rcases hc with ⟨_, rfl, _⟩ | ⟨_, rfl, _⟩ | ⟨_, rfl, _⟩ <;> exact co.1
      obtain ⟨l1, l2, f1, f2⟩ := foot_kill ec hsub hdead
      have nd := s.fnd
      rw [f1] at nd
      have inF : c.a ∈ foot ρ := mem_foot ec hdead
      have memft : ∀ q, q ∈ foot (ρ.set n { c with dead := true }) → q ∈ foot ρ := fun q hq => by
        rw [f2] at hq
        rw [f1]
        rcases List.mem_append.mp hq with z | z
        · exact List.mem_append_left _ z
        · exact List.mem_append_right _ (List.mem_cons_of_mem _ z)
      have notF : c.a ∉ foot (ρ.set n { c with dead := true }) := by
        rw [f2]
        rw [List.nodup_append] at nd
        obtain ⟨_, n2, n3⟩ := nd
        rw [List.nodup_cons] at n2
        intro z
        rcases List.mem_append.mp z with z | z
        · exact n3 _ z _ List.mem_cons_self rfl
        · exact n2.1 z
      have hA : ∀ b, aA av (ρ.set n { c with dead := true }) lo b → aA av ρ lo b ∨ H b = none := fun b z => .inl (by
        rcases z with z | z | z
        · exact .inl z
        · exact .inr (.inl (memft b z))
        · exact .inr (.inr z))
      have notA : ¬ aA av (ρ.set n { c with dead := true }) lo c.a := fun z => by
        rcases z with z | z | ⟨j, z⟩
        · exact (s.fav _ inF).1 z
        · exact notF z
        · exact (s.loF j _ z).2.1 inF
      have he : ∀ (j : Nat) (q : CA), ρ[j]? = some q → ∃ q' : CA, (ρ.set n { c with dead := true })[j]? = some q' ∧ q'.a = q.a := fun j q e => by
        by_cases z : j = n
        · subst z
          rw [ec] at e; cases e
          exact ⟨_, List.getElem?_set_self hnl, rfl⟩
        · exact ⟨q, by rw [List.getElem?_set_ne (Ne.symm z)]; exact e, rfl⟩
      have hsubs : ∀ (j : Nat) (q q' : CA), ρ[j]? = some q → (ρ.set n { c with dead := true })[j]? = some q' → q'.sub = q.sub := fun j q q' e e' => by
        by_cases z : j = n
        · subst z
          rw [ec] at e; cases e
          rw [List.getElem?_set_self hnl] at e'; cases e'
          rfl
        · rw [List.getElem?_set_ne (Ne.symm z), e] at e'; cases e'; rfl
      obtain ⟨C, dx, ws, g1, g2, g3, g4⟩ := cok
      obtain ⟨w, hw, rw'⟩ := g4.get hl
      have ew : w = .ref c.a := by
        obtain ⟨c', e1, e2⟩ := rw'
        rw [ec] at e1; cases e1
        first | exact e2 | (obtain ⟨e2, _⟩ := e2; exact e2)
      have rd : RelD X.K H (aA av (ρ.set n { c with dead := true }) lo) (ρ.set n { c with dead := true }) d' (.ref c.a) := by
        rcases hc with ⟨kvs, rfl, rfl⟩ | ⟨kvs, rfl, rfl⟩ | ⟨kvs, rfl, rfl⟩
        · obtain ⟨_, xs, h1, h2⟩ := co
          exact ⟨c.a, xs, rfl, .inl h1, notA, h2.mono Stays.refl hA he⟩
        · obtain ⟨_, xs, h1, h2⟩ := co
          exact ⟨c.a, xs, rfl, .inl h1, notA, h2.mono Stays.refl hA he⟩
        · obtain ⟨_, xs, h1, h2⟩ := co
          exact ⟨c.a, xs, rfl, h1, notA, h2.mono Stays.refl hA he⟩
      have hu : ∃ u, H c.a = some u ∧ ∀ zs, u ≠ .tup zs := co.sub
      refine ⟨ρ.set n { c with dead := true }, lo, ⟨⟨s.len, fun j y ex => ?_, s.inj, fun j q e => ?_, ?_, fun q hq => s.fav q (memft q hq), s.avd, by simp [s.ml], fun j q y e1 e2 => ?_, ?_, s.keep⟩, a.hl, a.far⟩, rfl, Stays.refl, hA, he, fun _ _ _ e => e, fun _ h => h⟩
      · exact (s.slot j y ex).mono Stays.refl hA he (fun _ _ _ e => e) rfl
      · obtain ⟨h1, h2, h3⟩ := s.loF j q e
        exact ⟨h1, fun z => h2 (memft q z), h3⟩
      · rw [f2]
        rw [List.nodup_append] at nd ⊢
        obtain ⟨n1, n2, n3⟩ := nd
        rw [List.nodup_cons] at n2
        exact ⟨n1, n2.2, fun y hy z hz' => n3 y hy z (List.mem_cons_of_mem _ hz')⟩
      · by_cases z : j = n
        · subst z
          rw [List.getElem?_set_self hnl] at e1; cases e1
          rw [List.getElem?_set_ne hkn, List.getElem?_set_self (by rw [s.ml]; exact hnl)] at e2; cases e2
          exact ⟨⟨rfl, notA⟩, hu⟩
        · rw [List.getElem?_set_ne (Ne.symm z)] at e1
          by_cases z2 : j = k
          · subst z2
            rw [eck] at e1; cases e1
            rw [List.getElem?_set_self (by rw [List.length_set, s.ml]; exact hkl)] at e2; cases e2
            exact ⟨C, dx, ws, g1, g2, g3, RelF.swap (g4.mono Stays.refl hA he) hw (by rw [ew]; exact rd)⟩
          · rw [List.getElem?_set_ne (Ne.symm z2), List.getElem?_set_ne (Ne.symm z)] at e2
            exact (s.cells j q y e1 e2).mono Stays.refl hA he fun o q => q
      · refine ⟨by rw [List.length_set]; exact s.ext.le, fun j q0 e => ?_, fun q hq => s.ext.new q (memft q hq), fun j q0 q e0 e => ?_⟩
        · obtain ⟨q1, e1, h1⟩ := s.ext.same j q0 e
          obtain ⟨q2, e2, h2⟩ := he j q1 e1
          exact ⟨q2, e2, h2.trans h1⟩
        · obtain ⟨q1, e1, h1⟩ := s.ext.same j q0 e0
          exact (hsubs j q1 q e1 e).trans (s.ext.sub j q0 q1 e0 e1)
  · simp only [evalS]
    cases h : env.at i <;> first | (right; rfl) | skip
    rename_i d
    simp only
    cases frzR d f m with
    | none => right; rfl
    | some m' => left; exact ⟨_, _, rfl⟩
end
end MP
namespace MP
open PySem PySem.Spec L2
section
variable {X : Cx} {F : CallF} {W : Nat} {pos : Pos}
theorem SStep.grow {K : PySem.W.Frag} {av : Addr → Prop} {H0 H H1 H2 : Hp} {ρ0 ρ ρ1 : List CA} {σ1 : L2.St} {env env1 : MP.Env} {lo lo1 : Lo} {m1 : MH} (s : SStep K av H0 ρ0 env ρ lo H ρ1 lo1 σ1 H1 env1 m1) (k : ∀ a o, H1 a = some o → H2 a = some o) : SStep K av H0 ρ0 env ρ lo H ρ1 lo1 σ1 H2 env1 m1 :=
  ⟨⟨s.at'.st.grow k, s.at'.hl, s.at'.far⟩, s.len, ⟨fun a xs e => k _ _ (s.st.tup a xs e), fun a o n e => k _ _ (s.st.rest a o n e)⟩, s.ha, s.he, fun p o h e => k _ _ (s.avk p o h e), fun a h => dom_of k a (s.dom a h)⟩
end
end MP
namespace MP
open PySem PySem.Spec L2
section
variable {K : PySem.W.Frag} {F : CallF} {av : Addr → Prop} {H0 H H1 H2 H' : Hp} {ρ0 ρ ρ1 ρ2 ρ' : List CA} {σ : L2.St} {env : MP.Env} {lo lo1 lo2 lo' : Lo} {m m1 m2 m' : MH}
structure Lc2 (K : PySem.W.Frag) (av : Addr → Prop) (H0 : Hp) (ρ0 ρ1 : List CA) (lo1 : Lo) (H1 : Hp) (σw : L2.St) (e : MP.Env) (ix : Nat) (D0 : Addr) (H : Hp) (ρ2 : List CA) (lo2 : Lo) (m2 : MH) (accs : List D) (acc : List V) : Prop where
  at' : At K av H0 ρ0 ρ2 lo2 σw H e m2
  hix : lo2 ix = some D0
  hlo : ∀ j, j ≠ ix → lo2 j = lo1 j
  kp : Keeps H1 H ρ1
  ex : Ext H1 ρ1 ρ2
  hD : H D0 = some (.lst acc)
  rel : RelDs K H (aA av ρ2 lo2) ρ2 accs acc
theorem Lc2.later {σw : L2.St} {e : MP.Env} {ix : Nat} {D0 : Addr} {accs : List D} {acc : List V} (hix2 : lo1 ix = none) (hD : H1 D0 = none) (I : Lc2 K av H0 ρ0 ρ1 lo1 H1 σw e ix D0 H ρ2 lo2 m2 accs acc) : Later av ρ1 lo1 H1 ρ2 lo2 H :=
  ⟨I.kp, I.ex, fun a z => by
      rcases z with z | z | ⟨j, z⟩
      · exact .inl (.inl z)
      · rcases I.ex.new a z with z | z
        · exact .inl (.inr (.inl z))
        · exact .inr z
      · by_cases hj : j = ix
        · subst hj; rw [I.hix] at z; cases z; exact .inr hD
        · rw [I.hlo j hj] at z; exact .inl (.inr (.inr ⟨j, z⟩)), fun a z => by
      rcases z with z | z | ⟨j, z⟩
      · exact .inr (.inl z)
      · exact .inl z
      · by_cases hj : j = ix
        · subst hj; rw [hix2] at z; cases z
        · exact .inr (.inr (.inr ⟨j, (I.hlo j hj).trans z⟩))⟩
theorem Lc2.grow {σw : L2.St} {e : MP.Env} {ix : Nat} {D0 : Addr} {accs : List D} {acc : List V} (I : Lc2 K av H0 ρ0 ρ1 lo1 H1 σw e ix D0 H ρ2 lo2 m2 accs acc) (k : ∀ a o, H a = some o → H' a = some o) : Lc2 K av H0 ρ0 ρ1 lo1 H1 σw e ix D0 H' ρ2 lo2 m2 accs acc :=
  ⟨⟨I.at'.st.grow k, I.at'.hl, I.at'.far⟩, I.hix, I.hlo, ⟨fun a o h n => k a o (I.kp.keep a o h n), fun a h => dom_of k a (I.kp.dom a h)⟩, I.ex, k _ _ I.hD, I.rel.mono (Stays.of k) (fun a z => .inl z) fun n c e => ⟨c, e, rfl⟩⟩
theorem Lc2.bind {σw σ' : L2.St} {e e1 : MP.Env} {ix : Nat} {D0 : Addr} {accs : List D} {acc : List V} {lo3 : Lo} {ts : List Nat} (I : Lc2 K av H0 ρ0 ρ1 lo1 H1 σw e ix D0 H ρ2 lo2 m2 accs acc) (un : ∀ j ∈ ts, e[j]? = some .un) (a : At K av H0 ρ0 ρ2 lo3 σ' H e1 m2) (ho : ∀ i, i ∉ ts → lo3 i = lo2 i) (hn : ∀ i ∈ ts, lo3 i = none) : lo3 = lo2 ∧ Lc2 K av H0 ρ0 ρ1 lo1 H1 σ' e1 ix D0 H ρ2 lo2 m2 accs acc := by
  have e3 : lo3 = lo2 := funext fun j => by
    by_cases hj : j ∈ ts
    · rw [hn j hj]; exact (I.at'.st.slot j .un (un j hj) : lo2 j = none).symm
    · exact ho j hj
  subst e3
  exact ⟨rfl, ⟨a, I.hix, I.hlo, I.kp, I.ex, I.hD, I.rel⟩⟩
theorem Lc2.step {σw : L2.St} {e : MP.Env} {ix : Nat} {D0 : Addr} {accs : List D} {acc : List V} {ρ3 : List CA} {lo3 : Lo} {H3 : Hp} {m3 : MH} (I : Lc2 K av H0 ρ0 ρ1 lo1 H1 σw e ix D0 H ρ2 lo2 m2 accs acc) (hi : e.length < ix) (s : Step K av H0 ρ0 σw e ρ2 lo2 H ρ3 lo3 H3 m3) (l : lo3 e.length = none) : lo3 = lo2 ∧ Lc2 K av H0 ρ0 ρ1 lo1 H1 σw e ix D0 H3 ρ3 lo2 m3 accs acc := by
  have e3 : lo3 = lo2 := funext fun j => by
    by_cases hj : j = e.length
    · rw [hj, l, I.at'.hl]
    · exact s.lo j hj
  subst e3
  have df := (I.at'.st.loF ix D0 I.hix).2.1
  exact ⟨rfl, ⟨s.at l I.at', I.hix, I.hlo, I.kp.trans I.ex s.kp, I.ex.trans (fun p o h n => I.kp.keep p o h n) I.kp.dom s.ex, s.kp.keep _ _ I.hD df, s.rels I.at'.st I.rel⟩⟩
theorem Lc2.push {σw : L2.St} {e : MP.Env} {ix : Nat} {D0 : Addr} {accs : List D} {acc : List V} {d : D} {v : V} (hD : H1 D0 = none) (I : Lc2 K av H0 ρ0 ρ1 lo1 H1 σw e ix D0 H ρ2 lo2 m2 accs acc) (hi : e.length < ix) (r : RelD K H (aA av ρ2 lo2) ρ2 d v) : Lc2 K av H0 ρ0 ρ1 lo1 H1 σw e ix D0 (upd H D0 (.lst (acc ++ [v]))) ρ2 lo2 m2 (accs ++ [d]) (acc ++ [v]) := by
  have pk := I.at'.st.poke (j := ix) (p := D0) (by omega) I.hix I.hD (ys := acc ++ [v])
  have st : Stays (aA av ρ2 lo2) H (upd H D0 (.lst (acc ++ [v]))) := ⟨fun a zs e => by
    rw [upd_ne (fun z => by subst z; rw [I.hD] at e; cases e)]; exact e, fun a o n e => by
    rw [upd_ne (fun z => n (by subst z; exact .inr (.inr ⟨ix, I.hix⟩)))]; exact e⟩
  refine ⟨⟨pk, I.at'.hl, I.at'.far⟩, I.hix, I.hlo, ⟨fun a o h n => ?_, fun a h => ?_⟩, I.ex, upd_same, ?_⟩
  · rw [upd_ne (fun z => by subst z; rw [hD] at h; cases h)]; exact I.kp.keep a o h n
  · by_cases z : a = D0
    · subst z; exact absurd hD h
    · rw [upd_ne z]; exact I.kp.dom a h
  · have rv1 : RelDs K H (aA av ρ2 lo2) ρ2 [d] [v] := ⟨v, [], rfl, r, rfl⟩
    exact (I.rel.append rv1).mono st (fun a z => .inl z) fun n c e => ⟨c, e, rfl⟩
theorem Lc2.back {σw σ' : L2.St} {e e' : MP.Env} {ix : Nat} {D0 : Addr} {accs : List D} {acc : List V} {mb : MH} (hix2 : lo1 ix = none) (hD : H1 D0 = none) (hl : lo1 e'.length = none) (hi : e'.length < ix) (b : Stt K av H0 ρ0 ρ1 lo1 σ' H1 e' mb) (I : Lc2 K av H0 ρ0 ρ1 lo1 H1 σw e ix D0 H ρ2 lo2 m2 accs acc) : Lc2 K av H0 ρ0 ρ1 lo1 H1 σ' e' ix D0 H ρ2 lo2 m2 accs acc := by
  have lat := I.later hix2 hD
  have bk := b.back I.at'.st (fun j d h => I.hlo j (fun z => by have := (List.getElem?_eq_some_iff.mp h).1; omega)) (fun j hj h => (I.hlo j (by omega)).trans h) lat.ha I.kp I.ex
  exact ⟨⟨bk, by rw [I.hlo _ (by omega)]; exact hl, I.at'.far⟩, I.hix, I.hlo, I.kp, I.ex, I.hD, I.rel⟩
theorem Lc2.wipe {σw : L2.St} {e e' : MP.Env} {ix : Nat} {D0 : Addr} {accs : List D} {acc : List V} {own : List Nat} (I : Lc2 K av H0 ρ0 ρ1 lo1 H1 σw e ix D0 H ρ2 lo2 m2 accs acc) (h : wipeE e own = some e') : Lc2 K av H0 ρ0 ρ1 lo1 H1 (L2.wipe σw own) e' ix D0 H ρ2 lo2 m2 accs acc :=
  ⟨⟨I.at'.st.wipe h, by rw [wipeE_len h]; exact I.at'.hl, I.at'.far⟩, I.hix, I.hlo, I.kp, I.ex, I.hD, I.rel⟩
mutual
theorem bindT_at : ∀ (t : T) (d : D) {env e : MP.Env}, bindT t d env = some e → e.length = env.length ∧ ∀ i, (i ∉ tslots t → e[i]? = env[i]?) ∧ (i ∈ tslots t → ∃ d', e[i]? = some (.sh d'))
  | .nm k, d, env, e, h => by
    simp only [bindT] at h
    split at h <;> cases h
    rename_i x hx
    refine ⟨List.length_set, fun i => ⟨fun n => ?_, fun y => ?_⟩⟩
    · rw [List.getElem?_set_ne (fun z => n (by simp [tslots, z]))]
    · have : i = k := by simpa [tslots] using y
      subst this
      exact ⟨d, List.getElem?_set_self (List.getElem?_eq_some_iff.mp hx).1⟩
  | .tup ts, d, env, e, h => by
    cases d <;> first | (cases h; done) | skip
    exact bindTs_at ts _ h
theorem bindTs_at : ∀ (ts : List T) (ds : List D) {env e : MP.Env}, bindTs ts ds env = some e → e.length = env.length ∧ ∀ i, (i ∉ tslotss ts → e[i]? = env[i]?) ∧ (i ∈ tslotss ts → ∃ d', e[i]? = some (.sh d'))
  | [], [], env, e, h => by cases h; exact ⟨rfl, fun i => ⟨fun _ => rfl, fun y => by simp [tslotss] at y⟩⟩
  | [], _ :: _, env, e, h => by cases h
  | _ :: _, [], env, e, h => by cases h
  | t :: ts, d :: ds, env, e, h => by
    simp only [bindTs, Option.bind_eq_some_iff] at h
    obtain ⟨e1, h1, h2⟩ := h
    obtain ⟨l1, g1⟩ := bindT_at t d h1
    obtain ⟨l2, g2⟩ := bindTs_at ts ds h2
    refine ⟨l2.trans l1, fun i => ⟨fun n => ?_, fun y => ?_⟩⟩
    · have n' : i ∉ tslots t ∧ i ∉ tslotss ts := by simpa [tslotss] using n
      rw [(g2 i).1 n'.2, (g1 i).1 n'.1]
    · by_cases z : i ∈ tslotss ts
      · exact (g2 i).2 z
      · have y' : i ∈ tslots t ∨ i ∈ tslotss ts := by simpa [tslotss] using y
        obtain ⟨d', hd⟩ := (g1 i).2 (y'.resolve_right z)
        exact ⟨d', by rw [(g2 i).1 z]; exact hd⟩
end
theorem wipeE_ex : ∀ {own : List Nat} {env : MP.Env}, (∀ i ∈ own, ∃ x, env[i]? = some x ∧ (∀ d, x ≠ .ow d) ∧ ∀ d, x ≠ .bw d) → ∃ e, wipeE env own = some e
  | [], env, _ => ⟨env, rfl⟩
  | a :: r, env, h => by
    obtain ⟨e1, h1⟩ := wipeE_ex (own := r) fun i hi => h i (List.mem_cons_of_mem _ hi)
    obtain ⟨x, hx, n1, n2⟩ := h a List.mem_cons_self
    simp only [wipeE, h1, hx, Option.bind_some]
    cases x with
    | un => exact ⟨_, rfl⟩
    | sh d => exact ⟨_, rfl⟩
    | ow d => exact absurd rfl (n1 d)
    | bw d => exact absurd rfl (n2 d)
theorem wipe_eq {own : List Nat} {e0 e2 : MP.Env} (u : ∀ i ∈ own, e0[i]? = some .un) (hl : e2.length = e0.length) (h : ∀ i, i ∉ own → e2[i]? = e0[i]?) (hs : ∀ i ∈ own, ∃ x, e2[i]? = some x ∧ (∀ d, x ≠ .ow d) ∧ ∀ d, x ≠ .bw d) : wipeE e2 own = some e0 := by
  obtain ⟨e, he⟩ := wipeE_ex hs
  obtain ⟨q1, q2⟩ := wipeE_spec he
  rw [he]
  congr 1
  refine List.ext_getElem? fun i => ?_
  by_cases hi : i ∈ own
  · rw [(q1 i hi).1, u i hi]
  · rw [q2 i hi, h i hi]
theorem wipe_bind {own : List Nat} {env e0 e2 : MP.Env} {t : T} {d : D} (h0 : wipeE env own = some e0) (hb : bindT t d e0 = some e2) (ht : ∀ i ∈ tslots t, i ∈ own) : wipeE e2 own = some e0 := by
  obtain ⟨q1, q2⟩ := wipeE_spec h0
  obtain ⟨l, g⟩ := bindT_at t d hb
  refine wipe_eq (fun i hi => (q1 i hi).1) l (fun i hi => (g i).1 fun z => hi (ht i z)) fun i hi => ?_
  by_cases z : i ∈ tslots t
  · obtain ⟨d', hd⟩ := (g i).2 z
    exact ⟨_, hd, (fun _ y => nomatch y), (fun _ y => nomatch y)⟩
  · exact ⟨.un, by rw [(g i).1 z]; exact (q1 i hi).1, (fun _ y => nomatch y), (fun _ y => nomatch y)⟩
theorem wipe_bind2 {own own1 : List Nat} {env e0 e1 e1w : MP.Env} {t : T} {d : D} (h0 : wipeE env own = some e0) (hb : bindT t d e0 = some e1) (ht : ∀ i ∈ tslots t, i ∈ own) (h1 : wipeE e1 own1 = some e1w) (hs : ∀ i ∈ own1, i ∈ own) : wipeE e1w own = some e0 := by
  obtain ⟨q1, q2⟩ := wipeE_spec h0
  obtain ⟨r1, r2⟩ := wipeE_spec h1
  obtain ⟨l, g⟩ := bindT_at t d hb
  refine wipe_eq (fun i hi => (q1 i hi).1) ((wipeE_len h1).trans l) (fun i hi => by rw [r2 i fun z => hi (hs i z)]; exact (g i).1 fun z => hi (ht i z)) fun i hi => ?_
  by_cases y : i ∈ own1
  · exact ⟨.un, (r1 i y).1, (fun _ y => nomatch y), (fun _ y => nomatch y)⟩
  · rw [r2 i y]
    by_cases z : i ∈ tslots t
    · obtain ⟨d', hd⟩ := (g i).2 z
      exact ⟨_, hd, (fun _ y => nomatch y), (fun _ y => nomatch y)⟩
    · exact ⟨.un, by rw [(g i).1 z]; exact (q1 i hi).1, (fun _ y => nomatch y), (fun _ y => nomatch y)⟩
theorem wipe_sub {σ : L2.St} {own own1 : List Nat} (hs : ∀ i ∈ own1, i ∈ own) : L2.wipe (L2.wipe σ own1) own = L2.wipe σ own := by
  refine List.ext_getElem? fun i => ?_
  by_cases hi : i ∈ own
  · exact wipe_at (L2.wipe_length σ own1) hi
  · rw [wipe_get hi, wipe_get hi, wipe_get fun z => hi (hs i z)]
end
structure Mv (av : Addr → Prop) (ρ : List CA) (lo : Lo) (H : Hp) (ρ' : List CA) (lo' : Lo) (H' : Hp) : Prop where
  st : Stays (aA av ρ lo) H H'
  ha : ∀ a, aA av ρ' lo' a → aA av ρ lo a ∨ H a = none
  he : ∀ (n : Nat) (c : CA), ρ[n]? = some c → ∃ c', ρ'[n]? = some c' ∧ c'.a = c.a
  avk : ∀ p o, av p → H p = some o → H' p = some o
  dom : ∀ a, H a ≠ none → H' a ≠ none
section
variable {K : PySem.W.Frag} {av : Addr → Prop} {H0 H H1 H2 H' : Hp} {ρ0 ρ ρ1 ρ2 ρ' : List CA} {σ : L2.St} {env : MP.Env} {lo lo1 lo2 lo' : Lo} {m m1 : MH}
theorem Mv.refl : Mv av ρ lo H ρ lo H := ⟨Stays.refl, fun _ z => .inl z, fun n c e => ⟨c, e, rfl⟩, fun _ _ _ e => e, fun _ h => h⟩
theorem Mv.trans (a : Mv av ρ lo H ρ1 lo1 H1) (b : Mv av ρ1 lo1 H1 ρ2 lo2 H2) : Mv av ρ lo H ρ2 lo2 H2 where
  st := ⟨fun p xs e => b.st.tup p xs (a.st.tup p xs e), fun p o n e => b.st.rest p o (fun z => (a.ha p z).elim n fun q => by rw [q] at e; cases e) (a.st.rest p o n e)⟩
  ha := fun p z => by
    rcases b.ha p z with z | z
    · exact a.ha p z
    · right
      cases q : H p with
      | none => rfl
      | some o => exact absurd z (a.dom p (by rw [q]; exact fun z => nomatch z))
  he := fun n c e => by
    obtain ⟨c1, e1, q1⟩ := a.he n c e
    obtain ⟨c2, e2, q2⟩ := b.he n c1 e1
    exact ⟨c2, e2, q2.trans q1⟩
  avk := fun p o h e => b.avk p o h (a.avk p o h e)
  dom := fun p h => b.dom p (a.dom p h)
theorem Mv.kept (k : ∀ a o, H a = some o → H' a = some o) : Mv av ρ lo H ρ lo H' := ⟨Stays.of k, fun _ z => .inl z, fun n c e => ⟨c, e, rfl⟩, fun p o _ e => k p o e, dom_of k⟩
theorem Mv.step (a : At K av H0 ρ0 ρ lo σ H env m) (s : Step K av H0 ρ0 σ env ρ lo H ρ' lo' H' m1) : Mv av ρ lo H ρ' lo' H' := ⟨a.st.stays s.kp, s.ha, s.ex.same, fun p o hp e => s.kp.keep p o e fun z => (a.st.fav p z).1 hp, s.kp.dom⟩
theorem Mv.own {ix : Nat} {D0 : Addr} {u u' : HO} (a : At K av H0 ρ0 ρ lo σ H env m) (hi : lo ix = some D0) (hx : H D0 = some u) (hu : ∀ zs, u ≠ .tup zs) : Mv av ρ lo H ρ lo (upd H D0 u') :=
  ⟨upd_staysG (.inr (.inr ⟨ix, hi⟩)) hx hu, fun _ z => .inl z, fun n c e => ⟨c, e, rfl⟩, fun p o hp e => by rw [upd_ne (show p ≠ D0 from fun z => (a.st.loF ix D0 hi).1 (by rw [← z]; exact hp))]; exact e, upd_dom⟩
theorem Mv.wk (s : Mv av ρ lo H ρ' lo' H') (a : At K av H0 ρ0 ρ' lo' σ H' env m) {x : D × Mode} {v : V} (hw : walkable x.2 = true) (r : WkR K av H (aA av ρ lo) ρ x v) : WkR K av H' (aA av ρ' lo') ρ' x v := by
  rcases r.2 hw with r | ⟨p, rfl, e, o⟩
  · exact ⟨.inl (r.mono s.st s.ha s.he), fun _ => .inl (r.mono s.st s.ha s.he)⟩
  · have o' : PeekAt K H' (aA av ρ' lo') ρ' p x.1 := o.mono s.st s.ha s.he fun u q => s.avk p u e q
    exact ⟨.inr ⟨p, rfl, .inl e, fun z => (a.st.fav p z).1 e, o'⟩, fun _ => .inr ⟨p, rfl, e, o'⟩⟩
theorem Mv.wks (s : Mv av ρ lo H ρ' lo' H') (a : At K av H0 ρ0 ρ' lo' σ H' env m) : ∀ {ds : List (D × Mode)} {vs : List V}, (∀ x ∈ ds, walkable x.2 = true) → Paired (WkR K av H (aA av ρ lo) ρ) ds vs → Paired (WkR K av H' (aA av ρ' lo') ρ') ds vs
  | _, _, _, .nil => .nil
  | _, _, h, .cons p t => .cons (s.wk a (h _ List.mem_cons_self) p) (Mv.wks s a (fun x hx => h x (List.mem_cons_of_mem _ hx)) t)
end
section
variable {X : Cx} {F : CallF} {elt tg iter tg1 iter1 : Expr} {ifs ifs1 : List Expr} {scope : Scope} {own own1 : List Nat} {ownP : List (Str × Nat)} {pos : Pos} {t t1 : T} {k k1 : ItK} {its its1 eifs eifs1 : List E} {eelt : E}
theorem lc2_reads (K : PySem.W.Frag) (F : CallF) {σ : L2.St} {H : Hp} {Q : VK} (h : tE K F (.lc2 eelt own t k its eifs own1 t1 k1 its1 eifs1) σ H Q) : tLc2 (tI K F k its) (tG K t) (tTs K F eifs) (tI K F k1 its1) (tG K t1) (tTs K F eifs1) (tE K F eelt) own own1 σ H Q := by
  obtain ⟨av, H0, ρ0, ρ, lo, env, m, x, m', a, he, q⟩ := h
  simp only [evalE] at he
  split at he
  · cases he
  rename_i hto
  simp only [not_or, Bool.not_eq_false, List.all_eq_true] at hto
  have ht : ∀ i ∈ tslots t, i ∈ own := fun i hi => by simpa using hto.1 i hi
  have ho : ∀ i ∈ own1, i ∈ own := fun i hi => by simpa using hto.2.1 i hi
  have ht1 : ∀ i ∈ tslots t1, i ∈ own1 := fun i hi => by simpa using hto.2.2 i hi
  obtain ⟨ds, m1, h1, he⟩ := bind_ok he
  cases hi : itD k (ds.map (·.1)) with
  | none => rw [hi] at he; cases he
  | some xs =>
    cases hw : wipeE env own with
    | none => rw [hi, hw] at he; cases he
    | some e =>
      rw [hi, hw] at he
      obtain ⟨rs, mE, run, he⟩ := bind_ok he
      cases he
      refine ⟨av, H0, ρ0, ρ, lo, env, m, ds, m1, xs, a, h1, hi, fun J vs H1 ρ1 lo1 s1 l1 p1 wk D0 hD => ?_⟩
      have a1 := s1.at l1 a
      have pk := wk_all p1
      have elen := wipeE_len hw
      obtain ⟨kf, hkf⟩ := a1.far
      obtain ⟨ix, hix1, hix2⟩ : ∃ ix, env.length < ix ∧ lo1 ix = none := ⟨max kf (env.length + 1), by omega, hkf _ (by omega)⟩
      have base := a1.st.wipe hw
      have g0 : ∀ a o, H1 a = some o → upd H1 D0 (.lst []) a = some o := kept_upd hD
      refine ⟨fun i n H => n = xs.length - i ∧ i ≤ xs.length ∧ ∃ ρ2 lo2 m2 accs acc, Lc2 K av H0 ρ0 ρ1 lo1 H1 (L2.wipe σ own) e ix D0 H ρ2 lo2 m2 accs acc ∧ outLoop t (fun e' m' => evalT F eifs e' m') (fun e' m' => (evalPs F its1 e' m').bind fun ds' m'' => if ds'.all (fun x => walkable x.2) = false then .bad else match itD k1 (ds'.map (·.1)), wipeE e' own1 with
        | some ys, some e1 => .ok (ys, e1) m''
        | _, _ => .bad)
      (fun e' ys acc m' => lcIn t1 (fun e'' m'' => evalT F eifs1 e'' m'') (fun e'' m'' => (evalE F eelt e'' m'').bind fun x m3 => if owns x.2 then .ok x.1 m3 else .bad) e' ys acc m') e (xs.drop i) accs m2 = .ok rs m', ⟨xs.length, rfl, Nat.zero_le _, ρ1, loS lo1 ix D0, m1, [], [], ?_, run⟩, ?_⟩
      · refine ⟨⟨base.freshAt (by omega) hix2 hD g0 (by rw [upd_same]; exact fun z => nomatch z) fun zs z => (by rw [upd_same] at z; cases z), ?_, max kf (ix + 1), fun j hj => ?_⟩, loS_same, fun j hj => loS_ne hj, ⟨fun a o h _ => g0 a o h, dom_of g0⟩, Ext.refl, upd_same, rfl⟩
        · rw [loS_ne (by omega), elen]; exact l1
        · rw [loS_ne (by omega)]; exact hkf j (by omega)
      · rintro i n H2 ⟨rfl, hle, ρ2, lo2, m2, accs, acc, I, run2⟩
        have lat := I.later hix2 hD
        have wks := wk H2 _ ρ2 (lat.pks a1.st pk)
        have hN : lo2 env.length = none := by rw [I.hlo _ (by omega)]; exact l1
        cases hx : xs[i]? with
        | none =>
          have hi' : xs.length ≤ i := List.getElem?_eq_none_iff.mp hx
          refine .inl ⟨wks.1 i hi', ?_⟩
          rw [List.drop_eq_nil_of_le hi'] at run2
          simp only [outLoop] at run2
          cases run2
          have b := a1.st.back I.at'.st (fun j d h => I.hlo j (fun z => by have := (List.getElem?_eq_some_iff.mp h).1; omega)) (fun j hj h => (I.hlo j (by omega)).trans h) lat.ha I.kp I.ex
          have b2 := b.move (i := ix) (j := env.length) (by omega) (Nat.le_refl _) I.hix hN
          have hA : ∀ a, aA av ρ2 (loS (loC lo2 ix) env.length D0) a → aA av ρ2 lo2 a ∨ H2 a = none := fun a z => by
            rcases aA_loS z with z | z
            · exact .inl (aA_loC z)
            · subst z; exact .inl (.inr (.inr ⟨ix, I.hix⟩))
          refine q _ H2 ρ2 _ (s1.trans ⟨b2, fun j hj => ?_, fun p hp => ?_, I.kp, I.ex⟩) ⟨D0, rfl, loS_same, acc, I.hD, I.rel.mono Stays.refl hA fun n c e => ⟨c, e, rfl⟩⟩
          · rw [loS_ne hj]
            by_cases z : j = ix
            · subst z; rw [loC_same, hix2]
            · rw [loC_ne z]; exact I.hlo j z
          · rw [loS_same] at hp; cases hp; exact hD
        | some d =>
          have hi' : i < xs.length := (List.getElem?_eq_some_iff.mp hx).1
          obtain ⟨go, yld⟩ := wks.2 i d hx
          rw [List.drop_eq_getElem_cons hi', (List.getElem?_eq_some_iff.mp hx).2] at run2
          simp only [outLoop] at run2
          cases hb : bindT t d e with
          | none => rw [hb] at run2; cases run2
          | some e1 =>
            rw [hb] at run2
            obtain ⟨b, m3, hif, run3⟩ := bind_ok run2
            refine .inr ⟨go, fun H' => i + 1 ≤ xs.length ∧ ∃ ρ2 lo2 m2 accs acc, Lc2 K av H0 ρ0 ρ1 lo1 H1 (L2.wipe σ own) e ix D0 H' ρ2 lo2 m2 accs acc ∧ outLoop t (fun e' m' => evalT F eifs e' m') (fun e' m' => (evalPs F its1 e' m').bind fun ds' m'' => if ds'.all (fun x => walkable x.2) = false then .bad else match itD k1 (ds'.map (·.1)), wipeE e' own1 with
        | some ys, some e1 => .ok (ys, e1) m''
        | _, _ => .bad)
      (fun e' ys acc m' => lcIn t1 (fun e'' m'' => evalT F eifs1 e'' m'') (fun e'' m'' => (evalE F eelt e'' m'').bind fun x m3 => if owns x.2 then .ok x.1 m3 else .bad) e' ys acc m') e (xs.drop (i + 1)) accs m2 = .ok rs m', fun H' w => ⟨xs.length - (i + 1), by omega, rfl, w⟩, fun x H5 y => ?_⟩
            obtain ⟨kpy, rx⟩ := yld x H5 y
            have I5 := I.grow kpy
            refine ⟨av, H0, ρ0, ρ2, lo2, e, m2, d, e1, I5.at', rx, hb, fun σ' lo3 at6 hl3 ho3 hn3 sm => ?_⟩
            have wst := wipe_same sm ht
            obtain ⟨rfl, I6⟩ := I5.bind (fun j hj => ((wipeE_spec hw).1 j (ht j hj)).1) at6 ho3 hn3
            refine ⟨wst, av, H0, ρ0, ρ2, lo3, e1, m2, b, m3, at6, hif, fun H6 ρ6 lo6 s6 l6 => ?_⟩
            have e1len : e1.length = env.length := hl3.trans elen
            obtain ⟨rfl, I7⟩ := I6.step (by omega) s6 l6
            cases b with
            | false =>
              simp only [Bool.false_eq_true, if_false] at run3 ⊢
              have w := I7.wipe (wipe_bind hw hb ht)
              rw [wst] at w
              exact ⟨hi', ρ6, lo6, m3, accs, acc, w, run3⟩
            | true =>
              simp only [if_true] at run3 ⊢
              obtain ⟨p, m4, hin, run4⟩ := bind_ok run3
              obtain ⟨ds', m5, h5, hin⟩ := bind_ok hin
              split at hin
              · cases hin
              rename_i hwk
              have hwk' : ∀ x ∈ ds', walkable x.2 = true := by simpa using hwk
              cases hi1 : itD k1 (ds'.map (·.1)) with
              | none => rw [hi1] at hin; cases hin
              | some ys =>
                cases hw1 : wipeE e1 own1 with
                | none => rw [hi1, hw1] at hin; cases hin
                | some e1w =>
                  rw [hi1, hw1] at hin
                  cases hin
                  obtain ⟨accE, m6, hrun, run5⟩ := bind_ok run4
                  refine ⟨av, H0, ρ0, ρ6, lo6, e1, m3, ds', _, ys, I7.at', h5, hi1, fun J1 vs1 H7 ρ7 lo7 s7 l7 p7 wk1 => ?_⟩
                  obtain ⟨rfl, I8⟩ := I7.step (by omega) s7 l7
                  have e1wlen : e1w.length = env.length := (wipeE_len hw1).trans e1len
                  have I9 := I8.wipe hw1
                  refine ⟨fun j n H8 => n = ys.length - j ∧ j ≤ ys.length ∧ ∃ ρ8 lo8 m8 accs acc, Lc2 K av H0 ρ0 ρ1 lo1 H1 (L2.wipe σ' own1) e1w ix D0 H8 ρ8 lo8 m8 accs acc ∧ Mv av ρ7 lo7 H7 ρ8 lo8 H8 ∧ (lcIn t1 (fun e'' m'' => evalT F eifs1 e'' m'') (fun e'' m'' => (evalE F eelt e'' m'').bind fun x m3 => if owns x.2 then .ok x.1 m3 else .bad) e1w (ys.drop j) accs m8).bind (fun acc' m9 => outLoop t (fun e' m' => evalT F eifs e' m') (fun e' m' => (evalPs F its1 e' m').bind fun ds' m'' => if ds'.all (fun x => walkable x.2) = false then .bad else match itD k1 (ds'.map (·.1)), wipeE e' own1 with
        | some ys, some e1 => .ok (ys, e1) m''
        | _, _ => .bad)
      (fun e' ys acc m' => lcIn t1 (fun e'' m'' => evalT F eifs1 e'' m'') (fun e'' m'' => (evalE F eelt e'' m'').bind fun x m3 => if owns x.2 then .ok x.1 m3 else .bad) e' ys acc m') e (xs.drop (i + 1)) acc' m9) = .ok rs m', ⟨ys.length, rfl, Nat.zero_le _, ρ7, lo7, _, accs, acc, I9, Mv.refl, ?_⟩, ?_⟩
                  · rw [List.drop_zero]
                    simp only at hrun
                    rw [hrun]
                    exact run5
                  · rintro j n H8 ⟨rfl, hj, ρ8, lo8, m8, accs8, acc8, I10, mv, run6⟩
                    have wks1 := wk1 H8 _ ρ8 (wk_all (mv.wks I10.at' hwk' p7))
                    cases hy : ys[j]? with
                    | none =>
                      have hj' : ys.length ≤ j := List.getElem?_eq_none_iff.mp hy
                      rw [List.drop_eq_nil_of_le hj'] at run6
                      simp only [lcIn, Res.bind_ok] at run6
                      have w := I10.wipe (wipe_bind2 hw hb ht hw1 ho)
                      rw [wipe_sub ho, wst] at w
                      exact .inl ⟨wks1.1 j hj', hi', ρ8, lo8, m8, accs8, acc8, w, run6⟩
                    | some d1 =>
                      have hj' : j < ys.length := (List.getElem?_eq_some_iff.mp hy).1
                      obtain ⟨go1, yld1⟩ := wks1.2 j d1 hy
                      rw [List.drop_eq_getElem_cons hj', (List.getElem?_eq_some_iff.mp hy).2] at run6
                      simp only [lcIn] at run6
                      cases hb1 : bindT t1 d1 e1w with
                      | none => rw [hb1] at run6; cases run6
                      | some e2 =>
                        rw [hb1] at run6
                        refine .inr ⟨go1, fun H9 => j + 1 ≤ ys.length ∧ ∃ ρ8 lo8 m8 accs acc, Lc2 K av H0 ρ0 ρ1 lo1 H1 (L2.wipe σ' own1) e1w ix D0 H9 ρ8 lo8 m8 accs acc ∧ Mv av ρ7 lo7 H7 ρ8 lo8 H9 ∧ (lcIn t1 (fun e'' m'' => evalT F eifs1 e'' m'') (fun e'' m'' => (evalE F eelt e'' m'').bind fun x m3 => if owns x.2 then .ok x.1 m3 else .bad) e1w (ys.drop (j + 1)) accs m8).bind (fun acc' m9 => outLoop t (fun e' m' => evalT F eifs e' m') (fun e' m' => (evalPs F its1 e' m').bind fun ds' m'' => if ds'.all (fun x => walkable x.2) = false then .bad else match itD k1 (ds'.map (·.1)), wipeE e' own1 with
        | some ys, some e1 => .ok (ys, e1) m''
        | _, _ => .bad)
      (fun e' ys acc m' => lcIn t1 (fun e'' m'' => evalT F eifs1 e'' m'') (fun e'' m'' => (evalE F eelt e'' m'').bind fun x m3 => if owns x.2 then .ok x.1 m3 else .bad) e' ys acc m') e (xs.drop (i + 1)) acc' m9) = .ok rs m', fun H9 w => ⟨ys.length - (j + 1), by omega, rfl, w⟩, fun x1 H9 y1 => ?_⟩
                        obtain ⟨kp9, rx1⟩ := yld1 x1 H9 y1
                        have I11 := I10.grow kp9
                        refine ⟨av, H0, ρ0, ρ8, lo8, e1w, m8, d1, e2, I11.at', rx1, hb1, fun σ3 lo9 at9 hl9 ho9 hn9 sm9 => ?_⟩
                        have wst1 := wipe_same sm9 ht1
                        obtain ⟨rfl, I12⟩ := I11.bind (fun j hj => ((wipeE_spec hw1).1 j (ht1 j hj)).1) at9 ho9 hn9
                        obtain ⟨acF, mF, run7, run8⟩ := bind_ok run6
                        obtain ⟨b1, m10, hif1, run9⟩ := bind_ok run7
                        refine ⟨wst1, av, H0, ρ0, ρ8, lo9, e2, m8, b1, m10, at9, hif1, fun H10 ρ10 lo10 s10 l10 => ?_⟩
                        have e2len : e2.length = env.length := hl9.trans e1wlen
                        have mv10 := (mv.trans (Mv.kept kp9)).trans (Mv.step at9 s10)
                        obtain ⟨rfl, I13⟩ := I12.step (by omega) s10 l10
                        have wb := wipe_bind hw1 hb1 ht1
                        cases b1 with
                        | false =>
                          simp only [Bool.false_eq_true, if_false] at run9 ⊢
                          have w := I13.wipe wb
                          rw [wst1] at w
                          exact ⟨hj', ρ10, lo10, m10, accs8, acc8, w, mv10, by rw [run9]; exact run8⟩
                        | true =>
                          simp only [if_true] at run9 ⊢
                          obtain ⟨dv, m11, hel, run10⟩ := bind_ok run9
                          obtain ⟨xv, m12, hev, hel⟩ := bind_ok hel
                          split at hel
                          case isFalse => cases hel
                          case isTrue how =>
                          cases hel
                          split at run10
                          case isFalse => cases run10
                          case isTrue hz =>
                          refine run_sh I13.at' hev how fun v H11 ρ11 lo11 s11 at11 rv => ?_
                          have mv11 := mv10.trans (Mv.step I13.at' s11)
                          obtain ⟨rfl, I14⟩ := I13.step (by omega) s11 at11.hl
                          have mv12 := mv11.trans (Mv.own (u' := .lst (acc8 ++ [v])) I14.at' I14.hix I14.hD fun _ z => nomatch z)
                          have w := (I14.push hD (by omega) rv).wipe wb
                          rw [wst1] at w
                          exact ⟨acc8, I14.hD, by rw [← I14.rel.length, szline]; exact hz, hj', ρ11, lo11, _, accs8 ++ [xv.1], acc8 ++ [v], w, mv12, by rw [run10]; exact run8⟩
end
end MP
namespace L2
open PySem PySem.Spec PyProof.Rows
theorem dTurn2_out (kx vx t0 i0 t1 i1 : Expr) (jf0 jf1 : List Expr) (scope : Scope) (pos : Pos) (it : Value) (D : Addr) (env : Env) :
    compTurn (.DictComp kx vx [⟨t0, i0, jf0, 0⟩, ⟨t1, i1, jf1, 0⟩] scope pos) 0 it (.ref D) env = (do
      standAt i0.pos
      match ← pyNext it with
      | none => pure (.done .next)
      | some v =>
        letOwnedTupleGo t0 it v
        assign t0 env v
        let mut okk := true
        for c in jf0 do
          if okk then okk ← isTrue c env (eval c env)
        if okk then
          let x ← eval i1 env
          standAt i1.pos
          let x ← foldedSetIterable i1 env x
          let _ ← runOwn (.compStart (.DictComp kx vx [⟨t0, i0, jf0, 0⟩, ⟨t1, i1, jf1, 0⟩] scope pos) 1 (← holding [x] (pyIter x)) (.ref D) env) env
        again (.compLoop (.DictComp kx vx [⟨t0, i0, jf0, 0⟩, ⟨t1, i1, jf1, 0⟩] scope pos) 0 it (.ref D) env)) := by rfl
theorem dTurn2_in (kx vx t0 i0 t1 i1 : Expr) (jf0 jf1 : List Expr) (scope : Scope) (pos : Pos) (it : Value) (D : Addr) (env : Env) :
    compTurn (.DictComp kx vx [⟨t0, i0, jf0, 0⟩, ⟨t1, i1, jf1, 0⟩] scope pos) 1 it (.ref D) env = (do
      standAt i1.pos
      match ← pyNext it with
      | none => pure (.done .next)
      | some v =>
        letOwnedTupleGo t1 it v
        assign t1 env v
        let mut okk := true
        for c in jf1 do
          if okk then okk ← isTrue c env (eval c env)
        if okk then
          (do
            let kk ← eval kx env
            let zz ← holding [kk] (eval vx env)
            standAt { kx.pos with endLine := vx.pos.endLine, endCol := vx.pos.endCol }
            holding [kk, zz] (dictSet D kk zz))
        again (.compLoop (.DictComp kx vx [⟨t0, i0, jf0, 0⟩, ⟨t1, i1, jf1, 0⟩] scope pos) 1 it (.ref D) env)) := by rfl
section
variable {prog : Program} {w : World} {A : Around} {R : Result → Shared → Prop} {s : Shared} {kx vx t0 i0 t1 i1 : Expr} {jf0 jf1 : List Expr} {scope : Scope} {pos : Pos} {it : Value} {D : Addr} {env : Env}
theorem dLoop2_out (hs : ∀ x, foldedSetIterable i1 env x = pure x) (I : Nat → Shared → Prop)
    (turn : ∀ n s, I n s → wpAny (model prog w) A (pyNext it) (fun r t₁ => match r with
      | none => R (.ok .next) t₁
      | some v => wpAny (model prog w) A (letOwnedTupleGo t0 it v) (fun _ t₁' => wpAny (model prog w) A (assign t0 env v) (fun _ t₂ =>
          wpAny (model prog w) A (forIn jf0 true fun c r => if r = true then do let ok ← isTrue c env (eval c env); pure (ForInStep.yield ok) else pure (ForInStep.yield r)) (fun ok t₃ =>
            if ok = true then wpAny (model prog w) A (eval i1 env) (fun x t₄ => wpAny (model prog w) A (pyIter x) (fun it1 t₅ =>
              codeAny (model prog w) A (.compStart (.DictComp kx vx [⟨t0, i0, jf0, 0⟩, ⟨t1, i1, jf1, 0⟩] scope pos) 1 it1 (.ref D) env) (fun r s' => match r with
                | .ok _ => ∃ m, m < n ∧ I m s'
                | .error _ => False) t₅) (notedBy (model prog w) A env fun e s' => R (.error e) s') t₄) (notedBy (model prog w) A env fun e s' => R (.error e) s') t₃
            else ∃ m, m < n ∧ I m t₃) (notedBy (model prog w) A env fun e s' => R (.error e) s') t₂) (notedBy (model prog w) A env fun e s' => R (.error e) s') t₁') (notedBy (model prog w) A env fun e s' => R (.error e) s') t₁) (notedBy (model prog w) A env fun e s' => R (.error e) s') s)
    (n : Nat) (h : I n s) :
    codeAny (model prog w) A (.compLoop (.DictComp kx vx [⟨t0, i0, jf0, 0⟩, ⟨t1, i1, jf1, 0⟩] scope pos) 0 it (.ref D) env) R s := by
  refine codeAny_loop rfl I (fun n s hI => ?_) n h
  show wpAny _ A ((compTurn (.DictComp kx vx [⟨t0, i0, jf0, 0⟩, ⟨t1, i1, jf1, 0⟩] scope pos) 0 it (.ref D) env).onRaise (fun y => do noteFrame y env; theTreesLotGoes y)) _ _ s
  refine wpAny_noted ?_
  rw [dTurn2_out]
  refine wpAny_bind (wpAny_standAt (wpAny_bind (wpAny_mono (turn n s hI) (fun r t₁ g₁ => ?_) fun _ _ hq => hq)))
  cases r with
  | none => exact wpAny_pure g₁
  | some v =>
    refine wpAny_bind (wpAny_mono g₁ (fun _ t₁' g₁' => ?_) fun _ _ hq => hq)
    refine wpAny_bind (wpAny_mono g₁' (fun _ t₂ g₂ => wpAny_bind (wpAny_mono g₂ (fun ok t₃ g₃ => ?_) fun _ _ hq => hq)) fun _ _ hq => hq)
    cases ok with
    | false => exact wpAny_pure ⟨rfl, g₃⟩
    | true =>
      refine wpAny_bind (wpAny_mono g₃ (fun x t₄ g₄ => ?_) fun _ _ hq => hq)
      refine wpAny_bind (wpAny_standAt (wpAny_bind (wpAny_of_eq (hs x) (wpAny_bind (wpAny_holding (wpAny_mono g₄ (fun it1 t₅ g₅ => ?_) fun _ _ hq => hq))))))
      refine wpAny_bind (wpAny_runOwn ?_)
      rw [Around.mark_none]
      refine codeAny_mono g₅ fun r s' hr => ?_
      cases r with
      | ok f =>
        first
          | exact wpAny_pure ⟨rfl, hr⟩
          | exact wpAny_bind (wpAny_pure (wpAny_pure ⟨rfl, hr⟩))
      | error e => exact hr.elim
theorem dLoop2_in (I : Nat → Shared → Prop)
    (turn : ∀ n s, I n s → wpAny (model prog w) A (pyNext it) (fun r t₁ => match r with
      | none => R (.ok .next) t₁
      | some v => wpAny (model prog w) A (letOwnedTupleGo t1 it v) (fun _ t₁' => wpAny (model prog w) A (assign t1 env v) (fun _ t₂ =>
          wpAny (model prog w) A (forIn jf1 true fun c r => if r = true then do let ok ← isTrue c env (eval c env); pure (ForInStep.yield ok) else pure (ForInStep.yield r)) (fun ok t₃ =>
            if ok = true then wpAny (model prog w) A (eval kx env) (fun kk t₄ => wpAny (model prog w) A (eval vx env) (fun zz t₅ =>
              wpAny (model prog w) A (dictSet D kk zz) (fun _ t₆ => ∃ m, m < n ∧ I m t₆) (notedBy (model prog w) A env fun e s' => R (.error e) s') t₅) (notedBy (model prog w) A env fun e s' => R (.error e) s') t₄) (notedBy (model prog w) A env fun e s' => R (.error e) s') t₃
            else ∃ m, m < n ∧ I m t₃) (notedBy (model prog w) A env fun e s' => R (.error e) s') t₂) (notedBy (model prog w) A env fun e s' => R (.error e) s') t₁') (notedBy (model prog w) A env fun e s' => R (.error e) s') t₁) (notedBy (model prog w) A env fun e s' => R (.error e) s') s)
    (n : Nat) (h : I n s) :
    codeAny (model prog w) A (.compLoop (.DictComp kx vx [⟨t0, i0, jf0, 0⟩, ⟨t1, i1, jf1, 0⟩] scope pos) 1 it (.ref D) env) R s := by
  refine codeAny_loop rfl I (fun n s hI => ?_) n h
  show wpAny _ A ((compTurn (.DictComp kx vx [⟨t0, i0, jf0, 0⟩, ⟨t1, i1, jf1, 0⟩] scope pos) 1 it (.ref D) env).onRaise (fun y => do noteFrame y env; theTreesLotGoes y)) _ _ s
  refine wpAny_noted ?_
  rw [dTurn2_in]
  refine wpAny_bind (wpAny_standAt (wpAny_bind (wpAny_mono (turn n s hI) (fun r t₁ g₁ => ?_) fun _ _ hq => hq)))
  cases r with
  | none => exact wpAny_pure g₁
  | some v =>
    refine wpAny_bind (wpAny_mono g₁ (fun _ t₁' g₁' => ?_) fun _ _ hq => hq)
    refine wpAny_bind (wpAny_mono g₁' (fun _ t₂ g₂ => wpAny_bind (wpAny_mono g₂ (fun ok t₃ g₃ => ?_) fun _ _ hq => hq)) fun _ _ hq => hq)
    cases ok with
    | false => exact wpAny_pure ⟨rfl, g₃⟩
    | true =>
      exact wpAny_bind (wpAny_bind (wpAny_mono g₃ (fun kk t₄ g₄ => wpAny_bind (wpAny_holding (wpAny_mono g₄ (fun zz t₅ g₅ => wpAny_bind (wpAny_standAt (wpAny_holding (wpAny_mono g₅ (fun _ t₆ g₆ => wpAny_pure ⟨rfl, g₆⟩) fun _ _ hq => hq)))) fun _ _ hq => hq))) fun _ _ hq => hq))
theorem dStart1_ok (h0 : codeAny (model prog w) A (.compLoop (.DictComp kx vx [⟨t0, i0, jf0, 0⟩, ⟨t1, i1, jf1, 0⟩] scope pos) 1 it (.ref D) env) R s)
    (h : wpAny (model prog w) A (pyIter it) (fun it' s' => codeAny (model prog w) A (.compLoop (.DictComp kx vx [⟨t0, i0, jf0, 0⟩, ⟨t1, i1, jf1, 0⟩] scope pos) 1 it' (.ref D) env) R s')
      (notedBy (model prog w) A env fun x s' => R (.error x) s') s) :
    codeAny (model prog w) A (.compStart (.DictComp kx vx [⟨t0, i0, jf0, 0⟩, ⟨t1, i1, jf1, 0⟩] scope pos) 1 it (.ref D) env) R s := by
  refine codeAny_of_tree ?_
  show wpAny _ _ ((compStart (.DictComp kx vx [⟨t0, i0, jf0, 0⟩, ⟨t1, i1, jf1, 0⟩] scope pos) 1 it (.ref D) env).onRaise (fun x => do noteFrame x env; standAt theWindowsPlace)) _ _ s
  refine wpAny_notedAt ?_
  unfold compStart
  show wpAny _ _ (ask >>= _) _ _ s
  refine wpAny_bind (wpAny_askSetting (wpAny_ite ?_))
  split
  · first
      | exact wpAny_bind (wpAny_pure (wpAny_pure (And.intro rfl h0)))
      | exact wpAny_pure (And.intro rfl h0)
  · first
      | exact wpAny_bind (wpAny_rule (wpAny_bind (wpAny_standAt (wpAny_bind (wpAny_mono h (fun it' s' h' => wpAny_pure (And.intro rfl h')) fun _ _ x => x)))))
      | (refine wpAny_bind (wpAny_rule ?_); show wpAny _ _ (standAt i1.pos >>= _) _ _ s; exact wpAny_bind (wpAny_standAt (wpAny_bind (wpAny_mono h (fun it' s' h' => wpAny_pure (And.intro rfl h')) fun _ _ x => x))))
end
theorem d_dictSetT {X : Cx} {pns : List (Addr × Obj)} {σ : St} {H : Hp} {s : Shared} {E : Value → Shared → Prop} {D b : Addr} {kvs : List (List Key × V)} {k : List Key} {v : V} {u r : Value} {Q : Unit → Shared → Prop} (hu : X.A.units + 1 < cLine) (I : Inv X pns σ H s) (hD : H D = some (.dT kvs)) (hz : kvs.length < sizeLine)
    (hb : H b = some (.tup (k.map kV))) (ry : RelV (.ref b) u) (rv : RelV v r) (h : ∀ s', Inv X pns σ (upd H D (.dT (putK kvs k v))) s' → Q () s') : wpAny (model X.prog X.w) X.A (dictSet D u r) Q E s := by
  obtain ⟨z, hd, xs, rel, dd⟩ := dt_of I.hok hD
  cases (show u = Value.ref b from ry)
  have zz : xs.length ≤ sizeLine := by rw [← Paired.length rel]; exact z
  have zl : (putK kvs k v).length ≤ sizeLine := by have := length_putK kvs k v; omega
  refine wpAny_dictSet_heap (hsz := zz) (show X.A.units < cLine by omega) (key_of I.hok hb) dd fun h' dd' hs' => h _ ?_
  obtain ⟨w1, es, ep, w2, w3, w4, w5, _, w6⟩ := dd'
  refine d_write I (by rw [hD]; exact True.intro) hs' ⟨w1, w2⟩ ⟨zl, hd, _, (rel.put k hb rv).keeps fun c ys ec => ?_, w1, es, ep, w2, w3, w4, w5, w6⟩
  rw [upd_ne (ne_of ec hD (fun y => nomatch y))]
  exact ec
def tDc2 (wi : TI) (g : TG) (tt : TT) (wi1 : TI) (g1 : TG) (tt1 : TT) (tk te : TE) (vs vs1 : List Nat) : TE := fun σ H Q => wi σ H fun J H1 => ∀ D, H1 D = none → ∃ W : Nat → Nat → Hp → Prop, (∃ m, W 0 m (upd H1 D (.dT []))) ∧ ∀ i m H, W i m H →
  (J.stop i H ∧ Q (.ref D) H) ∨ (J.go i H ∧ ∃ Nx : Hp → Prop, (∀ H', Nx H' → ∃ m', m' < m ∧ W (i + 1) m' H') ∧ ∀ x H', J.yld i H x H' → g x (wipe σ vs) H' fun σ2 H2 => wipe σ2 vs = wipe σ vs ∧ tt σ2 H2 fun b H3 =>
    if b = true then wi1 σ2 H3 fun J1 H4 => ∃ W1 : Nat → Nat → Hp → Prop, (∃ m, W1 0 m H4) ∧ ∀ j k H, W1 j k H →
      (J1.stop j H ∧ Nx H) ∨ (J1.go j H ∧ ∃ Nx1 : Hp → Prop, (∀ H', Nx1 H' → ∃ k', k' < k ∧ W1 (j + 1) k' H') ∧ ∀ x H', J1.yld j H x H' → g1 x (wipe σ2 vs1) H' fun σ3 H5 => wipe σ3 vs1 = wipe σ2 vs1 ∧ tt1 σ3 H5 fun b H6 =>
        if b = true then tk σ3 H6 fun y0 H6 => te σ3 H6 fun y H7 => ∃ kvs k b, H7 D = some (.dT kvs) ∧ y0 = .ref b ∧ H7 b = some (.tup (k.map kV)) ∧ kvs.length < sizeLine ∧ Nx1 (upd H7 D (.dT (putK kvs k y))) else Nx1 H6)
    else Nx H3)
theorem dc2_core {pns : List (Addr × Obj)} {s : Shared} {σ : St} {H : Hp} {Q : VK} {kx vx tg iter tg1 iter1 : Expr} {ifs jf1 : List Expr} {scope : Scope} {own : List (Str × Nat)} {vs1 : List Nat} {pos pos' : Pos} {wi wi1 : TI} {g g1 : TG} {tt tt1 : TT} {tk te : TE} {use : Option (Value → Sem Unit)} {Qf : Value → Shared → Prop}
    (hc : X.calm = true) (hN : X.N.Nodup) (hu : X.A.units + 1 < cLine) (I : Inv X pns σ H s) (hi : PI X tg iter wi) (ok : BlkOk X.N X.env.scope scope own) (hv : ∀ i ∈ vs1, i ∈ own.map (·.2))
    (hg : ∀ (s : Shared) (H : Hp) (C : Addr) (cl : List (Str × Addr)) (gp : List Addr), PG (X.blk s H scope (compEnvC scope cl C X.env) gp) tg g) (ht : ∀ (s : Shared) (H : Hp) (C : Addr) (cl : List (Str × Addr)) (gp : List Addr), PTs (X.blk s H scope (compEnvC scope cl C X.env) gp) ifs tt)
    (hk : ∀ (s : Shared) (H : Hp) (C : Addr) (cl : List (Str × Addr)) (gp : List Addr), PE (X.blk s H scope (compEnvC scope cl C X.env) gp) kx tk) (he : ∀ (s : Shared) (H : Hp) (C : Addr) (cl : List (Str × Addr)) (gp : List Addr), PE (X.blk s H scope (compEnvC scope cl C X.env) gp) vx te) (hs : ∀ x, foldedSetIterable iter X.env x = pure x)
    (hi1 : ∀ (s : Shared) (H : Hp) (C : Addr) (cl : List (Str × Addr)) (gp : List Addr), PI (X.blk s H scope (compEnvC scope cl C X.env) gp) tg1 iter1 wi1)
    (hg1 : ∀ (s : Shared) (H : Hp) (C : Addr) (cl : List (Str × Addr)) (gp : List Addr), PG (X.blk s H scope (compEnvC scope cl C X.env) gp) tg1 g1)
    (ht1 : ∀ (s : Shared) (H : Hp) (C : Addr) (cl : List (Str × Addr)) (gp : List Addr), PTs (X.blk s H scope (compEnvC scope cl C X.env) gp) jf1 tt1)
    (hs1 : ∀ env x, foldedSetIterable iter1 env x = pure x)
    (h : tDc2 wi g tt wi1 g1 tt1 tk te (own.map (·.2)) vs1 σ H Q)
    (hRR : ∀ D C s' m H', Inv X pns σ H' s' → Q (.ref D) H' → s'.heap.Ns C m → FpOk X pns H' C → compPost (model X.prog X.w) X.A X.xe use Qf (.ref D) C (.ok .next) s') :
    wpAny (model X.prog X.w) X.A (comprehension (.DictComp kx vx [⟨tg, iter, ifs, 0⟩, ⟨tg1, iter1, jf1, 0⟩] scope pos) scope X.env pos' (newDict) false (eval iter X.env) use) Qf X.xe s := by
  have hfr : ∀ y ∈ scope.names, y.2 = .free → ∃ c, X.env.cells.lookup y.1 = some c := fun y hy e => by
    rcases ok.free y hy e with k | k
    · exact I.ok.has _ (.inl k)
    · exact I.ok.has _ (.inr k)
  refine wpAny_comprehension_free (use := use) rfl hs (closure_ok hfr) ok.kind (fun y hy e => by rw [ok.uniq y hy, e])
    (thn (hi.run pns s σ H _ I h) fun xw s1 hx => thn hx fun itw z2 h2 => ?_)
  obtain ⟨it, gp, tn, J, H2, e, J2, T, st2, f2, q⟩ := h2
  subst e
  refine wpAny_newObj_type (newEnv_comp ?_)
  generalize hD : z2.heap.objs.size = D
  have hDn : H2 D = none := J2.hok.fresh (Nat.le_of_eq hD)
  obtain ⟨W, ⟨m0, w0⟩, turn⟩ := q D hDn
  generalize es3 : ({ z2 with heap := z2.heap.push { cls := .type "dict", data := .dict #[] } } : Shared) = z3
  have J3 : Inv X pns σ (upd H2 D (.dT [])) z3 := by
    rw [← es3]
    refine J2.laid (t' := z2.toks) (fun b o e => Heap.get?_push_of_some _ e) (Nat.le_of_eq hD) ?_
    rw [← hD]
    exact dt_empty z2.heap J2.big
  have h3 : z3.heap = z2.heap.push { cls := .type "dict", data := .dict #[] } := by rw [← es3]
  have sz : ∀ b ∈ gp, b < z2.heap.objs.size := fun b hb => by
    obtain ⟨o, e, _⟩ := T.obj _ _ st2 b hb
    exact Heap.lt_size e
  have f3 : ∀ b ∈ gp, FpOk X pns (upd H2 D (.dT [])) b ∧ b < z3.heap.objs.size := fun b hb => by
    have hlt := sz b hb
    refine ⟨⟨?_, (f2 b hb).2⟩, by rw [h3, Heap.size_push]; exact Nat.lt_succ_of_lt hlt⟩
    rw [upd_ne (by rw [← hD]; exact Nat.ne_of_lt hlt)]
    exact (f2 b hb).1
  have st3 : tn 0 z3.heap := T.keep _ _ _ st2 fun b _ o e => by rw [h3]; exact Heap.get?_push_of_some _ e
  have J4 := block_start J3 ok hN f3
  have pg := hg z3 (upd H2 D (.dT [])) z3.heap.objs.size (cellsFrom (z3.heap.objs.size + 1) scope.names (cloFrom X.env.cells scope.names [])) gp
  have pt := ht z3 (upd H2 D (.dT [])) z3.heap.objs.size (cellsFrom (z3.heap.objs.size + 1) scope.names (cloFrom X.env.cells scope.names [])) gp
  have pk := hk z3 (upd H2 D (.dT [])) z3.heap.objs.size (cellsFrom (z3.heap.objs.size + 1) scope.names (cloFrom X.env.cells scope.names [])) gp
  have pe := he z3 (upd H2 D (.dT [])) z3.heap.objs.size (cellsFrom (z3.heap.objs.size + 1) scope.names (cloFrom X.env.cells scope.names [])) gp
  have pi1 := hi1 z3 (upd H2 D (.dT [])) z3.heap.objs.size (cellsFrom (z3.heap.objs.size + 1) scope.names (cloFrom X.env.cells scope.names [])) gp
  have pg1 := hg1 z3 (upd H2 D (.dT [])) z3.heap.objs.size (cellsFrom (z3.heap.objs.size + 1) scope.names (cloFrom X.env.cells scope.names [])) gp
  have pt1 := ht1 z3 (upd H2 D (.dT [])) z3.heap.objs.size (cellsFrom (z3.heap.objs.size + 1) scope.names (cloFrom X.env.cells scope.names [])) gp
  show codeAny _ _ (.compStart (.DictComp kx vx [⟨tg, iter, ifs, 0⟩, ⟨tg1, iter1, jf1, 0⟩] scope pos) 0 (.ref it) (.ref D) (compEnvC scope (cellsFrom (z3.heap.objs.size + 1) scope.names (cloFrom X.env.cells scope.names [])) z3.heap.objs.size X.env)) (compPost (model X.prog X.w) X.A X.xe use Qf (.ref D) z3.heap.objs.size) { z3 with heap := pushCells (z3.heap.push { cls := .type "dict", data := .dict #[] }) scope.names }
  have nfp : ∀ b ∈ gp, (upd H2 D (.dT [])) b = none := fun b hb => (f3 b hb).1.1
  generalize hcf : compEnvC scope (cellsFrom (z3.heap.objs.size + 1) scope.names (cloFrom X.env.cells scope.names [])) z3.heap.objs.size X.env = cq at J4 pg pt pk pe pi1 pg1 pt1 ⊢
  have cL : cq.locals = z3.heap.objs.size := by subst hcf; rfl
  generalize eH3 : upd H2 D (.dT []) = H3 at J3 J4 pg pt pk pe pi1 pg1 pt1 w0 nfp f3
  generalize es4 : ({ z3 with heap := pushCells (z3.heap.push { cls := .type "dict", data := .dict #[] }) scope.names } : Shared) = z4 at J4 ⊢
  have st4 : tn 0 z4.heap := T.keep _ _ _ st3 fun b _ o e => by rw [← es4]; exact pushCells_keeps _ _ _ _ (Heap.get?_push_of_some _ e)
  have stat : ∀ {σ' : St} {H' : Hp} {s' : Shared}, Inv (X.blk z3 H3 scope cq gp) [] σ' H' s' → (∀ b ∈ gp, H' b = none) → ∀ b ∈ gp, FpOk (X.blk z3 H3 scope cq gp) [] H' b := fun {σ' H' s'} I' hn b hb =>
    ⟨hn b hb, (I'.ok.exf b hb).1, I'.ok.exfs b hb, .inl hb, fun x c e => (I'.ok.exf b hb).2 x c e, fun p hp => absurd (show p ∈ ([] : List (Addr × Obj)) ++ [] from hp) (by simp)⟩
  have loop : codeAny (model X.prog X.w) X.A (.compLoop (.DictComp kx vx [⟨tg, iter, ifs, 0⟩, ⟨tg1, iter1, jf1, 0⟩] scope pos) 0 (.ref it) (.ref D) cq) (compPost (model X.prog X.w) X.A X.xe use Qf (.ref D) z3.heap.objs.size) z4 := by
    refine dLoop2_out (hs1 cq) (fun n s' => ∃ i H', Inv (X.blk z3 H3 scope cq gp) [] (wipe σ (own.map (·.2))) H' s' ∧ tn i s'.heap ∧ (∀ b ∈ gp, H' b = none) ∧ W i n H') ?_ m0 ⟨0, H3, J4, st4, nfp, w0⟩
    rintro n z5 ⟨i, H5, J5, st5, n5, w5⟩
    rcases turn i n H5 w5 with ⟨stop, qq⟩ | ⟨go, Nx, hNx, step⟩
    · have td := T.done (X.blk z3 H3 scope cq gp) rfl rfl rfl hc i [] z5 _ H5 (fun _ _ => False) J5 (stat J5 n5) st5 stop
      refine thnF td fun r z6 ⟨hr, J6⟩ => ?_
      subst hr
      have J7 : Inv X pns σ H5 z6 := J3.call' (ch := gp) J6.os J6.base J6.hok J6.bare fun b hb => ⟨(f3 b hb).1.2.2.2.1, (f3 b hb).1.2.1, (f3 b hb).1.2.2.2.2.1, (f3 b hb).1.2.2.2.2.2⟩
      have nC : H5 z3.heap.objs.size = none := by
        have z : H5 cq.locals = none := J6.free
        rw [cL] at z
        exact z
      obtain ⟨m, hn, _⟩ := J6.loc
      have hn : z6.heap.Ns cq.locals m := hn
      rw [cL] at hn
      exact hRR D z3.heap.objs.size z6 m H5 J7 qq hn (J3.fpOk (Nat.le_refl _) nC)
    · have ti := T.item (X.blk z3 H3 scope cq gp) rfl rfl rfl hc i [] z5 _ H5 (fun _ _ => False) J5 (stat J5 n5) st5 go
      refine thnF ti fun r z6 ⟨u, hr, h6⟩ => ?_
      subst hr
      refine thnF h6 fun _ z7 ⟨x, H7, J7, r7, y7, st7, n7⟩ => ?_
      have J7' := J7.pinned (stat J7 n7) (T.obj _ _ st7)
      refine thnF (pg.run _ z7 _ H7 x u _ J7' r7 (step x H7 y7)) fun _ z8 ⟨σ8, H8, J8, hw8, q8⟩ => ?_
      refine thnF (pt.run _ z8 σ8 H8 _ J8 q8) fun b z9 ⟨H9, J9, q9⟩ => ?_
      have fin : ∀ {σ9 : St} {s' : Shared} {H' : Hp}, Inv (X.blk z3 H3 scope cq gp) ([] ++ pinsAt gp z7.heap) σ9 H' s' → (wipe σ (own.map (·.2))).length = σ9.length → (∀ (j : Nat) v, (wipe σ (own.map (·.2)))[j]? = some (some v) → σ9[j]? = some (some v)) → Nx H' →
          ∃ m, m < n ∧ ∃ i H', Inv (X.blk z3 H3 scope cq gp) [] (wipe σ (own.map (·.2))) H' s' ∧ tn i s'.heap ∧ (∀ b ∈ gp, H' b = none) ∧ W i m H' := fun {σ9 s' H'} I' hl hk nx => by
        obtain ⟨m', hm, w'⟩ := hNx H' nx
        have pin2 : ∀ b ∈ gp, ∀ o, z7.heap.get? b = some o → s'.heap.get? b = some o ∧ H' b = none := fun b hb o e =>
          let z := I'.pin (b, o) (List.mem_append_right _ (List.mem_append_right _ (mem_pinsAt hb e)))
          ⟨z.1, z.2.1⟩
        refine ⟨m', hm, i + 1, H', (I'.unpinned (pins := [])).weak hl hk, T.keep _ _ _ st7 fun b hb o e => (pin2 b hb o e).1, fun b hb => ?_, w'⟩
        obtain ⟨o, e, _⟩ := T.obj _ _ st7 b hb
        exact (pin2 b hb o e).2
      have hl8 : (wipe σ (own.map (·.2))).length = σ8.length := by rw [← hw8, wipe_length]
      have hk8 : ∀ (j : Nat) v, (wipe σ (own.map (·.2)))[j]? = some (some v) → σ8[j]? = some (some v) := fun j v e => by
        rw [← hw8] at e
        exact (wipe_some e).1
      have hk9 : ∀ (j : Nat) v, (wipe σ (own.map (·.2)))[j]? = some (some v) → (wipe σ8 vs1)[j]? = some (some v) := fun j v e => by
        rw [← hw8] at e
        obtain ⟨e1, e2⟩ := wipe_some e
        rw [wipe_out fun z => e2 (hv j z)]
        exact e1
      cases b with
      | false =>
        simp only [Bool.false_eq_true, if_false] at q9 ⊢
        exact fin J9 hl8 hk8 q9
      | true =>
        simp only [if_true] at q9 ⊢
        refine thnF (pi1.run _ z9 σ8 H9 _ J9 q9) fun xw z10 hx => thnF hx fun itw z11 h11 => ?_
        obtain ⟨it1, gp1, tn1, J1, H11, e1, J11, T1, st11, f11, W1, ⟨m1, w1⟩, turn1⟩ := h11
        subst e1
        have stat1 : ∀ {H' : Hp}, (∀ b ∈ gp1, H' b = none) → ∀ b ∈ gp1, FpOk (X.blk z3 H3 scope cq gp) ([] ++ pinsAt gp z7.heap) H' b := fun hn b hb => ⟨hn b hb, (f11 b hb).2⟩
        have loop1 : codeAny (model X.prog X.w) X.A (.compLoop (.DictComp kx vx [⟨tg, iter, ifs, 0⟩, ⟨tg1, iter1, jf1, 0⟩] scope pos) 1 (.ref it1) (.ref D) cq)
            (fun r s' => match r with
              | .ok _ => ∃ m, m < n ∧ ∃ i H', Inv (X.blk z3 H3 scope cq gp) [] (wipe σ (own.map (·.2))) H' s' ∧ tn i s'.heap ∧ (∀ b ∈ gp, H' b = none) ∧ W i m H'
              | .error _ => False) z11 := by
          refine dLoop2_in (fun k s' => ∃ j H', Inv (X.blk z3 H3 scope cq gp) ([] ++ pinsAt gp z7.heap) (wipe σ8 vs1) H' s' ∧ tn1 j s'.heap ∧ (∀ b ∈ gp1, H' b = none) ∧ W1 j k H') ?_ m1 ⟨0, H11, J11.weak (wipe_length _ _) (fun j v e => (wipe_some e).1), st11, fun b hb => (f11 b hb).1, w1⟩
          rintro k z12 ⟨j, H12, J12, st12, n12, w12⟩
          rcases turn1 j k H12 w12 with ⟨stop1, nx1⟩ | ⟨go1, Nx1, hNx1, step1⟩
          · refine thnF (T1.done (X.blk z3 H3 scope cq gp) rfl rfl rfl hc j _ z12 (wipe σ8 vs1) H12 (fun _ _ => False) J12 (stat1 n12) st12 stop1) fun r z13 ⟨hr, J13⟩ => ?_
            subst hr
            exact fin J13 (hl8.trans (wipe_length σ8 vs1).symm) hk9 nx1
          · refine thnF (T1.item (X.blk z3 H3 scope cq gp) rfl rfl rfl hc j _ z12 (wipe σ8 vs1) H12 (fun _ _ => False) J12 (stat1 n12) st12 go1) fun r z13 ⟨u1, hr, h13⟩ => ?_
            subst hr
            refine thnF h13 fun _ z14 ⟨x1, H14, J14, r14, y14, st14, n14⟩ => ?_
            have J14' := J14.pinned (stat1 n14) (T1.obj _ _ st14)
            refine thnF (pg1.run _ z14 (wipe σ8 vs1) H14 x1 u1 _ J14' r14 (step1 x1 H14 y14)) fun _ z15 ⟨σ15, H15, J15, hw15, q15⟩ => ?_
            refine thnF (pt1.run _ z15 σ15 H15 _ J15 q15) fun b1 z16 ⟨H16, J16, q16⟩ => ?_
            have fin1 : ∀ {s' : Shared} {H' : Hp}, Inv (X.blk z3 H3 scope cq gp) (([] ++ pinsAt gp z7.heap) ++ pinsAt gp1 z14.heap) σ15 H' s' → Nx1 H' → ∃ m, m < k ∧ ∃ j H', Inv (X.blk z3 H3 scope cq gp) ([] ++ pinsAt gp z7.heap) (wipe σ8 vs1) H' s' ∧ tn1 j s'.heap ∧ (∀ b ∈ gp1, H' b = none) ∧ W1 j m H' := fun {s' H'} I' nx => by
              obtain ⟨m', hm, w'⟩ := hNx1 H' nx
              have pin2 : ∀ b ∈ gp1, ∀ o, z14.heap.get? b = some o → s'.heap.get? b = some o ∧ H' b = none := fun b hb o e =>
                let z := I'.pin (b, o) (List.mem_append_right _ (List.mem_append_right _ (mem_pinsAt hb e)))
                ⟨z.1, z.2.1⟩
              refine ⟨m', hm, j + 1, H', I'.unpinned.weak (by rw [← hw15, wipe_length]) (fun j v e => by rw [← hw15] at e; exact (wipe_some e).1), T1.keep _ _ _ st14 fun b hb o e => (pin2 b hb o e).1, fun b hb => ?_, w'⟩
              obtain ⟨o, e, _⟩ := T1.obj _ _ st14 b hb
              exact (pin2 b hb o e).2
            cases b1 with
            | false =>
              simp only [Bool.false_eq_true, if_false] at q16 ⊢
              exact fin1 J16 q16
            | true =>
              simp only [if_true] at q16 ⊢
              refine thnF (pk.run _ z16 σ15 H16 _ J16 q16) fun z0 z17 ⟨kv, H17, J17, r17, q17⟩ => ?_
              refine thnF (pe.run _ z17 σ15 H17 _ J17 q17) fun z z18 ⟨yv, H18, J18, r18, kvs, kz, bz, hD18, ekv, hb18, hz18, nx⟩ => ?_
              refine d_dictSetT (X := X.blk z3 H3 scope cq gp) hu J18 hD18 hz18 hb18 (by rw [ekv] at r17; exact r17) r18 fun z19 J19 => fin1 J19 nx
        exact dStart1_ok loop1 (T1.self X.A 0 _ _ _ st11 loop1)
  exact codeAny_compStart_dict loop (T.self X.A 0 _ _ _ st4 loop)
end L2
namespace MP
open PySem PySem.Spec L2
section
variable {K : PySem.W.Frag} {F : CallF} {av : Addr → Prop} {H0 H H1 H2 H' : Hp} {ρ0 ρ ρ1 ρ2 ρ' : List CA} {σ : L2.St} {env : MP.Env} {lo lo1 lo2 lo' : Lo} {m m1 m2 m' : MH}
structure Dc2 (K : PySem.W.Frag) (av : Addr → Prop) (H0 : Hp) (ρ0 ρ1 : List CA) (lo1 : Lo) (H1 : Hp) (σw : L2.St) (e : MP.Env) (ix : Nat) (D0 : Addr) (H : Hp) (ρ2 : List CA) (lo2 : Lo) (m2 : MH) (accs : List (List Key × D)) (acc : List (List Key × V)) : Prop where
  at' : At K av H0 ρ0 ρ2 lo2 σw H e m2
  hix : lo2 ix = some D0
  hlo : ∀ j, j ≠ ix → lo2 j = lo1 j
  kp : Keeps H1 H ρ1
  ex : Ext H1 ρ1 ρ2
  hD : H D0 = some (.dT acc)
  rel : RelT K H (aA av ρ2 lo2) ρ2 accs acc
theorem Dc2.later {σw : L2.St} {e : MP.Env} {ix : Nat} {D0 : Addr} {accs : List (List Key × D)} {acc : List (List Key × V)} (hix2 : lo1 ix = none) (hD : H1 D0 = none) (I : Dc2 K av H0 ρ0 ρ1 lo1 H1 σw e ix D0 H ρ2 lo2 m2 accs acc) : Later av ρ1 lo1 H1 ρ2 lo2 H :=
  ⟨I.kp, I.ex, fun a z => by
      rcases z with z | z | ⟨j, z⟩
      · exact .inl (.inl z)
      · rcases I.ex.new a z with z | z
        · exact .inl (.inr (.inl z))
        · exact .inr z
      · by_cases hj : j = ix
        · subst hj; rw [I.hix] at z; cases z; exact .inr hD
        · rw [I.hlo j hj] at z; exact .inl (.inr (.inr ⟨j, z⟩)), fun a z => by
      rcases z with z | z | ⟨j, z⟩
      · exact .inr (.inl z)
      · exact .inl z
      · by_cases hj : j = ix
        · subst hj; rw [hix2] at z; cases z
        · exact .inr (.inr (.inr ⟨j, (I.hlo j hj).trans z⟩))⟩
theorem Dc2.grow {σw : L2.St} {e : MP.Env} {ix : Nat} {D0 : Addr} {accs : List (List Key × D)} {acc : List (List Key × V)} (I : Dc2 K av H0 ρ0 ρ1 lo1 H1 σw e ix D0 H ρ2 lo2 m2 accs acc) (k : ∀ a o, H a = some o → H' a = some o) : Dc2 K av H0 ρ0 ρ1 lo1 H1 σw e ix D0 H' ρ2 lo2 m2 accs acc :=
  ⟨⟨I.at'.st.grow k, I.at'.hl, I.at'.far⟩, I.hix, I.hlo, ⟨fun a o h n => k a o (I.kp.keep a o h n), fun a h => dom_of k a (I.kp.dom a h)⟩, I.ex, k _ _ I.hD, I.rel.mono (Stays.of k) (fun a z => .inl z) fun n c e => ⟨c, e, rfl⟩⟩
theorem Dc2.bind {σw σ' : L2.St} {e e1 : MP.Env} {ix : Nat} {D0 : Addr} {accs : List (List Key × D)} {acc : List (List Key × V)} {lo3 : Lo} {ts : List Nat} (I : Dc2 K av H0 ρ0 ρ1 lo1 H1 σw e ix D0 H ρ2 lo2 m2 accs acc) (un : ∀ j ∈ ts, e[j]? = some .un) (a : At K av H0 ρ0 ρ2 lo3 σ' H e1 m2) (ho : ∀ i, i ∉ ts → lo3 i = lo2 i) (hn : ∀ i ∈ ts, lo3 i = none) : lo3 = lo2 ∧ Dc2 K av H0 ρ0 ρ1 lo1 H1 σ' e1 ix D0 H ρ2 lo2 m2 accs acc := by
  have e3 : lo3 = lo2 := funext fun j => by
    by_cases hj : j ∈ ts
    · rw [hn j hj]; exact (I.at'.st.slot j .un (un j hj) : lo2 j = none).symm
    · exact ho j hj
  subst e3
  exact ⟨rfl, ⟨a, I.hix, I.hlo, I.kp, I.ex, I.hD, I.rel⟩⟩
theorem Dc2.step {σw : L2.St} {e : MP.Env} {ix : Nat} {D0 : Addr} {accs : List (List Key × D)} {acc : List (List Key × V)} {ρ3 : List CA} {lo3 : Lo} {H3 : Hp} {m3 : MH} (I : Dc2 K av H0 ρ0 ρ1 lo1 H1 σw e ix D0 H ρ2 lo2 m2 accs acc) (hi : e.length < ix) (s : Step K av H0 ρ0 σw e ρ2 lo2 H ρ3 lo3 H3 m3) (l : lo3 e.length = none) : lo3 = lo2 ∧ Dc2 K av H0 ρ0 ρ1 lo1 H1 σw e ix D0 H3 ρ3 lo2 m3 accs acc := by
  have e3 : lo3 = lo2 := funext fun j => by
    by_cases hj : j = e.length
    · rw [hj, l, I.at'.hl]
    · exact s.lo j hj
  subst e3
  have df := (I.at'.st.loF ix D0 I.hix).2.1
  exact ⟨rfl, ⟨s.at l I.at', I.hix, I.hlo, I.kp.trans I.ex s.kp, I.ex.trans (fun p o h n => I.kp.keep p o h n) I.kp.dom s.ex, s.kp.keep _ _ I.hD df, I.rel.mono (I.at'.st.stays s.kp) s.ha s.ex.he⟩⟩
theorem Dc2.push {σw : L2.St} {e : MP.Env} {ix : Nat} {D0 : Addr} {accs : List (List Key × D)} {acc : List (List Key × V)} {k : List Key} {d : D} {v : V} (hD : H1 D0 = none) (I : Dc2 K av H0 ρ0 ρ1 lo1 H1 σw e ix D0 H ρ2 lo2 m2 accs acc) (hi : e.length < ix) (r : RelD K H (aA av ρ2 lo2) ρ2 d v) : Dc2 K av H0 ρ0 ρ1 lo1 H1 σw e ix D0 (upd H D0 (.dT (putK acc k v))) ρ2 lo2 m2 (putD accs k d) (putK acc k v) := by
  have pk := I.at'.st.pokeG (j := ix) (p := D0) (u' := .dT (putK acc k v)) (by omega) I.hix I.hD (fun _ z => nomatch z) (fun _ z => nomatch z)
  have pA : aA av ρ2 lo2 D0 := .inr (.inr ⟨ix, I.hix⟩)
  refine ⟨⟨pk, I.at'.hl, I.at'.far⟩, I.hix, I.hlo, ⟨fun a o h n => ?_, fun a h => ?_⟩, I.ex, upd_same, ?_⟩
  · rw [upd_ne (fun z => by subst z; rw [hD] at h; cases h)]; exact I.kp.keep a o h n
  · by_cases z : a = D0
    · subst z; exact absurd hD h
    · rw [upd_ne z]; exact I.kp.dom a h
  · exact (RelT.of (I.rel.g.put k r)).wr pA I.hD fun _ z => nomatch z
theorem Dc2.back {σw σ' : L2.St} {e e' : MP.Env} {ix : Nat} {D0 : Addr} {accs : List (List Key × D)} {acc : List (List Key × V)} {mb : MH} (hix2 : lo1 ix = none) (hD : H1 D0 = none) (hl : lo1 e'.length = none) (hi : e'.length < ix) (b : Stt K av H0 ρ0 ρ1 lo1 σ' H1 e' mb) (I : Dc2 K av H0 ρ0 ρ1 lo1 H1 σw e ix D0 H ρ2 lo2 m2 accs acc) : Dc2 K av H0 ρ0 ρ1 lo1 H1 σ' e' ix D0 H ρ2 lo2 m2 accs acc := by
  have lat := I.later hix2 hD
  have bk := b.back I.at'.st (fun j d h => I.hlo j (fun z => by have := (List.getElem?_eq_some_iff.mp h).1; omega)) (fun j hj h => (I.hlo j (by omega)).trans h) lat.ha I.kp I.ex
  exact ⟨⟨bk, by rw [I.hlo _ (by omega)]; exact hl, I.at'.far⟩, I.hix, I.hlo, I.kp, I.ex, I.hD, I.rel⟩
theorem Dc2.wipe {σw : L2.St} {e e' : MP.Env} {ix : Nat} {D0 : Addr} {accs : List (List Key × D)} {acc : List (List Key × V)} {own : List Nat} (I : Dc2 K av H0 ρ0 ρ1 lo1 H1 σw e ix D0 H ρ2 lo2 m2 accs acc) (h : wipeE e own = some e') : Dc2 K av H0 ρ0 ρ1 lo1 H1 (L2.wipe σw own) e' ix D0 H ρ2 lo2 m2 accs acc :=
  ⟨⟨I.at'.st.wipe h, by rw [wipeE_len h]; exact I.at'.hl, I.at'.far⟩, I.hix, I.hlo, I.kp, I.ex, I.hD, I.rel⟩
end
section
variable {X : Cx} {F : CallF} {kx vx tg iter tg1 iter1 : Expr} {ifs ifs1 : List Expr} {scope : Scope} {own own1 : List Nat} {ownP : List (Str × Nat)} {pos : Pos} {t t1 : T} {k k1 : ItK} {its its1 eifs eifs1 : List E} {ekx eelt : E}
theorem dc2_reads (K : PySem.W.Frag) (F : CallF) {σ : L2.St} {H : Hp} {Q : VK} (h : tE K F (.dc2 ekx eelt own t k its eifs own1 t1 k1 its1 eifs1) σ H Q) : tDc2 (tI K F k its) (tG K t) (tTs K F eifs) (tI K F k1 its1) (tG K t1) (tTs K F eifs1) (tE K F ekx) (tE K F eelt) own own1 σ H Q := by
  obtain ⟨av, H0, ρ0, ρ, lo, env, m, x, m', a, he, q⟩ := h
  simp only [evalE] at he
  split at he
  · cases he
  rename_i hto
  simp only [not_or, Bool.not_eq_false, List.all_eq_true] at hto
  have ht : ∀ i ∈ tslots t, i ∈ own := fun i hi => by simpa using hto.1 i hi
  have ho : ∀ i ∈ own1, i ∈ own := fun i hi => by simpa using hto.2.1 i hi
  have ht1 : ∀ i ∈ tslots t1, i ∈ own1 := fun i hi => by simpa using hto.2.2 i hi
  obtain ⟨ds, m1, h1, he⟩ := bind_ok he
  cases hi : itD k (ds.map (·.1)) with
  | none => rw [hi] at he; cases he
  | some xs =>
    cases hw : wipeE env own with
    | none => rw [hi, hw] at he; cases he
    | some e =>
      rw [hi, hw] at he
      obtain ⟨rs, mE, run, he⟩ := bind_ok he
      cases he
      refine ⟨av, H0, ρ0, ρ, lo, env, m, ds, m1, xs, a, h1, hi, fun J vs H1 ρ1 lo1 s1 l1 p1 wk D0 hD => ?_⟩
      have a1 := s1.at l1 a
      have pk := wk_all p1
      have elen := wipeE_len hw
      obtain ⟨kf, hkf⟩ := a1.far
      obtain ⟨ix, hix1, hix2⟩ : ∃ ix, env.length < ix ∧ lo1 ix = none := ⟨max kf (env.length + 1), by omega, hkf _ (by omega)⟩
      have base := a1.st.wipe hw
      have g0 : ∀ a o, H1 a = some o → upd H1 D0 (.dT []) a = some o := kept_upd hD
      refine ⟨fun i n H => n = xs.length - i ∧ i ≤ xs.length ∧ ∃ ρ2 lo2 m2 accs acc, Dc2 K av H0 ρ0 ρ1 lo1 H1 (L2.wipe σ own) e ix D0 H ρ2 lo2 m2 accs acc ∧ outLoop t (fun e' m' => evalT F eifs e' m') (fun e' m' => (evalPs F its1 e' m').bind fun ds' m'' => if ds'.all (fun x => walkable x.2) = false then .bad else match itD k1 (ds'.map (·.1)), wipeE e' own1 with
        | some ys, some e1 => .ok (ys, e1) m''
        | _, _ => .bad)
      (fun e' ys acc m' => dtIn t1 (fun e'' m'' => evalT F eifs1 e'' m'') (fun e'' m'' => (evalE F ekx e'' m'').bind fun x m3 => if owns x.2 then .ok x.1 m3 else .bad) (fun e'' m'' => (evalE F eelt e'' m'').bind fun x m3 => if owns x.2 then .ok x.1 m3 else .bad) e' ys acc m') e (xs.drop i) accs m2 = .ok rs m', ⟨xs.length, rfl, Nat.zero_le _, ρ1, loS lo1 ix D0, m1, [], [], ?_, run⟩, ?_⟩
      · refine ⟨⟨base.freshAt (by omega) hix2 hD g0 (by rw [upd_same]; exact fun z => nomatch z) fun zs z => (by rw [upd_same] at z; cases z), ?_, max kf (ix + 1), fun j hj => ?_⟩, loS_same, fun j hj => loS_ne hj, ⟨fun a o h _ => g0 a o h, dom_of g0⟩, Ext.refl, upd_same, rfl⟩
        · rw [loS_ne (by omega), elen]; exact l1
        · rw [loS_ne (by omega)]; exact hkf j (by omega)
      · rintro i n H2 ⟨rfl, hle, ρ2, lo2, m2, accs, acc, I, run2⟩
        have lat := I.later hix2 hD
        have wks := wk H2 _ ρ2 (lat.pks a1.st pk)
        have hN : lo2 env.length = none := by rw [I.hlo _ (by omega)]; exact l1
        cases hx : xs[i]? with
        | none =>
          have hi' : xs.length ≤ i := List.getElem?_eq_none_iff.mp hx
          refine .inl ⟨wks.1 i hi', ?_⟩
          rw [List.drop_eq_nil_of_le hi'] at run2
          simp only [outLoop] at run2
          cases run2
          have b := a1.st.back I.at'.st (fun j d h => I.hlo j (fun z => by have := (List.getElem?_eq_some_iff.mp h).1; omega)) (fun j hj h => (I.hlo j (by omega)).trans h) lat.ha I.kp I.ex
          have b2 := b.move (i := ix) (j := env.length) (by omega) (Nat.le_refl _) I.hix hN
          have hA : ∀ a, aA av ρ2 (loS (loC lo2 ix) env.length D0) a → aA av ρ2 lo2 a ∨ H2 a = none := fun a z => by
            rcases aA_loS z with z | z
            · exact .inl (aA_loC z)
            · subst z; exact .inl (.inr (.inr ⟨ix, I.hix⟩))
          refine q _ H2 ρ2 _ (s1.trans ⟨b2, fun j hj => ?_, fun p hp => ?_, I.kp, I.ex⟩) ⟨D0, rfl, loS_same, acc, I.hD, I.rel.mono Stays.refl hA (fun n c e => ⟨c, e, rfl⟩)⟩
          · rw [loS_ne hj]
            by_cases z : j = ix
            · subst z; rw [loC_same, hix2]
            · rw [loC_ne z]; exact I.hlo j z
          · rw [loS_same] at hp; cases hp; exact hD
        | some d =>
          have hi' : i < xs.length := (List.getElem?_eq_some_iff.mp hx).1
          obtain ⟨go, yld⟩ := wks.2 i d hx
          rw [List.drop_eq_getElem_cons hi', (List.getElem?_eq_some_iff.mp hx).2] at run2
          simp only [outLoop] at run2
          cases hb : bindT t d e with
          | none => rw [hb] at run2; cases run2
          | some e1 =>
            rw [hb] at run2
            obtain ⟨b, m3, hif, run3⟩ := bind_ok run2
            refine .inr ⟨go, fun H' => i + 1 ≤ xs.length ∧ ∃ ρ2 lo2 m2 accs acc, Dc2 K av H0 ρ0 ρ1 lo1 H1 (L2.wipe σ own) e ix D0 H' ρ2 lo2 m2 accs acc ∧ outLoop t (fun e' m' => evalT F eifs e' m') (fun e' m' => (evalPs F its1 e' m').bind fun ds' m'' => if ds'.all (fun x => walkable x.2) = false then .bad else match itD k1 (ds'.map (·.1)), wipeE e' own1 with
        | some ys, some e1 => .ok (ys, e1) m''
        | _, _ => .bad)
      (fun e' ys acc m' => dtIn t1 (fun e'' m'' => evalT F eifs1 e'' m'') (fun e'' m'' => (evalE F ekx e'' m'').bind fun x m3 => if owns x.2 then .ok x.1 m3 else .bad) (fun e'' m'' => (evalE F eelt e'' m'').bind fun x m3 => if owns x.2 then .ok x.1 m3 else .bad) e' ys acc m') e (xs.drop (i + 1)) accs m2 = .ok rs m', fun H' w => ⟨xs.length - (i + 1), by omega, rfl, w⟩, fun x H5 y => ?_⟩
            obtain ⟨kpy, rx⟩ := yld x H5 y
            have I5 := I.grow kpy
            refine ⟨av, H0, ρ0, ρ2, lo2, e, m2, d, e1, I5.at', rx, hb, fun σ' lo3 at6 hl3 ho3 hn3 sm => ?_⟩
            have wst := wipe_same sm ht
            obtain ⟨rfl, I6⟩ := I5.bind (fun j hj => ((wipeE_spec hw).1 j (ht j hj)).1) at6 ho3 hn3
            refine ⟨wst, av, H0, ρ0, ρ2, lo3, e1, m2, b, m3, at6, hif, fun H6 ρ6 lo6 s6 l6 => ?_⟩
            have e1len : e1.length = env.length := hl3.trans elen
            obtain ⟨rfl, I7⟩ := I6.step (by omega) s6 l6
            cases b with
            | false =>
              simp only [Bool.false_eq_true, if_false] at run3 ⊢
              have w := I7.wipe (wipe_bind hw hb ht)
              rw [wst] at w
              exact ⟨hi', ρ6, lo6, m3, accs, acc, w, run3⟩
            | true =>
              simp only [if_true] at run3 ⊢
              obtain ⟨p, m4, hin, run4⟩ := bind_ok run3
              obtain ⟨ds', m5, h5, hin⟩ := bind_ok hin
              split at hin
              · cases hin
              rename_i hwk
              have hwk' : ∀ x ∈ ds', walkable x.2 = true := by simpa using hwk
              cases hi1 : itD k1 (ds'.map (·.1)) with
              | none => rw [hi1] at hin; cases hin
              | some ys =>
                cases hw1 : wipeE e1 own1 with
                | none => rw [hi1, hw1] at hin; cases hin
                | some e1w =>
                  rw [hi1, hw1] at hin
                  cases hin
                  obtain ⟨accE, m6, hrun, run5⟩ := bind_ok run4
                  refine ⟨av, H0, ρ0, ρ6, lo6, e1, m3, ds', _, ys, I7.at', h5, hi1, fun J1 vs1 H7 ρ7 lo7 s7 l7 p7 wk1 => ?_⟩
                  obtain ⟨rfl, I8⟩ := I7.step (by omega) s7 l7
                  have e1wlen : e1w.length = env.length := (wipeE_len hw1).trans e1len
                  have I9 := I8.wipe hw1
                  refine ⟨fun j n H8 => n = ys.length - j ∧ j ≤ ys.length ∧ ∃ ρ8 lo8 m8 accs acc, Dc2 K av H0 ρ0 ρ1 lo1 H1 (L2.wipe σ' own1) e1w ix D0 H8 ρ8 lo8 m8 accs acc ∧ Mv av ρ7 lo7 H7 ρ8 lo8 H8 ∧ (dtIn t1 (fun e'' m'' => evalT F eifs1 e'' m'') (fun e'' m'' => (evalE F ekx e'' m'').bind fun x m3 => if owns x.2 then .ok x.1 m3 else .bad) (fun e'' m'' => (evalE F eelt e'' m'').bind fun x m3 => if owns x.2 then .ok x.1 m3 else .bad) e1w (ys.drop j) accs m8).bind (fun acc' m9 => outLoop t (fun e' m' => evalT F eifs e' m') (fun e' m' => (evalPs F its1 e' m').bind fun ds' m'' => if ds'.all (fun x => walkable x.2) = false then .bad else match itD k1 (ds'.map (·.1)), wipeE e' own1 with
        | some ys, some e1 => .ok (ys, e1) m''
        | _, _ => .bad)
      (fun e' ys acc m' => dtIn t1 (fun e'' m'' => evalT F eifs1 e'' m'') (fun e'' m'' => (evalE F ekx e'' m'').bind fun x m3 => if owns x.2 then .ok x.1 m3 else .bad) (fun e'' m'' => (evalE F eelt e'' m'').bind fun x m3 => if owns x.2 then .ok x.1 m3 else .bad) e' ys acc m') e (xs.drop (i + 1)) acc' m9) = .ok rs m', ⟨ys.length, rfl, Nat.zero_le _, ρ7, lo7, _, accs, acc, I9, Mv.refl, ?_⟩, ?_⟩
                  · rw [List.drop_zero]
                    simp only at hrun
                    rw [hrun]
                    exact run5
                  · rintro j n H8 ⟨rfl, hj, ρ8, lo8, m8, accs8, acc8, I10, mv, run6⟩
                    have wks1 := wk1 H8 _ ρ8 (wk_all (mv.wks I10.at' hwk' p7))
                    cases hy : ys[j]? with
                    | none =>
                      have hj' : ys.length ≤ j := List.getElem?_eq_none_iff.mp hy
                      rw [List.drop_eq_nil_of_le hj'] at run6
                      simp only [dtIn, Res.bind_ok] at run6
                      have w := I10.wipe (wipe_bind2 hw hb ht hw1 ho)
                      rw [wipe_sub ho, wst] at w
                      exact .inl ⟨wks1.1 j hj', hi', ρ8, lo8, m8, accs8, acc8, w, run6⟩
                    | some d1 =>
                      have hj' : j < ys.length := (List.getElem?_eq_some_iff.mp hy).1
                      obtain ⟨go1, yld1⟩ := wks1.2 j d1 hy
                      rw [List.drop_eq_getElem_cons hj', (List.getElem?_eq_some_iff.mp hy).2] at run6
                      simp only [dtIn] at run6
                      cases hb1 : bindT t1 d1 e1w with
                      | none => rw [hb1] at run6; cases run6
                      | some e2 =>
                        rw [hb1] at run6
                        refine .inr ⟨go1, fun H9 => j + 1 ≤ ys.length ∧ ∃ ρ8 lo8 m8 accs acc, Dc2 K av H0 ρ0 ρ1 lo1 H1 (L2.wipe σ' own1) e1w ix D0 H9 ρ8 lo8 m8 accs acc ∧ Mv av ρ7 lo7 H7 ρ8 lo8 H9 ∧ (dtIn t1 (fun e'' m'' => evalT F eifs1 e'' m'') (fun e'' m'' => (evalE F ekx e'' m'').bind fun x m3 => if owns x.2 then .ok x.1 m3 else .bad) (fun e'' m'' => (evalE F eelt e'' m'').bind fun x m3 => if owns x.2 then .ok x.1 m3 else .bad) e1w (ys.drop (j + 1)) accs m8).bind (fun acc' m9 => outLoop t (fun e' m' => evalT F eifs e' m') (fun e' m' => (evalPs F its1 e' m').bind fun ds' m'' => if ds'.all (fun x => walkable x.2) = false then .bad else match itD k1 (ds'.map (·.1)), wipeE e' own1 with
        | some ys, some e1 => .ok (ys, e1) m''
        | _, _ => .bad)
      (fun e' ys acc m' => dtIn t1 (fun e'' m'' => evalT F eifs1 e'' m'') (fun e'' m'' => (evalE F ekx e'' m'').bind fun x m3 => if owns x.2 then .ok x.1 m3 else .bad) (fun e'' m'' => (evalE F eelt e'' m'').bind fun x m3 => if owns x.2 then .ok x.1 m3 else .bad) e' ys acc m') e (xs.drop (i + 1)) acc' m9) = .ok rs m', fun H9 w => ⟨ys.length - (j + 1), by omega, rfl, w⟩, fun x1 H9 y1 => ?_⟩
                        obtain ⟨kp9, rx1⟩ := yld1 x1 H9 y1
                        have I11 := I10.grow kp9
                        refine ⟨av, H0, ρ0, ρ8, lo8, e1w, m8, d1, e2, I11.at', rx1, hb1, fun σ3 lo9 at9 hl9 ho9 hn9 sm9 => ?_⟩
                        have wst1 := wipe_same sm9 ht1
                        obtain ⟨rfl, I12⟩ := I11.bind (fun j hj => ((wipeE_spec hw1).1 j (ht1 j hj)).1) at9 ho9 hn9
                        obtain ⟨acF, mF, run7, run8⟩ := bind_ok run6
                        obtain ⟨b1, m10, hif1, run9⟩ := bind_ok run7
                        refine ⟨wst1, av, H0, ρ0, ρ8, lo9, e2, m8, b1, m10, at9, hif1, fun H10 ρ10 lo10 s10 l10 => ?_⟩
                        have e2len : e2.length = env.length := hl9.trans e1wlen
                        have mv10 := (mv.trans (Mv.kept kp9)).trans (Mv.step at9 s10)
                        obtain ⟨rfl, I13⟩ := I12.step (by omega) s10 l10
                        have wb := wipe_bind hw1 hb1 ht1
                        cases b1 with
                        | false =>
                          simp only [Bool.false_eq_true, if_false] at run9 ⊢
                          have w := I13.wipe wb
                          rw [wst1] at w
                          exact ⟨hj', ρ10, lo10, m10, accs8, acc8, w, mv10, by rw [run9]; exact run8⟩
                        | true =>
                          simp only [if_true] at run9 ⊢
                          obtain ⟨kd, m11, hkl, run10⟩ := bind_ok run9
                          obtain ⟨kv, m12, hkv, hkl⟩ := bind_ok hkl
                          split at hkl
                          case isFalse => cases hkl
                          case isTrue howk =>
                          cases hkl
                          obtain ⟨dv, m13, hel, run11⟩ := bind_ok run10
                          obtain ⟨xv, m14, hev, hel⟩ := bind_ok hel
                          split at hel
                          case isFalse => cases hel
                          case isTrue how =>
                          cases hel
                          cases hkt : kv.1 <;> first | (rw [hkt] at run11; cases run11; done) | skip
                          rename_i ks
                          rw [hkt] at run11
                          simp only at run11
                          cases hks : asKeys ks with
                          | none => rw [hks] at run11; cases run11
                          | some kk =>
                          rw [hks] at run11
                          simp only at run11
                          split at run11
                          case isFalse => cases run11
                          case isTrue hz =>
                          refine run_sh I13.at' hkv howk fun v0 H11 ρ11 lo11 s11 at11 rv0 => ?_
                          have mv11 := mv10.trans (Mv.step I13.at' s11)
                          obtain ⟨rfl, I14⟩ := I13.step (by omega) s11 at11.hl
                          refine run_sh I14.at' hev how fun v H12 ρ12 lo12 s12 at12 rv => ?_
                          have mv12 := mv11.trans (Mv.step I14.at' s12)
                          have rk := s12.rel I14.at'.st rv0
                          obtain ⟨rfl, I15⟩ := I14.step (by omega) s12 at12.hl
                          rw [hkt] at rk
                          obtain ⟨b, vs, rfl, h3, h4⟩ := rk
                          rw [asKeys_ok hks] at h4
                          rw [keys_rel h4] at h3
                          have mv13 := mv12.trans (Mv.own (u' := .dT (putK acc8 kk v)) I15.at' I15.hix I15.hD fun _ z => nomatch z)
                          have w := (I15.push (k := kk) hD (by omega) rv).wipe wb
                          rw [wst1] at w
                          exact ⟨acc8, kk, b, I15.hD, rfl, h3, by rw [← I15.rel.g.length, szline]; exact hz, hj', ρ12, lo12, _, putD accs8 kk xv.1, putK acc8 kk v, w, mv13, by rw [run11]; exact run8⟩
end
end MP
namespace MP
open PySem PySem.Spec L2
section
variable {K : PySem.W.Frag} {F : CallF} {av : Addr → Prop} {H0 H H1 H2 H' : Hp} {ρ0 ρ ρ1 ρ2 ρ' : List CA} {σ : L2.St} {env : MP.Env} {lo lo1 lo2 lo' : Lo} {m m1 m2 m' : MH}
structure Dk2 (K : PySem.W.Frag) (av : Addr → Prop) (H0 : Hp) (ρ0 ρ1 : List CA) (lo1 : Lo) (H1 : Hp) (σw : L2.St) (e : MP.Env) (ix : Nat) (D0 : Addr) (H : Hp) (ρ2 : List CA) (lo2 : Lo) (m2 : MH) (accs : List (Key × D)) (acc : List (Key × V)) : Prop where
  at' : At K av H0 ρ0 ρ2 lo2 σw H e m2
  hix : lo2 ix = some D0
  hlo : ∀ j, j ≠ ix → lo2 j = lo1 j
  kp : Keeps H1 H ρ1
  ex : Ext H1 ρ1 ρ2
  hD : H D0 = some (.dK acc)
  rel : RelK K H (aA av ρ2 lo2) ρ2 accs acc
theorem Dk2.later {σw : L2.St} {e : MP.Env} {ix : Nat} {D0 : Addr} {accs : List (Key × D)} {acc : List (Key × V)} (hix2 : lo1 ix = none) (hD : H1 D0 = none) (I : Dk2 K av H0 ρ0 ρ1 lo1 H1 σw e ix D0 H ρ2 lo2 m2 accs acc) : Later av ρ1 lo1 H1 ρ2 lo2 H :=
  ⟨I.kp, I.ex, fun a z => by
      rcases z with z | z | ⟨j, z⟩
      · exact .inl (.inl z)
      · rcases I.ex.new a z with z | z
        · exact .inl (.inr (.inl z))
        · exact .inr z
      · by_cases hj : j = ix
        · subst hj; rw [I.hix] at z; cases z; exact .inr hD
        · rw [I.hlo j hj] at z; exact .inl (.inr (.inr ⟨j, z⟩)), fun a z => by
      rcases z with z | z | ⟨j, z⟩
      · exact .inr (.inl z)
      · exact .inl z
      · by_cases hj : j = ix
        · subst hj; rw [hix2] at z; cases z
        · exact .inr (.inr (.inr ⟨j, (I.hlo j hj).trans z⟩))⟩
theorem Dk2.grow {σw : L2.St} {e : MP.Env} {ix : Nat} {D0 : Addr} {accs : List (Key × D)} {acc : List (Key × V)} (I : Dk2 K av H0 ρ0 ρ1 lo1 H1 σw e ix D0 H ρ2 lo2 m2 accs acc) (k : ∀ a o, H a = some o → H' a = some o) : Dk2 K av H0 ρ0 ρ1 lo1 H1 σw e ix D0 H' ρ2 lo2 m2 accs acc :=
  ⟨⟨I.at'.st.grow k, I.at'.hl, I.at'.far⟩, I.hix, I.hlo, ⟨fun a o h n => k a o (I.kp.keep a o h n), fun a h => dom_of k a (I.kp.dom a h)⟩, I.ex, k _ _ I.hD, I.rel.mono (Stays.of k) (fun a z => .inl z) fun n c e => ⟨c, e, rfl⟩⟩
theorem Dk2.bind {σw σ' : L2.St} {e e1 : MP.Env} {ix : Nat} {D0 : Addr} {accs : List (Key × D)} {acc : List (Key × V)} {lo3 : Lo} {ts : List Nat} (I : Dk2 K av H0 ρ0 ρ1 lo1 H1 σw e ix D0 H ρ2 lo2 m2 accs acc) (un : ∀ j ∈ ts, e[j]? = some .un) (a : At K av H0 ρ0 ρ2 lo3 σ' H e1 m2) (ho : ∀ i, i ∉ ts → lo3 i = lo2 i) (hn : ∀ i ∈ ts, lo3 i = none) : lo3 = lo2 ∧ Dk2 K av H0 ρ0 ρ1 lo1 H1 σ' e1 ix D0 H ρ2 lo2 m2 accs acc := by
  have e3 : lo3 = lo2 := funext fun j => by
    by_cases hj : j ∈ ts
    · rw [hn j hj]; exact (I.at'.st.slot j .un (un j hj) : lo2 j = none).symm
    · exact ho j hj
  subst e3
  exact ⟨rfl, ⟨a, I.hix, I.hlo, I.kp, I.ex, I.hD, I.rel⟩⟩
theorem Dk2.step {σw : L2.St} {e : MP.Env} {ix : Nat} {D0 : Addr} {accs : List (Key × D)} {acc : List (Key × V)} {ρ3 : List CA} {lo3 : Lo} {H3 : Hp} {m3 : MH} (I : Dk2 K av H0 ρ0 ρ1 lo1 H1 σw e ix D0 H ρ2 lo2 m2 accs acc) (hi : e.length < ix) (s : Step K av H0 ρ0 σw e ρ2 lo2 H ρ3 lo3 H3 m3) (l : lo3 e.length = none) : lo3 = lo2 ∧ Dk2 K av H0 ρ0 ρ1 lo1 H1 σw e ix D0 H3 ρ3 lo2 m3 accs acc := by
  have e3 : lo3 = lo2 := funext fun j => by
    by_cases hj : j = e.length
    · rw [hj, l, I.at'.hl]
    · exact s.lo j hj
  subst e3
  have df := (I.at'.st.loF ix D0 I.hix).2.1
  exact ⟨rfl, ⟨s.at l I.at', I.hix, I.hlo, I.kp.trans I.ex s.kp, I.ex.trans (fun p o h n => I.kp.keep p o h n) I.kp.dom s.ex, s.kp.keep _ _ I.hD df, I.rel.mono (I.at'.st.stays s.kp) s.ha s.ex.he⟩⟩
theorem Dk2.push {σw : L2.St} {e : MP.Env} {ix : Nat} {D0 : Addr} {accs : List (Key × D)} {acc : List (Key × V)} {k : Key} {d : D} {v : V} (hD : H1 D0 = none) (I : Dk2 K av H0 ρ0 ρ1 lo1 H1 σw e ix D0 H ρ2 lo2 m2 accs acc) (hi : e.length < ix) (r : RelD K H (aA av ρ2 lo2) ρ2 d v) : Dk2 K av H0 ρ0 ρ1 lo1 H1 σw e ix D0 (upd H D0 (.dK (putK acc k v))) ρ2 lo2 m2 (putD accs k d) (putK acc k v) := by
  have pk := I.at'.st.pokeG (j := ix) (p := D0) (u' := .dK (putK acc k v)) (by omega) I.hix I.hD (fun _ z => nomatch z) (fun _ z => nomatch z)
  have pA : aA av ρ2 lo2 D0 := .inr (.inr ⟨ix, I.hix⟩)
  refine ⟨⟨pk, I.at'.hl, I.at'.far⟩, I.hix, I.hlo, ⟨fun a o h n => ?_, fun a h => ?_⟩, I.ex, upd_same, ?_⟩
  · rw [upd_ne (fun z => by subst z; rw [hD] at h; cases h)]; exact I.kp.keep a o h n
  · by_cases z : a = D0
    · subst z; exact absurd hD h
    · rw [upd_ne z]; exact I.kp.dom a h
  · exact (RelK.of (I.rel.g.put k r)).wr pA I.hD fun _ z => nomatch z
theorem Dk2.back {σw σ' : L2.St} {e e' : MP.Env} {ix : Nat} {D0 : Addr} {accs : List (Key × D)} {acc : List (Key × V)} {mb : MH} (hix2 : lo1 ix = none) (hD : H1 D0 = none) (hl : lo1 e'.length = none) (hi : e'.length < ix) (b : Stt K av H0 ρ0 ρ1 lo1 σ' H1 e' mb) (I : Dk2 K av H0 ρ0 ρ1 lo1 H1 σw e ix D0 H ρ2 lo2 m2 accs acc) : Dk2 K av H0 ρ0 ρ1 lo1 H1 σ' e' ix D0 H ρ2 lo2 m2 accs acc := by
  have lat := I.later hix2 hD
  have bk := b.back I.at'.st (fun j d h => I.hlo j (fun z => by have := (List.getElem?_eq_some_iff.mp h).1; omega)) (fun j hj h => (I.hlo j (by omega)).trans h) lat.ha I.kp I.ex
  exact ⟨⟨bk, by rw [I.hlo _ (by omega)]; exact hl, I.at'.far⟩, I.hix, I.hlo, I.kp, I.ex, I.hD, I.rel⟩
theorem Dk2.wipe {σw : L2.St} {e e' : MP.Env} {ix : Nat} {D0 : Addr} {accs : List (Key × D)} {acc : List (Key × V)} {own : List Nat} (I : Dk2 K av H0 ρ0 ρ1 lo1 H1 σw e ix D0 H ρ2 lo2 m2 accs acc) (h : wipeE e own = some e') : Dk2 K av H0 ρ0 ρ1 lo1 H1 (L2.wipe σw own) e' ix D0 H ρ2 lo2 m2 accs acc :=
  ⟨⟨I.at'.st.wipe h, by rw [wipeE_len h]; exact I.at'.hl, I.at'.far⟩, I.hix, I.hlo, I.kp, I.ex, I.hD, I.rel⟩
theorem Dk2.fin {env : MP.Env} {σ1 : L2.St} {e : MP.Env} {σw : L2.St} {ix : Nat} {D0 : Addr} {accs : List (Key × D)} {acc : List (Key × V)} (a1 : At K av H0 ρ0 ρ1 lo1 σ1 H1 env m1) (hix1 : env.length < ix) (hix2 : lo1 ix = none) (hD : H1 D0 = none) (I : Dk2 K av H0 ρ0 ρ1 lo1 H1 σw e ix D0 H ρ2 lo2 m2 accs acc) :
    ∃ lo', Step K av H0 ρ0 σ1 env ρ1 lo1 H1 ρ2 lo' H m2 ∧ VOk K H (aA av ρ2 lo') av ρ2 lo' env.length (.dK accs, .fr) (.ref D0) := by
  have lat := I.later hix2 hD
  have hN : lo2 env.length = none := by rw [I.hlo _ (by omega)]; exact a1.hl
  have b := a1.st.back I.at'.st (fun j d h => I.hlo j (fun z => by have := (List.getElem?_eq_some_iff.mp h).1; omega)) (fun j hj h => (I.hlo j (by omega)).trans h) lat.ha I.kp I.ex
  have b2 := b.move (i := ix) (j := env.length) (by omega) (Nat.le_refl _) I.hix hN
  have hA : ∀ a, aA av ρ2 (loS (loC lo2 ix) env.length D0) a → aA av ρ2 lo2 a ∨ H a = none := fun a z => by
    rcases aA_loS z with z | z
    · exact .inl (aA_loC z)
    · subst z; exact .inl (.inr (.inr ⟨ix, I.hix⟩))
  refine ⟨_, ⟨b2, fun j hj => ?_, fun p hp => ?_, I.kp, I.ex⟩, ⟨D0, rfl, loS_same, acc, I.hD, I.rel.mono Stays.refl hA (fun n c e => ⟨c, e, rfl⟩)⟩⟩
  · rw [loS_ne hj]
    by_cases z : j = ix
    · subst z; rw [loC_same, hix2]
    · rw [loC_ne z]; exact I.hlo j z
  · rw [loS_same] at hp; cases hp; exact hD
theorem Dk2.start {σw : L2.St} {e env : MP.Env} {D0 : Addr} {kf : Nat} (hkf : ∀ j, kf ≤ j → lo1 j = none) (base : Stt K av H0 ρ0 ρ1 lo1 σw H1 e m1) (l1 : lo1 e.length = none) (hD : H1 D0 = none) {ix : Nat} (hix1 : e.length < ix) (hix2 : lo1 ix = none) : Dk2 K av H0 ρ0 ρ1 lo1 H1 σw e ix D0 (upd H1 D0 (.dK [])) ρ1 (loS lo1 ix D0) m1 [] [] := by
  have g0 : ∀ a o, H1 a = some o → upd H1 D0 (.dK []) a = some o := kept_upd hD
  refine ⟨⟨base.freshAt (by omega) hix2 hD g0 (by rw [upd_same]; exact fun z => nomatch z) fun zs z => (by rw [upd_same] at z; cases z), ?_, max kf (ix + 1), fun j hj => ?_⟩, loS_same, fun j hj => loS_ne hj, ⟨fun a o h _ => g0 a o h, dom_of g0⟩, Ext.refl, upd_same, rfl⟩
  · rw [loS_ne (by omega)]; exact l1
  · rw [loS_ne (by omega)]; exact hkf j (by omega)
end
section
variable {X : Cx} {F : CallF} {kx vx tg iter : Expr} {ifs : List Expr} {scope : Scope} {own : List Nat} {ownP : List (Str × Nat)} {pos : Pos} {t : T} {k : ItK} {its eifs : List E} {ekx eelt : E}
theorem dc_reads (K : PySem.W.Frag) (F : CallF) {σ : L2.St} {H : Hp} {Q : VK} (h : tE K F (.dc ekx eelt own t k its eifs) σ H Q) : tDc (tI K F k its) (tG K t) (tTs K F eifs) (tE K F ekx) (tE K F eelt) own σ H Q := by
  obtain ⟨av, H0, ρ0, ρ, lo, env, m, x, m', a, he, q⟩ := h
  simp only [evalE] at he
  split at he
  · cases he
  rename_i hto
  simp only [Bool.not_eq_false, List.all_eq_true] at hto
  have ht : ∀ i ∈ tslots t, i ∈ own := fun i hi => by simpa using hto i hi
  obtain ⟨ds, m1, h1, he⟩ := bind_ok he
  cases hi : itD k (ds.map (·.1)) with
  | none => rw [hi] at he; cases he
  | some xs =>
    cases hw : wipeE env own with
    | none => rw [hi, hw] at he; cases he
    | some e =>
      rw [hi, hw] at he
      obtain ⟨rs, mE, run, he⟩ := bind_ok he
      cases he
      refine ⟨av, H0, ρ0, ρ, lo, env, m, ds, m1, xs, a, h1, hi, fun J vs H1 ρ1 lo1 s1 l1 p1 wk D0 hD => ?_⟩
      have a1 := s1.at l1 a
      have pk := wk_all p1
      have elen := wipeE_len hw
      obtain ⟨kf, hkf⟩ := a1.far
      obtain ⟨ix, hix1, hix2⟩ : ∃ ix, env.length < ix ∧ lo1 ix = none := ⟨max kf (env.length + 1), by omega, hkf _ (by omega)⟩
      have base := a1.st.wipe hw
      refine ⟨fun i n H => n = xs.length - i ∧ i ≤ xs.length ∧ ∃ ρ2 lo2 m2 accs acc, Dk2 K av H0 ρ0 ρ1 lo1 H1 (L2.wipe σ own) e ix D0 H ρ2 lo2 m2 accs acc ∧ dcLoop t (fun e' m' => evalT F eifs e' m') (fun e' m' => (evalE F ekx e' m').bind fun x m'' => .ok x.1 m'') (fun e' m' => (evalE F eelt e' m').bind fun x m'' => if owns x.2 then .ok x.1 m'' else .bad) e (xs.drop i) accs m2 = .ok rs m',
        ⟨xs.length, rfl, Nat.zero_le _, ρ1, loS lo1 ix D0, m1, [], [], Dk2.start (env := env) hkf base (by rw [elen]; exact l1) hD (by omega) hix2, run⟩, ?_⟩
      rintro i n H2 ⟨rfl, hle, ρ2, lo2, m2, accs, acc, I, run2⟩
      have lat := I.later hix2 hD
      have wks := wk H2 _ ρ2 (lat.pks a1.st pk)
      cases hx : xs[i]? with
      | none =>
        have hi' : xs.length ≤ i := List.getElem?_eq_none_iff.mp hx
        refine .inl ⟨wks.1 i hi', ?_⟩
        rw [List.drop_eq_nil_of_le hi'] at run2
        simp only [dcLoop] at run2
        cases run2
        obtain ⟨lo', s2, v2⟩ := I.fin a1 hix1 hix2 hD
        exact q _ H2 ρ2 lo' (s1.trans s2) v2
      | some d =>
        have hi' : i < xs.length := (List.getElem?_eq_some_iff.mp hx).1
        obtain ⟨go, yld⟩ := wks.2 i d hx
        rw [List.drop_eq_getElem_cons hi', (List.getElem?_eq_some_iff.mp hx).2] at run2
        simp only [dcLoop] at run2
        cases hb : bindT t d e with
        | none => rw [hb] at run2; cases run2
        | some e1 =>
          rw [hb] at run2
          obtain ⟨b, m3, hif, run3⟩ := bind_ok run2
          refine .inr ⟨go, fun H' => i + 1 ≤ xs.length ∧ ∃ ρ2 lo2 m2 accs acc, Dk2 K av H0 ρ0 ρ1 lo1 H1 (L2.wipe σ own) e ix D0 H' ρ2 lo2 m2 accs acc ∧ dcLoop t (fun e' m' => evalT F eifs e' m') (fun e' m' => (evalE F ekx e' m').bind fun x m'' => .ok x.1 m'') (fun e' m' => (evalE F eelt e' m').bind fun x m'' => if owns x.2 then .ok x.1 m'' else .bad) e (xs.drop (i + 1)) accs m2 = .ok rs m', fun H' w => ⟨xs.length - (i + 1), by omega, rfl, w⟩, fun x H5 y => ?_⟩
          obtain ⟨kpy, rx⟩ := yld x H5 y
          have I5 := I.grow kpy
          refine ⟨av, H0, ρ0, ρ2, lo2, e, m2, d, e1, I5.at', rx, hb, fun σ' lo3 at6 hl3 ho3 hn3 sm => ?_⟩
          have wst := wipe_same sm ht
          obtain ⟨rfl, I6⟩ := I5.bind (fun j hj => ((wipeE_spec hw).1 j (ht j hj)).1) at6 ho3 hn3
          refine ⟨wst, av, H0, ρ0, ρ2, lo3, e1, m2, b, m3, at6, hif, fun H6 ρ6 lo6 s6 l6 => ?_⟩
          have e1len : e1.length = env.length := hl3.trans elen
          obtain ⟨rfl, I7⟩ := I6.step (by omega) s6 l6
          have wb := wipe_bind hw hb ht
          cases b with
          | false =>
            simp only [Bool.false_eq_true, if_false] at run3 ⊢
            have w := I7.wipe wb
            rw [wst] at w
            exact ⟨hi', ρ6, lo6, m3, accs, acc, w, run3⟩
          | true =>
            simp only [if_true] at run3 ⊢
            obtain ⟨kd, m4, hkl, run4⟩ := bind_ok run3
            obtain ⟨kv, m5, hkv, hkl⟩ := bind_ok hkl
            cases hkl
            obtain ⟨dv, m6, hel, run5⟩ := bind_ok run4
            obtain ⟨xv, m7, hev, hel⟩ := bind_ok hel
            split at hel
            case isFalse => cases hel
            case isTrue how =>
            cases hel
            cases hks : asKey kv.1 with
            | none => rw [hks] at run5; cases run5
            | some kk =>
              rw [hks] at run5
              simp only at run5
              split at run5
              case isFalse => cases run5
              case isTrue hz =>
              refine run_pk I7.at' hkv fun v0 H11 ρ11 lo11 s11 at11 rv0 => ?_
              obtain ⟨rfl, I8⟩ := I7.step (by omega) s11 at11.hl
              have ev0 : v0 = kV kk := keyD_lk (by rw [← asKey_ok hks]; exact rv0.lk)
              refine run_sh I8.at' hev how fun v H12 ρ12 lo12 s12 at12 rv => ?_
              obtain ⟨rfl, I9⟩ := I8.step (by omega) s12 at12.hl
              have w := (I9.push (k := kk) hD (by omega) rv).wipe wb
              rw [wst] at w
              exact ⟨acc, kk, ev0, I9.hD, by rw [← I9.rel.g.length, szline]; exact hz, hi', ρ12, lo12, _, putD accs kk xv.1, putK acc kk v, w, run5⟩
end
end MP
namespace L2
open PySem PySem.Spec PyProof.Rows
theorem ps_setDc1 {X : Cx} {i : Nat} {y : Str} {py : Pos} {kx vx tg iter : Expr} {ifs : List Expr} {scope : Scope} {own : List (Str × Nat)} {pos spos : Pos} {wi : TI} {g : TG} {tt : TT} {tk te : TE} (hc : X.calm = true) (hN : X.N.Nodup) (hy : X.N[i]? = some y) (hyl : X.env.scope.names.lookup y = some .local)
    (hsw : swapsWith (.DictComp kx vx [⟨tg, iter, ifs, 0⟩] scope pos) (some (.Name y py)) spos.line X.env = pure true) (hi : PI X tg iter wi) (ok : BlkOk X.N X.env.scope scope own)
    (hg : ∀ (s : Shared) (H : Hp) (C : Addr) (cl : List (Str × Addr)) (gp : List Addr), PG (X.blk s H scope (compEnvC scope cl C X.env) gp) tg g) (ht : ∀ (s : Shared) (H : Hp) (C : Addr) (cl : List (Str × Addr)) (gp : List Addr), PTs (X.blk s H scope (compEnvC scope cl C X.env) gp) ifs tt)
    (hk : ∀ (s : Shared) (H : Hp) (C : Addr) (cl : List (Str × Addr)) (gp : List Addr), PE (X.blk s H scope (compEnvC scope cl C X.env) gp) kx tk) (he : ∀ (s : Shared) (H : Hp) (C : Addr) (cl : List (Str × Addr)) (gp : List Addr), PE (X.blk s H scope (compEnvC scope cl C X.env) gp) vx te) (hs : ∀ x, foldedSetIterable iter X.env x = pure x) :
    PS X (.Assign [.Name y py] (.DictComp kx vx [⟨tg, iter, ifs, 0⟩] scope pos) spos) (tAsg (tDc wi g tt tk te (own.map (·.2))) (gName i)) := by
  refine ⟨fun pns sh σ H D I hh => ?_⟩
  rw [exec_Assign_Name_used _ _ _ _ hsw]
  refine wpAny_bind (wpAny_standAt (wpAny_bind ?_))
  show wpAny _ X.A (do let _ ← comprehension (.DictComp kx vx [⟨tg, iter, ifs, 0⟩] scope pos) scope X.env (firstIterPos [⟨tg, iter, ifs, 0⟩] pos) newDict false (eval iter X.env) (some (assign (.Name y py) X.env))) _ _ sh
  have hh : tDc wi g tt tk te (own.map (·.2)) σ H (fun x H1 => gName i x σ H1 D.nx) := hh
  refine wpAny_bind (thn (dc_core (Qf := fun _ sz => SP X pns D .next sz) hc hN I hi ok hg ht hk he hs hh fun L C sz mz Hz Iz q hn f => ?_) fun _ sz hq => wpAny_pure (wpAny_pure hq))
  show wpAny _ _ (assign (.Name y py) X.env (.ref L)) _ _ _
  refine wpAny_assign_Name (store_ok2 (v := V.ref L) Iz hN hy (.inl hyl) rfl (fun s9 I9 ⟨a, sb, ha⟩ => ?_) (.inr hyl))
  obtain ⟨f0, f1, f2, f3, f4, f5⟩ := f
  have cNe : C ≠ a := by
    rcases ha with z | z
    · rw [z]; exact f1
    · exact fun e => f4 y a z e.symm
  refine ⟨mz, hn.sameBut sb cNe, fun h9 sb9 => ?_⟩
  exact ⟨_, Hz, I9.turned (t' := s9.toks) (fun b o hb e => (sb9.2 b hb).trans e) f0 f1 f3 f4 f5, q⟩
theorem ps_setDc2 {X : Cx} {i : Nat} {y : Str} {py : Pos} {kx vx tg iter tg1 iter1 : Expr} {ifs ifs1 : List Expr} {scope : Scope} {own : List (Str × Nat)} {vs1 : List Nat} {pos spos : Pos} {wi wi1 : TI} {g g1 : TG} {tt tt1 : TT} {tk te : TE} (hc : X.calm = true) (hN : X.N.Nodup) (hu : X.A.units + 1 < cLine) (hy : X.N[i]? = some y) (hyl : X.env.scope.names.lookup y = some .local)
    (hsw : swapsWith (.DictComp kx vx [⟨tg, iter, ifs, 0⟩, ⟨tg1, iter1, ifs1, 0⟩] scope pos) (some (.Name y py)) spos.line X.env = pure true) (hi : PI X tg iter wi) (ok : BlkOk X.N X.env.scope scope own) (hv : ∀ i ∈ vs1, i ∈ own.map (·.2))
    (hg : ∀ (s : Shared) (H : Hp) (C : Addr) (cl : List (Str × Addr)) (gp : List Addr), PG (X.blk s H scope (compEnvC scope cl C X.env) gp) tg g) (ht : ∀ (s : Shared) (H : Hp) (C : Addr) (cl : List (Str × Addr)) (gp : List Addr), PTs (X.blk s H scope (compEnvC scope cl C X.env) gp) ifs tt)
    (hi1 : ∀ (s : Shared) (H : Hp) (C : Addr) (cl : List (Str × Addr)) (gp : List Addr), PI (X.blk s H scope (compEnvC scope cl C X.env) gp) tg1 iter1 wi1) (hg1 : ∀ (s : Shared) (H : Hp) (C : Addr) (cl : List (Str × Addr)) (gp : List Addr), PG (X.blk s H scope (compEnvC scope cl C X.env) gp) tg1 g1) (ht1 : ∀ (s : Shared) (H : Hp) (C : Addr) (cl : List (Str × Addr)) (gp : List Addr), PTs (X.blk s H scope (compEnvC scope cl C X.env) gp) ifs1 tt1)
    (hk : ∀ (s : Shared) (H : Hp) (C : Addr) (cl : List (Str × Addr)) (gp : List Addr), PE (X.blk s H scope (compEnvC scope cl C X.env) gp) kx tk) (he : ∀ (s : Shared) (H : Hp) (C : Addr) (cl : List (Str × Addr)) (gp : List Addr), PE (X.blk s H scope (compEnvC scope cl C X.env) gp) vx te) (hs : ∀ x, foldedSetIterable iter X.env x = pure x) (hs1 : ∀ env x, foldedSetIterable iter1 env x = pure x) :
    PS X (.Assign [.Name y py] (.DictComp kx vx [⟨tg, iter, ifs, 0⟩, ⟨tg1, iter1, ifs1, 0⟩] scope pos) spos) (tAsg (tDc2 wi g tt wi1 g1 tt1 tk te (own.map (·.2)) vs1) (gName i)) := by
  refine ⟨fun pns sh σ H D I hh => ?_⟩
  rw [exec_Assign_Name_used _ _ _ _ hsw]
  refine wpAny_bind (wpAny_standAt (wpAny_bind ?_))
  show wpAny _ X.A (do let _ ← comprehension (.DictComp kx vx [⟨tg, iter, ifs, 0⟩, ⟨tg1, iter1, ifs1, 0⟩] scope pos) scope X.env (firstIterPos [⟨tg, iter, ifs, 0⟩, ⟨tg1, iter1, ifs1, 0⟩] pos) newDict false (eval iter X.env) (some (assign (.Name y py) X.env))) _ _ sh
  have hh : tDc2 wi g tt wi1 g1 tt1 tk te (own.map (·.2)) vs1 σ H (fun x H1 => gName i x σ H1 D.nx) := hh
  refine wpAny_bind (thn (dc2_core (Qf := fun _ sz => SP X pns D .next sz) hc hN hu I hi ok hv hg ht hk he hs hi1 hg1 ht1 hs1 hh fun L C sz mz Hz Iz q hn f => ?_) fun _ sz hq => wpAny_pure (wpAny_pure hq))
  show wpAny _ _ (assign (.Name y py) X.env (.ref L)) _ _ _
  refine wpAny_assign_Name (store_ok2 (v := V.ref L) Iz hN hy (.inl hyl) rfl (fun s9 I9 ⟨a, sb, ha⟩ => ?_) (.inr hyl))
  obtain ⟨f0, f1, f2, f3, f4, f5⟩ := f
  have cNe : C ≠ a := by
    rcases ha with z | z
    · rw [z]; exact f1
    · exact fun e => f4 y a z e.symm
  refine ⟨mz, hn.sameBut sb cNe, fun h9 sb9 => ?_⟩
  exact ⟨_, Hz, I9.turned (t' := s9.toks) (fun b o hb e => (sb9.2 b hb).trans e) f0 f1 f3 f4 f5, q⟩
end L2
namespace MP
open PySem PySem.Spec L2
theorem st_asgLc2 {X : Cx} {F : CallF} {W : Nat} {i : Nat} {y : Str} {py : Pos} {kx vx tg iter tg1 iter1 : Expr} {ifs ifs1 : List Expr} {scope : Scope} {own : List (Str × Nat)} {vs1 : List Nat} {pos spos : Pos} {t t1 : T} {k k1 : ItK} {its its1 eifs eifs1 : List E} {ekx eelt : E} (hc : X.calm = true) (hN : X.N.Nodup) (hy : X.N[i]? = some y) (hyl : X.env.scope.names.lookup y = some .local)
    (hsw : swapsWith (.ListComp vx [⟨tg, iter, ifs, 0⟩, ⟨tg1, iter1, ifs1, 0⟩] scope pos) (some (.Name y py)) spos.line X.env = pure true) (hi : PI X tg iter (tI X.K F k its)) (ok : BlkOk X.N X.env.scope scope own) (hv : ∀ i ∈ vs1, i ∈ own.map (·.2))
    (hg : ∀ (s : Shared) (H : Hp) (C : Addr) (cl : List (Str × Addr)) (gp : List Addr), PG (X.blk s H scope (compEnvC scope cl C X.env) gp) tg (tG X.K t)) (ht : ∀ (s : Shared) (H : Hp) (C : Addr) (cl : List (Str × Addr)) (gp : List Addr), PTs (X.blk s H scope (compEnvC scope cl C X.env) gp) ifs (tTs X.K F eifs))
    (hi1 : ∀ (s : Shared) (H : Hp) (C : Addr) (cl : List (Str × Addr)) (gp : List Addr), PI (X.blk s H scope (compEnvC scope cl C X.env) gp) tg1 iter1 (tI X.K F k1 its1)) (hg1 : ∀ (s : Shared) (H : Hp) (C : Addr) (cl : List (Str × Addr)) (gp : List Addr), PG (X.blk s H scope (compEnvC scope cl C X.env) gp) tg1 (tG X.K t1)) (ht1 : ∀ (s : Shared) (H : Hp) (C : Addr) (cl : List (Str × Addr)) (gp : List Addr), PTs (X.blk s H scope (compEnvC scope cl C X.env) gp) ifs1 (tTs X.K F eifs1))
     (he : ∀ (s : Shared) (H : Hp) (C : Addr) (cl : List (Str × Addr)) (gp : List Addr), PE (X.blk s H scope (compEnvC scope cl C X.env) gp) vx (tE X.K F eelt)) (hs : ∀ x, foldedSetIterable iter X.env x = pure x) (hs1 : ∀ env x, foldedSetIterable iter1 env x = pure x) :
    PS X (.Assign [.Name y py] (.ListComp vx [⟨tg, iter, ifs, 0⟩, ⟨tg1, iter1, ifs1, 0⟩] scope pos) spos) (tS X.K F W (.asg (.nm i) (.lc2 eelt (own.map (·.2)) t k its eifs vs1 t1 k1 its1 eifs1))) :=
  PS.imp (ps_setLc2 hc hN hy hyl hsw hi ok hv hg ht hi1 hg1 ht1 he hs hs1) fun E σ H h => lc2_reads X.K F (asg_reads h)
theorem st_asgDc {X : Cx} {F : CallF} {W : Nat} {i : Nat} {y : Str} {py : Pos} {kx vx tg iter tg1 iter1 : Expr} {ifs ifs1 : List Expr} {scope : Scope} {own : List (Str × Nat)} {vs1 : List Nat} {pos spos : Pos} {t t1 : T} {k k1 : ItK} {its its1 eifs eifs1 : List E} {ekx eelt : E} (hc : X.calm = true) (hN : X.N.Nodup) (hy : X.N[i]? = some y) (hyl : X.env.scope.names.lookup y = some .local)
    (hsw : swapsWith (.DictComp kx vx [⟨tg, iter, ifs, 0⟩] scope pos) (some (.Name y py)) spos.line X.env = pure true) (hi : PI X tg iter (tI X.K F k its)) (ok : BlkOk X.N X.env.scope scope own)
    (hg : ∀ (s : Shared) (H : Hp) (C : Addr) (cl : List (Str × Addr)) (gp : List Addr), PG (X.blk s H scope (compEnvC scope cl C X.env) gp) tg (tG X.K t)) (ht : ∀ (s : Shared) (H : Hp) (C : Addr) (cl : List (Str × Addr)) (gp : List Addr), PTs (X.blk s H scope (compEnvC scope cl C X.env) gp) ifs (tTs X.K F eifs))
    (hk : ∀ (s : Shared) (H : Hp) (C : Addr) (cl : List (Str × Addr)) (gp : List Addr), PE (X.blk s H scope (compEnvC scope cl C X.env) gp) kx (tE X.K F ekx)) (he : ∀ (s : Shared) (H : Hp) (C : Addr) (cl : List (Str × Addr)) (gp : List Addr), PE (X.blk s H scope (compEnvC scope cl C X.env) gp) vx (tE X.K F eelt)) (hs : ∀ x, foldedSetIterable iter X.env x = pure x) :
    PS X (.Assign [.Name y py] (.DictComp kx vx [⟨tg, iter, ifs, 0⟩] scope pos) spos) (tS X.K F W (.asg (.nm i) (.dc ekx eelt (own.map (·.2)) t k its eifs))) :=
  PS.imp (ps_setDc1 hc hN hy hyl hsw hi ok hg ht hk he hs) fun E σ H h => dc_reads X.K F (asg_reads h)
theorem st_asgDc2 {X : Cx} {F : CallF} {W : Nat} {i : Nat} {y : Str} {py : Pos} {kx vx tg iter tg1 iter1 : Expr} {ifs ifs1 : List Expr} {scope : Scope} {own : List (Str × Nat)} {vs1 : List Nat} {pos spos : Pos} {t t1 : T} {k k1 : ItK} {its its1 eifs eifs1 : List E} {ekx eelt : E} (hc : X.calm = true) (hN : X.N.Nodup) (hu : X.A.units + 1 < cLine) (hy : X.N[i]? = some y) (hyl : X.env.scope.names.lookup y = some .local)
    (hsw : swapsWith (.DictComp kx vx [⟨tg, iter, ifs, 0⟩, ⟨tg1, iter1, ifs1, 0⟩] scope pos) (some (.Name y py)) spos.line X.env = pure true) (hi : PI X tg iter (tI X.K F k its)) (ok : BlkOk X.N X.env.scope scope own) (hv : ∀ i ∈ vs1, i ∈ own.map (·.2))
    (hg : ∀ (s : Shared) (H : Hp) (C : Addr) (cl : List (Str × Addr)) (gp : List Addr), PG (X.blk s H scope (compEnvC scope cl C X.env) gp) tg (tG X.K t)) (ht : ∀ (s : Shared) (H : Hp) (C : Addr) (cl : List (Str × Addr)) (gp : List Addr), PTs (X.blk s H scope (compEnvC scope cl C X.env) gp) ifs (tTs X.K F eifs))
    (hi1 : ∀ (s : Shared) (H : Hp) (C : Addr) (cl : List (Str × Addr)) (gp : List Addr), PI (X.blk s H scope (compEnvC scope cl C X.env) gp) tg1 iter1 (tI X.K F k1 its1)) (hg1 : ∀ (s : Shared) (H : Hp) (C : Addr) (cl : List (Str × Addr)) (gp : List Addr), PG (X.blk s H scope (compEnvC scope cl C X.env) gp) tg1 (tG X.K t1)) (ht1 : ∀ (s : Shared) (H : Hp) (C : Addr) (cl : List (Str × Addr)) (gp : List Addr), PTs (X.blk s H scope (compEnvC scope cl C X.env) gp) ifs1 (tTs X.K F eifs1))
    (hk : ∀ (s : Shared) (H : Hp) (C : Addr) (cl : List (Str × Addr)) (gp : List Addr), PE (X.blk s H scope (compEnvC scope cl C X.env) gp) kx (tE X.K F ekx)) (he : ∀ (s : Shared) (H : Hp) (C : Addr) (cl : List (Str × Addr)) (gp : List Addr), PE (X.blk s H scope (compEnvC scope cl C X.env) gp) vx (tE X.K F eelt)) (hs : ∀ x, foldedSetIterable iter X.env x = pure x) (hs1 : ∀ env x, foldedSetIterable iter1 env x = pure x) :
    PS X (.Assign [.Name y py] (.DictComp kx vx [⟨tg, iter, ifs, 0⟩, ⟨tg1, iter1, ifs1, 0⟩] scope pos) spos) (tS X.K F W (.asg (.nm i) (.dc2 ekx eelt (own.map (·.2)) t k its eifs vs1 t1 k1 its1 eifs1))) :=
  PS.imp (ps_setDc2 hc hN hu hy hyl hsw hi ok hv hg ht hi1 hg1 ht1 hk he hs hs1) fun E σ H h => dc2_reads X.K F (asg_reads h)
end MP
namespace MP
open PySem PySem.Spec PyProof.Rows L2
structure PayOk (K : PySem.W.Frag) (H : Hp) (A : Addr → Prop) (ρ : List CA) (C : Str) (vs : List D) (cls : Value) (d : Option Addr) : Prop where
  ne : xfl C ≠ []
  len : vs.length = (xfl C).length
  ex : ∃ (Ca dx : Addr) (fs : List (Str × V)) (ws : List V), PySem.W.nsIn K mainGlobals C = some (some (.ref Ca)) ∧ cls = .ref Ca ∧ d = some dx ∧ ¬ A dx ∧ H dx = some (.xd fs) ∧ RelDs K H A ρ vs ws ∧ ∀ (k : Nat) (f : Str) (w : V), (xfl C)[k]? = some f → ws[k]? = some w → fs.lookup f = some w
section
variable {K : PySem.W.Frag} {F : CallF} {W : Nat} {av : Addr → Prop} {H0 H H1 H2 H' : Hp} {ρ0 ρ ρ1 ρ2 ρ' : List CA} {σ : L2.St} {env : Env} {lo lo1 lo2 lo' : Lo} {m m1 m2 m' : MH} {A A' : Addr → Prop} {C : Str} {vs : List D} {cls : Value} {d : Option Addr}
theorem PayOk.mono (p : PayOk K H A ρ C vs cls d) (st : Stays A H H') (hA : ∀ a, A' a → A a ∨ H a = none) (he : ∀ (n : Nat) (c : CA), ρ[n]? = some c → ∃ c', ρ'[n]? = some c' ∧ c'.a = c.a) : PayOk K H' A' ρ' C vs cls d := by
  obtain ⟨Ca, dx, fs, ws, h1, h2, h3, h4, h5, h6, h7⟩ := p.ex
  refine ⟨p.ne, p.len, Ca, dx, fs, ws, h1, h2, h3, fun z => ?_, st.rest dx _ h4 h5, h6.mono st hA he, h7⟩
  rcases hA dx z with z | z
  · exact h4 z
  · rw [h5] at z; cases z
structure RetX (K : PySem.W.Frag) (av : Addr → Prop) (H0 : Hp) (ρ0 : List CA) (C : Str) (vs : List D) (m' : MH) (cls : Value) (d : Option Addr) (H' : Hp) (ρ' : List CA) : Prop where
  fnd : (foot ρ').Nodup
  fav : ∀ p ∈ foot ρ', ¬ av p ∧ (∀ xs, H' p ≠ some (.tup xs)) ∧ H' p ≠ none
  ml : m'.length = ρ'.length
  ext : Ext H0 ρ0 ρ'
  keep : Keeps H0 H' ρ0
  cells : ∀ (n : Nat) (c : CA) (x : Cell), ρ'[n]? = some c → m'[n]? = some x → CellOk K H' (aR av ρ' none) ρ' c x
  pay : PayOk K H' (aR av ρ' none) ρ' C vs cls d
theorem ret_x (s : Stt K av H0 ρ0 ρ lo σ H env m) (p : PayOk K H (aA av ρ lo) ρ C vs cls d) : RetX K av H0 ρ0 C vs m cls d H ρ :=
  ⟨s.fnd, s.fav, s.ml, s.ext, s.keep, fun n c x e1 e2 => (s.cells n c x e1 e2).mono Stays.refl (aR_sub (by intro p z; cases z)) (fun n c e => ⟨c, e, rfl⟩) fun o q => q, p.mono Stays.refl (aR_sub (by intro p z; cases z)) fun n c e => ⟨c, e, rfl⟩⟩
theorem call_backX (a : At K av H0 ρ0 ρ lo σ H env m) (r : RetX K (fun x => av x ∨ ∃ i, lo i = some x) H ρ C vs m' cls d H' ρ') :
    Step K av H0 ρ0 σ env ρ lo H ρ' lo H' m' ∧ PayOk K H' (aA av ρ' lo) ρ' C vs cls d := by
  have st := a.st.stays r.keep
  have sub1 : ∀ x, aA av ρ' lo x → aR (fun x => av x ∨ ∃ i, lo i = some x) ρ' none x := fun x z => by
    rcases z with z | z | ⟨i, z⟩
    · exact .inl (.inl z)
    · exact .inr (.inl z)
    · exact .inl (.inr ⟨i, z⟩)
  have he : ∀ (n : Nat) (c : CA), ρ'[n]? = some c → ∃ c', ρ'[n]? = some c' ∧ c'.a = c.a := fun n c e => ⟨c, e, rfl⟩
  have hA : ∀ x, aA av ρ' lo x → aA av ρ lo x ∨ H x = none := fun x z => by
    rcases z with z | z | ⟨i, z⟩
    · exact .inl (.inl z)
    · exact (r.ext.new x z).imp (fun z => .inr (.inl z)) id
    · exact .inl (.inr (.inr ⟨i, z⟩))
  refine ⟨⟨⟨a.st.len, fun i s e => ?_, a.st.inj, fun i p e => ?_, r.fnd, fun p hp => ?_, a.st.avd, r.ml, fun n c x e1 e2 => (r.cells n c x e1 e2).mono Stays.refl (fun x z => .inl (sub1 x z)) he fun o q => q, a.st.ext.trans (fun p o h n => a.st.keep.keep p o h n) a.st.keep.dom r.ext, a.st.keep.trans a.st.ext r.keep⟩, fun _ _ => rfl, fun p e => (by rw [a.hl] at e; cases e), r.keep, r.ext⟩, r.pay.mono Stays.refl (fun x z => .inl (sub1 x z)) he⟩
  · refine (a.st.slot i s e).mono st hA r.ext.same (fun p o' hp eo => r.keep.keep p o' eo fun z => ?_) rfl
    rcases hp with hp | hp
    · exact (a.st.loF i p hp).2.1 z
    · exact (a.st.fav p z).1 hp
  · obtain ⟨f1, f2, f3, f4, f5⟩ := a.st.loF i p e
    cases q : H p with
    | none => exact absurd q f4
    | some o' =>
      have k := r.keep.keep p o' q f2
      refine ⟨f1, fun z => ?_, f3, (fun z => by rw [k] at z; cases z), fun xs z => by rw [k] at z; cases z; exact f5 xs q⟩
      rcases r.ext.new p z with z | z
      · exact f2 z
      · exact f4 z
  · obtain ⟨g1, g2, g3⟩ := r.fav p hp
    exact ⟨fun z => g1 (.inl z), g2, g3⟩
end
structure FnX (P : Program) (w : World) (K : PySem.W.Frag) (mg : Str → Option Value) (base : Heap) (k : Nat) (f : Addr) (fd : FuncData) (ps : List Str) (sp : Sp) : Prop where
  len : ∀ vs H Q E, sp vs H Q E → vs.length = ps.length
  run : ∀ (A : Around) (outer : List PySem.Env) (s : Shared) (H : Hp) (args : Args) (us : List Value) (vs : List V) (Q : VK) (E : XK), Room k A → A.guards = some [] → Env0 P w K mg base A outer s H → BindsTo s fd args (ps.zip us) → Vals vs us → sp vs H Q E →
    codeAny (model P w) A (.call (.ref f) args) (CR (L2.CX P w) outer P w H s Q E) s
def spX (K : PySem.W.Frag) (F : CallF) (f : Nat) : Sp := fun vs H _ E => ∃ av ρ as m d fr C ds m', Pre K av ρ H m ∧ Paired (ArgR K H (aR av ρ none) ρ) as vs ∧ F f as m = .ok (d, fr) m' ∧ payD d = some (C, ds) ∧ ∀ cls dd H' ρ', RetX K av H ρ C ds m' cls dd H' ρ' → E cls dd H'
section
variable {P : Program} {w : World} {K : PySem.W.Frag} {mg : Str → Option Value} {base : Heap}
theorem fnX_of {x qual : Str} {st : Stmt} {f : Addr} {fd : FuncData} {N ps : List Str} {k : Nat} {sp : Sp} (F : L2.Fun K x qual st f fd) (S : FnScope N ps (defScope st)) (len : ∀ vs H Q E, sp vs H Q E → vs.length = ps.length)
    (hbody : ∀ (cdv : Value) (A : Around) (outer : List PySem.Env) (s : Shared) (H : Hp) (vs : List V) (Q : VK) (E : XK), Room k (A.deeper (envOfC qual (defScope st) s.heap.objs.size f cdv)) → A.guards = some [] → sp vs H Q E →
      ∃ t, PSs (cxOf (L2.CX P w) P w K mg base N qual (defScope st) f cdv A outer s H E) (defBody st) t ∧ t { nx := fun _ H' => Q .non H', rt := Q } (L2.start N vs) H) : FnX P w K mg base (k + 1) f fd ps sp := by
  obtain ⟨oc, od, kV, doc, pm, an, cdv, ct, osl, rfl, lk, hcd⟩ := F.ex
  refine ⟨len, fun A outer s H args us vs Q E hr hG e0 hb r hsp => ?_⟩
  have hl := len _ _ _ _ hsp
  have KX : K.In s.heap := e0.mod.kin.keeps fun b o e => (e0.bs b o e).1
  have lim : s.heap.NoLimit := e0.mod.nolimit.keeps fun b o e => (e0.bs b o e).1
  have hkind : ∀ y ∈ ps.zip us, (defScope st).names.lookup y.1 = some .local ∨ ((defScope st).names.lookup y.1 = some .cell ∧ ((cellsFrom (s.heap.objs.size + 1) (defScope st).names []).lookup y.1).isSome = true) := fun ⟨n, v⟩ hy =>
    (S.par n (List.of_mem_zip hy).1).imp id fun q => ⟨q, PySem.W.cellsFrom_some _ _ _ (.inl q)⟩
  refine codeAny_call_function hr.depth (KX _ _ lk) rfl S.co S.gen rfl (PySem.W.codeRec_of KX hcd) (hb _ _ _ _ ?_)
  refine wpAny_newFunctionEnv_cells S.kind hkind fun env he s1 x => ?_
  subst he
  refine ⟨lim.keeps x.toInCall.keep, codeAny_func ?_⟩
  obtain ⟨t, ht, hq⟩ := hbody cdv A outer s H vs Q E (hr.deeper _) hG hsp
  have I : Inv (cxOf (L2.CX P w) P w K mg base N qual (defScope st) f cdv A outer s H E) [] (L2.start N vs) H s1 := inv_start S hr.hd e0 hl r x
  refine wpAny_mono (ht.run [] s1 (L2.start N vs) H _ I hq) (fun fl s' hs => ?_) fun e s' hs => hs
  cases fl with
  | ret u => obtain ⟨v, σ', H', J, rv, q⟩ := hs; exact ⟨v, H', J.os, J.bare, J.base, J.hok, rv, q⟩
  | next => obtain ⟨σ', H', J, q⟩ := hs; exact ⟨.non, H', J.os, J.bare, J.base, J.hok, rfl, q⟩
  | brk => obtain ⟨_, _, _, q⟩ := hs; exact q.elim
  | cont => obtain ⟨_, _, _, q⟩ := hs; exact q.elim
end
section
variable {X : Cx} {k : Nat} {f : Addr} {fd : FuncData} {ps : List Str} {sp : Sp} {WW : WX}
theorem run_fnX {pins : List (Addr × Obj)} {σ : L2.St} {H : Hp} {s : Shared} {Q : VK} {us : List Value} {vs : List V} (F : FnX X.prog X.w X.K X.mg X.base k f fd ps sp) (hr : Room k X.A) (hG : X.A.guards = some []) (hb : Binds X.K fd ps []) (tk : Takes X WW)
    (I : Inv X pins σ H s) (r : Vals vs us) (h : sp vs H Q fun cls d H' => WW cls d σ H') : wpAny (model X.prog X.w) X.A (call (.ref f) us) (EP X pins σ Q) X.xe s := by
  have hl : (us ++ []).length = ps.length := by rw [List.append_nil, ← r.length]; exact F.len _ _ _ _ h
  have hb' := hb s us I.kIn hl
  rw [List.append_nil] at hb'
  refine wpAny_call (codeAny_mono (F.run X.A X.stack s H ⟨us, []⟩ us vs Q _ hr hG I.env0 hb' r h) fun r s' hq => ?_)
  cases r with
  | error e => exact tk e s' (XE.of_call I (fun _ _ _ h => h) hq)
  | ok fl =>
    cases fl with
    | ret u => exact I.after hq
    | next => exact False.elim hq
    | brk => exact False.elim hq
    | cont => exact False.elim hq
end
def tR (K : PySem.W.Frag) (F : CallF) (er : E) (WW : WX) : TE := fun σ H _ => ∃ av H0 ρ0 ρ lo env m x C vs m', At K av H0 ρ0 ρ lo σ H env m ∧ evalE F er env m = .ok x m' ∧ payD x.1 = some (C, vs) ∧
  ∀ cls d H' ρ' lo', Step K av H0 ρ0 σ env ρ lo H ρ' lo' H' m' → lo' env.length = none → PayOk K H' (aA av ρ' lo') ρ' C vs cls d → WW cls d σ H'
def PR (X : Cx) (F : CallF) (x : Expr) (er : E) : Prop := ∀ WW, Takes X WW → PE X x (tR X.K F er WW)
section
variable {X : Cx} {F : CallF} {k : Nat} {fa C : Addr} {fd : FuncData} {ps : List Str} {f : Nat} {x m y : Str} {p pos apos : Pos} {o e : Expr} {es : List Expr} {eo : E} {ees : List E} {WW : WX}
theorem callX_reads {K : PySem.W.Frag} {σ : L2.St} {H : Hp} {Q : VK} (h : tR K F (.call f ees) WW σ H Q) : tAs K F ees σ H (fun vs H1 => spX K F f vs H1 Q fun cls d H' => WW cls d σ H') := by
  obtain ⟨av, H0, ρ0, ρ, lo, env, m, x, C, vs, m', a, he, hp, q⟩ := h
  simp only [evalE] at he
  obtain ⟨as, m1, h1, he⟩ := bind_ok he
  obtain ⟨r, m2, h2, he⟩ := bind_ok he
  cases he
  refine ⟨av, H0, ρ0, ρ, lo, env, m, as, m1, a, h1, fun ws H1 ρ1 lo1 s1 l1 p1 => ?_⟩
  have a1 := s1.at l1 a
  refine ⟨_, ρ1, as, m1, r.1, r.2, C, vs, _, call_pre a1, call_args a1 p1, h2, hp, fun cls d H2 ρ2 rt => ?_⟩
  obtain ⟨s2, p2⟩ := call_backX a1 rt
  exact q cls d H2 ρ2 lo1 (s1.trans s2) l1 p2
theorem r_call (Fn : FnX X.prog X.w X.K X.mg X.base k fa fd ps (spX X.K F f)) (hr : Room k X.A) (hG : X.A.guards = some []) (hg : Gl X x) (hm : X.mg x = some (.ref fa)) (hk : PySem.W.keepIn X.K (.ref fa) = true) (hb : Binds X.K fd ps [])
    (hdb : (x == ("__debug__" : Str)) = false) (hn : ∀ z ∈ e :: es, NoStar z) (ha : PA X (e :: es) (tAs X.K F ees)) : PR X F (.Call (.Name x p) (e :: es) [] pos) (.call f ees) := fun WW tk => by
  refine ⟨fun pins s σ H Q I h => ?_⟩
  refine wpAny_Call_Name_kw (ld_glob I hg hm ?_ hdb)
  refine PySem.W.callWith_K (h₀ := X.base) I.ok.mod.kin hk (thn (ha.run pos pins s σ H _ I (callX_reads h)) fun us s1 ⟨vs, H1, I1, r, q⟩ => ⟨I1.kIn, ?_⟩) (star_ok (hn e List.mem_cons_self)) (nost fun x hx => hn x (List.mem_cons_of_mem _ hx))
  exact run_fnX Fn hr hG hb tk I1 r q
theorem methX_reads {Ca : Addr} (ck : ClsK X.K y Ca) {σ : L2.St} {H : Hp} {Q : VK} (h : tR X.K F (.meth y m f eo ees) WW σ H Q) : tE X.K F eo σ H (fun v H1 => ∃ a dx fs, v = .ref a ∧ H1 a = some (.ins Ca dx fs) ∧ fs.lookup m = none ∧
    tAs X.K F ees σ H1 fun vs H2 => spX X.K F f (v :: vs) H2 Q fun cls d H' => WW cls d σ H') := by
  obtain ⟨av, H0, ρ0, ρ, lo, env, mm, r, C, pv, m', a, he, hp, q⟩ := h
  simp only [evalE] at he
  obtain ⟨xo, m1, h1, he0⟩ := bind_ok he
  clear he
  cases hi : insOf m1 xo.1 with
  | none => rw [hi] at he0; cases he0
  | some t =>
    obtain ⟨n, z, fs⟩ := t
    rw [hi] at he0
    simp only at he0
    have hz := bindIf he0
    clear he0
    obtain ⟨⟨e0, hl⟩, he⟩ := hz
    subst e0
    obtain ⟨as, m2, h2, he1⟩ := bind_ok he
    clear he
    obtain ⟨r0, m3, h3, he2⟩ := bind_ok he1
    clear he1
    cases he2
    obtain ⟨e1, hm⟩ := insOf_ok hi
    refine run_pk a h1 fun v H1 ρ1 lo1 s1 a1 p1 => ?_
    rw [e1] at p1
    obtain ⟨c, hc, rfl⟩ := p1.obj
    obtain ⟨C', dx, ws, g1, g2, g3, g4⟩ := a1.st.cells n c _ hc hm
    cases ck.uniq g1
    refine ⟨c.a, dx, ws, rfl, g3, g4.none (by simpa using hl), av, H0, ρ0, ρ1, lo1, env, m1, as, m2, a1, h2, fun vs H2 ρ2 lo2 s2 l2 p2 => ?_⟩
    have a2 := s2.at l2 a1
    obtain ⟨c2, hc2, ec⟩ := s2.ex.same n c hc
    have hself : ArgR X.K H2 (aA av ρ2 lo2) ρ2 (.obj n, false) (.ref c.a) := .inl ⟨rfl, c2, hc2, by rw [ec]⟩
    refine ⟨_, ρ2, _, m2, r0.1, r0.2, C, pv, _, call_pre a2, call_args a2 (.cons hself p2), h3, hp, fun cls d H3 ρ3 rt => ?_⟩
    obtain ⟨s3, v3⟩ := call_backX a2 rt
    exact q cls d H3 ρ3 lo2 ((s1.trans s2).trans s3) l2 v3
theorem r_meth {Ca : Addr} {pl : Sem Bool} (ck : ClsK X.K y Ca) (hm : Meth X.K Ca m fa) (Fn : FnX X.prog X.w X.K X.mg X.base k fa fd ps (spX X.K F f)) (hr : Room k X.A) (hG : X.A.guards = some []) (hb : Binds X.K fd ps []) (ho : PE X o (tE X.K F eo)) (hn : ∀ z ∈ e :: es, NoStar z) (ha : PA X (e :: es) (tAs X.K F ees))
    (ht : eval (.Call (.Attribute o m apos) (e :: es) [] pos) X.env = (do
      let ov ← eval o X.env
      standAt apos.atName
      let (f, first) ← holding [ov] (getMethod ov m pl)
      callWith pos f first (backTo pos (starEach (e :: es) X.env)) (backToKw pos (keywordEach [] X.env)))) : PR X F (.Call (.Attribute o m apos) (e :: es) [] pos) (.meth y m f eo ees) := fun WW tk => by
  refine ⟨fun pins s σ H Q I h => ?_⟩
  refine PySem.W.methodCall_KW (pl := pl) (thn (ho.run pins s σ H _ I (methX_reads ck h)) fun u s1 ⟨x, H1, I1, rx, a, dx, fs, ex, ea, l, q⟩ => ?_) ht
  subst ex
  obtain rfl : u = Value.ref a := rx
  refine getmeth_ok I1 ea ck.cls hm l ?_
  refine PySem.W.callWith_K (first := [.ref a]) (h₀ := X.base) I.ok.mod.kin hm.kp (thn (ha.run pos pins s1 σ H1 _ I1 q) fun us s2 ⟨vs, H2, I2, r, q2⟩ => ⟨I2.kIn, ?_⟩) (star_ok (hn e List.mem_cons_self)) (nost fun x hx => hn x (List.mem_cons_of_mem _ hx))
  exact run_fnX (us := .ref a :: us) (vs := .ref a :: vs) Fn hr hG hb tk I2 (.cons rfl r) q2
end
end MP
namespace MP
open PySem PySem.Spec PyProof.Rows L2
section
variable {X : Cx} {F : CallF} {k : Nat} {fa C : Addr} {fd : FuncData} {ps : List Str} {f : Nat} {x m y : Str} {p pos apos : Pos} {o e : Expr} {es : List Expr} {eo : E} {ees : List E} {WW : WX}
theorem makeX_reads (hC : PySem.W.nsIn X.K mainGlobals x = some (some (.ref C))) {σ : L2.St} {H : Hp} {Q : VK} (h : tR X.K F (.makeX x f ees) WW σ H Q) : tAs X.K F ees σ H (fun vs H1 => ∀ x0 dx, H1 x0 = none → H1 dx = none → dx ≠ x0 →
    spX X.K F f (.ref x0 :: vs) (upd (upd H1 dx (.own x0)) x0 (.ins C dx [])) Q fun cls d H' => WW cls d σ H') := by
  obtain ⟨av, H0, ρ0, ρ, lo, env, mm, r, Cn, pv, m', a, he, hp, q⟩ := h
  simp only [evalE] at he
  obtain ⟨as, m1, h1, he1⟩ := bind_ok he
  clear he
  obtain ⟨r0, m2, h2, he2⟩ := bind_ok he1
  clear he1
  cases he2
  refine ⟨av, H0, ρ0, ρ, lo, env, mm, as, m1, a, h1, fun vs H1 ρ1 lo1 s1 l1 p1 x0 dx hx hd hne => ?_⟩
  have a1 := s1.at l1 a
  have s2 := At.made (y := x) a1 hx hd hne hC
  have a2 := s2.at l1 a1
  have hself : ArgR X.K (upd (upd H1 dx (.own x0)) x0 (.ins C dx [])) (aA av (ρ1 ++ [⟨x0, [dx], false⟩]) lo1) (ρ1 ++ [⟨x0, [dx], false⟩]) (.obj m1.length, false) (.ref x0) := .inl ⟨rfl, ⟨x0, [dx], false⟩, by rw [a1.st.ml]; simp, rfl⟩
  have p2 : Paired (ArgR X.K (upd (upd H1 dx (.own x0)) x0 (.ins C dx [])) (aA av (ρ1 ++ [⟨x0, [dx], false⟩]) lo1) (ρ1 ++ [⟨x0, [dx], false⟩])) as vs := Paired.mapP p1 fun _ _ r => r.step a1 s2
  refine ⟨_, _, _, _, r0.1, r0.2, Cn, pv, _, call_pre a2, call_args a2 (.cons hself p2), h2, hp, fun cls d H3 ρ3 rt => ?_⟩
  obtain ⟨s3, v3⟩ := call_backX a2 rt
  exact q cls d H3 ρ3 lo1 ((s1.trans s2).trans s3) l1 v3
theorem run_makeX {pins : List (Addr × Obj)} {σ : L2.St} {H : Hp} {s : Shared} {Q : VK} {us : List Value} {vs : List V} {sp : Sp} (M : Mk X.K C fa) (F : FnX X.prog X.w X.K X.mg X.base k fa fd ps sp) (hr : Room (k + 1) X.A) (hG : X.A.guards = some []) (hb : Binds X.K fd ps []) (tk : Takes X WW)
    (I : Inv X pins σ H s) (r : Vals vs us)
    (h : ∀ x dx, H x = none → H dx = none → dx ≠ x → sp (.ref x :: vs) (upd (upd H dx (.own x)) x (.ins C dx [])) (fun v H2 => v = .non ∧ Q (.ref x) H2) fun cls d H' => WW cls d σ H') :
    wpAny (model X.prog X.w) X.A (call (.ref C) us) (EP X pins σ Q) X.xe s := by
  have hq := h (s.heap.objs.size + 1) s.heap.objs.size (I.hok.fresh (Nat.le_succ _)) (I.hok.fresh (Nat.le_refl _)) (Nat.ne_of_lt (Nat.lt_succ_self _))
  have I2 := Inv.made (C := C) I
  have r2 : Vals (V.ref (s.heap.objs.size + 1) :: vs) (Value.ref (s.heap.objs.size + 1) :: us) := .cons rfl r
  have hl : (Value.ref (s.heap.objs.size + 1) :: us ++ []).length = ps.length := by
    have e := r2.length
    rw [F.len _ _ _ _ hq] at e
    rw [List.append_nil]
    exact e.symm
  have hb' := hb _ (Value.ref (s.heap.objs.size + 1) :: us) I2.kIn hl
  rw [List.append_nil] at hb'
  refine wpAny_call (make_map (f := fa) I.kIn M.makes M.init (beq_iff_eq.mp M.fn) (codeAny_mono (F.run _ X.stack _ _ ⟨Value.ref (s.heap.objs.size + 1) :: us, []⟩ (Value.ref (s.heap.objs.size + 1) :: us) _ _ _ (hr.make C us []) (guards_make hG)
    (I2.env0.make C us []) hb' r2 hq) fun r s' hq' => ?_))
  cases r with
  | error e => exact tk e s' (XE.of_call I2 (fun _ _ _ h => h) hq')
  | ok fl =>
    cases fl with
    | ret u =>
      obtain ⟨v, H', I3, rv, ev, q3⟩ := I2.after hq'
      subst ev
      exact ⟨rv, ⟨V.ref (s.heap.objs.size + 1), H', I3, rfl, q3⟩⟩
    | next => exact False.elim hq'
    | brk => exact False.elim hq'
    | cont => exact False.elim hq'
theorem r_make (hC : PySem.W.nsIn X.K mainGlobals x = some (some (.ref C))) (M : Mk X.K C fa) (Fn : FnX X.prog X.w X.K X.mg X.base k fa fd ps (spX X.K F f)) (hr : Room (k + 1) X.A) (hG : X.A.guards = some []) (hg : Gl X x) (hm : X.mg x = some (.ref C)) (hb : Binds X.K fd ps [])
    (hdb : (x == ("__debug__" : Str)) = false) (hn : ∀ z ∈ e :: es, NoStar z) (ha : PA X (e :: es) (tAs X.K F ees)) : PR X F (.Call (.Name x p) (e :: es) [] pos) (.makeX x f ees) := fun WW tk => by
  refine ⟨fun pins s σ H Q I h => ?_⟩
  refine wpAny_Call_Name_kw (ld_glob I hg hm ?_ hdb)
  refine PySem.W.callWith_K (h₀ := X.base) I.ok.mod.kin M.kp (thn (ha.run pos pins s σ H _ I (makeX_reads hC h)) fun us s1 ⟨vs, H1, I1, r, q⟩ => ⟨I1.kIn, ?_⟩) (star_ok (hn e List.mem_cons_self)) (nost fun x hx => hn x (List.mem_cons_of_mem _ hx))
  exact run_makeX M Fn hr hG hb tk I1 r q
end
structure BaseC (K : PySem.W.Frag) (B : Addr) : Prop where
  ga : PySem.W.specialIn K (.ref B) "__getattribute__" = some (some (.builtin "type.__getattribute__"))
  rd : PySem.W.readsIn K B (.type "type") = true
  fi : PySem.W.findCls K (.ref B) (.type "type") "__init__" = some (.val (.builtin "ValueError.__init__"))
section
variable {X : Cx} {e : Expr} {es : List Expr} {ta : TA} {B : Addr} {x : Str} {p p1 p2 pos : Pos}
theorem pe_binit {pl : Sem Bool} (T : BaseC X.K B) (hg : Gl X x) (hm : X.mg x = some (.ref B)) (hdb : (x == ("__debug__" : Str)) = false) (ha : PA X (e :: es) ta)
    (hc : eval (.Call (.Attribute (.Name x p1) "__init__" p2) (e :: es) [] pos) X.env = (do
      let ov ← eval (.Name x p1) X.env
      standAt p2.atName
      let (f, first) ← holding [ov] (getMethod ov "__init__" pl)
      callWith pos f first (backTo pos (starEach (e :: es) X.env)) (backToKw pos (keywordEach [] X.env))))
    (he : starEach (e :: es) X.env = (false, eval e X.env) :: starEach es X.env) (hpl : (backTo pos (starEach es X.env)).any (·.1) = false) :
    PE X (.Call (.Attribute (.Name x p1) "__init__" p2) (e :: es) [] pos) (tVeI X.K ta) := by
  refine ⟨fun pins s σ H Q I h => ?_⟩
  refine PySem.W.methodCall_KW (ld_glob I hg hm ?_ hdb) hc
  refine PySem.W.method_cls I.kIn T.ga (PySem.W.cls_value I.kIn T.rd T.fi (by decide +kernel) ?_)
  show wpAny _ _ (callWith pos (Value.builtin "ValueError.__init__") [] (backTo pos (starEach (e :: es) X.env)) []) _ _ _
  refine PyProof.Rows.callWith_method1 (thn (ha.run pos pins _ σ H _ (I.tok _) h) fun us s1 ⟨vs, H1, I1, r1, a, C, ws, ev, hl, T, ea, q⟩ => ?_) he hpl
  subst ev
  cases r1 with
  | @cons _ u0 _ ur ra rw' =>
    obtain rfl : u0 = Value.ref a := ra
    have hlen : ur.length ≤ sizeLine := by
      rw [← Paired.length rw', sizeLine_eq]
      omega
    exact oinit_ok T I1 ea hlen fun s' J => ⟨.non, H1, J, rfl, q⟩
end
def InitOk (C : Str) (ws : List V) (a Ca dx : Addr) (H H2 : Hp) (fs : List (Str × V)) : Prop :=
  H2 a = some (exo a Ca (some dx)) ∧ H2 dx = some (exd dx fs) ∧ (∀ b, b ≠ a → b ≠ dx → H2 b = H b) ∧ ∀ (k : Nat) (f : Str) (w : V), (xfl C)[k]? = some f → ws[k]? = some w → fs.lookup f = some w
def spI (K : PySem.W.Frag) (C : Str) : Sp := fun vs H Q _ => ∃ (a Ca : Addr) (ws : List V), vs = .ref a :: ws ∧ OexC K Ca ∧ (∀ f ∈ xfl C, PySem.W.findIn K (.ref Ca) f = some none) ∧ H a = some (exo a Ca none) ∧ ws.length = (xfl C).length ∧
  ∀ dx H2 fs, H dx = none → dx ≠ a → InitOk C ws a Ca dx H H2 fs → Q .non H2
theorem xfl_le (C : Str) : (xfl C).length ≤ 3 := by
  unfold xfl
  repeat' split
  all_goals (simp)
theorem xfl_nd (C : Str) : (xfl C).Nodup := by
  unfold xfl
  repeat' split
  all_goals (first | (simp; done) | decide +kernel)
section
variable {X : Cx} {C : Str}
def tIn (K : PySem.W.Frag) (C : Str) (j : Nat) : TS := fun D σ H => ∃ (a Ca : Addr) (ws : List V) (fs : List (Str × V)) (Hs : Hp) (dx : Addr), σ[0]? = some (some (.ref a)) ∧ (∀ (k : Nat) (w : V), ws[k]? = some w → σ[k + 1]? = some (some w)) ∧ ws.length = (xfl C).length ∧ OexC K Ca ∧ (∀ f ∈ xfl C, PySem.W.findIn K (.ref Ca) f = some none) ∧ dx ≠ a ∧
  H a = some (exo a Ca (some dx)) ∧ H dx = some (exd dx fs) ∧ fs.length ≤ j ∧ (∀ b, b ≠ a → b ≠ dx → H b = Hs b) ∧ (∀ (k : Nat) (f : Str) (w : V), k < j → (xfl C)[k]? = some f → ws[k]? = some w → fs.lookup f = some w) ∧ ∀ H2 fs2, InitOk C ws a Ca dx Hs H2 fs2 → D.nx σ H2
theorem in_nil {j : Nat} (hj : (xfl C).length ≤ j) : PSs X [] (tIn X.K C j) := PSs.imp pss_nil fun D σ H h => by
  obtain ⟨a, Ca, ws, fs, Hs, dx, h1, h2, h3, h4, h5, h6, h7, h8, h9, h10, h11, h12⟩ := h
  refine h12 H fs ⟨h7, h8, h10, fun k f w e1 e2 => h11 k f w ?_ e1 e2⟩
  have := (List.getElem?_eq_some_iff.mp e1).1
  omega
theorem in_step {o e : Expr} {f : Str} {p' pos : Pos} {j : Nat} {rest : List Stmt} (hf : (xfl C)[j]? = some f) (hj : 1 ≤ j) (ho : PE X o (tVar 0)) (he : PE X e (tVar (j + 1))) (hs : swapsWith e (some (.Attribute o f p')) pos.line X.env = pure false) (hr : PSs X rest (tIn X.K C (j + 1))) :
    PSs X (.Assign [.Attribute o f p'] e pos :: rest) (tIn X.K C j) := PSs.imp (pss_cons (ps_ost ho he hs) hr) fun D σ H h => by
  obtain ⟨a, Ca, ws, fs, Hs, dx, h1, h2, h3, h4, h5, h6, h7, h8, h9, h10, h11, h12⟩ := h
  have jl := (List.getElem?_eq_some_iff.mp hf).1
  obtain ⟨w, hw⟩ : ∃ w, ws[j]? = some w := ⟨_, List.getElem?_eq_getElem (by omega)⟩
  refine ⟨w, h2 j w hw, _, h1, a, Ca, rfl, h4, h5 f (List.mem_of_getElem? hf), .inr ⟨dx, fs, h7, h8, by have := xfl_le C; omega, ?_⟩⟩
  refine ⟨a, Ca, ws, (f, w) :: fs, Hs, dx, h1, h2, h3, h4, h5, h6, by rw [upd_ne (Ne.symm h6)]; exact h7, upd_same, by simp; omega, fun b b1 b2 => by rw [upd_ne b2]; exact h10 b b1 b2, fun k g u hk e1 e2 => ?_, h12⟩
  by_cases z : k = j
  · subst z
    rw [hf] at e1; cases e1
    rw [hw] at e2; cases e2
    simp [List.lookup]
  · have ne : g ≠ f := fun y => z ((List.getElem?_inj (List.getElem?_eq_some_iff.mp e1).1 (xfl_nd C)).mp (e1.trans (by rw [y, hf])))
    rw [List.lookup_cons, show (g == f) = false from by simpa using ne]
    exact h11 k g u (by omega) e1 e2
def tIn0 (K : PySem.W.Frag) (C : Str) : TS := fun D σ H => ∃ (a Ca : Addr) (ws : List V), σ[0]? = some (some (.ref a)) ∧ (∀ (k : Nat) (w : V), ws[k]? = some w → σ[k + 1]? = some (some w)) ∧ ws.length = (xfl C).length ∧ OexC K Ca ∧ (∀ f ∈ xfl C, PySem.W.findIn K (.ref Ca) f = some none) ∧
  H a = some (exo a Ca none) ∧ ∀ dx H2 fs, H dx = none → dx ≠ a → InitOk C ws a Ca dx H H2 fs → D.nx σ H2
theorem in_start {b s o e : Expr} {bx : Str} {B : Addr} {f : Str} {tx : Str} {jt : Nat} {p1 p2 pt pc p0 p' pos : Pos} {rest : List Stmt} {pl : Sem Bool} (hf : (xfl C)[0]? = some f) (T : BaseC X.K B) (hg : Gl X bx) (hm : X.mg bx = some (.ref B)) (hdb : (bx == ("__debug__" : Str)) = false)
    (hs0 : PE X s (tVar 0)) (hns : NoStar s) (ho : PE X o (tVar 0)) (he : PE X e (tVar 1)) (hs : swapsWith e (some (.Attribute o f p')) pos.line X.env = pure false)
    (hc : eval (.Call (.Attribute (.Name bx p1) "__init__" p2) [s, .Constant (.str tx) jt pt] [] pc) X.env = (do
      let ov ← eval (.Name bx p1) X.env
      standAt p2.atName
      let (f, first) ← holding [ov] (getMethod ov "__init__" pl)
      callWith pc f first (backTo pc (starEach [s, .Constant (.str tx) jt pt] X.env)) (backToKw pc (keywordEach [] X.env))))
    (hse : swapsWith (.Call (.Attribute (.Name bx p1) "__init__" p2) [s, .Constant (.str tx) jt pt] [] pc) none p0.line X.env = pure false)
    (hr : PSs X rest (tIn X.K C 1)) :
    PSs X (.Expr (.Call (.Attribute (.Name bx p1) "__init__" p2) [s, .Constant (.str tx) jt pt] [] pc) p0 :: .Assign [.Attribute o f p'] e pos :: rest) (tIn0 X.K C) := by
  have nc : NoStar (.Constant (.str tx) jt pt) := fun y p e => nomatch e
  have hs1 := star_ok (env := X.env) (es := [.Constant (.str tx) jt pt]) hns
  have hs2 := star_ok (env := X.env) (es := []) nc
  have pa : PA X [s, .Constant (.str tx) jt pt] (tCons (tVar 0) (tCons (tC (.str tx)) tNil)) := pa_cons hs0 (pa_cons pe_str pa_nil hs2) hs1
  refine PSs.imp (pss_cons (ps_expr (pe_binit T hg hm hdb pa hc hs1 (by rw [hs2]; rfl)) hse) (pss_cons (ps_ost ho he hs) hr)) fun D σ H h => ?_
  obtain ⟨a, Ca, ws, h1, h2, h3, h4, h5, h6, h7⟩ := h
  have jl := (List.getElem?_eq_some_iff.mp hf).1
  obtain ⟨w, hw⟩ : ∃ w, ws[0]? = some w := ⟨_, List.getElem?_eq_getElem (by omega)⟩
  refine ⟨_, h1, a, Ca, [.str tx], rfl, by simp, h4, h6, ?_⟩
  refine ⟨w, h2 0 w hw, _, h1, a, Ca, rfl, h4, h5 f (List.mem_of_getElem? hf), .inl ⟨h6, fun dx hn hne => ?_⟩⟩
  refine ⟨a, Ca, ws, [(f, w)], H, dx, h1, h2, h3, h4, h5, hne, upd_same, by rw [upd_ne hne]; exact upd_same, by simp, fun b b1 b2 => by rw [upd_ne b1, upd_ne b2], fun k g u hk e1 e2 => ?_, fun H2 fs2 ok => h7 dx H2 fs2 hn hne ok⟩
  have hk0 : k = 0 := by omega
  subst hk0
  rw [hf] at e1; cases e1
  rw [hw] at e2; cases e2
  simp [List.lookup]
end
section
variable {P : Program} {w : World} {K : PySem.W.Frag} {mg : Str → Option Value} {base : Heap}
theorem init_fn {x qual : Str} {st : Stmt} {f : Addr} {fd : FuncData} {N ps : List Str} {C : Str} {CX : CXT} {k : Nat} (F : L2.Fun K x qual st f fd) (S : FnScope N ps (defScope st)) (hl : ps.length = (xfl C).length + 1) (hN : N.length = ps.length)
    (hbody : ∀ X : Cx, X.K = K → X.mg = mg → X.N = N → X.env.scope = defScope st → X.calm = true → PSs X (defBody st) (tIn0 X.K C)) : FnOk P w K mg base CX (k + 1) f fd ps (spI K C) := by
  obtain ⟨oc, od, kV, doc, pm, an, cdv, ct, osl, rfl, lk, hcd⟩ := F.ex
  refine fn_of lk hcd S (fun vs H Q E h => ?_) fun A outer s H vs Q E hr h => ?_
  · obtain ⟨a, Ca, ws, rfl, _, _, _, h3, _⟩ := h
    rw [hl, ← h3]; rfl
  · refine ⟨_, hbody _ rfl rfl rfl rfl rfl, ?_⟩
    obtain ⟨a, Ca, ws, rfl, h4, h5, h6, h3, h7⟩ := h
    have hst : ∀ i v, (V.ref a :: ws)[i]? = some v → (L2.start N (V.ref a :: ws))[i]? = some (some v) := fun i v e => by
      unfold L2.start
      rw [List.getElem?_append_left (by rw [List.length_map]; exact (List.getElem?_eq_some_iff.mp e).1), List.getElem?_map, e]
      rfl
    exact ⟨a, Ca, ws, hst 0 _ rfl, fun k w e => hst (k + 1) w (by simpa using e), h3, h4, h5, h6, fun dx H2 fs n ne ok => h7 dx H2 fs n ne ok⟩
end
end MP
namespace MP
open PySem PySem.Spec PyProof.Rows L2
structure ExcK (X : Cx) (C : Str) : Prop where
  ex : ∃ (Ca fI : Addr) (k : Nat) (fd : FuncData) (ps : List Str), PySem.W.nsIn X.K mainGlobals C = some (some (.ref Ca)) ∧ X.mg C = some (.ref Ca) ∧ OexC X.K Ca ∧ (∀ f ∈ xfl C, PySem.W.findIn X.K (.ref Ca) f = some none) ∧
    PySem.W.findIn X.K (.ref Ca) "__init__" = some (some (.ref fI)) ∧ PySem.W.typeIn X.K (.ref fI) = some (.type "function") ∧ FnOk X.prog X.w X.K X.mg X.base CX0 k fI fd ps (spI X.K C) ∧ Room (k + 1) X.A ∧ Binds X.K fd ps []
section
variable {K : PySem.W.Frag} {av : Addr → Prop} {H0 H H1 H2 H' : Hp} {ρ0 ρ ρ1 ρ2 ρ' : List CA} {σ : L2.St} {env : Env} {lo lo1 lo2 lo' : Lo} {m m1 m2 m' : MH}
theorem Step.grown (s : Step K av H0 ρ0 σ env ρ lo H ρ1 lo1 H1 m1) (k : ∀ a o, H1 a = some o → H2 a = some o) : Step K av H0 ρ0 σ env ρ lo H ρ1 lo1 H2 m1 :=
  ⟨s.st.grow k, s.lo, s.lon, ⟨fun p o e n => k _ _ (s.kp.keep p o e n), fun p h => dom_of k p (s.kp.dom p h)⟩, s.ex⟩
theorem Stt.new (s : Stt K av H0 ρ0 ρ lo σ H env m) {a : Addr} (h : H a = none) : ¬ aA av ρ lo a := fun z => by
  rcases z with z | z | ⟨i, z⟩
  · exact s.keep.dom a (s.avd a z) h
  · exact (s.fav a z).2.2 h
  · exact (s.loF i a z).2.2.2.1 h
end
section
variable {X : Cx} {F : CallF} {W : Nat} {C : Str} {e : Expr} {es : List Expr} {ees : List E} {WW : WX} {p pos pos' : Pos}
def tRs (K : PySem.W.Frag) (F : CallF) (C : Str) (ees : List E) (WW : WX) : TS := fun D σ H => ∃ av H0 ρ0 ρ lo env m ds m', At K av H0 ρ0 ρ lo σ H env m ∧ evalEs F ees env m = .ok ds m' ∧ ds.length = (xfl C).length ∧ xfl C ≠ [] ∧
  ∀ cls d H' ρ' lo', Step K av H0 ρ0 σ env ρ lo H ρ' lo' H' m' → lo' env.length = none → PayOk K H' (aA av ρ' lo') ρ' C ds cls d → WW cls d σ H'
theorem st_raise (hc : X.calm = true) (tk : Takes X WW) (T : ExcK X C) (hg : Gl X C) (hdb : (C == ("__debug__" : Str)) = false) (hn : ∀ z ∈ e :: es, NoStar z) (ha : PA X (e :: es) (tEs X.K F ees)) :
    PS X (.Raise (some (.Call (.Name C p) (e :: es) [] pos)) none pos') (tRs X.K F C ees WW) := by
  obtain ⟨Ca, fI, k, fd, ps, g1, g2, g3, g4, g5, g6, g7, g8, g9⟩ := T.ex
  refine PS.imp (ps_raise hc tk (pmk_oex (dvs := []) g3 g5 g6 g7 g8 g9 .nil (fun _ _ _ _ _ _ _ h => h.elim) hg g2 ha hdb (star_ok (hn e List.mem_cons_self)) (nost fun x hx => hn x (List.mem_cons_of_mem _ hx)))) fun D σ H h => ?_
  obtain ⟨av, H0, ρ0, ρ, lo, env, m, ds, m', a, he, hl, hne, q⟩ := h
  refine ⟨av, H0, ρ0, ρ, lo, env, m, ds, m', a, he, fun vs H1 ρ1 lo1 s1 l1 r1 => ?_⟩
  have hlv : vs.length = (xfl C).length := by rw [← hl]; exact r1.length.symm
  refine ⟨by have := xfl_le C; omega, fun b hb => ⟨b, Ca, vs, by rw [List.append_nil], g3, g4, upd_same, hlv, fun dx H2 fs hn hnx ok => ?_⟩⟩
  obtain ⟨o1, o2, o3, o4⟩ := ok
  have hd1 : H1 dx = none := by rw [upd_ne hnx] at hn; exact hn
  refine ⟨rfl, dx, fs, o1, o2, hd1, ?_⟩
  have eH : upd (del H2 b) dx (.xd fs) = upd H1 dx (.xd fs) := by
    funext c
    by_cases hc : c = dx
    · rw [hc, upd_same, upd_same]
    · rw [upd_ne hc, upd_ne hc]
      by_cases hb' : c = b
      · rw [hb', del_same, hb]
      · rw [del_ne hb', o3 c hb' hc, upd_ne hb']
  rw [eH]
  have kg : ∀ a o, H1 a = some o → upd H1 dx (.xd fs) a = some o := fun c o e => by rw [upd_ne (ne_of_none e hd1)]; exact e
  have s2 := s1.grown kg
  refine q _ _ _ ρ1 lo1 s2 l1 ⟨hne, hl, Ca, dx, fs, vs, g1, rfl, rfl, s1.st.new hd1, upd_same, r1.mono (Stays.of kg) (fun a z => .inl z) (fun n c e => ⟨c, e, rfl⟩), o4⟩
end
def endsX (K : PySem.W.Frag) (av : Addr → Prop) (H0 : Hp) (ρ0 : List CA) (env : Env) (ρ : List CA) (lo : Lo) (H : Hp) (E : Ends) (WW : WX) : SR → Prop
  | .nx env' m' => ∀ σ' H' ρ' lo', SStep K av H0 ρ0 env ρ lo H ρ' lo' σ' H' env' m' → E.nx σ' H'
  | .ret d f m' => ∃ C vs, payD d = some (C, vs) ∧ ∀ σ' cls dd H' ρ', RetX K av H0 ρ0 C vs m' cls dd H' ρ' → WW cls dd σ' H'
  | _ => False
def tX (K : PySem.W.Frag) (F : CallF) (W : Nat) (WW : WX) (s : S) : TS := fun E σ H => ∃ av H0 ρ0 ρ lo env m, At K av H0 ρ0 ρ lo σ H env m ∧ endsX K av H0 ρ0 env ρ lo H E WW (evalS F W s env m)
def tXs (K : PySem.W.Frag) (F : CallF) (W : Nat) (WW : WX) (ss : List S) : TS := fun E σ H => ∃ av H0 ρ0 ρ lo env m, At K av H0 ρ0 ρ lo σ H env m ∧ endsX K av H0 ρ0 env ρ lo H E WW (evalSs F W ss env m)
section
variable {K : PySem.W.Frag} {F : CallF} {W : Nat} {av : Addr → Prop} {H0 H H1 H2 H' : Hp} {ρ0 ρ ρ1 ρ2 ρ' : List CA} {σ σ1 σ2 σ' : L2.St} {env env1 env2 env' : MP.Env} {lo lo1 lo2 lo' : Lo} {m m1 m2 m' : MH} {D : Ends} {WW : WX}
theorem endsX.after (s : SStep K av H0 ρ0 env ρ lo H ρ1 lo1 σ1 H1 env1 m1) : ∀ {r : SR}, endsX K av H0 ρ0 env ρ lo H D WW r → endsX K av H0 ρ0 env1 ρ1 lo1 H1 D WW r
  | .nx _ _, h => fun σ' H' ρ' lo' t => h σ' H' ρ' lo' (s.trans t)
  | .brk _ _, h => h
  | .cnt _ _, h => h
  | .ret _ _ _, h => h
  | .bad, h => h
end
section
variable {X : Cx} {F : CallF} {W : Nat} {WW : WX} {st : Stmt} {rest : List Stmt} {s : S} {ss : List S} {pos : Pos}
theorem sx_nil : PSs X [] (tXs X.K F W WW []) := PSs.imp pss_nil fun E σ H h => by
  obtain ⟨av, H0, ρ0, ρ, lo, env, m, a, q⟩ := h
  exact q σ H ρ lo (SStep.refl a)
theorem sx_bad {xs : List Stmt} : PSs X xs (tXs X.K F W WW (.bad :: ss)) := ⟨fun pins s σ H E I h => by
  obtain ⟨av, H0, ρ0, ρ, lo, env, m, a, q⟩ := h
  simp only [evalSs, evalS] at q
  exact q.elim⟩
theorem sx_cons (h1 : PS X st (tX X.K F W WW s)) (h2 : PSs X rest (tXs X.K F W WW ss)) : PSs X (st :: rest) (tXs X.K F W WW (s :: ss)) := PSs.imp (pss_cons h1 h2) fun E σ H h => by
  obtain ⟨av, H0, ρ0, ρ, lo, env, m, a, q⟩ := h
  refine ⟨av, H0, ρ0, ρ, lo, env, m, a, ?_⟩
  simp only [evalSs] at q
  cases hr : evalS F W s env m with
  | nx e1 m1 =>
    rw [hr] at q
    exact fun σ1 H1 ρ1 lo1 s1 => ⟨av, H0, ρ0, ρ1, lo1, e1, m1, s1.at', q.after s1⟩
  | ret d f m1 => rw [hr] at q; exact q
  | brk e1 m1 => rw [hr] at q; exact q
  | cnt e1 m1 => rw [hr] at q; exact q
  | bad => rw [hr] at q; exact q
def noRetB : S → Bool
  | .asg _ _ => true | .ex _ => true | .setF .. => true | .appE .. => true | .app .. => true | .par .. => true | .parN .. => true | .pass => true
  | _ => false
theorem noRet_ok {s : S} (h : noRetB s = true) {env : Env} {m : MH} : (∃ e1 m1, evalS F W s env m = .nx e1 m1) ∨ evalS F W s env m = .bad := by
  have hs : ∀ (i : Nat) (m : MH) (f : List D → Option (List D)), (∃ e1 m1, setAt env m i f = .nx e1 m1) ∨ setAt env m i f = .bad := fun i m f => by
    unfold setAt
    repeat' split
    all_goals (first | exact .inr rfl | exact .inl ⟨_, _, rfl⟩)
  cases s <;> first | (cases h; done) | skip
  all_goals
    simp only [evalS]
    repeat' split
    all_goals (first | exact .inr rfl | exact .inl ⟨_, _, rfl⟩ | exact hs _ _ _)
theorem PS.nox {t : TS} (h : PS X.nox st t) : PS X st t := ⟨fun pins s σ H D I hw =>
  wpAny_mono (h.run pins s σ H D (I.wish _) hw) (fun _ _ q => q.unwish) fun _ _ z => False.elim z⟩
theorem sx_norm (h : PS X.nox st (tS X.K F W s)) (n : noRetB s = true) : PS X st (tX X.K F W WW s) := PS.imp (PS.nox h) fun E σ H h => by
  obtain ⟨av, H0, ρ0, ρ, lo, env, m, a, q⟩ := h
  refine ⟨av, H0, ρ0, ρ, lo, env, m, a, ?_⟩
  rcases noRet_ok (F := F) (W := W) (env := env) (m := m) n with ⟨e1, m1, e⟩ | e
  · rw [e] at q ⊢; exact q
  · rw [e] at q; exact q.elim
theorem sx_if {c : Expr} {sa sb : List Stmt} {ec : E} {ma mb : List S} (hc : PT X c (tT X.K F ec)) (ha : PSs X sa (tXs X.K F W WW ma)) (hb : PSs X sb (tXs X.K F W WW mb)) : PS X (.If c sa sb pos) (tX X.K F W WW (.iff ec ma mb)) := PS.imp (ps_if hc ha hb) fun E σ H h => by
  obtain ⟨av, H0, ρ0, ρ, lo, env, m, a, q⟩ := h
  simp only [evalS] at q
  cases hr : evalE F ec env m with
  | bad => rw [hr] at q; exact q.elim
  | ok x m1 =>
    simp only [hr] at q
    cases ht : dTrue x.1 with
    | none => simp only [ht] at q; exact q.elim
    | some t =>
      simp only [ht] at q
      refine ⟨av, H0, ρ0, ρ, lo, env, m, x, t, m1, a, hr, ht, fun H1 ρ1 lo1 s1 l1 => ?_⟩
      have ss := s1.s a l1
      cases t with
      | true => exact ⟨av, H0, ρ0, ρ1, lo1, env, m1, ss.at', q.after ss⟩
      | false => exact ⟨av, H0, ρ0, ρ1, lo1, env, m1, ss.at', q.after ss⟩
theorem sx_raise {C : Str} {e : Expr} {es : List Expr} {ees : List E} {p p1 : Pos} (hc : X.calm = true) (tk : Takes X WW) (T : ExcK X C) (hg : Gl X C) (hdb : (C == ("__debug__" : Str)) = false) (hn : ∀ z ∈ e :: es, NoStar z) (ha : PA X (e :: es) (tEs X.K F ees)) (hl : ees.length = (xfl C).length) (hne : xfl C ≠ []) :
    PS X (.Raise (some (.Call (.Name C p) (e :: es) [] p1)) none pos) (tX X.K F W WW (.ret (.tup [.c (.str C), .tup ees]))) := PS.imp (st_raise hc tk T hg hdb hn ha) fun D0 σ H h => by
  obtain ⟨av, H0, ρ0, ρ, lo, env, m, a, q⟩ := h
  simp only [evalS, evalE, evalEs, Res.bind_ok, modeOf, owns, if_true] at q
  cases hr : evalEs F ees env m with
  | bad => rw [hr] at q; exact q.elim
  | ok ds m1 =>
    rw [hr] at q
    simp only [Res.bind_ok] at q
    by_cases hz : ds.length ≤ 16777216
    · rw [if_pos hz] at q
      simp only [Res.bind_ok, if_true] at q
      have h2 : ([D.str C, D.tup ds] : List D).length ≤ 16777216 := by simp
      obtain ⟨C', vs, hp, q⟩ := q
      cases hp
      have hlen : ∀ {es : List E} {m m' : MH} {ds : List D}, evalEs F es env m = .ok ds m' → ds.length = es.length := fun {es} => by
        induction es with
        | nil => intro m m' ds h; cases h; rfl
        | cons e es ih =>
          intro m m' ds h
          simp only [evalEs] at h
          obtain ⟨x, m1, h1, h⟩ := bind_ok h
          split at h
          case isFalse => cases h
          obtain ⟨r, m2, h2, h⟩ := bind_ok h
          cases h
          rw [List.length_cons, List.length_cons, ih h2]
      exact ⟨av, H0, ρ0, ρ, lo, env, m, ds, m1, a, hr, (hlen hr).trans hl, hne, fun cls d H' ρ' lo' s l p => q σ cls d H' ρ' (ret_x s.st p)⟩
    · rw [if_neg hz] at q
      simp only [Res.bind_bad] at q
      exact q.elim
theorem sx_of {er : E} (hv : ∀ i, er ≠ .v i) {D : Ends} {σ : L2.St} {H : Hp} {Q : VK} (h : tX X.K F W WW (.ret er) D σ H) : tR X.K F er WW σ H Q := by
  obtain ⟨av, H0, ρ0, ρ, lo, env, m, a, q⟩ := h
  have e0 : evalS F W (.ret er) env m = match evalE F er env m with
      | .ok x m1 => match x.2 with | .sh => SR.ret x.1 false m1 | .fr => .ret x.1 true m1 | _ => .bad
      | .bad => .bad := by
    cases er <;> first | rfl | exact absurd rfl (hv _)
  rw [e0] at q
  cases hr : evalE F er env m with
  | bad => rw [hr] at q; exact q.elim
  | ok x m1 =>
    rw [hr] at q
    obtain ⟨d, md⟩ := x
    cases md <;> first | (exact q.elim) | skip
    all_goals
      obtain ⟨C', vs, hp, q⟩ := q
      exact ⟨av, H0, ρ0, ρ, lo, env, m, _, C', vs, m1, a, hr, hp, fun cls d H' ρ' lo' s l p => q σ cls d H' ρ' (ret_x s.st p)⟩
theorem sx_ret {y : Expr} {er : E} (hv : ∀ i, er ≠ .v i) (tk : Takes X WW) (h : PR X F y er) : PS X (.Return (some y) pos) (tX X.K F W WW (.ret er)) := PS.imp (ps_ret (h WW tk)) fun E σ H q => sx_of hv q
theorem sx_ex {y : Expr} {er : E} (hv : ∀ i, er ≠ .v i) (tk : Takes X WW) (h : PR X F y er) (hs : swapsWith y none pos.line X.env = pure false) : PS X (.Expr y pos) (tX X.K F W WW (.ret er)) := PS.imp (ps_expr (h WW tk) hs) fun E σ H q => sx_of hv q
theorem sx_set {y : Expr} {er : E} {i : Nat} {x : Str} {pos' : Pos} (hv : ∀ i, er ≠ .v i) (tk : Takes X WW) (h : PR X F y er) (hN : X.N.Nodup) (hi : X.N[i]? = some x) (hx : Loc X.env.scope x) (hf : X.fn x = true ∨ X.env.scope.names.lookup x = some .local) (hs : swapsWith y (some (.Name x pos')) pos.line X.env = pure false) :
    PS X (.Assign [.Name x pos'] y pos) (tX X.K F W WW (.ret er)) := PS.imp (ps_set hN hi hx (h WW tk) hs hf) fun E σ H q => sx_of hv q
end
theorem body_okX {X : Cx} {FT : Nat → Option FD} {W n f : Nat} {fd : FD} {N : List Str} {body : List Stmt} {vs : List V} {H : Hp} {Q : VK} {E : XK} (hf : FT f = some fd) (hN : N.length = fd.nl) (hnp : fd.np ≤ fd.nl)
    (hb : PSs X body (tXs X.K (callF FT W n) W (fun cls d _ H => E cls d H) fd.body)) (h : spX X.K (callF FT W (n + 1)) f vs H Q E) : ∃ t, PSs X body t ∧ t { nx := fun _ H' => Q .non H', rt := Q } (L2.start N vs) H := by
  refine ⟨_, hb, ?_⟩
  obtain ⟨av, ρ, as, m, d, fresh, C, ds, m', p, r, e, hp, q⟩ := h
  simp only [callF, hf] at e
  split at e
  · rename_i hl
    have a0 := at_start (N := N) (fd := fd) p r hN (by omega)
    refine ⟨av, H, ρ, ρ, _, startEnv fd as, m, a0, ?_⟩
    cases hr : evalSs (callF FT W n) W fd.body (startEnv fd as) m with
    | nx e1 m1 =>
      rw [hr] at e
      cases e
      cases hp
    | ret d' f' m1 =>
      rw [hr] at e
      cases e
      exact ⟨C, ds, hp, fun σ' cls dd H' ρ' rt => q cls dd H' ρ' rt⟩
    | brk e1 m1 => rw [hr] at e; cases e
    | cnt e1 m1 => rw [hr] at e; cases e
    | bad => rw [hr] at e; cases e
  · cases e
theorem spX_len {K : PySem.W.Frag} {FT : Nat → Option FD} {W n f : Nat} {fd : FD} {ps : List Str} {vs : List V} {H : Hp} {Q : VK} {E : XK} (hf : FT f = some fd) (hp : ps.length = fd.np) (h : spX K (callF FT W n) f vs H Q E) : vs.length = ps.length := by
  obtain ⟨av, ρ, as, m, d, fresh, C, ds, m', p, r, e, _, q⟩ := h
  cases n with
  | zero => cases e
  | succ n =>
    simp only [callF, hf] at e
    split at e
    · rename_i hl
      rw [← Paired.length r, hl, hp]
    · cases e
end MP
namespace MP
open PySem PySem.Spec PyProof.Rows L2
section
variable {X : Cx} {pins : List (Addr × Obj)} {σ : L2.St} {H : Hp} {s : Shared}
theorem exod_ok {P : Program} {w : World} {H : Hp} {h : Heap} {a dx : Addr} {cls : Value} {oe : Obj} {vs : Array Value} (e : h.get? a = some oe) (h1 : oe.cls = cls) (h2 : oe.dict = some dx) (h3 : oe.data = .fields vs) : ObjOk P w H h a (ExOd cls dx a) :=
  ⟨⟨oe, vs, e, h1, h2, h3⟩, ⟨oe, e⟩, fun h1 h2 ⟨o, v, e, q⟩ k => ⟨o, v, k _ e, q⟩⟩
end
section
variable {X : Cx} {body : List Stmt} {h₀ : ExceptHandler} {hds : List ExceptHandler} {l : List (Value × Nat × (Addr → Value → Option Addr → TS))} {pos : Pos} {tb : WX → TS} {Wout : WX}
end
end MP
namespace MP
open PySem PySem.Spec PyProof.Rows L2
section
variable {K : PySem.W.Frag} {av : Addr → Prop} {H0 H H1 H2 H' : Hp} {ρ0 ρ ρ1 ρ2 ρ' : List CA} {σ : L2.St} {env : MP.Env} {lo lo1 lo2 lo' : Lo} {m m1 m2 m' : MH} {C : Str} {vs : List D} {cls : Value} {d : Option Addr}
theorem At.loose (a : At K av H0 ρ0 ρ lo σ H env m) {i : Nat} (hu : env[i]? = some .un) (v : Option V) : At K av H0 ρ0 ρ lo (σ.set i v) H env m := by
  refine ⟨⟨by rw [List.length_set]; exact a.st.len, fun j s e => ?_, a.st.inj, a.st.loF, a.st.fnd, a.st.fav, a.st.avd, a.st.ml, a.st.cells, a.st.ext, a.st.keep⟩, a.hl, a.far⟩
  by_cases z : j = i
  · subst z
    rw [hu] at e
    cases e
    exact a.st.slot j .un hu
  · rw [List.getElem?_set_ne (Ne.symm z)]
    exact a.st.slot j s e
theorem SStep.loose {env' : MP.Env} {σ' : L2.St} (s : SStep K av H0 ρ0 env ρ lo H ρ' lo' σ' H' env' m') {i : Nat} (hu : env'[i]? = some .un) (v : Option V) : SStep K av H0 ρ0 env ρ lo H ρ' lo' (σ'.set i v) H' env' m' :=
  ⟨s.at'.loose hu v, s.len, s.st, s.ha, s.he, s.avk, s.dom⟩
theorem At.exc (a : At K av H0 ρ0 ρ lo σ H env m) {p : Addr} (hp : H p = none) (pay : PayOk K H (aA av ρ lo) ρ C vs cls d) {dx : Addr} (ed : d = some dx) :
    Step K av H0 ρ0 σ env ρ lo H (ρ ++ [⟨p, [], true⟩]) lo (upd H p (ExOd cls dx p)) (m ++ [.exc C vs]) := by
  have s := a.st
  have k : ∀ b u, H b = some u → upd H p (ExOd cls dx p) b = some u := fun b u e => by rw [upd_ne (ne_of_none e hp)]; exact e
  have s' := s.grow k
  have ft : foot (ρ ++ [⟨p, [], true⟩]) = foot ρ := by simp [foot, CA.ft]
  have he : ∀ (n : Nat) (c : CA), ρ[n]? = some c → ∃ c', (ρ ++ [⟨p, [], true⟩])[n]? = some c' ∧ c'.a = c.a := fun n c e => ⟨c, by rw [List.getElem?_append_left (List.getElem?_eq_some_iff.mp e).1]; exact e, rfl⟩
  have hA : ∀ b, aA av (ρ ++ [⟨p, [], true⟩]) lo b → aA av ρ lo b ∨ H b = none := fun b z => by
    unfold aA at z
    rw [ft] at z
    exact .inl z
  refine ⟨⟨s.len, fun j z e => (s.slot j z e).mono (Stays.of k) hA he (fun q o _ e => k q o e) rfl, s.inj, fun j q e => ?_, by rw [ft]; exact s.fnd, fun q hq => ?_, s.avd, by simp [s.ml], fun n c z e1 e2 => ?_, ?_, s'.keep⟩, fun _ _ => rfl, fun q e => (by rw [a.hl] at e; cases e), ⟨fun b u e _ => k b u e, dom_of k⟩, ⟨by simp, he, fun q hq => ?_, fun n c0 c e0 e => ?_⟩⟩
  · obtain ⟨g1, g2, g3, g4, g5⟩ := s'.loF j q e
    exact ⟨g1, by rw [ft]; exact g2, g3, g4, g5⟩
  · rw [ft] at hq
    exact s'.fav q hq
  · by_cases hn : n < ρ.length
    · rw [List.getElem?_append_left hn] at e1
      rw [List.getElem?_append_left (by rw [s.ml]; exact hn)] at e2
      exact (s.cells n c z e1 e2).mono (Stays.of k) hA he fun o e => k _ o e
    · have hn' : n = ρ.length := by
        have := (List.getElem?_eq_some_iff.mp e1).1
        simp at this
        omega
      subst hn'
      rw [List.getElem?_append_right (Nat.le_refl _), Nat.sub_self] at e1
      rw [← s.ml, List.getElem?_append_right (Nat.le_refl _), Nat.sub_self] at e2
      cases e1
      cases e2
      have np : ∀ b, (b = p ∨ ¬ aA av ρ lo b) → ¬ aA av (ρ ++ [⟨p, [], true⟩]) lo b := fun b hb z => by
        unfold aA at z
        rw [ft] at z
        rcases hb with hb | hb
        · exact s.new hp (hb ▸ z)
        · exact hb z
      obtain ⟨Ca, dx', fs, ws, h1, h2, h3, h4, h5, h6, h7⟩ := pay.ex
      rw [ed] at h3
      cases h3
      subst h2
      refine ⟨⟨rfl, np p (.inl rfl)⟩, Ca, dx, fs, ws, h1, np dx (.inr h4), upd_same, k _ _ h5, h6.mono (Stays.of k) hA he, h7⟩
  · refine ⟨by have := s.ext.le; simp; omega, fun n c0 e => ?_, fun q hq => ?_, fun n c0 c e0 e => ?_⟩
    · obtain ⟨c, e1, q1⟩ := s.ext.same n c0 e
      obtain ⟨c', e2, q2⟩ := he n c e1
      exact ⟨c', e2, q2.trans q1⟩
    · rw [ft] at hq
      exact s.ext.new q hq
    · rw [List.getElem?_append_left (List.getElem?_eq_some_iff.mp (s.ext.same n c0 e0).choose_spec.1).1] at e
      exact s.ext.sub n c0 c e0 e
  · rw [ft] at hq
    exact .inl hq
  · rw [List.getElem?_append_left (List.getElem?_eq_some_iff.mp e0).1, e0] at e
    cases e; rfl
end
structure XfK (K : PySem.W.Frag) (C : Str) : Prop where
  ex : ∀ Ca, PySem.W.nsIn K mainGlobals C = some (some (.ref Ca)) → XfC K Ca ∧ ∀ f ∈ xfl C, PySem.W.findIn K (.ref Ca) f = some none
section
variable {X : Cx} {a : Addr} {oe : Obj} {cls : Value} {d : Option Addr} {pn : List (Addr × Obj)} {C : Str} {i : Nat} {e : Expr} {es : List Expr} {p : PX} {pps : List PX} {pos : Pos}
end
section
variable {X : Cx} {a : Addr} {oe : Obj} {cls : Value} {d : Option Addr} {pn : List (Addr × Obj)} {C : Str} {i j : Nat} {e : Expr} {p : PX} {pos px : Pos} {x n : Str}
end
end MP
namespace MP
open PySem PySem.Spec PyProof.Rows L2
section
variable {X : Cx} {i : Nat}
variable {F : CallF} {W : Nat} {body : List Stmt} {h₀ : ExceptHandler} {hds : List ExceptHandler} {hs : List (Str × XS)} {b : List S} {er : E} {pos : Pos}
end
end MP
namespace MP
open PySem PySem.Spec L2
section
variable {K : PySem.W.Frag} {H : Hp} {A A' : Addr → Prop} {ρ ρ' : List CA} {p : Addr} {us : List V}
theorem apL_no {Hx : Hp} {Ax : Addr → Prop} {ρx : List CA} {xs ds : List D} (z : apL xs ds = true) (rx : RelDs K Hx Ax ρx xs us) (r : RelDs K H A ρ ds us) : False := by
  have l1 := rx.length
  have l2 := r.length
  unfold apL at z
  rw [Bool.or_eq_true] at z
  rcases z with z | z
  · rw [bne_iff_ne] at z
    exact z (by omega)
  · split at z <;> first | (cases z; done) | skip
    obtain ⟨v, w, e, h1, _⟩ := rx
    obtain ⟨v2, w2, e2, h2, _⟩ := r
    rw [e] at e2
    cases e2
    obtain ⟨a, ys, e3, _⟩ := h1
    rw [e3] at h2
    cases h2
variable {Hx : Hp} {Ax : Addr → Prop} {ρx : List CA} {xs : List D}
mutual
theorem RelD.noL (rx : RelDs K Hx Ax ρx xs us) (hA : ∀ b, A' b → A b ∨ b = p) (hp : H p = some (.lst us)) (he : ∀ (n : Nat) (c : CA), ρ[n]? = some c → ∃ c', ρ'[n]? = some c' ∧ c'.a = c.a) : ∀ (d : D) (v : V), MP.noL xs d = true → RelD K H A ρ d v → RelD K H A' ρ' d v
  | .non, v, _, h => h
  | .bl _, v, _, h => h
  | .int _, v, _, h => h
  | .str _, v, _, h => h
  | .tup ds, v, z, h => by obtain ⟨a, ws, e, h1, h2⟩ := h; exact ⟨a, ws, e, h1, RelDs.noL rx hA hp he ds ws z h2⟩
  | .lst ds, v, z, h => by
    simp only [MP.noL, Bool.and_eq_true] at z
    obtain ⟨a, ws, e, h1, n, h2⟩ := h
    refine ⟨a, ws, e, h1, fun y => (hA a y).elim n fun q => ?_, RelDs.noL rx hA hp he ds ws z.2 h2⟩
    rw [q, hp] at h1
    cases h1
    exact apL_no z.1 rx h2
  | .dK kvs, v, z, h => by
    obtain ⟨a, ws, e, h1, n, h2⟩ := h
    refine ⟨a, ws, e, h1, fun y => (hA a y).elim n fun q => ?_, RelK.noL rx hA hp he kvs ws z h2⟩
    rw [q] at h1
    rcases h1 with h1 | ⟨_, h1⟩ <;> (rw [hp] at h1; cases h1)
  | .dT kvs, v, z, h => by
    obtain ⟨a, ws, e, h1, n, h2⟩ := h
    refine ⟨a, ws, e, h1, fun y => (hA a y).elim n fun q => ?_, RelT.noL rx hA hp he kvs ws z h2⟩
    rw [q] at h1
    rcases h1 with h1 | ⟨_, h1⟩ <;> (rw [hp] at h1; cases h1)
  | .obj n, v, _, h => by
    obtain ⟨c, e, r⟩ := h
    obtain ⟨c', e', q⟩ := he n c e
    exact ⟨c', e', by rw [q]; exact r⟩
  | .scr ns, v, z, h => nomatch z
theorem RelDs.noL (rx : RelDs K Hx Ax ρx xs us) (hA : ∀ b, A' b → A b ∨ b = p) (hp : H p = some (.lst us)) (he : ∀ (n : Nat) (c : CA), ρ[n]? = some c → ∃ c', ρ'[n]? = some c' ∧ c'.a = c.a) : ∀ (ds : List D) (vs : List V), noLs xs ds = true → RelDs K H A ρ ds vs → RelDs K H A' ρ' ds vs
  | [], _, _, h => h
  | d :: ds, _, z, h => by
    simp only [noLs, Bool.and_eq_true] at z
    obtain ⟨v, r, e, h1, h2⟩ := h; exact ⟨v, r, e, RelD.noL rx hA hp he d v z.1 h1, RelDs.noL rx hA hp he ds r z.2 h2⟩
theorem RelK.noL (rx : RelDs K Hx Ax ρx xs us) (hA : ∀ b, A' b → A b ∨ b = p) (hp : H p = some (.lst us)) (he : ∀ (n : Nat) (c : CA), ρ[n]? = some c → ∃ c', ρ'[n]? = some c' ∧ c'.a = c.a) : ∀ (ds : List (Key × D)) (vs : List (Key × V)), noLK xs ds = true → RelK K H A ρ ds vs → RelK K H A' ρ' ds vs
  | [], _, _, h => h
  | (k, d) :: ds, _, z, h => by
    simp only [noLK, Bool.and_eq_true] at z
    obtain ⟨v, r, e, h1, h2⟩ := h; exact ⟨v, r, e, RelD.noL rx hA hp he d v z.1 h1, RelK.noL rx hA hp he ds r z.2 h2⟩
theorem RelT.noL (rx : RelDs K Hx Ax ρx xs us) (hA : ∀ b, A' b → A b ∨ b = p) (hp : H p = some (.lst us)) (he : ∀ (n : Nat) (c : CA), ρ[n]? = some c → ∃ c', ρ'[n]? = some c' ∧ c'.a = c.a) : ∀ (ds : List (List Key × D)) (vs : List (List Key × V)), noLT xs ds = true → RelT K H A ρ ds vs → RelT K H A' ρ' ds vs
  | [], _, _, h => h
  | (k, d) :: ds, _, z, h => by
    simp only [noLT, Bool.and_eq_true] at z
    obtain ⟨v, r, e, h1, h2⟩ := h; exact ⟨v, r, e, RelD.noL rx hA hp he d v z.1 h1, RelT.noL rx hA hp he ds r z.2 h2⟩
end
theorem RelF.noL (rx : RelDs K Hx Ax ρx xs us) (hA : ∀ b, A' b → A b ∨ b = p) (hp : H p = some (.lst us)) (he : ∀ (n : Nat) (c : CA), ρ[n]? = some c → ∃ c', ρ'[n]? = some c' ∧ c'.a = c.a) : ∀ {fs : List (Str × D)} {ws : List (Str × V)}, (fs.all fun p => MP.noL xs p.2) = true → RelF K H A ρ fs ws → RelF K H A' ρ' fs ws
  | _, _, _, .nil => .nil
  | _, _, z, .cons h t => by
    simp only [List.all_cons, Bool.and_eq_true] at z
    exact .cons ⟨h.1, RelD.noL rx hA hp he _ _ z.1 h.2⟩ (RelF.noL rx hA hp he z.2 t)
theorem CellOk.noL (rx : RelDs K Hx Ax ρx xs us) (hA : ∀ b, A' b → A b ∨ b = p) (hp : H p = some (.lst us)) (he : ∀ (n : Nat) (c : CA), ρ[n]? = some c → ∃ c', ρ'[n]? = some c' ∧ c'.a = c.a) {c : CA} (hc : c.dead = true → c.a ≠ p) : ∀ {x : Cell}, celL xs x = true → CellOk K H A ρ c x → CellOk K H A' ρ' c x
  | .lst ds, z, h => let ⟨e, ws, e2, r⟩ := h; ⟨e, ws, e2, RelDs.noL rx hA hp he _ _ z r⟩
  | .dK ds, z, h => let ⟨e, ws, e2, r⟩ := h; ⟨e, ws, e2, RelK.noL rx hA hp he _ _ z r⟩
  | .dT ds, z, h => let ⟨e, ws, e2, r⟩ := h; ⟨e, ws, e2, RelT.noL rx hA hp he _ _ z r⟩
  | .ins x fs, z, h => let ⟨C, dx, ws, e, e2, e3, r⟩ := h; ⟨C, dx, ws, e, e2, e3, RelF.noL rx hA hp he z r⟩
  | .exc C vs, z, h => by
    obtain ⟨⟨e, n⟩, Ca, dx, fs, ws, h1, h2, h3, h4, h5, h6⟩ := h
    refine ⟨⟨e, fun y => (hA _ y).elim n (hc e)⟩, Ca, dx, fs, ws, h1, fun y => (hA _ y).elim h2 fun q => ?_, h3, h4, RelDs.noL rx hA hp he _ _ z h5, h6⟩
    rw [q, hp] at h4
    cases h4
  | .gone, z, h => let ⟨⟨e, n⟩, w⟩ := h; ⟨⟨e, fun y => (hA _ y).elim n (hc e)⟩, w⟩
end
section
variable {K : PySem.W.Frag} {av : Addr → Prop} {H0 H H1 H2 H' : Hp} {ρ0 ρ ρ1 ρ2 ρ' : List CA} {σ : L2.St} {env : MP.Env} {lo lo1 lo2 lo' : Lo} {m m1 m2 m' : MH} {n : Nat} {c : CA} {xs : List D} {us : List V}
end
section
variable {X : Cx} {F : CallF} {elt tg iter : Expr} {ifs : List Expr} {scope : Scope} {own : List (Str × Nat)} {pos : Pos} {t : T} {ea : E} {eifs : List E} {eelt : E}
end
section
variable {X : Cx} {F : CallF} {W : Nat} {pos : Pos}
end
end MP
namespace MP
open PySem PySem.Spec PyProof.Rows L2
def EqC (K : PySem.W.Frag) (C f : Addr) : Prop := ∃ (nm q : Str) (N : Addr) (bs : List Value) (hdct : Bool) (sn : List Str) (sub : List Value) (ab : Bool) (col : Option Bool) (dd : Option Addr) (k0 k1 k2 k3 k5 : Option Value) (newId : String),
  List.lookup C K = some (excClassObj nm q C N bs [.type "object"] hdct sn sub ab col dd k0 k1 k2 k3 k5 newId) ∧ PySem.W.nsOkIn K N = true ∧ PySem.W.nsIn K N "__eq__" = some (some (.ref f)) ∧ PySem.W.nsIn K N "__ne__" = some none ∧ PySem.W.typeIn K (.ref f) = some (.type "function")
theorem typeIn_at {K : PySem.W.Frag} {h : Heap} {f : Addr} {v : Value} (X : K.In h) (e : PySem.W.typeIn K (.ref f) = some v) : ∃ o, h.get? f = some o ∧ o.cls = v := by
  unfold PySem.W.typeIn at e
  obtain ⟨o, h1, h2⟩ := Option.map_eq_some_iff.mp e
  exact ⟨o, X _ _ h1, h2⟩
theorem ns_some_of {K : PySem.W.Frag} {h : Heap} {N : Addr} {mg : Str → Option Value} {n : Str} {v : Value} (X : K.In h) (G : h.Ns N mg) (e : PySem.W.nsIn K N n = some (some v)) : mg n = some v := by
  obtain ⟨o, es, ep, ho, hd, _, hf⟩ := G
  unfold PySem.W.nsIn at e
  split at e
  · rename_i c d es' n' sl q
    have := X _ _ q
    rw [ho] at this
    cases this
    cases hd
    split at e
    · rename_i en he
      cases e
      rw [← hf]
      unfold nsFind findBy
      rw [← Array.find?_toList, he]
      rfl
    · split at e <;> cases e
  · cases e
theorem EqC.own {K : PySem.W.Frag} {h : Heap} {x dx C f : Addr} {mA : Str → Option Value} (T : EqC K C f) (X : K.In h) (O : ObjM h x dx C mA) : h.OwnEqNoNe x C f "object" [.type "object"] := by
  obtain ⟨nm, q, N, bs, hdct, sn, sub, ab, col, dd, k0, k1, k2, k3, k5, newId, h1, h2, h3, h4, h5⟩ := T
  obtain ⟨of, ho, hc⟩ := typeIn_at X h5
  have G : h.Ns N (h.nsMap N) := .of_isNs (PySem.W.isNs_of_in X h2)
  exact ⟨_, of, nm, q, N, bs, hdct, sn, sub, ab, col, dd, k0, k1, k2, k3, k5, newId, h.nsMap N, _, O.obj, rfl, X _ _ h1, G, ns_some_of X G h3, ho, hc, F.cmp_object.mro, F.cmp_object.eq.lookup, PySem.W.ns_none_of X G h4⟩
section
variable {X : Cx} {k : Nat} {f C : Addr} {fd : FuncData} {ps : List Str} {sp : SpG}
def rEqI (ne : Bool) (C : Addr) (sp : SpG) : R2 := fun x y H Q => ∃ a b dx fs db gs, x = .ref a ∧ y = .ref b ∧ H a = some (.ins C dx fs) ∧ H b = some (.ins C db gs) ∧ sp [x, y] H fun v H1 => ∃ t, v = .bl t ∧ Q (.bl (ne != t)) H1
end
section
variable {X : Cx} {F : CallF} {W k : Nat} {fa C : Addr} {fd : FuncData} {ps : List Str} {f : Nat} {y : Str} {a b : Expr} {ea eb : E} {p p2 pos : Pos} {ne : Bool}
theorem s_isC (ck : ClsK X.K y C) (ci : C8.InsC X.K C) (hg : Gl X "isinstance") (hm : X.mg "isinstance" = none) (hgc : Gl X y) (hmc : X.mg y = some (.ref C)) (hd : (y == ("__debug__" : Str)) = false) (hn : NoStar a) (ha : PE X a (tE X.K F ea)) :
    PE X (.Call (.Name "isinstance" p) [a, .Name y p2] [] pos) (tE X.K F (.isC y ea)) := by
  have hs : starEach [a, .Name y p2] X.env = (false, eval a X.env) :: starEach [.Name y p2] X.env := star_ok hn
  refine PE.imp (pe_callB (C8.call_isC ci) hg hm PyProof.Rows.boot_isinstance (pa_cons ha (pa_cons (C8.pe_gc (v := .ref C) hgc ⟨_, hmc, rfl⟩ hd) pa_nil) hs) (by decide) (by decide) hs rfl) fun σ H Q h => ?_
  obtain ⟨av, H0, ρ0, ρ, lo, env, m, x, m', at_, he, q⟩ := h
  simp only [evalE] at he
  obtain ⟨xa, m1, h1, he⟩ := bind_ok he
  obtain ⟨d, h3, rfl, rfl⟩ := optB_ok he
  unfold isCD at h3
  split at h3 <;> first | (cases h3; done) | skip
  rename_i n hx
  split at h3 <;> first | (cases h3; done) | skip
  rename_i z fs hm1
  split at h3 <;> first | (cases h3; done) | skip
  rename_i hz
  cases h3
  subst hz
  refine run_pk at_ h1 fun v H1 ρ1 lo1 s1 a1 p1 => ?_
  rw [hx] at p1
  obtain ⟨c1, hc1, rfl⟩ := p1.obj
  obtain ⟨C1, dx1, ws1, g1, g2, g3, g4⟩ := a1.st.cells n c1 _ hc1 hm1
  cases ck.uniq g1
  exact ⟨_, dx1, ws1, rfl, g3, (fin (d := .bl true) s1 a1 q).bl⟩
end
end MP
namespace MP
open PySem PySem.Spec PyProof.Rows L2
theorem pe_fX {X : Cx} {e : Expr} {te : TE} {pos : Pos} {n : Str} (he : PE X e te) (hb : attributeBase e n X.env (eval e X.env) = eval e X.env := by rfl) :
    PE X (.Attribute e n pos) (fun σ H Q => te σ H fun x H1 => ∃ C a d fs v, XfC X.K C ∧ PySem.W.findIn X.K (.ref C) n = some none ∧ x = .ref a ∧ H1 a = some (ExOd (.ref C) d a) ∧ H1 d = some (.xd fs) ∧ fs.lookup n = some v ∧ Q v H1) := by
  refine ⟨fun pins s σ H Q I h => ?_⟩
  refine attr_of hb (thn (he.run pins s σ H _ I h) fun u s1 hh => ?_)
  obtain ⟨x, H1, I1, rx, C, a, dd, fs, v, T, hno, ex, e1, ea, l, q⟩ := hh
  subst ex
  obtain rfl : u = Value.ref a := rx
  have hp : ObjOk X.prog X.w H1 s1.heap a (ExOd (.ref C) dd a) := I1.hok a _ e1
  obtain ⟨oe, vs, ha, hc, hdt, hd⟩ := (show ∃ (oe : Obj) (vs : Array Value), s1.heap.get? a = some oe ∧ oe.cls = .ref C ∧ oe.dict = some dd ∧ oe.data = .fields vs from hp.1)
  have hx : ObjOk X.prog X.w H1 s1.heap dd (.xd fs) := I1.hok dd _ ea
  obtain ⟨mA, hns, hr⟩ := hx
  obtain ⟨od, ho, hl⟩ := lookIn_ns hns
  obtain ⟨u, hu, ru⟩ := RelO.some_of (v := v) (o := mA n) (by rw [← l]; exact hr n)
  have J : PySem.W.InstAt s1.heap a oe C (some od) := ⟨ha, hc, by unfold PySem.W.notCls; rw [hd] <;> rfl, by rw [hdt]; exact ho⟩
  exact HandSPX.exc_get I1.kIn J T.ga T.gg T.exC (PySem.W.findObj_own T.hdC hno rfl (by rw [hl, hu])) (handed_of ru) ⟨v, H1, I1.tok _, ru, q⟩
end MP
namespace MP
open PySem PySem.Spec PyProof.Rows L2
section
variable {X : Cx} {F : CallF} {e : Expr} {ee : E} {f : Str} {pos : Pos}
theorem zip_at : ∀ (fs : List Str) (vs : List D) (f : Str) (d : D), (fs.zip vs).lookup f = some d → ∃ k : Nat, fs[k]? = some f ∧ vs[k]? = some d
  | [], _, f, d, h => by cases h
  | _ :: _, [], f, d, h => by cases h
  | g :: fs, v :: vs, f, d, h => by
    simp only [List.zip_cons_cons, List.lookup_cons] at h
    split at h
    · rename_i e
      cases h
      exact ⟨0, by rw [eq_of_beq e]; rfl, rfl⟩
    · obtain ⟨k, h1, h2⟩ := zip_at fs vs f d h
      exact ⟨k + 1, h1, h2⟩
def XfAll (K : PySem.W.Frag) (f : Str) : Prop := ∀ C Ca, PySem.W.nsIn K mainGlobals C = some (some (.ref Ca)) → f ∈ xfl C → XfC K Ca ∧ PySem.W.findIn K (.ref Ca) f = some none
theorem s_fldX (T : XfAll X.K f) (he : PE X e (tE X.K F ee)) (hb : attributeBase e f X.env (eval e X.env) = eval e X.env) : PE X (.Attribute e f pos) (tE X.K F (.fldX f ee)) := PE.imp (pe_fX he hb) fun σ H Q h => by
  obtain ⟨av, H0, ρ0, ρ, lo, env, m, r, m', a, he, q⟩ := h
  simp only [evalE] at he
  obtain ⟨xa, m1, h1, he⟩ := bind_ok he
  split at he <;> first | (cases he; done) | skip
  rename_i d hd
  cases he
  unfold fieldX at hd
  split at hd <;> first | (cases hd; done) | skip
  rename_i n hx
  split at hd <;> first | (cases hd; done) | skip
  rename_i C vs hm
  obtain ⟨k, hk, hv⟩ := zip_at _ _ _ _ hd
  refine run_pk a h1 fun v H1 ρ1 lo1 s1 a1 p1 => ?_
  rw [hx] at p1
  obtain ⟨c, hc, rfl⟩ := p1.obj
  obtain ⟨hd1, Ca, dx, fs, ws, g1, g2, g3, g4, g5, g6⟩ := a1.st.cells n c _ hc hm
  obtain ⟨T1, T2⟩ := T C Ca g1 (List.mem_of_getElem? hk)
  obtain ⟨w, hw, rw_⟩ := g5.get hv
  exact ⟨Ca, c.a, dx, fs, w, T1, T2, rfl, g3, g4, g6 k f w hk hw, q w H1 ρ1 lo1 s1 rw_⟩
end
end MP
namespace MP
open PySem PySem.Spec PyProof.Rows L2
structure XisC (K : PySem.W.Frag) (h : Str) (v : Value) : Prop where
  xc : ∀ C Ca, xfl C ≠ [] → PySem.W.nsIn K mainGlobals C = some (some (.ref Ca)) → ExcC K Ca ∧ PySem.W.kitOne K (.ref Ca) v = some (subX C h)
  ty : ∀ k : Kd, PySem.W.kitOne K (.type (kdN k)) v = some false
theorem tyD_kd (d : D) (hd : isD [] d ≠ none) : tyD d = kdN (kdOf d) := by
  cases d <;> first | exact absurd rfl hd | rfl
section
variable {X : Cx} {F : CallF} {a : Expr} {ea : E} {y : Str} {v : Value} {p p2 pos : Pos}
theorem call_isX (T : XisC X.K y v) {c : V} (hc : ∀ u, RelV c u → u = v) : CallR X (.builtin "isinstance") (fun vs H Q => ∃ x b, vs = [x, c] ∧ Q (.bl b) H ∧
    ((∃ A ρ d, Pk X.K H A ρ d x ∧ isD [] d ≠ none ∧ b = false) ∨ ∃ C Ca e dd fs, x = .ref e ∧ xfl C ≠ [] ∧ PySem.W.nsIn X.K mainGlobals C = some (some (.ref Ca)) ∧ H e = some (ExOd (.ref Ca) dd e) ∧ H dd = some (.xd fs) ∧ b = subX C y)) := by
  intro pins s σ H vs us Q I r h
  obtain ⟨x, b, rfl, q, h⟩ := h
  obtain ⟨u1, u2, rfl, r1, r2⟩ := vals2 r
  cases hc _ r2
  rcases h with ⟨A, ρ, d, px, hd, rfl⟩ | ⟨C, Ca, e, dd, fs, rfl, hx, hn, e1, e2, rfl⟩
  · obtain ⟨t, ht⟩ := Option.ne_none_iff_exists'.mp hd
    obtain ⟨P, Z, hp, hz⟩ := kit_D I r1 px ht
    exact PySem.W.kia_one Z I.kIn hp (by rw [tyD_kd d hd]; exact T.ty _) hz fun tk => ⟨.bl _, H, I.tok tk, rfl, q⟩
  · obtain rfl : u1 = Value.ref e := r1
    obtain ⟨E, hk⟩ := T.xc C Ca hx hn
    have hp : ObjOk X.prog X.w H s.heap e (ExOd (.ref Ca) dd e) := I.hok e _ e1
    obtain ⟨oe, ws, ha, hcl, hdt, hdd⟩ := (show ∃ (oe : Obj) (vs : Array Value), s.heap.get? e = some oe ∧ oe.cls = .ref Ca ∧ oe.dict = some dd ∧ oe.data = .fields vs from hp.1)
    have hxd : ObjOk X.prog X.w H s.heap dd (.xd fs) := I.hok dd _ e2
    obtain ⟨mA, hns, hr⟩ := hxd
    obtain ⟨od, ho, hl⟩ := lookIn_ns hns
    have J : PySem.W.InstAt s.heap e oe Ca (some od) := ⟨ha, hcl, by unfold PySem.W.notCls; rw [hdd] <;> rfl, by rw [hdt]; exact ho⟩
    exact PySem.W.kia_one (PySem.W.kitx_exc (by obtain ⟨cd, hc', _⟩ := PySem.W.any_some E.hd; rw [hc'] <;> rfl) E.hg E.hk E.hs E.ha E.hn E.ht E.hm) I.kIn J hk (fun z => nomatch z) fun tk => ⟨.bl _, H, I.tok tk, rfl, q⟩
theorem s_isX {cv : Value} (T : XisC X.K y cv) {c : V} (hc : ∀ u, RelV c u → u = cv) (hg : Gl X "isinstance") (hm : X.mg "isinstance" = none) (hp : PE X (.Name y p2) (tC c)) (hn : NoStar a) (ha : PE X a (tE X.K F ea)) :
    PE X (.Call (.Name "isinstance" p) [a, .Name y p2] [] pos) (tE X.K F (.isX y ea)) := by
  have hs : starEach [a, .Name y p2] X.env = (false, eval a X.env) :: starEach [.Name y p2] X.env := star_ok hn
  refine PE.imp (pe_callB (call_isX T hc) hg hm PyProof.Rows.boot_isinstance (pa_cons ha (pa_cons hp pa_nil) hs) (by decide) (by decide) hs rfl) fun σ H Q h => ?_
  obtain ⟨av, H0, ρ0, ρ, lo, env, m, x, m', at_, he, q⟩ := h
  simp only [evalE] at he
  obtain ⟨xa, m1, h1, he⟩ := bind_ok he
  obtain ⟨d, h3, rfl, rfl⟩ := optB_ok he
  refine run_pk at_ h1 fun v H1 ρ1 lo1 s1 a1 p1 => ?_
  refine ⟨v, d, rfl, (fin (d := .bl d) s1 a1 q).bl, ?_⟩
  unfold isXD at h3
  split at h3
  · rename_i n hx
    split at h3 <;> first | (cases h3; done) | skip
    rename_i C vs hm1
    split at h3 <;> first | (cases h3; done) | skip
    rename_i hxe
    cases h3
    have hxf : xfl C ≠ [] := fun z => hxe (by rw [z]; rfl)
    rw [hx] at p1
    obtain ⟨c1, hc1, rfl⟩ := p1.obj
    obtain ⟨hd1, Ca, dx, fs, ws, g1, g2, g3, g4, g5, g6⟩ := a1.st.cells n c1 _ hc1 hm1
    exact .inr ⟨C, Ca, c1.a, dx, fs, rfl, hxf, g1, g3, g4, rfl⟩
  · cases h3
  · rename_i n1 n2
    cases h3
    refine .inl ⟨_, _, _, p1, ?_, rfl⟩
    intro z
    cases hx : xa.1 <;> rw [hx] at z <;> first | (cases z; done) | (exact n1 _ hx) | (exact n2 _ hx)
end
end MP
namespace MP
open PySem PySem.Spec PyProof.Rows L2
section
variable {X : Cx} {pins : List (Addr × Obj)} {σ : L2.St} {H : Hp}
theorem Inv.made_exc {s s' : Shared} {a dx : Addr} {oe : Obj} {cls : Value} {vs : Array Value} (I : Inv X pins σ H s) (k : ∀ b o, s.heap.get? b = some o → s'.heap.get? b = some o) (hn : s.heap.get? a = none) (ha : s'.heap.get? a = some oe) (h1 : oe.cls = cls) (h2 : oe.dict = some dx) (h3 : oe.data = .fields vs) (na : H a = none)
    (os : s'.os = s.os) (ag : AllBare s'.gens) : Inv X pins σ (upd H a (ExOd cls dx a)) s' := by
  have J := Inv.laidN (h' := s'.heap) (t' := s'.toks) I k hn na (exod_ok ha h1 h2 h3)
  exact ⟨J.ok, by rw [os]; exact J.os, ag, J.base, J.loc, J.cell, J.free, J.freeC, J.pin, J.hok, J.len⟩
theorem pe_pmk {e : Expr} {t : L2.St → Hp → XK → Prop} (h : PMk X e t) : PE X e (fun σ H Q => t σ H fun cls d H1 => ∃ dx, d = some dx ∧ ∀ a, H1 a = none → Q (.ref a) (upd H1 a (ExOd cls dx a))) := by
  refine ⟨fun pins s σ H Q I hq => ?_⟩
  refine wpAny_mono (h pins s σ H _ I hq) (fun u s1 hu => ?_) fun _ _ x => x
  obtain ⟨a, oe, vs, sI, H', cls, d, rfl, J, k, hne, ha, hz, hd, _, na, os, ag, _, dx, rfl, q⟩ := hu
  exact ⟨.ref a, _, Inv.made_exc J k hne ha hz.1 hz.2 hd na os ag, rfl, q a na⟩
end
section
variable {X : Cx} {F : CallF} {C : Str} {e : Expr} {es : List Expr} {ees : List E} {p pos : Pos}
theorem s_mkX (T : ExcK X C) (hg : Gl X C) (hdb : (C == ("__debug__" : Str)) = false) (hn : ∀ z ∈ e :: es, NoStar z) (ha : PA X (e :: es) (tEs X.K F ees)) :
    PE X (.Call (.Name C p) (e :: es) [] pos) (tE X.K F (.mkX C ees)) := by
  obtain ⟨Ca, fI, k, fd, ps, g1, g2, g3, g4, g5, g6, g7, g8, g9⟩ := T.ex
  refine PE.imp (pe_pmk (pmk_oex (dvs := []) g3 g5 g6 g7 g8 g9 .nil (fun _ _ _ _ _ _ _ h => h.elim) hg g2 ha hdb (star_ok (hn e List.mem_cons_self)) (nost fun x hx => hn x (List.mem_cons_of_mem _ hx)))) fun σ H Q h => ?_
  obtain ⟨av, H0, ρ0, ρ, lo, env, m, r, m', a, he, q⟩ := h
  simp only [evalE] at he
  obtain ⟨ds, m1, h1, he⟩ := bind_ok he
  have hz := bindIf he
  clear he
  obtain ⟨⟨hl, hne⟩, he⟩ := hz
  cases he
  refine ⟨av, H0, ρ0, ρ, lo, env, m, ds, m1, a, h1, fun vs H1 ρ1 lo1 s1 l1 r1 => ?_⟩
  have hlv : vs.length = (xfl C).length := by rw [← hl]; exact r1.length.symm
  have hxn : xfl C ≠ [] := fun z => hne (List.eq_nil_of_length_eq_zero (by rw [hl, z]; rfl))
  refine ⟨by have := xfl_le C; omega, fun b hb => ⟨b, Ca, vs, by rw [List.append_nil], g3, g4, upd_same, hlv, fun dx H2 fs hn hnx ok => ?_⟩⟩
  obtain ⟨o1, o2, o3, o4⟩ := ok
  have hd1 : H1 dx = none := by rw [upd_ne hnx] at hn; exact hn
  refine ⟨rfl, dx, fs, o1, o2, hd1, dx, rfl, fun c hc => ?_⟩
  have eH : upd (del H2 b) dx (.xd fs) = upd H1 dx (.xd fs) := by
    funext c
    by_cases hc : c = dx
    · rw [hc, upd_same, upd_same]
    · rw [upd_ne hc, upd_ne hc]
      by_cases hb' : c = b
      · rw [hb', del_same, hb]
      · rw [del_ne hb', o3 c hb' hc, upd_ne hb']
  rw [eH] at hc ⊢
  have kg : ∀ a o, H1 a = some o → upd H1 dx (.xd fs) a = some o := fun c o e => by rw [upd_ne (ne_of_none e hd1)]; exact e
  have s2 := s1.grown kg
  have a2 := s2.at l1 a
  have pay : PayOk X.K (upd H1 dx (.xd fs)) (aA av ρ1 lo1) ρ1 C ds (.ref Ca) (some dx) := ⟨hxn, hl, Ca, dx, fs, vs, g1, rfl, rfl, s1.st.new hd1, upd_same, r1.mono (Stays.of kg) (fun a z => .inl z) (fun n c e => ⟨c, e, rfl⟩), o4⟩
  have s3 := At.exc a2 hc pay rfl
  refine q (.ref c) _ _ _ (s2.trans s3) ?_
  show RelD X.K (upd (upd H1 dx (.xd fs)) c (ExOd (.ref Ca) dx c)) (aA av (ρ1 ++ [⟨c, [], true⟩]) lo1) (ρ1 ++ [⟨c, [], true⟩]) (.obj m1.length) (.ref c)
  exact ⟨⟨c, [], true⟩, by rw [a2.st.ml]; simp, rfl⟩
end
end MP
namespace MP
open PySem PySem.Spec PyProof.Rows L2
section
variable {X : Cx} {F : CallF} {a b : Expr} {ea eb : E} {pos : Pos} {o : Cm}
end
end MP
set_option maxHeartbeats 4000000
namespace MP
open PySem PySem.Spec L2
structure CC where
  N : List Str
  sc : Scope
  fc : Scope
  nm : Nat → Option Str
  bl : List Str
  cs : List (Str × D) := []
  ats : List (Str × Str) := []
  mes : Str → Str → Option Nat := fun _ _ => none
  mks : Str → Option Nat := fun _ => none
  nmX : Nat → Option Str := fun _ => none
  mesX : Str → Str → Option Nat := fun _ _ => none
  mksX : Str → Option Nat := fun _ => none
  xcs : List Str := []
  xhs : List Str := []
  eqs : List Str := []
  xfs : List Str := []
  xis : List Str := []
def all2 {α β : Type} (f : α → β → Bool) : List α → List β → Bool
  | [], [] => true
  | a :: as, b :: bs => f a b && all2 f as bs
  | _, _ => false
def noStarB : Expr → Bool | .Starred .. => false | _ => true
def noSetB : Expr → Bool | .Set .. => false | _ => true
def noSliceB : Expr → Bool | .Slice .. => false | _ => true
def plainB : Expr → Bool
  | .UnaryOp .Not _ _ => false
  | .BoolOp .. => false
  | .IfExp .. => false
  | .Compare .. => false
  | _ => true
def notIf : Expr → Bool | .IfExp .. => false | _ => true
def visB (sc : Scope) (x : Str) : Bool := match sc.names.lookup x with | some .local => true | some .cell => true | some .free => true | _ => false
def locB (c : CC) (x : Str) : Bool := match c.sc.names.lookup x with | some .local => true | some .cell => decide (c.fc.names.lookup x = some .cell) | _ => false
def relB (scope sc : Scope) : Scope := { scope with names := scope.names.map fun (n, k) => if (k == NameKind.free && sc.kind == .function && sc.names.lookup n == some .cell) then (n, NameKind.cell) else (n, k) }
def CC.blk (c : CC) (scope : Scope) : CC := { c with sc := relB scope c.sc, fc := scope }
def glB (sc : Scope) (x : Str) : Bool := match sc.names.lookup x with | some .globalImplicit => true | _ => false
def isN (N : List Str) (i : Nat) (x : Str) : Bool := match N[i]? with | some y => y == x | none => false
def varB (c : CC) (i : Nat) (x : Str) : Bool := isN c.N i x && visB c.sc x && !(x == ("__debug__" : Str)) && !(x == ("__classdict__" : Str))
def bltB (c : CC) (x y : Str) : Bool := x == y && glB c.sc y && c.bl.contains y
def chkB (f : E → Expr → Bool) (conn : Bool) : E → List Expr → Bool
  | _, [] => false
  | e, [x] => f e x && notIf x
  | e, x :: r => match conn, e with
    | true, .and a b => f a x && notIf x && chkB f conn b r
    | false, .or a b => f a x && notIf x && chkB f conn b r
    | _, _ => false
def chkO (f : E → Expr → Bool) : List E → Option Expr → Bool
  | [], none => true
  | [e], some x => f e x
  | _, _ => false
mutual
def chkG (c : CC) : T → Expr → Bool
  | .nm i, .Name x _ => isN c.N i x && locB c x
  | .tup ts, .Tuple xs _ _ => chkGs c ts xs
  | _, _ => false
def chkGs (c : CC) : List T → List Expr → Bool
  | [], [] => true
  | t :: ts, x :: xs => noStarB x && chkG c t x && chkGs c ts xs
  | _, _ => false
end
def chkI (f : E → Expr → Bool) (c : CC) (tg : Expr) (k : ItK) (its : List E) (iter : Expr) : Bool :=
  match k, its, iter with
  | .plain, [e], x => f e x
  | .rng, [a], .Call (.Name n _) [x] [] _ => bltB c n "range" && noStarB x && f a x
  | .rng, [a, b], .Call (.Name n _) [x, y] [] _ => bltB c n "range" && noStarB x && noStarB y && f a x && f b y
  | .rng, [a, b, d], .Call (.Name n _) [x, y, z] [] _ => bltB c n "range" && noStarB x && noStarB y && noStarB z && f a x && f b y && f d z
  | .enu, [a], .Call (.Name n _) [x] [] _ => bltB c n "enumerate" && noStarB x && f a x
  | .rev, [a], .Call (.Name n _) [x] [] _ => bltB c n "reversed" && noStarB x && f a x
  | .zip false, [a, b], .Call (.Name n _) [x, y] [] _ => bltB c n "zip" && noStarB x && noStarB y && f a x && f b y
  | .zip true, [a, b], .Call (.Name n _) [x, y] [⟨some kn, .Constant (.bool true) _ _, _⟩] _ => bltB c n "zip" && kn == Str.ofString "strict" && noStarB x && noStarB y && f a x && f b y
  | _, _, _ => false
def sameD : D → D → Bool
  | .int i, .int j => i == j
  | .str x, .str y => x == y
  | _, _ => false
def ownP (N : List Str) (own : List Nat) : List (Str × Nat) := own.map fun i => (N.getD i "", i)
def chkL (f : E → Expr → Bool) (es : List E) (xs : List Expr) : Bool := all2 (fun e x => noStarB x && f e x) es xs
def chkT (f : E → Expr → Bool) : List E → List Expr → Bool
  | [], [] => true
  | [d], [q] => f d q && notIf q
  | _, _ => false
def stepE (r : CC → E → Expr → Bool) (c : CC) (e : E) (x : Expr) : Bool :=
  match e with
  | .v i => (match x with
    | .Name n _ => varB c i n
    | _ => false)
  | .c d => (match x with
    | .Constant k _ _ => sameC d k
    | .Name n _ => glB c.sc n && !(n == ("__debug__" : Str)) && (match c.cs.lookup n with | some d' => sameD d d' | none => false)
    | .Dict [] [] _ => (match d with | .dK [] => true | .dT [] => true | _ => false)
    | _ => false)
  | .tup es => (match x with
    | .Tuple xs _ _ => chkL (r c) es xs
    | _ => false)
  | .lst es => (match x with
    | .List xs _ => chkL (r c) es xs
    | _ => false)
  | .op o a b => (match x with
    | .BinOp p q s _ => decide (q = opOf o) && r c a p && r c b s
    | _ => false)
  | .neg a => (match x with
    | .UnaryOp .USub p _ => r c a p
    | _ => false)
  | .cmp o a b => (match x with
    | .Compare p [q] [s] _ => decide (q = cmOf o) && noSetB s && r c a p && r c b s
    | _ => false)
  | .ch .. => false
  | .ch3 .. => false
  | .lit .. => false
  | .and a b => (match x with
    | .BoolOp .And xs _ => chkB (r c) true (.and a b) xs
    | _ => false)
  | .or a b => (match x with
    | .BoolOp .Or xs _ => chkB (r c) false (.or a b) xs
    | _ => false)
  | .not a => (match x with
    | .UnaryOp .Not p _ => r c a p && notIf p
    | _ => false)
  | .ite d a b => (match x with
    | .IfExp p q s _ => r c d p && notIf p && r c a q && r c b s
    | _ => false)
  | .ix a b => (match x with
    | .Subscript p q _ => noSliceB q && r c a p && r c b q
    | _ => false)
  | .sl a lo hi => (match x with
    | .Subscript p (.Slice l h none _) _ => r c a p && chkO (r c) lo l && chkO (r c) hi h
    | _ => false)
  | .rv .. => false
  | .ev .. => false
  | .ssetI .. => false
  | .sset .. => false
  | .call f es => (match x with
    | .Call (.Name n _) xs [] _ => decide (c.nm f = some n) && glB c.sc n && !(n == ("__debug__" : Str)) && (match es, xs with | [], [] => true | _, [] => false | _, _ => true) && chkL (r c) es xs
    | _ => false)
  | .callZ .. => false
  | .hasN .. => false
  | .hasNN .. => false
  | .join .. => false
  | .its .. => false
  | .sits .. => false
  | .itsT .. => false
  | .vals .. => false
  | .idx .. => false
  | .box .. => false
  | .bi b es => (match x with
    | .Call (.Name n _) (x :: xs) [] _ => bltB c n (biName b) && chkL (r c) es (x :: xs)
    | _ => false)
  | .isi .. => false
  | .lc elt own t k its ifs => (match x with
    | .ListComp p [⟨tg, iter, ifx, i0⟩] scope _ => decide (i0 = 0) && blkC c.N c.sc scope (ownP c.N own) && noSetB iter && chkI (r c) c tg k its iter && chkG (c.blk scope) t tg &&
        (match ifs, ifx with | [], [] => true | [d], [q] => r (c.blk scope) d q && notIf q | _, _ => false) && r (c.blk scope) elt p
    | _ => false)
  | .lcD .. => false
  | .lcP .. => false
  | .fld .. => false
  | .get .. => false
  | .cmO .. => false
  | .biO .. => false
  | .meth .. => false
  | .make .. => false
  | .callI .. => false
  | .popE .. => false
  | .dsp .. => false
  | .dc .. => false
  | .lc2 .. => false
  | .dc2 .. => false
  | .eqI .. => false
  | .isC .. => false
  | .cmZ .. => false
  | .isG .. => false
  | .eqG .. => false
  | .slO .. => false
  | .makeX .. => false
  | .fldX f a => (match x with
    | .Attribute o n _ => decide (n = f) && c.xfs.contains f && plainRB o && r c a o
    | _ => false)
  | .isX y a => (match x with
    | .Call (.Name n _) [p, .Name m _] [] _ => bltB c n "isinstance" && decide (m = y) && c.xis.contains y && glB c.sc m && !(m == ("__debug__" : Str)) && noStarB p && r c a p
    | _ => false)
  | .mkX C es => (match x with
    | .Call (.Name n _) (x :: xs) [] _ => decide (n = C) && c.xcs.contains C && glB c.sc n && !(n == ("__debug__" : Str)) && chkL (r c) es (x :: xs)
    | _ => false)
  | .lcQ .. => false
  | .callIB .. => false
  | .lcO .. => false
def chkE : Nat → CC → E → Expr → Bool
  | 0 => fun _ _ _ => false
  | n + 1 => stepE (chkE n)
theorem mem_of_lk {α : Type} {n : Str} {d : α} : ∀ {l : List (Str × α)}, l.lookup n = some d → (n, d) ∈ l
  | [], h => nomatch h
  | (m, e) :: l, h => by
    rw [List.lookup] at h
    split at h
    · rename_i q
      cases h
      rw [eq_of_beq q]
      exact List.mem_cons_self
    · exact List.mem_cons_of_mem _ (mem_of_lk h)
theorem s_glob {X : Cx} {F : CallF} {x : Str} {u : Value} {v : V} {d : D} {p : Pos} (hg : Gl X x) (hm : X.mg x = some u) (r : RelV v u) (hd : (x == ("__debug__" : Str)) = false) (hs : modeOf d = .sh) (hr : ∀ {H A ρ}, RelD X.K H A ρ d v) : PE X (.Name x p) (tE X.K F (.c d)) :=
  PE.imp (pe_glob hg hm r hd) fun σ H Q h => by
    obtain ⟨av, H0, ρ0, ρ, lo, env, m, x, m', a, he, q⟩ := h
    cases he
    exact q v H ρ lo a.refl (by simp only [VOk, hs]; exact hr)
def XisG (K : PySem.W.Frag) (mg : Str → Option Value) (h : Str) : Prop := ∃ v cv, XisC K h cv ∧ (∀ u, RelV v u → u = cv) ∧ ((mg h = some cv ∧ RelV v cv) ∨ (mg h = none ∧ bootBuiltins h = some cv ∧ RelV v cv ∧ h ≠ "__name__"))
structure Good (X : Cx) (F : CallF) (c : CC) : Prop where
  N : X.N = c.N
  sc : X.env.scope = c.sc
  calm : X.calm = true
  nd : c.N.Nodup
  un : X.A.units + 100 < cLine
  G : X.A.guards = some []
  fnc : ∀ x, c.fc.names.lookup x = some .cell → X.fn x = true
  fn : ∀ f x, c.nm f = some x → ∃ k fa fd ps, Room k X.A ∧ FnG X.prog X.w X.K X.mg X.base k fa fd ps (spOf X.K F f) ∧ X.mg x = some (.ref fa) ∧ PySem.W.keepIn X.K (.ref fa) = true ∧ Binds X.K fd ps []
  bl : ∀ x ∈ c.bl, X.mg x = none
  cs : ∀ y ∈ c.cs, ∃ u v, X.mg y.1 = some u ∧ RelV v u ∧ ∀ H A ρ d, sameD d y.2 = true → RelD X.K H A ρ d v
  ats : ∀ y f, c.ats.contains (y, f) = true → ∃ C, ClsK X.K y C ∧ NoAttr X.K C f
  mes : ∀ y h i, c.mes y h = some i → ∃ C fa k fd ps, ClsK X.K y C ∧ Meth X.K C h fa ∧ Room (k + 1) X.A ∧ FnG X.prog X.w X.K X.mg X.base k fa fd ps (spOf X.K F i) ∧ Binds X.K fd ps []
  mks : ∀ y i, c.mks y = some i → ∃ C fa k fd ps, PySem.W.nsIn X.K mainGlobals y = some (some (.ref C)) ∧ Mk X.K C fa ∧ Room (k + 1) X.A ∧ FnG X.prog X.w X.K X.mg X.base k fa fd ps (spOf X.K F i) ∧ X.mg y = some (.ref C) ∧ Binds X.K fd ps []
  nmX : ∀ f x, c.nmX f = some x → ∃ k fa fd ps, Room k X.A ∧ FnX X.prog X.w X.K X.mg X.base k fa fd ps (spX X.K F f) ∧ X.mg x = some (.ref fa) ∧ PySem.W.keepIn X.K (.ref fa) = true ∧ Binds X.K fd ps []
  mesX : ∀ y h i, c.mesX y h = some i → ∃ C fa k fd ps, ClsK X.K y C ∧ Meth X.K C h fa ∧ Room k X.A ∧ FnX X.prog X.w X.K X.mg X.base k fa fd ps (spX X.K F i) ∧ Binds X.K fd ps []
  mksX : ∀ y i, c.mksX y = some i → ∃ C fa k fd ps, PySem.W.nsIn X.K mainGlobals y = some (some (.ref C)) ∧ Mk X.K C fa ∧ Room (k + 1) X.A ∧ FnX X.prog X.w X.K X.mg X.base k fa fd ps (spX X.K F i) ∧ X.mg y = some (.ref C) ∧ Binds X.K fd ps []
  xcs : ∀ C, c.xcs.contains C = true → ExcK X C ∧ XfK X.K C ∧ xfl C ≠ []
  xhs : ∀ h, c.xhs.contains h = true → ∃ v, X.mg h = some v
  exm : ∀ (C : Str) (Ca : Addr) (h : Str) (v : Value), xfl C ≠ [] → PySem.W.nsIn X.K mainGlobals C = some (some (.ref Ca)) → c.xhs.contains h = true → X.mg h = some v → PySem.W.exmOne X.K (.ref Ca) v = some (subX C h)
  eqs : ∀ y, c.eqs.contains y = true → ∃ C, ClsK X.K y C ∧ C8.InsC X.K C ∧ X.mg y = some (.ref C) ∧ ∀ fa, Meth X.K C "__eq__" fa → EqC X.K C fa
  xfs : ∀ f, c.xfs.contains f = true → XfAll X.K f
  xis : ∀ h, c.xis.contains h = true → XisG X.K X.mg h
section
variable {X : Cx} {F : CallF} {c : CC}
theorem Good.blk (g : Good X F c) {s : Shared} {H : Hp} {scope : Scope} {C : Addr} {cl : List (Str × Addr)} {fp : List Addr} : Good (X.blk s H scope (compEnvC scope cl C X.env) fp) F (c.blk scope) :=
  ⟨g.N, (by show relabel scope X.env = relB scope c.sc; rw [← g.sc]; rfl), g.calm, g.nd, g.un, g.G, fun x h => by show (scope.names.lookup x == some .cell) = true; rw [show scope.names.lookup x = some .cell from h]; rfl, g.fn, g.bl, g.cs, g.ats, g.mes, g.mks, g.nmX, g.mesX, g.mksX, fun C h => let ⟨⟨q⟩, r⟩ := g.xcs C h; ⟨⟨q⟩, r⟩, g.xhs, g.exm, g.eqs, g.xfs, g.xis⟩
theorem noStarB_ok {x : Expr} (h : noStarB x = true) : NoStar x := fun y p e => by rw [e] at h; cases h
theorem noSetB_ok {x : Expr} (h : noSetB x = true) : ∀ es k p, x ≠ .Set es k p := fun es k p e => by rw [e] at h; cases h
theorem visB_ok (g : Good X F c) {x : Str} (h : visB c.sc x = true) : Vis X.env.scope x := by
  rw [g.sc]
  unfold visB at h
  split at h <;> first | (cases h; done) | skip
  · rename_i e; exact .inl e
  · rename_i e; exact .inr (.inl e)
  · rename_i e; exact .inr (.inr e)
theorem locB_ok (g : Good X F c) {x : Str} (h : locB c x = true) : Loc X.env.scope x ∧ (X.fn x = true ∨ X.env.scope.names.lookup x = some .local) := by
  rw [g.sc]
  unfold locB at h
  split at h <;> first | (cases h; done) | skip
  · rename_i e; exact ⟨.inl e, .inr e⟩
  · rename_i e; exact ⟨.inr e, .inl (g.fnc x (by simpa using h))⟩
theorem glB_ok (g : Good X F c) {x : Str} (h : glB c.sc x = true) : Gl X x := by
  show X.env.scope.names.lookup x = _
  rw [g.sc]
  unfold glB at h
  split at h <;> first | (cases h; done) | skip
  rename_i e; exact e
theorem isN_ok (g : Good X F c) {i : Nat} {x : Str} (h : isN c.N i x = true) : X.N[i]? = some x := by
  rw [g.N]
  unfold isN at h
  split at h <;> first | (cases h; done) | skip
  rename_i y e; rw [e, eq_of_beq h]
theorem not_ok {b : Bool} (h : (!b) = true) : b = false := by cases b <;> first | rfl | cases h
theorem bltB_ok (g : Good X F c) {x y : Str} (h : bltB c x y = true) : x = y ∧ Gl X y ∧ X.mg y = none := by
  simp only [bltB, Bool.and_eq_true] at h
  exact ⟨eq_of_beq h.1.1, glB_ok g h.1.2, g.bl _ (by simpa using h.2)⟩
theorem plain_ok {x : Expr} (h : plainB x = true) {env : PySem.Env} : ∀ whole, isTrue x env whole = (do let v ← whole; standAt x.pos; holding [v] (truthy v)) := by
  intro whole
  cases x <;> first | rfl | (cases h; done) | skip
  rename_i op e p
  cases op <;> first | rfl | (cases h; done)
def OKE (F : CallF) (c : CC) (e : E) (x : Expr) : Prop := ∀ X : Cx, Good X F c → PE X x (tE X.K F e) ∧ (notIf x = true → PT X x (tT X.K F e))
theorem oke_plain {e : E} {x : Expr} (hp : plainB x = true) (h : ∀ X : Cx, Good X F c → PE X x (tE X.K F e)) : OKE F c e x := fun X g => ⟨h X g, fun _ => st_truth (h X g) (plain_ok hp)⟩
section
variable {r : CC → E → Expr → Bool} (hr : ∀ c e x, r c e x = true → OKE F c e x)
include hr
theorem chkL_es (g : Good X F c) : ∀ {es : List E} {xs : List Expr}, chkL (r c) es xs = true → PA X xs (tEs X.K F es) ∧ ∀ x ∈ xs, NoStar x
  | [], [], _ => ⟨s_es_nil, fun x h => nomatch h⟩
  | [], _ :: _, h => by cases h
  | _ :: _, [], h => by cases h
  | e :: es, x :: xs, h => by
    simp only [chkL, all2, Bool.and_eq_true] at h
    obtain ⟨h1, h2⟩ := chkL_es g (es := es) (xs := xs) h.2
    have n := noStarB_ok h.1.1
    exact ⟨s_es_cons n (hr _ _ _ h.1.2 X g).1 h1, fun y hy => (List.mem_cons.mp hy).elim (fun e => e ▸ n) (h2 y)⟩
theorem chkL_ps (g : Good X F c) : ∀ {es : List E} {xs : List Expr}, chkL (r c) es xs = true → PA X xs (tPs X.K F es)
  | [], [], _ => s_ps_nil
  | [], _ :: _, h => by cases h
  | _ :: _, [], h => by cases h
  | e :: es, x :: xs, h => by
    simp only [chkL, all2, Bool.and_eq_true] at h
    exact s_ps_cons (noStarB_ok h.1.1) (hr _ _ _ h.1.2 X g).1 (chkL_ps g (es := es) (xs := xs) h.2)
theorem chkL_as (g : Good X F c) : ∀ {es : List E} {xs : List Expr}, chkL (r c) es xs = true → PA X xs (tAs X.K F es)
  | [], [], _ => s_as_nil
  | [], _ :: _, h => by cases h
  | _ :: _, [], h => by cases h
  | e :: es, x :: xs, h => by
    simp only [chkL, all2, Bool.and_eq_true] at h
    exact s_as_cons (noStarB_ok h.1.1) (hr _ _ _ h.1.2 X g).1 (chkL_as g (es := es) (xs := xs) h.2)
theorem chkO_ok (g : Good X F c) : ∀ {es : List E} {o : Option Expr}, chkO (r c) es o = true → PO X o (tO X.K F es)
  | [], none, _ => s_o_none
  | [e], some x, h => s_o_some (hr _ _ _ h X g).1
  | [], some _, h => by cases h
  | [_], none, h => by cases h
  | _ :: _ :: _, none, h => by cases h
  | _ :: _ :: _, some _, h => by cases h
theorem s_one {op : BoolOp} {a : Expr} {t : TE} {pos : Pos} (ha : PE X a t) : PE X (.BoolOp op [a] pos) t := ⟨fun pins s σ H Q I h => ha.run pins s σ H Q I h⟩
theorem chkB_and (g : Good X F c) {pos : Pos} : ∀ {e : E} {xs : List Expr}, chkB (r c) true e xs = true → PE X (.BoolOp .And xs pos) (tE X.K F e) ∧ PW X (.BoolOp .And xs pos) (tT X.K F e)
  | _, [], h => by simp [chkB] at h
  | e, [x], h => by
    simp only [chkB, Bool.and_eq_true] at h
    obtain ⟨p, q⟩ := hr _ _ _ h.1 X g
    exact ⟨s_one hr p, pw_and1 (q h.2)⟩
  | e, x :: y :: r', h => by
    cases e <;> first | (cases h; done) | skip
    rename_i a b
    simp only [chkB, Bool.and_eq_true] at h
    obtain ⟨p, q⟩ := hr _ _ _ h.1.1 X g
    obtain ⟨p2, q2⟩ := chkB_and g h.2
    exact ⟨s_and p p2, sw_and (q h.1.2) q2⟩
theorem chkB_or (g : Good X F c) {pos : Pos} : ∀ {e : E} {xs : List Expr}, chkB (r c) false e xs = true → PE X (.BoolOp .Or xs pos) (tE X.K F e) ∧ PW X (.BoolOp .Or xs pos) (tT X.K F e)
  | _, [], h => by simp [chkB] at h
  | e, [x], h => by
    simp only [chkB, Bool.and_eq_true] at h
    obtain ⟨p, q⟩ := hr _ _ _ h.1 X g
    exact ⟨s_one hr p, pw_or1 (q h.2)⟩
  | e, x :: y :: r', h => by
    cases e <;> first | (cases h; done) | skip
    rename_i a b
    simp only [chkB, Bool.and_eq_true] at h
    obtain ⟨p, q⟩ := hr _ _ _ h.1.1 X g
    obtain ⟨p2, q2⟩ := chkB_or g h.2
    exact ⟨s_or p p2, sw_or (q h.1.2) q2⟩
end
mutual
theorem chkG_ok (g : Good X F c) : ∀ {t : T} {x : Expr}, chkG c t x = true → PG X x (tG X.K t)
  | .nm i, x, h => by
    cases x <;> first | (cases h; done) | skip
    simp only [chkG, Bool.and_eq_true] at h
    obtain ⟨l, f⟩ := locB_ok g h.2
    exact sg_nm (by rw [g.N]; exact g.nd) (isN_ok g h.1) l f
  | .tup ts, x, h => by
    cases x <;> first | (cases h; done) | skip
    simp only [chkG] at h
    obtain ⟨p, l, n⟩ := chkGs_ok g h
    exact sg_tup g.calm l n p
theorem chkGs_ok (g : Good X F c) : ∀ {ts : List T} {xs : List Expr}, chkGs c ts xs = true → PGs X xs (tGs X.K ts) ∧ ts.length = xs.length ∧ ∀ x ∈ xs, NoStar x
  | [], [], _ => ⟨sgs_nil, rfl, fun x h => nomatch h⟩
  | [], _ :: _, h => by cases h
  | _ :: _, [], h => by cases h
  | t :: ts, x :: xs, h => by
    simp only [chkGs, Bool.and_eq_true] at h
    obtain ⟨p, l, n⟩ := chkGs_ok g h.2
    have n0 := noStarB_ok h.1.1
    exact ⟨sgs_cons n0 (chkG_ok g h.1.2) p, by simp [l], fun y hy => (List.mem_cons.mp hy).elim (fun e => e ▸ n0) (n y)⟩
end
section
variable {r : CC → E → Expr → Bool} (hr : ∀ c e x, r c e x = true → OKE F c e x)
include hr
theorem chkI_ok (g : Good X F c) {tg iter : Expr} {k : ItK} {its : List E} (h : chkI (r c) c tg k its iter = true) : PI X tg iter (tI X.K F k its) := by
  unfold chkI at h
  split at h <;> first | (cases h; done) | skip
  · exact si_plain (hr _ _ _ h X g).1
  · simp only [Bool.and_eq_true] at h
    obtain ⟨⟨hb, n1⟩, h1⟩ := h
    obtain ⟨rfl, gl, mg⟩ := bltB_ok g hb
    have q1 := noStarB_ok n1
    exact si_rng1 gl mg q1 (s_ps_cons q1 (hr _ _ _ h1 X g).1 s_ps_nil) rfl
  · simp only [Bool.and_eq_true] at h
    obtain ⟨⟨⟨⟨hb, n1⟩, n2⟩, h1⟩, h2⟩ := h
    obtain ⟨rfl, gl, mg⟩ := bltB_ok g hb
    have q1 := noStarB_ok n1
    have q2 := noStarB_ok n2
    exact si_rng2 gl mg q1 q2 (s_ps_cons q1 (hr _ _ _ h1 X g).1 (s_ps_cons q2 (hr _ _ _ h2 X g).1 s_ps_nil)) rfl
  · simp only [Bool.and_eq_true] at h
    obtain ⟨⟨⟨⟨⟨⟨hb, n1⟩, n2⟩, n3⟩, h1⟩, h2⟩, h3⟩ := h
    obtain ⟨rfl, gl, mg⟩ := bltB_ok g hb
    have q1 := noStarB_ok n1
    have q2 := noStarB_ok n2
    have q3 := noStarB_ok n3
    exact si_rng3 gl mg q1 q2 q3 (s_ps_cons q1 (hr _ _ _ h1 X g).1 (s_ps_cons q2 (hr _ _ _ h2 X g).1 (s_ps_cons q3 (hr _ _ _ h3 X g).1 s_ps_nil))) rfl
  · simp only [Bool.and_eq_true] at h
    obtain ⟨⟨hb, n1⟩, h1⟩ := h
    obtain ⟨rfl, gl, mg⟩ := bltB_ok g hb
    have q1 := noStarB_ok n1
    exact si_enum gl mg q1 (s_ps_cons q1 (hr _ _ _ h1 X g).1 s_ps_nil) rfl
  · simp only [Bool.and_eq_true] at h
    obtain ⟨⟨hb, n1⟩, h1⟩ := h
    obtain ⟨rfl, gl, mg⟩ := bltB_ok g hb
    exact si_rev gl mg (noStarB_ok n1) (hr _ _ _ h1 X g).1
  · simp only [Bool.and_eq_true] at h
    obtain ⟨⟨⟨⟨hb, n1⟩, n2⟩, h1⟩, h2⟩ := h
    obtain ⟨rfl, gl, mg⟩ := bltB_ok g hb
    have q1 := noStarB_ok n1
    have q2 := noStarB_ok n2
    exact si_zip gl mg q1 q2 (s_ps_cons q1 (hr _ _ _ h1 X g).1 (s_ps_cons q2 (hr _ _ _ h2 X g).1 s_ps_nil)) rfl
  · simp only [Bool.and_eq_true] at h
    obtain ⟨⟨⟨⟨⟨hb, hk⟩, n1⟩, n2⟩, h1⟩, h2⟩ := h
    obtain ⟨rfl, gl, mg⟩ := bltB_ok g hb
    have ek := eq_of_beq hk
    subst ek
    have q1 := noStarB_ok n1
    have q2 := noStarB_ok n2
    exact si_zipS gl mg q1 q2 (s_ps_cons q1 (hr _ _ _ h1 X g).1 (s_ps_cons q2 (hr _ _ _ h2 X g).1 s_ps_nil)) rfl
end
theorem plainIx {b : Expr} (h : noSliceB b = true) : PlainIx b := fun o i => by cases b <;> first | rfl | cases h
theorem ownP_snd {N : List Str} {own : List Nat} : (ownP N own).map (·.2) = own := by
  unfold ownP
  rw [List.map_map]
  exact List.map_id' _ |>.symm ▸ rfl
theorem folded_ok {e : Expr} (h : noSetB e = true) {env : PySem.Env} : ∀ x, foldedSetIterable e env x = pure x := fun x => by cases e <;> first | rfl | cases h
theorem star_all {env : PySem.Env} : ∀ {xs : List Expr}, (∀ z ∈ xs, NoStar z) → ∀ p ∈ starEach xs env, p.1 = false
  | [], _, p, h => by cases h
  | x :: xs, hn, p, h => by
    rw [star_ok (hn x List.mem_cons_self)] at h
    rcases List.mem_cons.mp h with rfl | h
    · rfl
    · exact star_all (fun z hz => hn z (List.mem_cons_of_mem _ hz)) p h
theorem meth_ht {o : Expr} {m : Str} {pa pc : Pos} {xs : List Expr} {env : PySem.Env} (hb : plainRB o = true) (hl : (pa.endLine == pc.line) = true) (hn : ∀ z ∈ xs, NoStar z) (h30 : xs.length < 30) :
    eval (.Call (.Attribute o m pa) xs [] pc) env = (do
      let ov ← eval o env
      standAt pa.atName
      let (f, first) ← holding [ov] (getMethod ov m (do return (← importBound o env).getD true))
      callWith pc f first (backTo pc (starEach xs env)) (backToKw pc (keywordEach [] env))) := by
  have form : methodCallForm (xs.length + ([] : List Keyword).length) (backTo pc (starEach xs env)) (backToKw pc (keywordEach [] env)) = true := by
    have h1 : (backTo pc (starEach xs env)).all (!·.1) = true := by
      rw [List.all_eq_true]
      intro p hp
      unfold backTo at hp
      obtain ⟨q, hq, rfl⟩ := List.mem_map.mp hp
      have := star_all hn q hq
      show (!q.1) = true
      rw [this]; rfl
    unfold methodCallForm
    rw [h1]
    show (true && true && decide (xs.length + 0 + 0 < 30)) = true
    simpa using h30
  show (do
    let ov ← attributeBase o m env (eval o env)
    standAt pa.atName
    methodCall o m pa pc env ov (xs.length + ([] : List Keyword).length) (backTo pc (starEach xs env)) (backToKw pc (keywordEach [] env))) = _
  rw [plainR_ok hb]
  unfold methodCall calleeOf methodCallPos
  rw [form]
  simp only [hl, Bool.not_true, Bool.false_or, if_true]
  rfl
theorem own1_ok {N : List Str} {own own1 : List Nat} (h : own1.all (fun i => own.contains i) = true) : ∀ i ∈ own1, i ∈ (ownP N own).map (·.2) := fun i hi => by
  rw [ownP_snd]
  rw [List.all_eq_true] at h
  simpa using h i hi
theorem chkT_ok {r : CC → E → Expr → Bool} (hr : ∀ c e x, r c e x = true → OKE F c e x) (g : Good X F c) : ∀ {es : List E} {xs : List Expr}, chkT (r c) es xs = true → PTs X xs (tTs X.K F es)
  | [], [], _ => s_ts_nil
  | [d], [q], h => by
    simp only [chkT, Bool.and_eq_true] at h
    exact s_ts_one ((hr _ _ _ h.1 X g).2 h.2)
  | [], _ :: _, h => by cases h
  | [_], [], h => by cases h
  | [_], _ :: _ :: _, h => by cases h
  | _ :: _ :: _, [], h => by cases h
  | _ :: _ :: _, _ :: _, h => by cases h
theorem step_ok {r : CC → E → Expr → Bool} (hr : ∀ c e x, r c e x = true → OKE F c e x) (c : CC) (e : E) (x : Expr) (h : stepE r c e x = true) : OKE F c e x := by
  unfold stepE at h
  split at h <;> first | (cases h; done) | (split at h <;> first | (cases h; done) | skip)
  · refine oke_plain rfl fun X g => ?_
    simp only [varB, Bool.and_eq_true] at h
    exact s_v (isN_ok g h.1.1.1) (visB_ok g h.1.1.2) (not_ok h.1.2) (not_ok h.2)
  · exact oke_plain rfl fun X g => s_c h
  · rename_i d _ n p
    simp only [Bool.and_eq_true] at h
    obtain ⟨⟨h1, h2⟩, h3⟩ := h
    refine oke_plain rfl fun X g => ?_
    split at h3 <;> first | (cases h3; done) | skip
    rename_i d' hd
    obtain ⟨u, v, e1, e2, e3⟩ := g.cs (n, d') (mem_of_lk hd)
    exact s_glob (glB_ok g h1) e1 e2 (not_ok h2) (by cases d <;> first | rfl | (simp [sameD] at h3; done)) fun {H A ρ} => e3 H A ρ d h3
  · split at h <;> first | (cases h; done) | skip
    · exact oke_plain rfl fun X g => s_dict0
    · exact oke_plain rfl fun X g => s_dictT0
  · exact oke_plain rfl fun X g => s_tup (chkL_es hr g h).1
  · exact oke_plain rfl fun X g => s_lst (chkL_es hr g h).1
  · refine oke_plain rfl fun X g => ?_
    simp only [Bool.and_eq_true, decide_eq_true_eq] at h
    obtain ⟨⟨rfl, h1⟩, h2⟩ := h
    exact s_op _ (hr _ _ _ h1 X g).1 (hr _ _ _ h2 X g).1
  · exact oke_plain rfl fun X g => s_neg (hr _ _ _ h X g).1
  · simp only [Bool.and_eq_true, decide_eq_true_eq] at h
    obtain ⟨⟨⟨rfl, h0⟩, h1⟩, h2⟩ := h
    exact fun X g => have hu : X.A.units + 80 < cLine := by have := g.un; omega
      ⟨s_cmp hu _ (hr _ _ _ h1 X g).1 (hr _ _ _ h2 X g).1 (noSetB_ok h0), fun _ => st_cmp hu _ (hr _ _ _ h1 X g).1 (hr _ _ _ h2 X g).1 (noSetB_ok h0)⟩
  · exact fun X g => let ⟨p, q⟩ := chkB_and hr g h; ⟨p, fun _ => q.pt⟩
  · exact fun X g => let ⟨p, q⟩ := chkB_or hr g h; ⟨p, fun _ => q.pt⟩
  · simp only [Bool.and_eq_true] at h
    exact fun X g => ⟨s_not (hr _ _ _ h.1 X g).1, fun _ => st_not ((hr _ _ _ h.1 X g).2 h.2)⟩
  · simp only [Bool.and_eq_true] at h
    exact fun X g => ⟨s_ite ((hr _ _ _ h.1.1.1 X g).2 h.1.1.2) (hr _ _ _ h.1.2 X g).1 (hr _ _ _ h.2 X g).1, fun z => nomatch z⟩
  · simp only [Bool.and_eq_true] at h
    exact oke_plain rfl fun X g => s_ix (by have := g.un; omega) (hr _ _ _ h.1.2 X g).1 (hr _ _ _ h.2 X g).1 (plainIx h.1.1)
  · simp only [Bool.and_eq_true] at h
    exact oke_plain rfl fun X g => s_sl (hr _ _ _ h.1.1 X g).1 (chkO_ok hr g h.1.2) (chkO_ok hr g h.2)
  · rename_i f es _ n p xs q
    simp only [Bool.and_eq_true, decide_eq_true_eq] at h
    obtain ⟨⟨⟨⟨h1, h2⟩, h3⟩, h4⟩, h5⟩ := h
    refine oke_plain rfl fun X g => ?_
    obtain ⟨k, fa, fd, ps, rm, Fn, mg, kp, bd⟩ := g.fn _ _ h1
    cases xs with
    | nil =>
      cases es with
      | nil => exact s_call0 Fn rm g.G (glB_ok g h2) mg kp bd (not_ok h3)
      | cons _ _ => cases h5
    | cons y ys => exact s_call Fn rm g.G (glB_ok g h2) mg kp bd (not_ok h3) (chkL_es hr g h5).2 (chkL_as hr g h5)
  · simp only [Bool.and_eq_true] at h
    refine oke_plain rfl fun X g => ?_
    obtain ⟨rfl, gl, mg⟩ := bltB_ok g h.1
    exact s_bi g.calm (by have := g.un; omega) g.G _ gl mg (chkL_es hr g h.2).2 (chkL_ps hr g h.2)
  · rename_i elt own t k its ifs _ p tg iter ifx i0 scope q
    simp only [Bool.and_eq_true, decide_eq_true_eq] at h
    obtain ⟨⟨⟨⟨⟨⟨rfl, hb⟩, h0⟩, h1⟩, h2⟩, h3⟩, h4⟩ := h
    refine oke_plain rfl fun X g => ?_
    have e : E.lc elt own t k its ifs = .lc elt ((ownP c.N own).map (·.2)) t k its ifs := by rw [ownP_snd]
    rw [e]
    refine s_lc g.calm (by rw [g.N]; exact g.nd) (chkI_ok hr g h1) (blkOk_by (by rw [g.N, g.sc]; exact hb)) (fun s H C cl fp => chkG_ok g.blk h2) (fun s H C cl fp => ?_) (fun s H C cl fp => (hr _ _ _ h4 _ g.blk).1) (folded_ok h0)
    split at h3 <;> first | (cases h3; done) | skip
    · exact s_ts_nil
    · simp only [Bool.and_eq_true] at h3
      exact s_ts_one ((hr _ _ _ h3.1 _ g.blk).2 h3.2)
  · simp only [Bool.and_eq_true, decide_eq_true_eq] at h
    obtain ⟨⟨⟨rfl, h1⟩, h2⟩, h3⟩ := h
    exact oke_plain rfl fun X g => s_fldX (g.xfs _ h1) (hr _ _ _ h3 X g).1 (plainR_ok h2)
  · simp only [Bool.and_eq_true, decide_eq_true_eq] at h
    obtain ⟨⟨⟨⟨⟨⟨h1, rfl⟩, h2⟩, h3⟩, h4⟩, h5⟩, h6⟩ := h
    refine oke_plain rfl fun X g => ?_
    obtain ⟨rfl, gl, mg⟩ := bltB_ok g h1
    obtain ⟨v, cv, T, hc, z⟩ := g.xis _ h2
    refine s_isX T hc gl mg ?_ (noStarB_ok h5) (hr _ _ _ h6 X g).1
    rcases z with ⟨z1, z2⟩ | ⟨z1, z2, z3, z4⟩
    · exact C8.pe_gc (v := v) (glB_ok g h3) ⟨_, z1, z2⟩ (not_ok h4)
    · exact pe_bltn (glB_ok g h3) z1 z2 z3 z4 (not_ok h4)
  · simp only [Bool.and_eq_true, decide_eq_true_eq] at h
    obtain ⟨⟨⟨⟨rfl, h1⟩, h2⟩, h3⟩, h4⟩ := h
    exact oke_plain rfl fun X g => s_mkX (g.xcs _ h1).1 (glB_ok g h2) (not_ok h3) (chkL_es hr g h4).2 (chkL_es hr g h4).1
theorem chkE_ok : ∀ (n : Nat) (c : CC) (e : E) (x : Expr), chkE n c e x = true → OKE F c e x
  | 0, _, _, _, h => by cases h
  | n + 1, c, e, x, h => step_ok (chkE_ok n) c e x h
end
end MP
namespace MP
open PySem PySem.Spec L2
section
variable {K : PySem.W.Frag} {F : CallF} {av : Addr → Prop} {H0 H H1 H2 H' : Hp} {ρ0 ρ ρ1 ρ2 ρ' : List CA} {σ : L2.St} {env : MP.Env} {lo lo1 lo2 lo' : Lo} {m m1 m2 m' : MH}
def HeldV (K : PySem.W.Frag) (H : Hp) (A : Addr → Prop) (ρ : List CA) (lo : Lo) (n : Nat) (x : D × Mode) (v : V) (h : Nat) : Prop :=
  n < h ∧ match x.2 with
  | .fr => ∃ p, v = .ref p ∧ lo h = some p ∧ OwnAt K H A ρ p x.1
  | .sh => RelD K H A ρ x.1 v
  | _ => False
inductive Held (K : PySem.W.Frag) (H : Hp) (A : Addr → Prop) (ρ : List CA) (lo : Lo) (n : Nat) : List (D × Mode) → List V → List Nat → Prop
  | nil : Held K H A ρ lo n [] [] []
  | cons {x v h xs vs hs} : HeldV K H A ρ lo n x v h → h ∉ hs → Held K H A ρ lo n xs vs hs → Held K H A ρ lo n (x :: xs) (v :: vs) (h :: hs)
theorem HeldV.mono {A A' : Addr → Prop} {n h : Nat} {x : D × Mode} {v : V} (st : Stays A H H') (ha : ∀ a, A' a → A a ∨ H a = none) (he : ∀ (n : Nat) (c : CA), ρ[n]? = some c → ∃ c', ρ'[n]? = some c' ∧ c'.a = c.a) (hl : lo' h = lo h) (hp : ∀ p o, lo h = some p → H p = some o → H' p = some o) (q : HeldV K H A ρ lo n x v h) : HeldV K H' A' ρ' lo' n x v h := by
  obtain ⟨d, md⟩ := x
  refine ⟨q.1, ?_⟩
  cases md with
  | fr => obtain ⟨p, e, e2, o⟩ := q.2; exact ⟨p, e, hl.trans e2, o.mono st ha he fun u z => hp p u e2 z⟩
  | sh => exact RelD.mono st ha he d v q.2
  | bo => exact q.2.elim
  | br => exact q.2.elim
theorem Held.mono {A A' : Addr → Prop} {n : Nat} {xs : List (D × Mode)} {vs : List V} {hs : List Nat} (st : Stays A H H') (ha : ∀ a, A' a → A a ∨ H a = none) (he : ∀ (n : Nat) (c : CA), ρ[n]? = some c → ∃ c', ρ'[n]? = some c' ∧ c'.a = c.a) (hl : ∀ h ∈ hs, n < h → lo' h = lo h) (hp : ∀ h ∈ hs, ∀ p o, lo h = some p → H p = some o → H' p = some o) (q : Held K H A ρ lo n xs vs hs) : Held K H' A' ρ' lo' n xs vs hs := by
  induction q with
  | nil => exact .nil
  | cons h1 h2 _ ih => exact .cons (h1.mono st ha he (hl _ List.mem_cons_self h1.1) (hp _ List.mem_cons_self)) h2 (ih (fun h hh => hl h (List.mem_cons_of_mem _ hh)) fun h hh => hp h (List.mem_cons_of_mem _ hh))
end
section
variable {X : Cx} {F : CallF} {W : Nat}
end
end MP
namespace MP
open PySem PySem.Spec L2
end MP
namespace MP
open PySem PySem.Spec L2
def notCompB : Expr → Bool
  | .ListComp .. => false | .SetComp .. => false | .DictComp .. => false | _ => true
def swapB (c : CC) (scope : Scope) (pos : Pos) (x : Str) (py : Pos) : Bool :=
  decide (c.sc.names.lookup x = some .local) && (py.line == pos.line) && !(scope.names.any fun (n, k) => n == x && (k == .local || k == .cell))
def notSwapB (c : CC) (xs vs : List Expr) : Bool := !(xs.length == 2 || xs.length == 3) || vs.length != xs.length || xs.any fun x => match x with
  | .Name id _ => !decide (c.sc.names.lookup id = some .local)
  | _ => true
def chkRE (f : E → Expr → Bool) (c : CC) (er : E) (y : Expr) : Bool := match er with
  | .call g es => (match y with
    | .Call (.Name n _) (x :: xs) [] _ => decide (c.nmX g = some n) && glB c.sc n && !(n == ("__debug__" : Str)) && chkL f es (x :: xs)
    | _ => false)
  | .meth y' h g e es => (match y with
    | .Call (.Attribute o m pa) (x :: xs) [] pc => decide (m = h) && decide (c.mesX y' h = some g) && plainRB o && (pa.endLine == pc.line) && f e o && chkL f es (x :: xs) && decide ((x :: xs).length < 30)
    | _ => false)
  | .makeX y' g es => (match y with
    | .Call (.Name n _) (x :: xs) [] _ => decide (n = y') && decide (c.mksX y' = some g) && glB c.sc n && !(n == ("__debug__" : Str)) && chkL f es (x :: xs)
    | _ => false)
  | _ => false
def stepS (rs : S → Stmt → Bool) (rss : List S → List Stmt → Bool) (f : E → Expr → Bool) (r : CC → E → Expr → Bool) (c : CC) (s : S) (x : Stmt) : Bool :=
  match s with
  | .pass => (match x with
    | .Pass _ => true
    | .Expr (.Constant (.str _) _ _) _ => true
    | _ => false)
  | .ex e => (match x with
    | .Expr y _ => notCompB y && f e y
    | _ => false)
  | .asg tg e => (match tg, x with
    | .nm i, .Assign [.Name n p] y _ => isN c.N i n && locB c n && (match e, y with
      | .lc elt own t k its ifs, .ListComp p' [⟨tg, iter, ifx, i0⟩] scope pos => if swapB c scope pos n p then decide (c.sc.kind = .function) && decide (i0 = 0) && blkC c.N c.sc scope (ownP c.N own) && noSetB iter && chkI f c tg k its iter && chkG (c.blk scope) t tg &&
        (match ifs, ifx with | [], [] => true | [d], [q] => r (c.blk scope) d q && notIf q | _, _ => false) && r (c.blk scope) elt p' else decide (c.sc.kind = .function) && f e y
      | .lc2 elt own t k its ifs own1 t1 k1 its1 ifs1, .ListComp p' [⟨tg, iter, ifx, i0⟩, ⟨tg1, iter1, ifx1, i1⟩] scope pos => if swapB c scope pos n p then decide (c.sc.kind = .function) && decide (i0 = 0) && decide (i1 = 0) && own1.all (fun i => own.contains i) && blkC c.N c.sc scope (ownP c.N own) && noSetB iter && noSetB iter1 && chkI f c tg k its iter && chkG (c.blk scope) t tg && chkT (r (c.blk scope)) ifs ifx && chkI (r (c.blk scope)) (c.blk scope) tg1 k1 its1 iter1 && chkG (c.blk scope) t1 tg1 && chkT (r (c.blk scope)) ifs1 ifx1 && r (c.blk scope) elt p' else decide (c.sc.kind = .function) && f e y
      | .dc kx vx own t k its ifs, .DictComp p' p'' [⟨tg, iter, ifx, i0⟩] scope pos => if swapB c scope pos n p then decide (c.sc.kind = .function) && decide (i0 = 0) && blkC c.N c.sc scope (ownP c.N own) && noSetB iter && chkI f c tg k its iter && chkG (c.blk scope) t tg && chkT (r (c.blk scope)) ifs ifx && r (c.blk scope) kx p' && r (c.blk scope) vx p'' else decide (c.sc.kind = .function) && f e y
      | .dc2 kx vx own t k its ifs own1 t1 k1 its1 ifs1, .DictComp p' p'' [⟨tg, iter, ifx, i0⟩, ⟨tg1, iter1, ifx1, i1⟩] scope pos => if swapB c scope pos n p then decide (c.sc.kind = .function) && decide (i0 = 0) && decide (i1 = 0) && own1.all (fun i => own.contains i) && blkC c.N c.sc scope (ownP c.N own) && noSetB iter && noSetB iter1 && chkI f c tg k its iter && chkG (c.blk scope) t tg && chkT (r (c.blk scope)) ifs ifx && chkI (r (c.blk scope)) (c.blk scope) tg1 k1 its1 iter1 && chkG (c.blk scope) t1 tg1 && chkT (r (c.blk scope)) ifs1 ifx1 && r (c.blk scope) kx p' && r (c.blk scope) vx p'' else decide (c.sc.kind = .function) && f e y
      | _, _ => notCompB y && f e y)
    | .tup ts, .Assign [.Tuple xs k p] y _ => chkG c (.tup ts) (.Tuple xs k p) && f e y && (match y with | .Tuple vs _ _ => vs.all (foldedForSure 8) || notSwapB c xs vs | _ => true)
    | _, _ => false)
  | .setIx i k e => (match x with
    | .Assign [.Subscript (.Name n _) q _] y _ => varB c i n && noSliceB q && f k q && f e y
    | _ => false)
  | .ret e => (match x with
    | .Return none _ => (match e with | .c .non => true | _ => false)
    | .Return (some y) _ => (match e, y with
      | .v i, .Name n _ => varB c i n
      | e, y => !isV e && f e y)
    | _ => false)
  | .iff e a b => (match x with
    | .If y p q _ => f e y && notIf y && rss a p && rss b q
    | _ => false)
  | .for_ t k its b => (match x with
    | .For tg iter body [] _ => noSetB iter && chkI f c tg k its iter && chkG c t tg && rss b body
    | _ => false)
  | _ => false
def stepSs (rs : S → Stmt → Bool) : List S → List Stmt → Bool
  | [], [] => true
  | .frz _ :: ss, xs => stepSs rs ss xs
  | .pub _ :: ss, xs => stepSs rs ss xs
  | .frzA _ _ :: ss, xs => stepSs rs ss xs
  | s :: ss, x :: xs => rs s x && stepSs rs ss xs
  | _, _ => false
def chkS (c : CC) : Nat → S → Stmt → Bool
  | 0 => fun _ _ => false
  | n + 1 => fun s x => stepS (chkS c n) (stepSs (chkS c n)) (chkE 60 c) (chkE 60) c s x
def chkSs (c : CC) (n : Nat) : List S → List Stmt → Bool := stepSs (chkS c n)
section
variable {X : Cx} {F : CallF} {W : Nat} {c : CC}
structure DefL (X : Cx) : Prop where
  st : X.stack = X.env :: X.outer
  fr : X.env.frame = some X.env.locals
  ex : X.ex = []
def OKS (F : CallF) (W : Nat) (c : CC) (s : S) (x : Stmt) : Prop := ∀ X : Cx, Good X F c → (X.xe = (fun _ _ => False) ∧ DefL X) → PS X x (tS X.K F W s)
def OKSs (F : CallF) (W : Nat) (c : CC) (s : List S) (x : List Stmt) : Prop := ∀ X : Cx, Good X F c → (X.xe = (fun _ _ => False) ∧ DefL X) → PSs X x (tSs X.K F W s)
theorem stepSs_ok {rs : S → Stmt → Bool} (h : ∀ s x, rs s x = true → OKS F W c s x) : ∀ (ss : List S) (xs : List Stmt), stepSs rs ss xs = true → OKSs F W c ss xs
  | [], [], _ => fun X g hx => ss_nil
  | [], _ :: _, q => by simp [stepSs] at q
  | s :: ss, [], q => by
    cases s <;> first | (simp [stepSs] at q; done) | skip
    · rw [stepSs] at q
      exact fun X g hx => ss_frz (stepSs_ok h ss [] q X g hx)
    · rw [stepSs] at q
      exact fun X g hx => ss_pub (stepSs_ok h ss [] q X g hx)
    · rw [stepSs] at q
      exact fun X g hx => ss_frzA (stepSs_ok h ss [] q X g hx)
  | s :: ss, x :: xs, q => by
    cases s
    case frz i =>
      rw [stepSs] at q
      exact fun X g hx => ss_frz (stepSs_ok h ss (x :: xs) q X g hx)
    case pub i =>
      rw [stepSs] at q
      exact fun X g hx => ss_pub (stepSs_ok h ss (x :: xs) q X g hx)
    case frzA i f =>
      rw [stepSs] at q
      exact fun X g hx => ss_frzA (stepSs_ok h ss (x :: xs) q X g hx)
    all_goals
      simp only [stepSs, Bool.and_eq_true] at q
      exact fun X g hx => ss_cons (h _ _ q.1 X g hx) (stepSs_ok h ss xs q.2 X g hx)
theorem notComp_ok {y : Expr} (h : notCompB y = true) {t : Option Expr} {l : Nat} {env : PySem.Env} : swapsWith y t l env = pure false := by
  unfold swapsWith
  cases y <;> first | rfl | cases h
theorem sole_ok {xs : List Expr} {k : Nat} {p : Pos} {y : Expr} {l : Nat} {env : PySem.Env} : swapsWithSole [.Tuple xs k p] y l env = pure false := by
  unfold swapsWithSole swapsWith
  cases y <;> rfl
theorem soleS_ok {o q : Expr} {p : Pos} {y : Expr} {l : Nat} {env : PySem.Env} : swapsWithSole [.Subscript o q p] y l env = pure false := by
  unfold swapsWithSole swapsWith
  cases y <;> rfl
theorem swapB_ok (g : Good X F c) {elt : Expr} {gs : List Comprehension} {scope : Scope} {pos py : Pos} {x : Str} {l : Nat} (hk : c.sc.kind = .function) : swapsWith (.ListComp elt gs scope pos) (some (.Name x py)) l X.env = pure (swapB c scope pos x py) := by
  have ky : X.env.kindOf x = c.sc.names.lookup x := by rw [← g.sc]; rfl
  have hb : X.env.blockKind = .function := by unfold Env.blockKind; rw [g.sc, hk]; rfl
  unfold swapsWith swapB
  simp only [hb, ky, Expr.pos]
  cases c.sc.names.lookup x with
  | none => rfl
  | some k => cases k <;> rfl
theorem swapB_okD (g : Good X F c) {kx vx : Expr} {gs : List Comprehension} {scope : Scope} {pos py : Pos} {x : Str} {l : Nat} (hk : c.sc.kind = .function) : swapsWith (.DictComp kx vx gs scope pos) (some (.Name x py)) l X.env = pure (swapB c scope pos x py) := by
  have ky : X.env.kindOf x = c.sc.names.lookup x := by rw [← g.sc]; rfl
  have hb : X.env.blockKind = .function := by unfold Env.blockKind; rw [g.sc, hk]; rfl
  unfold swapsWith swapB
  simp only [hb, ky, Expr.pos]
  cases c.sc.names.lookup x with
  | none => rfl
  | some k => cases k <;> rfl
theorem fm_less {α β : Type} {f : α → Option β} : ∀ {l : List α}, (∃ x ∈ l, f x = none) → (l.filterMap f).length < l.length
  | [], ⟨_, h, _⟩ => nomatch h
  | a :: l, ⟨x, hx, e⟩ => by
    have hle := List.length_filterMap_le f l
    cases ha : f a with
    | none => rw [List.filterMap_cons_none ha, List.length_cons]; omega
    | some b =>
      rw [List.filterMap_cons_some ha, List.length_cons, List.length_cons]
      rcases List.mem_cons.mp hx with rfl | hx
      · rw [e] at ha; cases ha
      · have := fm_less ⟨x, hx, e⟩; omega
theorem swap_none2 (g : Good X F c) {xs vs : List Expr} {k k2 : Nat} {p p2 : Pos} (h : notSwapB c xs vs = true) : swappedStores [.Tuple xs k p] (.Tuple vs k2 p2) X.env = pure none := by
  unfold swappedStores
  simp only
  by_cases h1 : (!(xs.length == 2 || xs.length == 3) || vs.length != xs.length || X.env.blockKind != .function) = true
  · rw [if_pos h1]
  · rw [if_neg h1]
    have h1' := h1
    simp only [Bool.or_eq_true, not_or] at h1'
    unfold notSwapB at h
    rw [Bool.or_eq_true, Bool.or_eq_true] at h
    have h3 := (h.resolve_left fun z => z.elim (fun z => h1'.1.1 z) fun z => h1'.1.2 z)
    rw [List.any_eq_true] at h3
    obtain ⟨x, hx, hn⟩ := h3
    split
    · rfl
    split
    · rfl
    · rename_i h5
      refine absurd ?_ h5
      rw [Bool.or_eq_true]
      left
      rw [bne_iff_ne]
      refine Nat.ne_of_lt (fm_less ⟨x, hx, ?_⟩)
      cases x <;> first | rfl | skip
      rename_i id pos
      have hk : X.env.kindOf id = c.sc.names.lookup id := by rw [← g.sc]; rfl
      have hn : (!decide (c.sc.names.lookup id = some .local)) = true := hn
      have hd : (X.env.kindOf id == some NameKind.local) = false := by
        rw [hk, Bool.eq_false_iff]
        intro z
        rw [beq_iff_eq] at z
        rw [z] at hn
        simp at hn
      simp only [hd, Bool.false_and, Bool.false_eq_true, if_false]
theorem swap_none (g : Good X F c) {xs : List Expr} {k : Nat} {p : Pos} {y : Expr} (h : (match y with | .Tuple vs _ _ => vs.all (foldedForSure 8) || notSwapB c xs vs | _ => true) = true) : swappedStores [.Tuple xs k p] y X.env = pure none := by
  cases y <;> first | rfl | skip
  rename_i vs k2 p2
  have h : (vs.all (foldedForSure 8) || notSwapB c xs vs) = true := h
  rw [Bool.or_eq_true] at h
  rcases h with h | h
  case inr => exact swap_none2 g h
  unfold swappedStores
  simp only [h, if_true]
  repeat (first | rfl | split)
theorem varB_ok (g : Good X F c) {i : Nat} {x : Str} (h : varB c i x = true) : X.N[i]? = some x ∧ Vis X.env.scope x ∧ (x == ("__debug__" : Str)) = false ∧ (x == ("__classdict__" : Str)) = false := by
  simp only [varB, Bool.and_eq_true] at h
  exact ⟨isN_ok g h.1.1.1, visB_ok g h.1.1.2, not_ok h.1.2, not_ok h.2⟩
theorem Good.tr (g : Good X F c) (pn : List (Addr × Obj)) (xe : Value → Shared → Prop) : Good (X.tr pn xe) F c :=
  ⟨g.N, g.sc, g.calm, g.nd, g.un, g.G, g.fnc, g.fn, g.bl, g.cs, g.ats, g.mes, g.mks, g.nmX, g.mesX, g.mksX, fun C h => let ⟨⟨q⟩, r⟩ := g.xcs C h; ⟨⟨q⟩, r⟩, g.xhs, g.exm, g.eqs, g.xfs, g.xis⟩
theorem chkRE_ok {r : CC → E → Expr → Bool} (hr : ∀ c e x, r c e x = true → OKE F c e x) {er : E} {y : Expr} (h : chkRE (r c) c er y = true) : (∀ i, er ≠ .v i) ∧ ∀ X : Cx, Good X F c → PR X F y er := by
  unfold chkRE at h
  split at h <;> first | (cases h; done) | skip
  all_goals (split at h <;> first | (cases h; done) | skip)
  · simp only [Bool.and_eq_true, decide_eq_true_eq] at h
    obtain ⟨⟨⟨h1, h2⟩, h3⟩, h5⟩ := h
    refine ⟨(fun i z => nomatch z), fun X g => ?_⟩
    obtain ⟨k, fa, fd, ps, rm, Fn, mg, kp, bd⟩ := g.nmX _ _ h1
    exact r_call Fn rm g.G (glB_ok g h2) mg kp bd (not_ok h3) (chkL_es hr g h5).2 (chkL_as hr g h5)
  · simp only [Bool.and_eq_true, decide_eq_true_eq] at h
    obtain ⟨⟨⟨⟨⟨⟨rfl, h1⟩, h2⟩, h3⟩, h4⟩, h6⟩, h7⟩ := h
    refine ⟨(fun i z => nomatch z), fun X g => ?_⟩
    rename_i o m pa x xs pc
    have ht := meth_ht (m := m) (env := X.env) h2 h3 (chkL_es hr g h6).2 h7
    obtain ⟨C, fa, k, fd, ps, ck, hm, rm, Fn, bd⟩ := g.mesX _ _ _ h1
    exact r_meth ck hm Fn rm g.G bd (hr _ _ _ h4 X g).1 (chkL_es hr g h6).2 (chkL_as hr g h6) ht
  · simp only [Bool.and_eq_true, decide_eq_true_eq] at h
    obtain ⟨⟨⟨⟨rfl, h1⟩, h2⟩, h3⟩, h4⟩ := h
    refine ⟨(fun i z => nomatch z), fun X g => ?_⟩
    obtain ⟨C, fa, k, fd, ps, hC, M, rm, Fn, hmg, bd⟩ := g.mksX _ _ h1
    exact r_make hC M Fn rm g.G (glB_ok g h2) hmg bd (not_ok h3) (chkL_es hr g h4).2 (chkL_as hr g h4)
theorem stepS_ok {rs : S → Stmt → Bool} {rss : List S → List Stmt → Bool} {r : CC → E → Expr → Bool} (hrs : ∀ s x, rs s x = true → OKS F W c s x) (hrss : ∀ s x, rss s x = true → OKSs F W c s x) (hr : ∀ c e x, r c e x = true → OKE F c e x) (s : S) (x : Stmt) (h : stepS rs rss (r c) r c s x = true) : OKS F W c s x := by
  unfold stepS at h
  split at h <;> first | (cases h; done) | (split at h <;> first | (cases h; done) | skip) | skip
  · exact fun X g hx => st_pass
  · exact fun X g hx => st_doc
  · simp only [Bool.and_eq_true] at h
    exact fun X g hx => st_ex (hr _ _ _ h.2 X g).1 (notComp_ok h.1)
  · rename_i i e0 n p y0 _
    simp only [Bool.and_eq_true] at h
    obtain ⟨⟨h1, h2⟩, h3⟩ := h
    refine fun X g hx => ?_
    obtain ⟨lc, fc⟩ := locB_ok g h2
    have nd : X.N.Nodup := by rw [g.N]; exact g.nd
    split at h3
    · rename_i elt own t k its ifs p' tg iter ifx i0 scope pos
      split at h3
      · rename_i hsw
        simp only [Bool.and_eq_true, decide_eq_true_eq] at h3
        obtain ⟨⟨⟨⟨⟨⟨⟨hk, rfl⟩, hb⟩, h0⟩, h4⟩, h5⟩, h6⟩, h7⟩ := h3
        have e : E.lc elt own t k its ifs = .lc elt ((ownP c.N own).map (·.2)) t k its ifs := by rw [ownP_snd]
        rw [e]
        have hl : X.env.scope.names.lookup n = some NameKind.local := by
          have z := hsw
          simp only [swapB, Bool.and_eq_true, decide_eq_true_eq] at z
          rw [g.sc]; exact z.1.1
        refine st_asgLc g.calm nd (isN_ok g h1) hl (by rw [swapB_ok g hk, hsw]) (chkI_ok hr g h4) (blkOk_by (by rw [g.N, g.sc]; exact hb)) (fun s H C cl fp => chkG_ok g.blk h5) (fun s H C cl fp => ?_) (fun s H C cl fp => (hr _ _ _ h7 _ g.blk).1) (folded_ok h0)
        split at h6 <;> first | (cases h6; done) | skip
        · exact s_ts_nil
        · simp only [Bool.and_eq_true] at h6
          exact s_ts_one ((hr _ _ _ h6.1 _ g.blk).2 h6.2)
      · rename_i hsw
        simp only [Bool.and_eq_true, decide_eq_true_eq] at h3
        exact st_asgN nd (isN_ok g h1) lc fc (hr _ _ _ h3.2 X g).1 (by rw [swapB_ok g h3.1, Bool.eq_false_iff.mpr hsw])
    · rename_i elt own t k its ifs own1 t1 k1 its1 ifs1 p' tg iter ifx i0 tg1 iter1 ifx1 i1 scope pos
      split at h3
      · rename_i hsw
        simp only [Bool.and_eq_true, decide_eq_true_eq] at h3
        obtain ⟨⟨⟨⟨⟨⟨⟨⟨⟨⟨⟨⟨⟨hk, rfl⟩, rfl⟩, ho⟩, hb⟩, h0⟩, h01⟩, h4⟩, h5⟩, h6⟩, h7⟩, h8⟩, h9⟩, h10⟩ := h3
        have e : E.lc2 elt own t k its ifs own1 t1 k1 its1 ifs1 = .lc2 elt ((ownP c.N own).map (·.2)) t k its ifs own1 t1 k1 its1 ifs1 := by rw [ownP_snd]
        rw [e]
        have hl : X.env.scope.names.lookup n = some NameKind.local := by
          have z := hsw
          simp only [swapB, Bool.and_eq_true, decide_eq_true_eq] at z
          rw [g.sc]; exact z.1.1
        exact st_asgLc2 (kx := p') (ekx := elt) g.calm nd (isN_ok g h1) hl (by rw [swapB_ok g hk, hsw]) (chkI_ok hr g h4) (blkOk_by (by rw [g.N, g.sc]; exact hb)) (own1_ok ho) (fun s H C cl fp => chkG_ok g.blk h5) (fun s H C cl fp => chkT_ok hr g.blk h6) (fun s H C cl fp => chkI_ok hr g.blk h7) (fun s H C cl fp => chkG_ok g.blk h8) (fun s H C cl fp => chkT_ok hr g.blk h9) (fun s H C cl fp => (hr _ _ _ h10 _ g.blk).1) (folded_ok h0) fun env => folded_ok h01
      · rename_i hsw
        simp only [Bool.and_eq_true, decide_eq_true_eq] at h3
        exact st_asgN nd (isN_ok g h1) lc fc (hr _ _ _ h3.2 X g).1 (by rw [swapB_ok g h3.1, Bool.eq_false_iff.mpr hsw])
    · rename_i kx vx own t k its ifs p' p'' tg iter ifx i0 scope pos
      split at h3
      · rename_i hsw
        simp only [Bool.and_eq_true, decide_eq_true_eq] at h3
        obtain ⟨⟨⟨⟨⟨⟨⟨⟨hk, rfl⟩, hb⟩, h0⟩, h4⟩, h5⟩, h6⟩, h7⟩, h8⟩ := h3
        have e : E.dc kx vx own t k its ifs = .dc kx vx ((ownP c.N own).map (·.2)) t k its ifs := by rw [ownP_snd]
        rw [e]
        have hl : X.env.scope.names.lookup n = some NameKind.local := by
          have z := hsw
          simp only [swapB, Bool.and_eq_true, decide_eq_true_eq] at z
          rw [g.sc]; exact z.1.1
        exact st_asgDc (vs1 := []) (t1 := t) (k1 := k) (its1 := []) (eifs1 := []) (tg1 := tg) (iter1 := iter) (ifs1 := []) g.calm nd (isN_ok g h1) hl (by rw [swapB_okD g hk, hsw]) (chkI_ok hr g h4) (blkOk_by (by rw [g.N, g.sc]; exact hb)) (fun s H C cl fp => chkG_ok g.blk h5) (fun s H C cl fp => chkT_ok hr g.blk h6) (fun s H C cl fp => (hr _ _ _ h7 _ g.blk).1) (fun s H C cl fp => (hr _ _ _ h8 _ g.blk).1) (folded_ok h0)
      · rename_i hsw
        simp only [Bool.and_eq_true, decide_eq_true_eq] at h3
        exact st_asgN nd (isN_ok g h1) lc fc (hr _ _ _ h3.2 X g).1 (by rw [swapB_okD g h3.1, Bool.eq_false_iff.mpr hsw])
    · rename_i kx vx own t k its ifs own1 t1 k1 its1 ifs1 p' p'' tg iter ifx i0 tg1 iter1 ifx1 i1 scope pos
      split at h3
      · rename_i hsw
        simp only [Bool.and_eq_true, decide_eq_true_eq] at h3
        obtain ⟨⟨⟨⟨⟨⟨⟨⟨⟨⟨⟨⟨⟨⟨hk, rfl⟩, rfl⟩, ho⟩, hb⟩, h0⟩, h01⟩, h4⟩, h5⟩, h6⟩, h7⟩, h8⟩, h9⟩, h10⟩, h11⟩ := h3
        have e : E.dc2 kx vx own t k its ifs own1 t1 k1 its1 ifs1 = .dc2 kx vx ((ownP c.N own).map (·.2)) t k its ifs own1 t1 k1 its1 ifs1 := by rw [ownP_snd]
        rw [e]
        have hl : X.env.scope.names.lookup n = some NameKind.local := by
          have z := hsw
          simp only [swapB, Bool.and_eq_true, decide_eq_true_eq] at z
          rw [g.sc]; exact z.1.1
        exact st_asgDc2 g.calm nd (by have := g.un; omega) (isN_ok g h1) hl (by rw [swapB_okD g hk, hsw]) (chkI_ok hr g h4) (blkOk_by (by rw [g.N, g.sc]; exact hb)) (own1_ok ho) (fun s H C cl fp => chkG_ok g.blk h5) (fun s H C cl fp => chkT_ok hr g.blk h6) (fun s H C cl fp => chkI_ok hr g.blk h7) (fun s H C cl fp => chkG_ok g.blk h8) (fun s H C cl fp => chkT_ok hr g.blk h9) (fun s H C cl fp => (hr _ _ _ h10 _ g.blk).1) (fun s H C cl fp => (hr _ _ _ h11 _ g.blk).1) (folded_ok h0) fun env => folded_ok h01
      · rename_i hsw
        simp only [Bool.and_eq_true, decide_eq_true_eq] at h3
        exact st_asgN nd (isN_ok g h1) lc fc (hr _ _ _ h3.2 X g).1 (by rw [swapB_okD g h3.1, Bool.eq_false_iff.mpr hsw])
    · simp only [Bool.and_eq_true] at h3
      exact st_asgN nd (isN_ok g h1) lc fc (hr _ _ _ h3.2 X g).1 (notComp_ok h3.1)
  · simp only [Bool.and_eq_true] at h
    exact fun X g hx => st_asgT (chkG_ok g h.1.1) (hr _ _ _ h.1.2 X g).1 sole_ok (swap_none g h.2) rfl
  · simp only [Bool.and_eq_true] at h
    obtain ⟨⟨⟨h1, h2⟩, h3⟩, h4⟩ := h
    refine fun X g hx => let ⟨p1, p2, p3, p4⟩ := varB_ok g h1; st_setIx p1 p2 p3 p4 (hr _ _ _ h3 X g).1 (hr _ _ _ h4 X g).1 (fun v => ?_) soleS_ok
    rename_i q y _ _
    clear h3 h4
    cases q <;> first | rfl | cases h2
  · split at h <;> first | (cases h; done) | skip
    exact fun X g hx => st_retN
  · split at h
    · exact fun X g hx => let ⟨p1, p2, p3, p4⟩ := varB_ok g h; st_retV p1 p2 p3 p4
    · simp only [Bool.and_eq_true] at h
      exact fun X g hx => st_ret (hr _ _ _ h.2 X g).1 fun i e => by subst e; cases h.1
  · simp only [Bool.and_eq_true] at h
    exact fun X g hx => st_if ((hr _ _ _ h.1.1.1 X g).2 h.1.1.2) (hrss _ _ h.1.2 X g hx) (hrss _ _ h.2 X g hx)
  · simp only [Bool.and_eq_true] at h
    exact fun X g hx => st_for (by rw [hx.1]; exact PassesOwn.never) g.calm (chkI_ok hr g h.1.1.2) (chkG_ok g h.1.2) (hrss _ _ h.2 X g hx) (folded_ok h.1.1.1)
theorem chkS_ok : ∀ (n : Nat) (s : S) (x : Stmt), chkS c n s x = true → OKS F W c s x
  | 0, _, _, h => by cases h
  | n + 1, s, x, h => stepS_ok (chkS_ok n) (stepSs_ok (chkS_ok n)) (chkE_ok 60) s x h
theorem chkSs_ok (n : Nat) (ss : List S) (xs : List Stmt) (h : chkSs c n ss xs = true) : OKSs F W c ss xs := stepSs_ok (chkS_ok n) ss xs h
end
end MP
namespace MP
open PySem PySem.Spec PyProof.Rows L2
def chkX1 (rs : List S → List Stmt → Bool) (c : CC) (s : S) (x : Stmt) : Bool :=
  match s with
  | .ret er => (match x with
    | .Raise (some (.Call (.Name n _) (x :: xs) [] _)) none _ => (match er with
      | .tup [.c (.str C), .tup es] => decide (C = n) && c.xcs.contains C && glB c.sc C && !(C == ("__debug__" : Str)) && chkL (chkE 60 c) es (x :: xs) && decide (es.length = (xfl C).length)
      | _ => false)
    | .Return (some y) _ => chkRE (chkE 60 c) c er y
    | .Expr y _ => notCompB y && chkRE (chkE 60 c) c er y
    | .Assign [.Name n _] y _ => c.N.contains n && locB c n && notCompB y && chkRE (chkE 60 c) c er y
    | _ => false)
  | .iff e a b => (match x with
    | .If y p q _ => chkE 60 c e y && notIf y && rs a p && rs b q
    | _ => false)
  | s => noRetB s && chkS c 40 s x
def stepXs (r1 : S → Stmt → Bool) : List S → List Stmt → Bool
  | [], [] => true
  | .bad :: _, _ => true
  | s :: ss, x :: xs => r1 s x && stepXs r1 ss xs
  | _, _ => false
def chkX (c : CC) : Nat → S → Stmt → Bool
  | 0 => fun _ _ => false
  | n + 1 => chkX1 (stepXs (chkX c n)) c
def chkXs (c : CC) (n : Nat) : List S → List Stmt → Bool := stepXs (chkX c n)
section
variable {X : Cx} {F : CallF} {W : Nat} {c : CC}
def OKX (F : CallF) (W : Nat) (c : CC) (s : S) (x : Stmt) : Prop := ∀ X : Cx, Good X F c → DefL X → ∀ WW, Takes X WW → PS X x (tX X.K F W WW s)
def OKXs (F : CallF) (W : Nat) (c : CC) (s : List S) (x : List Stmt) : Prop := ∀ X : Cx, Good X F c → DefL X → ∀ WW, Takes X WW → PSs X x (tXs X.K F W WW s)
theorem Good.nox (g : Good X F c) : Good X.nox F c :=
  ⟨g.N, g.sc, g.calm, g.nd, g.un, g.G, g.fnc, g.fn, g.bl, g.cs, g.ats, g.mes, g.mks, g.nmX, g.mesX, g.mksX, fun C h => let ⟨⟨q⟩, r⟩ := g.xcs C h; ⟨⟨q⟩, r⟩, g.xhs, g.exm, g.eqs, g.xfs, g.xis⟩
theorem chkX1_ok {rs : List S → List Stmt → Bool} (hrs : ∀ ss xs, rs ss xs = true → OKXs F W c ss xs) (s : S) (x : Stmt) (h : chkX1 rs c s x = true) : OKX F W c s x := by
  unfold chkX1 at h
  split at h
  · rename_i er
    split at h <;> first | (cases h; done) | skip
    · split at h <;> first | (cases h; done) | skip
      simp only [Bool.and_eq_true, decide_eq_true_eq] at h
      obtain ⟨⟨⟨⟨⟨rfl, h1⟩, h2⟩, h3⟩, h4⟩, h5⟩ := h
      intro X g dl WW tk
      obtain ⟨q1, q2, q3⟩ := g.xcs _ h1
      exact sx_raise g.calm tk q1 (glB_ok g h2) (not_ok h3) (chkL_es (chkE_ok 60) g h4).2 (chkL_es (chkE_ok 60) g h4).1 h5 q3
    · obtain ⟨hv, p⟩ := chkRE_ok (chkE_ok 60) h
      exact fun X g dl WW tk => sx_ret hv tk (p X g)
    · simp only [Bool.and_eq_true] at h
      obtain ⟨hv, p⟩ := chkRE_ok (chkE_ok 60) h.2
      exact fun X g dl WW tk => sx_ex hv tk (p X g) (notComp_ok h.1)
    · simp only [Bool.and_eq_true] at h
      obtain ⟨⟨⟨h1, h2⟩, h3⟩, h4⟩ := h
      obtain ⟨hv, p⟩ := chkRE_ok (chkE_ok 60) h4
      obtain ⟨i, hi⟩ := List.getElem?_of_mem (by simpa using h1)
      intro X g dl WW tk
      obtain ⟨lc, fc⟩ := locB_ok g h2
      exact sx_set (i := i) hv tk (p X g) (by rw [g.N]; exact g.nd) (by rw [g.N]; exact hi) lc fc (notComp_ok h3)
  · split at h <;> first | (cases h; done) | skip
    simp only [Bool.and_eq_true] at h
    exact fun X g dl WW tk => sx_if ((chkE_ok 60 _ _ _ h.1.1.1 X g).2 h.1.1.2) (hrs _ _ h.1.2 X g dl WW tk) (hrs _ _ h.2 X g dl WW tk)
  · simp only [Bool.and_eq_true] at h
    exact fun X g dl WW tk => sx_norm (chkS_ok 40 _ _ h.2 X.nox g.nox ⟨rfl, ⟨dl.st, dl.fr, dl.ex⟩⟩) h.1
theorem stepXs_ok {r1 : S → Stmt → Bool} (h : ∀ s x, r1 s x = true → OKX F W c s x) : ∀ (ss : List S) (xs : List Stmt), stepXs r1 ss xs = true → OKXs F W c ss xs
  | [], [], _ => fun X g dl WW tk => sx_nil
  | [], _ :: _, q => by simp [stepXs] at q
  | s :: ss, [], q => by
    cases s <;> first | (simp [stepXs] at q; done) | skip
    exact fun X g dl WW tk => sx_bad
  | s :: ss, x :: xs, q => by
    cases s
    case bad => exact fun X g dl WW tk => sx_bad
    all_goals
      simp only [stepXs, Bool.and_eq_true] at q
      exact fun X g dl WW tk => sx_cons (h _ _ q.1 X g dl WW tk) (stepXs_ok h ss xs q.2 X g dl WW tk)
theorem chkX_ok : ∀ (n : Nat) (s : S) (x : Stmt), chkX c n s x = true → OKX F W c s x
  | 0, _, _, h => by cases h
  | n + 1, s, x, h => chkX1_ok (stepXs_ok (chkX_ok n)) s x h
theorem chkXs_ok (n : Nat) (ss : List S) (xs : List Stmt) (h : chkXs c n ss xs = true) : OKXs F W c ss xs := stepXs_ok (chkX_ok n) ss xs h
end
end MP
namespace MP
open PySem PySem.Spec PyProof.Rows L2
structure Fn where
  id : Nat
  x : Str
  st : Stmt
  N : List Str
  cl : Str := ""
  q : Str := x
  g : Str := x
  idx : Option Nat := none
def Fn.ps (φ : Fn) (FT : Nat → Option FD) : List Str := φ.N.take ((FT φ.id).elim 0 FD.np)
def nmOf (fs : List Fn) (f : Nat) : Option Str := (fs.find? fun φ => φ.id == f && φ.cl == ("" : Str)).map (·.g)
def meOf (fs : List Fn) (y h : Str) : Option Nat := (fs.find? fun φ => φ.cl == y && φ.x == h && !(φ.cl == ("" : Str))).map (·.id)
def mkOf (fs : List Fn) (mk : List Str) (y : Str) : Option Nat := if mk.contains y = true then meOf fs y "__init__" else none
def nmXOf (fs : List Fn) (f : Nat) : Option Str := (fs.find? fun φ => φ.idx == some f && φ.cl == ("" : Str)).map (·.g)
def meXOf (fs : List Fn) (y h : Str) : Option Nat := (fs.find? fun φ => φ.cl == y && φ.x == h && !(φ.cl == ("" : Str))).bind (·.idx)
def mkXOf (fs : List Fn) (mk : List Str) (y : Str) : Option Nat := if mk.contains y = true then meXOf fs y "__init__" else none
def scOkB (N P : List Str) (sc : Scope) : Bool :=
  decide (sc.kind = .function) && !sc.isCoroutine && !sc.isGenerator && decide N.Nodup && decide (N.take P.length = P) && P.all (fun x => match sc.names.lookup x with | some .local => true | some .cell => true | _ => false) && sc.names.all (fun y => !decide (y.2 = .free))
theorem scOkB_ok {N P : List Str} {sc : Scope} (h : scOkB N P sc = true) : FnScope N P sc := by
  simp only [scOkB, Bool.and_eq_true, decide_eq_true_eq, Bool.not_eq_true', List.all_eq_true] at h
  obtain ⟨⟨⟨⟨⟨⟨h1, h2⟩, h3⟩, h4⟩, h5⟩, h6⟩, h7⟩ := h
  refine ⟨h1, h2, h3, h4, h5, fun x hx => ?_, fun y hy e => ?_⟩
  · have := h6 x hx
    split at this <;> first | (cases this; done) | skip
    · rename_i e; exact .inl e
    · rename_i e; exact .inr e
  · have := h7 y hy
    rw [e] at this
    simp at this
def ccOf (fs : List Fn) (bl : List Str) (φ : Fn) (cs : List (Str × D)) (ats : List (Str × Str)) (mk xcs xhs eqs xfs xis : List Str) : CC :=
  ⟨φ.N, defScope φ.st, defScope φ.st, nmOf fs, bl, cs, ats, meOf fs, mkOf fs mk, nmXOf fs, meXOf fs, mkXOf fs mk, xcs, xhs, eqs, xfs, xis⟩
def chkFn (FT : Nat → Option FD) (fs : List Fn) (bl : List Str) (φ : Fn) (cs : List (Str × D) := []) (ats : List (Str × Str) := []) (mk : List Str := []) (xcs : List Str := []) (xhs : List Str := []) (eqs : List Str := []) (xfs : List Str := []) (xis : List Str := []) : Bool :=
  match FT φ.id with
  | none => false
  | some fd => decide (φ.N.length = fd.nl) && decide ((φ.N.take fd.np).length = fd.np) && decide (fd.np ≤ fd.nl) && scOkB φ.N (φ.N.take fd.np) (defScope φ.st) &&
      chkSs (ccOf fs bl φ cs ats mk xcs xhs eqs xfs xis) 40 fd.body (defBody φ.st) &&
      match φ.idx with
      | none => true
      | some i => match FT i with
        | none => false
        | some fx => decide (fx.nl = fd.nl) && decide (fx.np = fd.np) && chkXs (ccOf fs bl φ cs ats mk xcs xhs eqs xfs xis) 40 fx.body (defBody φ.st)
structure ExcF (P : Program) (w : World) (K : PySem.W.Frag) (mg : Str → Option Value) (base : Heap) (C : Str) : Prop where
  ex : ∃ (Ca fI : Addr) (fd : FuncData) (ps : List Str), PySem.W.nsIn K mainGlobals C = some (some (.ref Ca)) ∧ mg C = some (.ref Ca) ∧ OexC K Ca ∧ (∀ f ∈ xfl C, PySem.W.findIn K (.ref Ca) f = some none) ∧
    PySem.W.findIn K (.ref Ca) "__init__" = some (some (.ref fI)) ∧ PySem.W.typeIn K (.ref fI) = some (.type "function") ∧ FnOk P w K mg base CX0 1 fI fd ps (spI K C) ∧ Binds K fd ps [] ∧ XfC K Ca ∧ xfl C ≠ []
section
variable {P : Program} {w : World} {K : PySem.W.Frag} {mg : Str → Option Value} {base : Heap}
theorem meOf_ok {fs : List Fn} {y h : Str} {i : Nat} (e : meOf fs y h = some i) : ∃ φ ∈ fs, φ.cl = y ∧ φ.x = h ∧ φ.cl ≠ "" ∧ φ.id = i := by
  unfold meOf at e
  rw [Option.map_eq_some_iff] at e
  obtain ⟨ψ, hψ, rfl⟩ := e
  have hm := List.mem_of_find?_eq_some hψ
  have he := List.find?_some hψ
  simp only [Bool.and_eq_true, beq_iff_eq, Bool.not_eq_true', beq_eq_false_iff_ne] at he
  exact ⟨ψ, hm, he.1.1, he.1.2, he.2, rfl⟩
theorem meXOf_ok {fs : List Fn} {y h : Str} {i : Nat} (e : meXOf fs y h = some i) : ∃ φ ∈ fs, φ.cl = y ∧ φ.x = h ∧ φ.cl ≠ "" ∧ φ.idx = some i := by
  unfold meXOf at e
  rw [Option.bind_eq_some_iff] at e
  obtain ⟨ψ, hψ, e⟩ := e
  have hm := List.mem_of_find?_eq_some hψ
  have he := List.find?_some hψ
  simp only [Bool.and_eq_true, beq_iff_eq, Bool.not_eq_true', beq_eq_false_iff_ne] at he
  exact ⟨ψ, hm, he.1.1, he.1.2, he.2, e⟩
theorem all_fns (FT : Nat → Option FD) (W : Nat) (fs : List Fn) (bl : List Str) (cs : List (Str × D)) (ats : List (Str × Str)) (mk xcs xhs eqs xfs xis : List Str) (h : ∀ φ ∈ fs, chkFn FT fs bl φ cs ats mk xcs xhs eqs xfs xis = true)
    (hK : ∀ φ ∈ fs, φ.cl = "" → ∃ f fd, L2.Fun K φ.x φ.q φ.st f fd ∧ mg φ.g = some (.ref f) ∧ Binds K fd (φ.ps FT) [])
    (hM : ∀ φ ∈ fs, φ.cl ≠ "" → ∃ C f fd, ClsK K φ.cl C ∧ Meth K C φ.x f ∧ L2.Fun K φ.x φ.q φ.st f fd ∧ Binds K fd (φ.ps FT) [])
    (hat : ∀ z ∈ ats, ∃ C, ClsK K z.1 C ∧ NoAttr K C z.2)
    (hmk : ∀ y ∈ mk, ∃ C, PySem.W.nsIn K mainGlobals y = some (some (.ref C)) ∧ PySem.W.makesIn K C = true ∧ PySem.W.keepIn K (.ref C) = true ∧ mg y = some (.ref C))
    (hbl : ∀ x ∈ bl, mg x = none) (hcs : ∀ y ∈ cs, ∃ u v, mg y.1 = some u ∧ RelV v u ∧ ∀ H A ρ d, sameD d y.2 = true → RelD K H A ρ d v)
    (hX : ∀ C ∈ xcs, ExcF P w K mg base C) (hH : ∀ h ∈ xhs, ∃ v, mg h = some v)
    (hE : ∀ (C : Str) (Ca : Addr) (h : Str) (v : Value), xfl C ≠ [] → PySem.W.nsIn K mainGlobals C = some (some (.ref Ca)) → h ∈ xhs → mg h = some v → PySem.W.exmOne K (.ref Ca) v = some (subX C h))
    (hQ : ∀ y ∈ eqs, ∃ C, ClsK K y C ∧ C8.InsC K C ∧ mg y = some (.ref C) ∧ ∀ fa, Meth K C "__eq__" fa → EqC K C fa)
    (hXF : ∀ f ∈ xfs, XfAll K f) (hXI : ∀ h ∈ xis, XisG K mg h) :
    ∀ (n : Nat) (φ : Fn), φ ∈ fs → ∀ f fd, L2.Fun K φ.x φ.q φ.st f fd → FnG P w K mg base (2 * n + 2) f fd (φ.ps FT) (spOf K (callF FT W n) φ.id) ∧ ∀ i, φ.idx = some i → FnX P w K mg base (2 * n + 2) f fd (φ.ps FT) (spX K (callF FT W n) i)
  | n, φ, hφ, f, fd, F => by
    have hc := h φ hφ
    unfold chkFn at hc
    cases hf : FT φ.id with
    | none => rw [hf] at hc; cases hc
    | some d =>
      rw [hf] at hc
      simp only [Bool.and_eq_true, decide_eq_true_eq] at hc
      obtain ⟨⟨⟨⟨⟨h1, h2⟩, h3⟩, h4⟩, h5⟩, h6⟩ := hc
      have eps : φ.ps FT = φ.N.take d.np := by unfold Fn.ps; rw [hf]; rfl
      have S := scOkB_ok h4
      cases n with
      | zero =>
        refine ⟨⟨fun vs H Q sp => ?_, fun A outer s H args us vs Q hr hG e0 hb r sp => ?_⟩, fun i hi => ⟨fun vs H Q E sp => ?_, fun A outer s H args us vs Q E hr hG e0 hb r sp => ?_⟩⟩
        · obtain ⟨av, ρ, as, m, d', fr, m', _, _, e, _⟩ := sp; cases e
        · obtain ⟨av, ρ, as, m, d', fr, m', _, _, e, _⟩ := sp; cases e
        · obtain ⟨av, ρ, as, m, d', fr, _, _, m', _, _, e, _⟩ := sp; cases e
        · obtain ⟨av, ρ, as, m, d', fr, _, _, m', _, _, e, _⟩ := sp; cases e
      | succ n =>
        rw [eps]
        have fnOk : ∀ ψ ∈ fs, ∀ f' fd', L2.Fun K ψ.x ψ.q ψ.st f' fd' → FnG P w K mg base (2 * n + 2) f' fd' (ψ.ps FT) (spOf K (callF FT W n) ψ.id) ∧ ∀ i, ψ.idx = some i → FnX P w K mg base (2 * n + 2) f' fd' (ψ.ps FT) (spX K (callF FT W n) i) := fun ψ hm f' fd' F' => all_fns FT W fs bl cs ats mk xcs xhs eqs xfs xis h hK hM hat hmk hbl hcs hX hH hE hQ hXF hXI n ψ hm f' fd' F'
        have good : ∀ (X : Cx), X.prog = P → X.w = w → X.K = K → X.mg = mg → X.base = base → X.N = φ.N → X.env.scope = defScope φ.st → X.calm = true → X.A.guards = some [] → (∀ x, (defScope φ.st).names.lookup x = some .cell → X.fn x = true) → Room (2 * n + 3) X.A → Good X (callF FT W n) (ccOf fs bl φ cs ats mk xcs xhs eqs xfs xis) := fun X p1 p2 p3 p4 p5 p6 p7 p8 p9 p10 hr => by
          subst p1 p2 p3 p4 p5
          refine ⟨p6, p7, p8, S.nd, ?_, p9, p10, fun i x hi => ?_, hbl, hcs, fun y g hz => ?_, fun y g i hi => ?_, fun y i hi => ?_, fun i x hi => ?_, fun y g i hi => ?_, fun y i hi => ?_, fun C hC => ?_, fun h hh => hH h (by simpa [ccOf] using hh), fun C Ca h v a1 a2 a3 a4 => hE C Ca h v a1 a2 (by simpa [ccOf] using a3) a4, fun y hy => hQ y (by simpa [ccOf] using hy), fun f hf => hXF f (by simpa [ccOf] using hf), fun y hy => hXI y (by simpa [ccOf] using hy)⟩
          · have := hr.un
            omega
          · have hi : nmOf fs i = some x := hi
            unfold nmOf at hi
            rw [Option.map_eq_some_iff] at hi
            obtain ⟨ψ, hψ, rfl⟩ := hi
            have hm := List.mem_of_find?_eq_some hψ
            have he := List.find?_some hψ
            simp only [Bool.and_eq_true, beq_iff_eq] at he
            obtain ⟨f', fd', F', mg', b'⟩ := hK ψ hm he.2
            have e := he.1
            subst e
            exact ⟨2 * n + 2, f', fd', _, hr.mono (by omega), (fnOk ψ hm f' fd' F').1, mg', F'.kp, b'⟩
          · exact hat (y, g) (by simpa [ccOf] using hz)
          · obtain ⟨ψ, hm, rfl, rfl, hn, rfl⟩ := meOf_ok hi
            obtain ⟨C, f', fd', ck, me, F', b'⟩ := hM ψ hm hn
            exact ⟨C, f', 2 * n + 2, fd', _, ck, me, hr.mono (by omega), (fnOk ψ hm f' fd' F').1, b'⟩
          · have hi : mkOf fs mk y = some i := hi
            unfold mkOf at hi
            split at hi
            case isFalse => cases hi
            rename_i hin
            obtain ⟨ψ, hm, rfl, hx, hn, rfl⟩ := meOf_ok hi
            obtain ⟨C, f', fd', ck, me, F', b'⟩ := hM ψ hm hn
            obtain ⟨C', g1, g2, g3, g4⟩ := hmk ψ.cl (by simpa using hin)
            cases ck.uniq g1
            exact ⟨C, f', 2 * n + 2, fd', _, g1, ⟨g2, by rw [← hx]; exact me.at_, me.fn, g3⟩, hr.mono (by omega), (fnOk ψ hm f' fd' F').1, g4, b'⟩
          · have hi : nmXOf fs i = some x := hi
            unfold nmXOf at hi
            rw [Option.map_eq_some_iff] at hi
            obtain ⟨ψ, hψ, rfl⟩ := hi
            have hm := List.mem_of_find?_eq_some hψ
            have he := List.find?_some hψ
            simp only [Bool.and_eq_true, beq_iff_eq] at he
            obtain ⟨f', fd', F', mg', b'⟩ := hK ψ hm he.2
            exact ⟨2 * n + 2, f', fd', _, hr.mono (by omega), (fnOk ψ hm f' fd' F').2 i he.1, mg', F'.kp, b'⟩
          · obtain ⟨ψ, hm, rfl, rfl, hn, e⟩ := meXOf_ok hi
            obtain ⟨C, f', fd', ck, me, F', b'⟩ := hM ψ hm hn
            exact ⟨C, f', 2 * n + 2, fd', _, ck, me, hr.mono (by omega), (fnOk ψ hm f' fd' F').2 i e, b'⟩
          · have hi : mkXOf fs mk y = some i := hi
            unfold mkXOf at hi
            split at hi
            case isFalse => cases hi
            rename_i hin
            obtain ⟨ψ, hm, rfl, hx, hn, e⟩ := meXOf_ok hi
            obtain ⟨C, f', fd', ck, me, F', b'⟩ := hM ψ hm hn
            obtain ⟨C', g1, g2, g3, g4⟩ := hmk ψ.cl (by simpa using hin)
            cases ck.uniq g1
            exact ⟨C, f', 2 * n + 2, fd', _, g1, ⟨g2, by rw [← hx]; exact me.at_, me.fn, g3⟩, hr.mono (by omega), (fnOk ψ hm f' fd' F').2 i e, g4, b'⟩
          · obtain ⟨Ca, fI, fd', ps', q1, q2, q3, q4, q5, q6, q7, q8, q9, q10⟩ := (hX C (by simpa [ccOf] using hC)).ex
            refine ⟨⟨Ca, fI, 1, fd', ps', q1, q2, q3, q4, q5, q6, q7, hr.mono (by omega), q8⟩, ⟨fun Ca' e => ?_⟩, q10⟩
            rw [q1] at e
            cases e
            exact ⟨q9, q4⟩
        refine ⟨?_, fun i hi => ?_⟩
        · refine fnG_of (k := 2 * n + 3) F S (fun vs H Q sp => sp_len hf h2 sp) fun cdv A outer s H vs Q hr hG sp => ?_
          refine body_ok (X := (cxOf CX0 P w K mg base φ.N φ.q (defScope φ.st) f cdv A outer s H fun _ _ _ => False).nox) hf h1 h3 ?_ sp
          exact chkSs_ok (c := ccOf fs bl φ cs ats mk xcs xhs eqs xfs xis) 40 d.body (defBody φ.st) h5 _ (good _ rfl rfl rfl rfl rfl rfl rfl rfl hG (fun _ _ => rfl) hr) ⟨rfl, ⟨rfl, rfl, rfl⟩⟩
        · rw [hi] at h6
          simp only at h6
          cases hfx : FT i with
          | none => rw [hfx] at h6; cases h6
          | some fx =>
            rw [hfx] at h6
            simp only [Bool.and_eq_true, decide_eq_true_eq] at h6
            obtain ⟨⟨g1, g2⟩, g3⟩ := h6
            refine fnX_of (k := 2 * n + 3) F S (fun vs H Q E sp => spX_len hfx (by rw [g2]; exact h2) sp) fun cdv A outer s H vs Q E hr hG sp => ?_
            refine body_okX (X := cxOf (L2.CX P w) P w K mg base φ.N φ.q (defScope φ.st) f cdv A outer s H E) hfx (by rw [g1]; exact h1) (by rw [g1, g2]; exact h3) ?_ sp
            exact chkXs_ok (c := ccOf fs bl φ cs ats mk xcs xhs eqs xfs xis) 40 fx.body (defBody φ.st) g3 _ (good _ rfl rfl rfl rfl rfl rfl rfl rfl hG (fun _ _ => rfl) hr) ⟨rfl, rfl, rfl⟩ _ (takes_of rfl rfl rfl rfl)
  termination_by n => n
end
end MP
namespace MP
open PySem PySem.Spec PyProof.Rows L2
theorem law_at {P : Program} {w : World} {K : PySem.W.Frag} {mg mb : Str → Option Value} {k : Nat} {fa a : Addr} {fd : FuncData} {x : Str} {sp : SpG} {s₁ : Shared} {vs : List Value} {H : Hp}
    (KX : K.In s₁.heap) (hns : s₁.heap.Ns mainGlobals mg) (hb : s₁.heap.Ns builtinsNs mb) (hbb : ∀ x : Str, x ≠ "__name__" → mb x = bootBuiltins x) (hlim : s₁.heap.NoLimit) (hg : s₁.gens = #[])
    (ha : s₁.heap.get? a = some { cls := .type "list", data := .seq vs.toArray }) (hr : Room k callerA)
    (F : ∀ base : Heap, K.In base → base.Ns mainGlobals mg → FnG P w K mg base k fa fd [x] sp) (hbind : ∀ (s : Shared) (u : Value), BindsTo s fd ⟨[u], []⟩ [(x, u)])
    (hO : Only H) (hok : HOk P w H s₁.heap) (hA : ∀ b, H b ≠ none → b = a) (hK : H a ≠ none → K.lookup a = none) (hsp : sp [.ref a] H fun v _ => v = .bl true) :
    codeAny (model P w) callerA (.call (.ref fa) ⟨[.ref a], []⟩) (fun r s' => r = .ok (.ret (.bool true)) ∧ OldK s₁.heap s'.heap ∧ s'.os = s₁.os ∧ AllBare s'.gens) s₁ := by
  have dictNone : ∀ {b : Addr} {o : Obj} {es : Array DictEntry} {ep : Nat}, s₁.heap.get? b = some o → o.data = .dict es ep → H b = none := fun {b o es ep} e d => by
    cases q : H b with
    | none => rfl
    | some u =>
      have := hA b (by rw [q]; exact fun z => nomatch z)
      subst this
      rw [ha] at e
      cases e
      cases d
  have ns' : ∀ {b : Addr} {m : Str → Option Value}, s₁.heap.Ns b m → (hidT s₁.heap H).Ns b m := fun ⟨o, es, ep, e, d, r⟩ => ⟨o, es, ep, hidT_get e (dictNone e d), d, r⟩
  have hKb : K.In (hidT s₁.heap H) := fun b o e => hidT_get (KX b o e) (by
    cases q : H b with
    | none => rfl
    | some u =>
      have hb' : H b ≠ none := by rw [q]; exact fun z => nomatch z
      have := hA b hb'
      subst this
      rw [hK hb'] at e
      cases e)
  have hM : Mod K mg (hidT s₁.heap H) := ⟨hKb, ns' hns, ⟨mb, ns' hb, hbb⟩, let ⟨mc, h1, h2⟩ := hlim; ⟨mc, ns' h1, h2⟩⟩
  have e0 : Env0 P w K mg (hidT s₁.heap H) callerA [] s₁ H := ⟨rfl, hM, fun b o e => of_hidT e, Nat.le_of_eq (hidT_size _ _), trivial, fun b hb => absurd (show b ∈ ([] : List Addr) from hb) (by simp), hok, .of_eq hg⟩
  refine codeAny_mono ((F _ hKb (ns' hns)).run callerA [] s₁ H ⟨[.ref a], []⟩ [.ref a] [.ref a] _ hr rfl e0 (hbind s₁ (.ref a)) (.cons rfl .nil) hsp) fun r s' h => ?_
  cases r with
  | error e => exact False.elim h
  | ok fl =>
    cases fl with
    | next => exact False.elim h
    | brk => exact False.elim h
    | cont => exact False.elim h
    | ret u =>
      obtain ⟨v, H', os, bare, un, hok', rv, q⟩ := h
      have q : v = .bl true := q
      subst q
      have eu : u = Value.bool true := rv
      subst eu
      refine ⟨rfl, OldK.of_keep fun b o e => ?_, os, bare⟩
      rcases hO b with z | ⟨ob, xs, z⟩
      · exact un.keep b o e z (fun z => absurd (show b ∈ ([] : List Addr) from z) (by simp)) (by simp)
      · obtain ⟨e1, _⟩ := hok b _ z
        obtain ⟨e2, _⟩ := hok' b _ (un.frzs b ob _ z)
        rw [e] at e1
        cases e1
        exact e2
theorem law_sp {K : PySem.W.Frag} {F : CallF} {f : Nat} {a : Addr} {ns : List Int} {H : Hp} {m' : MH} (hO : Only H) (hs : SqL K H a (ns.map V.int)) (h : F f [(.scr ns, false)] [] = .ok (.bl true, false) m') : spOf K F f [.ref a] H fun v _ => v = .bl true := by
  have hr : RelD K H (aR (fun _ => False) [] none) [] (.scr ns) (.ref a) := by
    refine ⟨a, rfl, ?_⟩
    rcases hs with (hs | ⟨o, hs⟩) | hs
    · rcases hO a with z | ⟨o, xs, z⟩
      · rw [z] at hs; cases hs
      · rw [z] at hs; cases hs
    · refine .inl ⟨o, hs, fun z => ?_⟩
      rcases z with z | z | z
      · exact z
      · cases z
      · cases z
    · exact .inr hs
  refine ⟨fun _ => False, [], [(.scr ns, false)], [], _, _, _, ⟨List.nodup_nil, fun p hp => absurd (show p ∈ ([] : List Addr) from hp) (by simp), fun p hp => hp.elim, rfl, fun n c x e => (by simp at e)⟩, .cons (.inl ⟨rfl, hr⟩) .nil, h, fun v H' ρ' rt => ?_⟩
  obtain ⟨o, _, _, rv⟩ := rt.val
  exact rv
open PySem.W in
theorem law_walk {l : PySem.W.OpenLaw} {n k j : Nat} {q : Program} {loose : List Str} {XP : (Str → Option Value) → Heap → Prop} {YP : World → Heap → Prop} {d : DefRec} {K : Params → PySem.W.Frag} {x : Str} {FT : Nat → Option FD} {W f : Nat}
    (hn : l.most = some n) (hn2 : n ≤ sizeLine) (hdf : d.params.defaults = []) (hr : Room k callerA)
    (hY : ∀ (w : World) (h : Heap), YP w h → (K w.params).In h)
    (F : ∀ (w : World) (mg : Str → Option Value) (fa : Addr) (h : Heap), (K w.params).In h → h.Ns mainGlobals mg → mg d.name = some (.ref fa) →
      ∃ fd : FuncData, (∀ (s : Shared) (u : Value), BindsTo s fd ⟨[u], []⟩ [(x, u)]) ∧
        ∀ base : Heap, (K w.params).In base → base.Ns mainGlobals mg → FnG l.prog w (K w.params) mg base k fa fd [x] (spOf (K w.params) (callF FT W j) f))
    (hlaw : ∀ ns : List Int, ns.length ≤ n → ∃ m', callF FT W j f [(.scr ns, false)] [] = .ok (.bl true, false) m') :
    PySem.W.WalkO q loose XP YP l.row.toRowW d [] (fun f vs => PySem.call f vs) := by
  refine Att.attach_call hn hdf fun w s₀ s₁ mg mb fa o pm cd doc a vs ns G Y ho hd hcd hmg hobj hints hlen hg => ?_
  have KX := hY w _ Y
  obtain ⟨fd, hb, hF⟩ := F w mg fa _ KX G.T.g hmg
  obtain ⟨m', hl⟩ := hlaw ns hlen
  have rv := vals_ints hints
  have lenV := hints.length
  have hz : ns.length ≤ sizeLine := Nat.le_trans hlen hn2
  cases hk : (K w.params).lookup a with
  | some ob =>
    have e := KX a ob hk
    rw [hobj] at e
    cases e
    refine law_at (H := fun _ => none) KX G.T.g G.T.b G.T.builtins G.T.nolimit hg hobj hr hF hb (fun _ => .inl rfl) (fun b u z => nomatch (show (none : Option HO) = some u from z)) (fun b z => absurd rfl z) (fun z => absurd rfl z) (law_sp (fun _ => .inl rfl) ?_ hl)
    exact .inr ⟨_, vs.toArray, _, hk, rfl, rfl, rfl, by rw [List.size_toArray, lenV]; exact hz, by simpa using rv⟩
  | none =>
    have hO : Only (fun b => if b = a then some (.frz { cls := .type "list", data := .seq vs.toArray } (.lst (ns.map V.int))) else none) := fun b => by
      by_cases hb : b = a
      · exact .inr ⟨_, _, if_pos hb⟩
      · exact .inl (if_neg hb)
    refine law_at KX G.T.g G.T.b G.T.builtins G.T.nolimit hg hobj hr hF hb hO (fun b u z => ?_) (fun b z => ?_) (fun _ => hk) (law_sp hO (.inl (.inr ⟨_, if_pos rfl⟩)) hl)
    · by_cases hb : b = a
      · have z' := (if_pos hb).symm.trans z
        cases z'
        subst hb
        exact ⟨hobj, by rw [List.length_map]; exact hz, vs, _, rv, hobj⟩
      · have z' := (if_neg hb).symm.trans z
        cases z'
    · by_cases hb : b = a
      · exact hb
      · exact absurd (if_neg hb) z
end MP
namespace MP
open PySem PySem.Spec PyProof.Rows L2
def vB (N : List Str) (sc : Scope) (i : Nat) (x : Str) : Bool := isN N i x && visB sc x && !(x == ("__debug__" : Str)) && !(x == ("__classdict__" : Str))
def chkSt1 (N : List Str) (sc : Scope) (j : Nat) (f : Str) (st : Stmt) : Bool := match st with
  | .Assign [.Attribute (.Name s _) g _] (.Name x _) _ => decide (g = f) && vB N sc 0 s && vB N sc (j + 1) x
  | _ => false
def chkSt (N : List Str) (sc : Scope) : Nat → List Str → List Stmt → Bool
  | _, [], [] => true
  | j, f :: fs, s :: r => chkSt1 N sc j f s && chkSt N sc (j + 1) fs r
  | _, _, _ => false
def chkInit (N : List Str) (sc : Scope) (C B : Str) : List Stmt → Bool
  | .Expr (.Call (.Attribute (.Name b _) m p2) [.Name s _, .Constant (.str _) _ _] [] pc) _ :: r => decide (b = B) && decide (m = "__init__") && glB sc b && !(b == ("__debug__" : Str)) && (p2.endLine == pc.line) && vB N sc 0 s && !(xfl C).isEmpty && chkSt N sc 0 (xfl C) r
  | _ => false
section
variable {X : Cx} {N : List Str} {sc : Scope} {C B : Str}
theorem vB_ok {i : Nat} {x : Str} {p : Pos} (hN : X.N = N) (hs : X.env.scope = sc) (h : vB N sc i x = true) : PE X (.Name x p) (tVar i) := by
  simp only [vB, Bool.and_eq_true] at h
  obtain ⟨⟨⟨h1, h2⟩, h3⟩, h4⟩ := h
  refine pe_var ?_ ?_ (not_ok h3) (not_ok h4)
  · rw [hN]
    unfold isN at h1
    split at h1 <;> first | (cases h1; done) | skip
    rename_i y e; rw [e, eq_of_beq h1]
  · rw [hs]
    unfold visB at h2
    split at h2 <;> first | (cases h2; done) | skip
    · rename_i e; exact .inl e
    · rename_i e; exact .inr (.inl e)
    · rename_i e; exact .inr (.inr e)
theorem nsw {x : Str} {px : Pos} {t : Option Expr} {l : Nat} {env : PySem.Env} : swapsWith (.Name x px) t l env = pure false := notComp_ok rfl
theorem chkSt_ok (hN : X.N = N) (hs : X.env.scope = sc) : ∀ (j : Nat) (fs : List Str) (st : List Stmt), 1 ≤ j → (xfl C).drop j = fs → chkSt N sc j fs st = true → PSs X st (tIn X.K C j)
  | j, [], [], _, hd, _ => in_nil (by have := congrArg List.length hd; simp at this; omega)
  | j, [], _ :: _, _, _, h => by simp [chkSt] at h
  | j, f :: fs, [], _, _, h => by simp [chkSt] at h
  | j, f :: fs, s :: r, hj, hd, h => by
    simp only [chkSt, Bool.and_eq_true] at h
    obtain ⟨h, h3⟩ := h
    have hf : (xfl C)[j]? = some f := by rw [← List.head?_drop, hd]; rfl
    have hd2 : (xfl C).drop (j + 1) = fs := by
      have := congrArg (List.drop 1) hd
      simpa [List.drop_drop, Nat.add_comm] using this
    have rest := chkSt_ok hN hs (j + 1) fs r (by omega) hd2 h3
    unfold chkSt1 at h
    split at h <;> first | (cases h; done) | skip
    simp only [Bool.and_eq_true, decide_eq_true_eq] at h
    obtain ⟨⟨rfl, h1⟩, h2⟩ := h
    exact in_step hf hj (vB_ok hN hs h1) (vB_ok hN hs h2) nsw rest
theorem chkInit_ok {Bd : Addr} (hN : X.N = N) (hs : X.env.scope = sc) (T : BaseC X.K Bd) (hm : X.mg B = some (.ref Bd)) {st : List Stmt} (h : chkInit N sc C B st = true) : PSs X st (tIn0 X.K C) := by
  unfold chkInit at h
  split at h <;> first | (cases h; done) | skip
  rename_i b p1 m p2 s ps tx jt pt pc p0 r
  simp only [Bool.and_eq_true, decide_eq_true_eq] at h
  obtain ⟨⟨⟨⟨⟨⟨⟨rfl, rfl⟩, h1⟩, h2⟩, h3⟩, h4⟩, h5⟩, h6⟩ := h
  have hg : Gl X b := by
    show X.env.scope.names.lookup b = _
    rw [hs]
    unfold glB at h1
    split at h1 <;> first | (cases h1; done) | skip
    rename_i e; exact e
  have ns : NoStar (.Name s ps) := fun y p e => nomatch e
  cases hx : xfl C with
  | nil => rw [hx] at h5; cases h5
  | cons f fs =>
    rw [hx] at h6
    cases r with
    | nil => simp [chkSt] at h6
    | cons s1 r =>
      simp only [chkSt, Bool.and_eq_true] at h6
      obtain ⟨h6, h7⟩ := h6
      have rest := chkSt_ok hN hs 1 fs r (by omega) (by rw [hx]; rfl) h7
      unfold chkSt1 at h6
      split at h6 <;> first | (cases h6; done) | skip
      simp only [Bool.and_eq_true, decide_eq_true_eq] at h6
      obtain ⟨⟨rfl, g1⟩, g2⟩ := h6
      exact in_start (b := .Name b p1) (by rw [hx]; rfl) T hg hm (not_ok h2) (vB_ok hN hs h4) ns (vB_ok hN hs g1) (vB_ok hN hs g2) nsw
        (meth_ht (o := .Name b p1) rfl h3 (fun z hz => by
          rcases List.mem_cons.mp hz with e | hz
          · rw [e]; exact ns
          · rcases List.mem_cons.mp hz with e | hz
            · rw [e]; exact fun y p e => nomatch e
            · cases hz) (by show 2 < 30; omega)) (notComp_ok rfl) rest
end
theorem excF_mk {P : Program} {w : World} {K : PySem.W.Frag} {mg : Str → Option Value} {base : Heap} {C B : Str} {Ca Bd fI : Addr} {fd : FuncData} {st : Stmt} {q : Str} {N : List Str} (h1 : PySem.W.nsIn K mainGlobals C = some (some (.ref Ca))) (h2 : mg C = some (.ref Ca)) (h3 : OexC K Ca)
    (h4 : ∀ f ∈ xfl C, PySem.W.findIn K (.ref Ca) f = some none) (h5 : PySem.W.findIn K (.ref Ca) "__init__" = some (some (.ref fI))) (h6 : PySem.W.typeIn K (.ref fI) = some (.type "function")) (F : L2.Fun K "__init__" q st fI fd) (b : Binds K fd N [])
    (xf : XfC K Ca) (T : BaseC K Bd) (hB : mg B = some (.ref Bd)) (hc : (scOkB N N (defScope st) && decide (N.length = (xfl C).length + 1) && chkInit N (defScope st) C B (defBody st)) = true) : ExcF P w K mg base C := by
  simp only [Bool.and_eq_true, decide_eq_true_eq] at hc
  obtain ⟨⟨c1, c2⟩, c3⟩ := hc
  have S := scOkB_ok c1
  have ne : xfl C ≠ [] := fun z => by
    unfold chkInit at c3
    split at c3 <;> first | (cases c3; done) | skip
    simp only [Bool.and_eq_true] at c3
    rw [z] at c3
    exact absurd c3.1.2 (by decide)
  exact ⟨Ca, fI, fd, N, h1, h2, h3, h4, h5, h6, init_fn (k := 0) F S c2 rfl fun X e1 e2 e3 e4 e5 => chkInit_ok e3 e4 (by rw [e1]; exact T) (by rw [e2]; exact hB) c3, b, xf, ne⟩
theorem xfl_six {C : Str} (h : xfl C ≠ []) : C = "InvalidTask" ∨ C = "InvalidDuration" ∨ C = "Refuted" ∨ C = "InvalidTick" ∨ C = "InvalidLimit" ∨ C = "InvalidNarrowing" := by
  unfold xfl at h
  split at h
  · exact .inl ‹_›
  split at h
  · exact .inr (.inl ‹_›)
  split at h
  · exact .inr (.inr (.inl ‹_›))
  split at h
  · exact .inr (.inr (.inr (.inl ‹_›)))
  split at h
  · exact .inr (.inr (.inr (.inr (.inl ‹_›))))
  split at h
  · exact .inr (.inr (.inr (.inr (.inr ‹_›))))
  exact absurd rfl h
end MP
namespace MP
open PySem L2
def Res.andThen {α : Type} (r : Res α) (f : α → MH → SR) : SR := match r with | .ok a m => f a m | .bad => .bad
def optEnv : Option Env → MH → SR
  | some e, m => .nx e m
  | none, _ => .bad
def optX : Option D → MH → Res (D × Mode)
  | some d, m => .ok (d, .sh) m
  | none, _ => .bad
def br {α : Type} (bad : α) : Option Bool → α → α → α
  | some true, a, _ => a
  | some false, _, b => b
  | none, _, _ => bad
def gd {α : Type} (bad : α) : Bool → α → α
  | true, a => a
  | false, _ => bad
theorem at_ok {α : Type} (a : α) (m : MH) (f : α → MH → SR) : (Res.ok a m).andThen f = f a m := rfl
theorem at_bad {α : Type} (f : α → MH → SR) : (Res.bad : Res α).andThen f = .bad := rfl
theorem th_nx (e : Env) (m : MH) (f : Env → MH → SR) : (SR.nx e m).then f = f e m := rfl
theorem th_ret (d : D) (b : Bool) (m : MH) (f : Env → MH → SR) : (SR.ret d b m).then f = .ret d b m := rfl
theorem th_brk (e : Env) (m : MH) (f : Env → MH → SR) : (SR.brk e m).then f = .brk e m := rfl
theorem th_cnt (e : Env) (m : MH) (f : Env → MH → SR) : (SR.cnt e m).then f = .cnt e m := rfl
theorem br_t {α : Type} (bad a b : α) : br bad (some true) a b = a := rfl
theorem br_f {α : Type} (bad a b : α) : br bad (some false) a b = b := rfl
theorem gd_t {α : Type} (bad a : α) : gd bad true a = a := rfl
theorem oe_some (e : Env) (m : MH) : optEnv (some e) m = .nx e m := rfl
theorem ox_some (d : D) (m : MH) : optX (some d) m = .ok (d, .sh) m := rfl
theorem od_some (d : D) (m : MH) : optD (some d) m = .ok (d, modeOf d) m := rfl
theorem ob_some (d : Bool) (m : MH) : optB (some d) m = .ok (.bl d, .sh) m := rfl
section
variable (F : CallF) (W : Nat) (env : Env) (m : MH)
theorem xE_c (d : D) : evalE F (.c d) env m = .ok (d, modeOf d) m := rfl
def slotV (s : Slot) (m : MH) : Res (D × Mode) := match s with | .sh d => .ok (d, .sh) m | .ow d => .ok (d, .bo) m | .bw d => .ok (d, .br) m | .un => .bad
theorem sv_sh (d : D) : slotV (.sh d) m = .ok (d, .sh) m := rfl
theorem sv_ow (d : D) : slotV (.ow d) m = .ok (d, .bo) m := rfl
theorem sv_bw (d : D) : slotV (.bw d) m = .ok (d, .br) m := rfl
theorem xE_v (i : Nat) : evalE F (.v i) env m = slotV (env.getD i .un) m := by simp only [evalE, Env.at]; cases env.getD i .un <;> rfl
theorem xE_tup (es : List E) : evalE F (.tup es) env m = (evalEs F es env m).bind fun ds m1 => gd .bad (decide (ds.length ≤ 16777216)) (.ok (.tup ds, .sh) m1) := by
  simp only [evalE]; cases evalEs F es env m with
  | bad => rfl
  | ok a m1 => simp only [Res.bind_ok]; by_cases h : a.length ≤ 16777216 <;> simp [h, gd]
theorem xE_lst (es : List E) : evalE F (.lst es) env m = (evalEs F es env m).bind fun ds m1 => gd .bad (decide (ds.length ≤ 16777216)) (.ok (.lst ds, .fr) m1) := by
  simp only [evalE]; cases evalEs F es env m with
  | bad => rfl
  | ok a m1 => simp only [Res.bind_ok]; by_cases h : a.length ≤ 16777216 <;> simp [h, gd]
theorem xE_op (o : Op) (a b : E) : evalE F (.op o a b) env m = (evalE F a env m).bind fun x m1 => (evalE F b env m1).bind fun y m2 => optD (opD o x.1 y.1) m2 := by simp only [evalE]
def negR (d : D) (m : MH) : Res (D × Mode) := match d with | .int i => .ok (.int (-i), .sh) m | _ => .bad
theorem ng_i (i : Int) : negR (.int i) m = .ok (.int (-i), .sh) m := rfl
theorem xE_neg (a : E) : evalE F (.neg a) env m = (evalE F a env m).bind fun x m1 => negR x.1 m1 := by simp only [evalE]; rfl
theorem xE_cmp (o : Cm) (a b : E) : evalE F (.cmp o a b) env m = (evalE F a env m).bind fun x m1 => (evalE F b env m1).bind fun y m2 => optB (cmD o x.1 y.1) m2 := by simp only [evalE]
theorem xE_ch (o p : Cm) (a b c : E) : evalE F (.ch o p a b c) env m = (evalE F a env m).bind fun x m1 => (evalE F b env m1).bind fun y m2 => br .bad (cmD o x.1 y.1) ((evalE F c env m2).bind fun z m3 => optB (cmD p y.1 z.1) m3) (.ok (.bl false, .sh) m2) := by
  simp only [evalE]
  refine congrArg _ (funext fun x => funext fun m1 => congrArg _ (funext fun y => funext fun m2 => ?_))
  cases cmD o x.1 y.1 with
  | none => rfl
  | some b => cases b <;> rfl
theorem xE_ch3 (o p q : Cm) (a b c d : E) : evalE F (.ch3 o p q a b c d) env m = (evalE F a env m).bind fun x m1 => (evalE F b env m1).bind fun y m2 => br .bad (cmD o x.1 y.1) ((evalE F c env m2).bind fun z m3 => br .bad (cmD p y.1 z.1) ((evalE F d env m3).bind fun u m4 => optB (cmD q z.1 u.1) m4) (.ok (.bl false, .sh) m3)) (.ok (.bl false, .sh) m2) := by
  simp only [evalE]
  refine congrArg _ (funext fun x => funext fun m1 => congrArg _ (funext fun y => funext fun m2 => ?_))
  cases cmD o x.1 y.1 with
  | none => rfl
  | some b =>
    cases b with
    | false => rfl
    | true =>
      show (evalE F c env m2).bind _ = (evalE F c env m2).bind _
      refine congrArg _ (funext fun z => funext fun m3 => ?_)
      cases cmD p y.1 z.1 with
      | none => rfl
      | some b => cases b <;> rfl
def litR (ox : Option (List D)) (m : MH) : Res (D × Mode) := match ox with | some xs => if xs.length ≤ 16777216 then .ok (.lst xs, .fr) m else .bad | none => .bad
theorem lr_some (xs : List D) : litR (some xs) m = gd .bad (decide (xs.length ≤ 16777216)) (.ok (.lst xs, .fr) m) := by
  unfold litR
  by_cases h : xs.length ≤ 16777216 <;> simp [h, gd]
theorem xE_lit (k : ItK) (es : List E) : evalE F (.lit k es) env m = (evalPs F es env m).bind fun ds m1 => litR (itD k (ds.map (·.1))) m1 := by simp only [evalE]; rfl
theorem xE_hasN (a : E) : evalE F (.hasN a) env m = (evalE F a env m).bind fun x m1 => optB (hasN x.1) m1 := by simp only [evalE]
theorem xE_hasNN (a : E) : evalE F (.hasNN a) env m = (evalE F a env m).bind fun x m1 => optB ((hasN x.1).map fun c => !c) m1 := by simp only [evalE]
theorem xE_join (a b : E) : evalE F (.join a b) env m = (evalE F a env m).bind fun x m1 => (evalE F b env m1).bind fun y m2 => optD (joinD x.1 y.1) m2 := by simp only [evalE]
def itsM (d : D) (m : MH) : Option D := itsD (deref m d)
theorem it_m (kvs : List (Key × D)) : itsM (.dK kvs) m = itsD (.dK kvs) := rfl
theorem xE_its (a : E) : evalE F (.its a) env m = (evalE F a env m).bind fun x m1 => optD (itsM x.1 m1) m1 := by simp only [evalE] <;> rfl
def sitsM (d : D) (m : MH) : Option D := sitsD (deref m d)
theorem si_m (kvs : List (Key × D)) : sitsM (.dK kvs) m = sitsD (.dK kvs) := rfl
theorem xE_sits (a : E) : evalE F (.sits a) env m = (evalE F a env m).bind fun x m1 => optD (sitsM x.1 m1) m1 := by simp only [evalE] <;> rfl
def itsTM (d : D) (m : MH) : Option D := itsTD (deref m d)
theorem itT_m (kvs : List (List Key × D)) : itsTM (.dT kvs) m = itsTD (.dT kvs) := rfl
theorem xE_itsT (a : E) : evalE F (.itsT a) env m = (evalE F a env m).bind fun x m1 => optD (itsTM x.1 m1) m1 := by simp only [evalE] <;> rfl
def valsM (d : D) (m : MH) : Option D := valsD (deref m d)
theorem xE_vals (a : E) : evalE F (.vals a) env m = (evalE F a env m).bind fun x m1 => optD (valsM x.1 m1) m1 := by simp only [evalE] <;> rfl
theorem xE_idx (a b : E) : evalE F (.idx a b) env m = (evalE F a env m).bind fun x m1 => (evalE F b env m1).bind fun y m2 => optD (idxD x.1 y.1) m2 := by simp only [evalE]
def boxR (x : D × Mode) (m : MH) : Res (D × Mode) := match x with | (.lst ds, .fr) => .ok (.obj m.length, .sh) (m ++ [.lst ds]) | (.dK ds, .fr) => .ok (.obj m.length, .sh) (m ++ [.dK ds]) | (.dT ds, .fr) => .ok (.obj m.length, .sh) (m ++ [.dT ds]) | _ => .bad
theorem bx_fr (ds : List D) : boxR (.lst ds, .fr) m = .ok (.obj m.length, .sh) (m ++ [.lst ds]) := rfl
theorem xE_box (e : E) : evalE F (.box e) env m = (evalE F e env m).bind fun x m1 => boxR x m1 := by simp only [evalE]; rfl
def zA (o : Option (List Arg)) (k : List Arg → Res (D × Mode)) : Res (D × Mode) := match o with | some as => k as | none => .bad
theorem za_some (as : List Arg) (k : List Arg → Res (D × Mode)) : zA (some as) k = k as := rfl
def zG (m2 : MH) (r : D × Bool) (m1 : MH) : Res (D × Mode) := if m2.isEmpty = true ∧ plainD r.1 = true then .ok (r.1, .sh) m1 else .bad
theorem zg_bl (b f : Bool) : zG [] (.bl b, f) m = .ok (.bl b, .sh) m := rfl
theorem zg_int (b : Int) (f : Bool) : zG [] (.int b, f) m = .ok (.int b, .sh) m := rfl
theorem xE_callZ (f : Nat) (es : List E) : evalE F (.callZ f es) env m = (evalAs F es env m).bind fun ds m1 => zA (dzA m1 ds) fun as => (F f as []).bind fun r m2 => zG m2 r m1 := by
  simp only [evalE]
  refine congrArg _ (funext fun ds => funext fun m1 => ?_)
  cases dzA m1 ds <;> rfl
theorem xE_and (a b : E) : evalE F (.and a b) env m = (evalE F a env m).bind fun x m1 => br .bad (dTrue x.1) (evalE F b env m1) (.ok x m1) := by
  simp only [evalE]
  refine congrArg _ (funext fun x => funext fun m1 => ?_)
  cases dTrue x.1 with
  | none => rfl
  | some b => cases b <;> rfl
theorem xE_or (a b : E) : evalE F (.or a b) env m = (evalE F a env m).bind fun x m1 => br .bad (dTrue x.1) (.ok x m1) (evalE F b env m1) := by
  simp only [evalE]
  refine congrArg _ (funext fun x => funext fun m1 => ?_)
  cases dTrue x.1 with
  | none => rfl
  | some b => cases b <;> rfl
theorem xE_not (a : E) : evalE F (.not a) env m = (evalE F a env m).bind fun x m1 => br .bad (dTrue x.1) (.ok (.bl false, .sh) m1) (.ok (.bl true, .sh) m1) := by
  simp only [evalE]
  refine congrArg _ (funext fun x => funext fun m1 => ?_)
  cases dTrue x.1 with
  | none => rfl
  | some b => cases b <;> rfl
theorem xE_ite (c a b : E) : evalE F (.ite c a b) env m = (evalE F c env m).bind fun x m1 => br .bad (dTrue x.1) (evalE F a env m1) (evalE F b env m1) := by
  simp only [evalE]
  refine congrArg _ (funext fun x => funext fun m1 => ?_)
  cases dTrue x.1 with
  | none => rfl
  | some b => cases b <;> rfl
theorem xE_ix (a b : E) : evalE F (.ix a b) env m = (evalE F a env m).bind fun x m1 => (evalE F b env m1).bind fun y m2 => optX (ixD (deref m2 x.1) y.1) m2 := by
  simp only [evalE]
  refine congrArg _ (funext fun x => funext fun m1 => congrArg _ (funext fun y => funext fun m2 => ?_))
  cases ixD (deref m2 x.1) y.1 <;> rfl
theorem xE_sl (a : E) (lo hi : List E) : evalE F (.sl a lo hi) env m = (evalE F a env m).bind fun x m1 => (evalO F lo env m1).bind fun l m2 => (evalO F hi env m2).bind fun h m3 => optD (slD x.1 l h) m3 := by simp only [evalE]
def rvR (d : D) (m : MH) : Res (D × Mode) := match deref m d with | .tup xs => .ok (.tup xs.reverse, .sh) m | .lst xs => .ok (.lst xs.reverse, .fr) m | _ => .bad
theorem rv_t (xs : List D) : rvR (.tup xs) m = .ok (.tup xs.reverse, .sh) m := rfl
theorem rv_l (xs : List D) : rvR (.lst xs) m = .ok (.lst xs.reverse, .fr) m := rfl
theorem xE_rv (a : E) : evalE F (.rv a) env m = (evalE F a env m).bind fun x m1 => rvR x.1 m1 := by simp only [evalE]; rfl
theorem xE_ev (a : E) : evalE F (.ev a) env m = (evalE F a env m).bind fun x m1 => optD (evD x.1) m1 := by simp only [evalE]
theorem xE_ssetI (a : E) : evalE F (.ssetI a) env m = (evalE F a env m).bind fun x m1 => optD (ssetID x.1) m1 := by simp only [evalE]
theorem xE_sset (a : E) : evalE F (.sset a) env m = (evalE F a env m).bind fun x m1 => optD (ssetD x.1) m1 := by simp only [evalE]
theorem xE_call (f : Nat) (es : List E) : evalE F (.call f es) env m = (evalAs F es env m).bind fun ds m1 => (F f ds m1).bind fun r m2 => .ok (r.1, if r.2 then .fr else .sh) m2 := by simp only [evalE]
theorem xE_bi (b : Bi) (es : List E) : evalE F (.bi b es) env m = (evalPs F es env m).bind fun ds m1 => optD (biD b (ds.map (·.1))) m1 := by simp only [evalE]
theorem xE_isi (o : Bool) (ts : List Ty) (a : E) : evalE F (.isi o ts a) env m = (evalE F a env m).bind fun x m1 => optB (isD ts x.1) m1 := by simp only [evalE]
def lcGo (elt : E) (t : T) (ifs : List E) (e : Env) (xs : List D) (m : MH) : Res (D × Mode) :=
  (lcLoop t (fun e' m' => evalT F ifs e' m') (fun e' m' => (evalE F elt e' m').bind fun x m'' => if owns x.2 then .ok x.1 m'' else .bad) e xs m).bind fun ds m2 => if ds.length ≤ 16777216 then .ok (.lst ds, .fr) m2 else .bad
def lcOpt (elt : E) (t : T) (ifs : List E) (oe : Option Env) (ox : Option (List D)) (m : MH) : Res (D × Mode) := match ox, oe with
  | some xs, some e => lcGo F elt t ifs e xs m
  | _, _ => .bad
theorem lo_some (elt : E) (t : T) (ifs : List E) (e : Env) (xs : List D) : lcOpt F elt t ifs (some e) (some xs) m = lcGo F elt t ifs e xs m := rfl
def lcD' (elt : E) (t : T) (ifs : List E) (oe : Option Env) (o : Option D) (m : MH) : Res (D × Mode) := match o with | some d => lcOpt F elt t ifs oe (dictItems d) m | none => .bad
theorem ld_some (elt : E) (t : T) (ifs : List E) (oe : Option Env) (d : D) : lcD' F elt t ifs oe (some d) m = lcOpt F elt t ifs oe (dictItems d) m := rfl
theorem xE_lcD (elt : E) (own : List Nat) (t : T) (i : Nat) (ifs : List E) (h : (tslots t).all (own.contains ·) = true) (h2 : own.contains i = false) : evalE F (.lcD elt own t i ifs) env m = lcD' F elt t ifs (wipeE env own) (dctS (env.getD i .un)) m := by
  simp only [evalE, Env.at]
  rw [if_neg (by rw [h, h2]; simp)]
  cases dctS (env.getD i .un) with
  | none => rfl
  | some d =>
    simp only [lcD', lcOpt, lcGo]
    cases dictItems d with
    | none => rfl
    | some xs => cases wipeE env own <;> rfl
theorem dp_tup (ds : List D) (c : Nat) : dctC (.sh (.tup ds)) c = ds[c]? := rfl
theorem xE_lcP (elt : E) (own : List Nat) (t : T) (i c : Nat) (ifs : List E) (h : (tslots t).all (own.contains ·) = true) (h2 : own.contains i = false) : evalE F (.lcP elt own t i c ifs) env m = lcD' F elt t ifs (wipeE env own) (dctC (env.getD i .un) c) m := by
  simp only [evalE, Env.at]
  rw [if_neg (by rw [h, h2]; simp)]
  cases dctC (env.getD i .un) c with
  | none => rfl
  | some d =>
    simp only [lcD', lcOpt, lcGo]
    cases dictItems d with
    | none => rfl
    | some xs => cases wipeE env own <;> rfl
theorem bx_T (ds : List (List Key × D)) : boxR (.dT ds, .fr) m = .ok (.obj m.length, .sh) (m ++ [.dT ds]) := rfl
theorem bx_K (ds : List (Key × D)) : boxR (.dK ds, .fr) m = .ok (.obj m.length, .sh) (m ++ [.dK ds]) := rfl
theorem xE_fld (y : Str) (e : E) (f : Str) : evalE F (.fld y e f) env m = (evalE F e env m).bind fun x m1 => fldR y x.1 f m1 := by simp only [evalE]
theorem xE_fldX (f : Str) (a : E) : evalE F (.fldX f a) env m = (evalE F a env m).bind fun x m1 => optX (fieldX m1 f x.1) m1 := by
  simp only [evalE]; cases evalE F a env m with
  | bad => rfl
  | ok x m1 => simp only [Res.bind] <;> (cases fieldX m1 f x.1 <;> rfl)
theorem iv_fldX (f : Str) (a : E) : isV (.fldX f a) = false := id rfl
theorem xE_isX (h : Str) (a : E) : evalE F (.isX h a) env m = (evalE F a env m).bind fun x m1 => optB (isXD m1 h x.1) m1 := by simp only [evalE]
theorem iv_isX (h : Str) (a : E) : isV (.isX h a) = false := id rfl
theorem xE_isC (h : Str) (a : E) : evalE F (.isC h a) env m = (evalE F a env m).bind fun x m1 => optB (isCD m1 h x.1) m1 := by simp only [evalE]
theorem iv_isC (h : Str) (a : E) : isV (.isC h a) = false := id rfl
theorem xE_isG (h : Str) (zs : List Str) (a : E) : evalE F (.isG h zs a) env m = (evalE F a env m).bind fun x m1 => optB (isGD m1 h zs x.1) m1 := by simp only [evalE]
theorem iv_isG (h : Str) (zs : List Str) (a : E) : isV (.isG h zs a) = false := id rfl
def czR (o : Cm) (m : MH) : Option D → Option D → Res (D × Mode)
  | some d, some e => optB (cmD o d e) m
  | _, _ => .bad
theorem cz_some (o : Cm) (d e : D) : czR o m (some d) (some e) = optB (cmD o d e) m := rfl
theorem xE_cmZ (o : Cm) (a b : E) : evalE F (.cmZ o a b) env m = (evalE F a env m).bind fun x m1 => (evalE F b env m1).bind fun y m2 => gd .bad (owns x.2 && owns y.2) (czR o m2 (dz m2 x.1) (dz m2 y.1)) := by
  simp only [evalE]; cases evalE F a env m with
  | bad => rfl
  | ok x m1 =>
    simp only [Res.bind]
    cases evalE F b env m1 with
    | bad => rfl
    | ok y m2 =>
      simp only
      cases (owns x.2 && owns y.2) with
      | false => rfl
      | true =>
        refine (if_pos rfl).trans ?_
        show _ = czR o m2 (dz m2 x.1) (dz m2 y.1)
        cases dz m2 x.1 <;> cases dz m2 y.1 <;> rfl
theorem iv_cmZ (o : Cm) (a b : E) : isV (.cmZ o a b) = false := id rfl
def mxR (C : Str) (ds : List D) (m : MH) : Res (D × Mode) := if ds.length = (xfl C).length ∧ ds ≠ [] then .ok (.obj m.length, .sh) (m ++ [.exc C ds]) else .bad
theorem mx_ok (C : Str) (ds : List D) (h : decide (ds.length = (xfl C).length ∧ ds ≠ []) = true) : mxR C ds m = .ok (.obj m.length, .sh) (m ++ [.exc C ds]) := if_pos (of_decide_eq_true h)
theorem xE_mkX (C : Str) (es : List E) : evalE F (.mkX C es) env m = (evalEs F es env m).bind fun ds m1 => mxR C ds m1 := by simp only [evalE] <;> rfl
theorem iv_mkX (C : Str) (es : List E) : isV (.mkX C es) = false := id rfl
theorem xE_slO (a : E) (lo hi : List E) : evalE F (.slO a lo hi) env m = (evalE F a env m).bind fun x m1 => (evalO F lo env m1).bind fun l m2 => (evalO F hi env m2).bind fun h m3 => optD (slD (deref m3 x.1) l h) m3 := by simp only [evalE]
theorem iv_slO (a : E) (lo hi : List E) : isV (.slO a lo hi) = false := id rfl
theorem iv_fld (y : Str) (e : E) (f : Str) : isV (.fld y e f) = false := id rfl
theorem xE_get (e k : E) (dv : List E) : evalE F (.get e k dv) env m = (evalE F e env m).bind fun x m1 => gd .bad (isDct (deref m1 x.1)) ((evalE F k env m1).bind fun y m2 => (evalEs F dv env m2).bind fun zs m3 => getR (deref m3 x.1) y.1 zs m3) := by
  simp only [evalE]
  refine congrArg _ (funext fun x => funext fun m1 => ?_)
  cases isDct (deref m1 x.1) <;> rfl
theorem iv_get (e k : E) (dv : List E) : isV (.get e k dv) = false := id rfl
theorem xE_cmO (o : Cm) (a b : E) : evalE F (.cmO o a b) env m = (evalE F a env m).bind fun x m1 => (evalE F b env m1).bind fun y m2 => optB (cmD o (deref m2 x.1) (deref m2 y.1)) m2 := by simp only [evalE]
theorem iv_cmO (o : Cm) (a b : E) : isV (.cmO o a b) = false := id rfl
theorem xE_biO (b : Bi) (e : E) : evalE F (.biO b e) env m = (evalE F e env m).bind fun x m1 => optD (biD b [deref m1 x.1]) m1 := by simp only [evalE]
theorem iv_biO (b : Bi) (e : E) : isV (.biO b e) = false := id rfl
def mthR (x h : Str) (f : Nat) (es : List E) (env : Env) (m1 : MH) (t : Option (Nat × Str × List (Str × D))) : Res (D × Mode) := match t with
  | some (n, y, fs) => if y = x ∧ (fs.lookup h).isNone = true then (evalAs F es env m1).bind fun ds m2 => (F f ((.obj n, false) :: ds) m2).bind fun r m3 => .ok (r.1, if r.2 then .fr else .sh) m3 else .bad
  | none => .bad
theorem xE_meth (x h : Str) (f : Nat) (e : E) (es : List E) : evalE F (.meth x h f e es) env m = (evalE F e env m).bind fun o m1 => mthR F x h f es env m1 (insOf m1 o.1) := by
  simp only [evalE]
  refine congrArg _ (funext fun o => funext fun m1 => ?_)
  unfold mthR
  rfl
theorem mth_some (x h : Str) (f : Nat) (es : List E) (n : Nat) (fs : List (Str × D)) (hn : (fs.lookup h).isNone = true) : mthR F x h f es env m (some (n, x, fs)) = (evalAs F es env m).bind fun ds m2 => (F f ((.obj n, false) :: ds) m2).bind fun r m3 => .ok (r.1, if r.2 then .fr else .sh) m3 := by
  unfold mthR
  exact if_pos ⟨rfl, hn⟩
theorem iv_meth (x h : Str) (f : Nat) (e : E) (es : List E) : isV (.meth x h f e es) = false := id rfl
def mkR (n : Nat) (d : D) (m2 : MH) : Res (D × Mode) := match d with | .non => .ok (.obj n, .sh) m2 | _ => .bad
theorem mk_non (n : Nat) : mkR n .non m = .ok (.obj n, .sh) m := rfl
theorem xE_make (x : Str) (f : Nat) (es : List E) : evalE F (.make x f es) env m = (evalAs F es env m).bind fun ds m1 => (F f ((.obj m1.length, false) :: ds) (m1 ++ [.ins x []])).bind fun r m2 => mkR m1.length r.1 m2 := by simp only [evalE]; rfl
theorem iv_make (x : Str) (f : Nat) (es : List E) : isV (.make x f es) = false := id rfl
def ciR (m1 : MH) (o : Option (D × Mode)) : Res (D × Mode) := match o with | some x => .ok x m1 | none => .bad
theorem ci_some (x : D × Mode) : ciR m (some x) = .ok x m := rfl
theorem xE_callI (f : Nat) (es : List E) : evalE F (.callI f es) env m = (evalEs F es env m).bind fun ds m1 => gd .bad (noObjs ds) ((F f (ds.map fun d => (d, false)) []).bind fun r m2 => ciR m1 (outR m2 r)) := by
  simp only [evalE]
  refine congrArg _ (funext fun ds => funext fun m1 => ?_)
  cases noObjs ds <;> rfl
theorem iv_callI (f : Nat) (es : List E) : isV (.callI f es) = false := id rfl
theorem xE_popE (e : E) : evalE F (.popE e) env m = (evalE F e env m).bind fun x m1 => popR x.1 m1 := by simp only [evalE]
theorem iv_popE (e : E) : isV (.popE e) = false := id rfl
def dsR (o : Option Key) (b : Bool) (d : D) (m : MH) : Res (D × Mode) := match o with | some k => if b = true then .ok (.dK [(k, d)], .fr) m else .bad | none => .bad
theorem dsr_some (k : Key) (d : D) : dsR (some k) true d m = .ok (.dK [(k, d)], .fr) m := rfl
theorem xE_dsp (k v : E) : evalE F (.dsp [k, v]) env m = (evalE F k env m).bind fun x m1 => (evalE F v env m1).bind fun y m2 => dsR (asKey x.1) (owns y.2) y.1 m2 := by
  simp only [evalE, evalKV]
  cases evalE F k env m with
  | bad => rfl
  | ok x m1 =>
    simp only [Res.bind_ok]
    cases evalE F v env m1 with
    | bad => rfl
    | ok y m2 =>
      simp only [Res.bind_ok]
      cases asKey x.1 with
      | none => rfl
      | some k =>
        simp only [dsR]
        cases owns y.2 <;> rfl
theorem iv_dsp (es : List E) : isV (.dsp es) = false := id rfl
def dcGo (kx vx : E) (t : T) (ifs : List E) (e : Env) (xs : List D) (m : MH) : Res (D × Mode) :=
  (dcLoop t (fun e' m' => evalT F ifs e' m') (fun e' m' => (evalE F kx e' m').bind fun x m'' => .ok x.1 m'') (fun e' m' => (evalE F vx e' m').bind fun x m'' => if owns x.2 then .ok x.1 m'' else .bad) e xs [] m).bind fun kvs m2 => .ok (.dK kvs, .fr) m2
def dcOpt (kx vx : E) (t : T) (ifs : List E) (oe : Option Env) (ox : Option (List D)) (m : MH) : Res (D × Mode) := match ox, oe with
  | some xs, some e => dcGo F kx vx t ifs e xs m
  | _, _ => .bad
theorem do_some (kx vx : E) (t : T) (ifs : List E) (e : Env) (xs : List D) : dcOpt F kx vx t ifs (some e) (some xs) m = dcGo F kx vx t ifs e xs m := rfl
theorem xE_dc (kx vx : E) (own : List Nat) (t : T) (k : ItK) (its ifs : List E) (h : (tslots t).all (own.contains ·) = true) : evalE F (.dc kx vx own t k its ifs) env m = (evalPs F its env m).bind fun ds m1 => dcOpt F kx vx t ifs (wipeE env own) (itD k (ds.map (·.1))) m1 := by
  simp only [evalE, h]
  refine (if_neg (by decide)).trans (congrArg _ (funext fun ds => funext fun m1 => ?_))
  cases itD k (ds.map (·.1)) with
  | none => rfl
  | some xs => cases wipeE env own <;> rfl
theorem iv_dc (a b : E) (o : List Nat) (t : T) (k : ItK) (i j : List E) : isV (.dc a b o t k i j) = false := id rfl
def innR (own1 : List Nat) (k1 : ItK) (its1 : List E) (e' : Env) (m' : MH) : Res (List D × Env) := (evalPs F its1 e' m').bind fun ds' m'' => if ds'.all (fun x => walkable x.2) = false then .bad else match itD k1 (ds'.map (·.1)), wipeE e' own1 with
  | some ys, some e1 => .ok (ys, e1) m''
  | _, _ => .bad
def lcGo2 (elt : E) (t : T) (ifs : List E) (own1 : List Nat) (t1 : T) (k1 : ItK) (its1 ifs1 : List E) (e : Env) (xs : List D) (m : MH) : Res (D × Mode) :=
  (outLoop t (fun e' m' => evalT F ifs e' m') (innR F own1 k1 its1) (fun e' ys acc m' => lcIn t1 (fun e'' m'' => evalT F ifs1 e'' m'') (fun e'' m'' => (evalE F elt e'' m'').bind fun x m3 => if owns x.2 then .ok x.1 m3 else .bad) e' ys acc m') e xs [] m).bind fun ds m2 => .ok (.lst ds, .fr) m2
def lcOpt2 (elt : E) (t : T) (ifs : List E) (own1 : List Nat) (t1 : T) (k1 : ItK) (its1 ifs1 : List E) (oe : Option Env) (ox : Option (List D)) (m : MH) : Res (D × Mode) := match ox, oe with
  | some xs, some e => lcGo2 F elt t ifs own1 t1 k1 its1 ifs1 e xs m
  | _, _ => .bad
theorem lo2_some (elt : E) (t : T) (ifs : List E) (own1 : List Nat) (t1 : T) (k1 : ItK) (its1 ifs1 : List E) (e : Env) (xs : List D) : lcOpt2 F elt t ifs own1 t1 k1 its1 ifs1 (some e) (some xs) m = lcGo2 F elt t ifs own1 t1 k1 its1 ifs1 e xs m := rfl
theorem xE_lc2 (elt : E) (own : List Nat) (t : T) (k : ItK) (its ifs : List E) (own1 : List Nat) (t1 : T) (k1 : ItK) (its1 ifs1 : List E) (h : (tslots t).all (own.contains ·) = true) (h1 : own1.all (own.contains ·) = true) (h2 : (tslots t1).all (own1.contains ·) = true) :
    evalE F (.lc2 elt own t k its ifs own1 t1 k1 its1 ifs1) env m = (evalPs F its env m).bind fun ds m1 => lcOpt2 F elt t ifs own1 t1 k1 its1 ifs1 (wipeE env own) (itD k (ds.map (·.1))) m1 := by
  simp only [evalE, h, h1, h2]
  refine (if_neg (by decide)).trans (congrArg _ (funext fun ds => funext fun m1 => ?_))
  cases itD k (ds.map (·.1)) with
  | none => rfl
  | some xs => cases wipeE env own <;> rfl
theorem iv_lc2 (a : E) (o : List Nat) (t : T) (k : ItK) (i j : List E) (o1 : List Nat) (t1 : T) (k1 : ItK) (i1 j1 : List E) : isV (.lc2 a o t k i j o1 t1 k1 i1 j1) = false := id rfl
def dcGo2 (kx vx : E) (t : T) (ifs : List E) (own1 : List Nat) (t1 : T) (k1 : ItK) (its1 ifs1 : List E) (e : Env) (xs : List D) (m : MH) : Res (D × Mode) :=
  (outLoop t (fun e' m' => evalT F ifs e' m') (innR F own1 k1 its1) (fun e' ys acc m' => dtIn t1 (fun e'' m'' => evalT F ifs1 e'' m'') (fun e'' m'' => (evalE F kx e'' m'').bind fun x m3 => if owns x.2 then .ok x.1 m3 else .bad) (fun e'' m'' => (evalE F vx e'' m'').bind fun x m3 => if owns x.2 then .ok x.1 m3 else .bad) e' ys acc m') e xs [] m).bind fun kvs m2 => .ok (.dT kvs, .fr) m2
def dcOpt2 (kx vx : E) (t : T) (ifs : List E) (own1 : List Nat) (t1 : T) (k1 : ItK) (its1 ifs1 : List E) (oe : Option Env) (ox : Option (List D)) (m : MH) : Res (D × Mode) := match ox, oe with
  | some xs, some e => dcGo2 F kx vx t ifs own1 t1 k1 its1 ifs1 e xs m
  | _, _ => .bad
theorem do2_some (kx vx : E) (t : T) (ifs : List E) (own1 : List Nat) (t1 : T) (k1 : ItK) (its1 ifs1 : List E) (e : Env) (xs : List D) : dcOpt2 F kx vx t ifs own1 t1 k1 its1 ifs1 (some e) (some xs) m = dcGo2 F kx vx t ifs own1 t1 k1 its1 ifs1 e xs m := rfl
theorem xE_dc2 (kx vx : E) (own : List Nat) (t : T) (k : ItK) (its ifs : List E) (own1 : List Nat) (t1 : T) (k1 : ItK) (its1 ifs1 : List E) (h : (tslots t).all (own.contains ·) = true) (h1 : own1.all (own.contains ·) = true) (h2 : (tslots t1).all (own1.contains ·) = true) :
    evalE F (.dc2 kx vx own t k its ifs own1 t1 k1 its1 ifs1) env m = (evalPs F its env m).bind fun ds m1 => dcOpt2 F kx vx t ifs own1 t1 k1 its1 ifs1 (wipeE env own) (itD k (ds.map (·.1))) m1 := by
  simp only [evalE, h, h1, h2]
  refine (if_neg (by decide)).trans (congrArg _ (funext fun ds => funext fun m1 => ?_))
  cases itD k (ds.map (·.1)) with
  | none => rfl
  | some xs => cases wipeE env own <;> rfl
theorem iv_dc2 (a b : E) (o : List Nat) (t : T) (k : ItK) (i j : List E) (o1 : List Nat) (t1 : T) (k1 : ItK) (i1 j1 : List E) : isV (.dc2 a b o t k i j o1 t1 k1 i1 j1) = false := id rfl
theorem iv_lcP (e : E) (o : List Nat) (t : T) (i c : Nat) (j : List E) : isV (.lcP e o t i c j) = false := id rfl
theorem iv_lcD (e : E) (o : List Nat) (t : T) (i : Nat) (j : List E) : isV (.lcD e o t i j) = false := id rfl
theorem xE_lc (elt : E) (own : List Nat) (t : T) (k : ItK) (its ifs : List E) (h : (tslots t).all (own.contains ·) = true) : evalE F (.lc elt own t k its ifs) env m = (evalPs F its env m).bind fun ds m1 => lcOpt F elt t ifs (wipeE env own) (itD k (ds.map (·.1))) m1 := by
  simp only [evalE, h]
  refine (if_neg (by decide)).trans (congrArg _ (funext fun ds => funext fun m1 => ?_))
  unfold lcOpt lcGo
  cases itD k (ds.map (·.1)) with
  | none => rfl
  | some xs => cases wipeE env own <;> rfl
theorem xEs_nil : evalEs F [] env m = .ok [] m := by simp only [evalEs]
theorem xEs_cons (e : E) (es : List E) : evalEs F (e :: es) env m = (evalE F e env m).bind fun x m1 => gd .bad (owns x.2) ((evalEs F es env m1).bind fun r m2 => .ok (x.1 :: r) m2) := by
  simp only [evalEs]
  refine congrArg _ (funext fun x => funext fun m1 => ?_)
  cases owns x.2 <;> rfl
theorem xAs_nil : evalAs F [] env m = .ok [] m := by simp only [evalAs]
theorem xAs_cons (e : E) (es : List E) : evalAs F (e :: es) env m = (evalE F e env m).bind fun x m1 => (evalAs F es env m1).bind fun r m2 => .ok ((x.1, lent x.2) :: r) m2 := by simp only [evalAs]
theorem xPs_nil : evalPs F [] env m = .ok [] m := by simp only [evalPs]
theorem xPs_cons (e : E) (es : List E) : evalPs F (e :: es) env m = (evalE F e env m).bind fun x m1 => (evalPs F es env m1).bind fun r m2 => .ok (x :: r) m2 := by simp only [evalPs]
theorem xO_nil : evalO F [] env m = .ok none m := by simp only [evalO]
def oR (d : D) (m : MH) : Res (Option Int) := match d with | .int i => .ok (some i) m | _ => .bad
theorem or_i (i : Int) : oR (.int i) m = .ok (some i) m := rfl
theorem xO_one (e : E) : evalO F [e] env m = (evalE F e env m).bind fun x m1 => oR x.1 m1 := by simp only [evalO]; rfl
theorem xT_nil : evalT F [] env m = .ok true m := by simp only [evalT]
theorem xT_one (e : E) : evalT F [e] env m = (evalE F e env m).bind fun x m1 => br .bad (dTrue x.1) (.ok true m1) (.ok false m1) := by
  simp only [evalT]
  refine congrArg _ (funext fun x => funext fun m1 => ?_)
  cases dTrue x.1 with
  | none => rfl
  | some b => cases b <;> rfl
theorem xSs_nil : evalSs F W [] env m = .nx env m := by simp only [evalSs]
theorem xSs_cons (s : S) (ss : List S) : evalSs F W (s :: ss) env m = (evalS F W s env m).then fun e m1 => evalSs F W ss e m1 := by
  simp only [evalSs]
  cases evalS F W s env m <;> rfl
theorem xS_pass : evalS F W .pass env m = .nx env m := by simp only [evalS]
theorem xS_brk : evalS F W .brk env m = .brk env m := by simp only [evalS]
theorem xS_cnt : evalS F W .cnt env m = .cnt env m := by simp only [evalS]
theorem xS_ex (e : E) : evalS F W (.ex e) env m = (evalE F e env m).andThen fun _ m1 => .nx env m1 := by simp only [evalS]; cases evalE F e env m <;> rfl
theorem xS_asg (t : T) (e : E) : evalS F W (.asg t e) env m = (evalE F e env m).andThen fun x m1 => optEnv (putT t x env) m1 := by
  simp only [evalS]; cases evalE F e env m with
  | bad => rfl
  | ok x m1 => show (match putT t x env with | some e1 => SR.nx e1 m1 | none => .bad) = _; cases h : putT t x env <;> simp only [Res.andThen, h] <;> rfl
theorem xS_par (i j : Nat) (a b : E) : evalS F W (.par i j a b) env m = (evalE F a env m).andThen fun x m1 => (evalE F b env m1).andThen fun y m2 => optEnv ((put env i x).bind fun e1 => put e1 j y) m2 := by
  simp only [evalS]; cases evalE F a env m with
  | bad => rfl
  | ok x m1 =>
    simp only [Res.andThen]
    cases evalE F b env m1 with
    | bad => rfl
    | ok y m2 =>
      simp only
      cases put env i x with
      | none => rfl
      | some e1 => simp only [Option.bind]; cases put e1 j y <;> rfl
theorem xS_par3 (i j l : Nat) (a b d : E) : evalS F W (.par3 i j l a b d) env m = (evalEs F [a, b, d] env m).andThen fun ds m1 => par3R i j l ds env m1 := by
  simp only [evalS]; cases evalEs F [a, b, d] env m <;> rfl
theorem p3_ok (i j l : Nat) (x y z : D) (env : Env) (m : MH) : par3R i j l [x, y, z] env m = if i < env.length ∧ j < env.length ∧ l < env.length then .nx (((env.set i (.sh x)).set j (.sh y)).set l (.sh z)) m else .bad := rfl
theorem xS_setIx (i : Nat) (k e : E) : evalS F W (.setIx i k e) env m = (evalE F e env m).andThen fun x m1 => (evalE F k env m1).andThen fun y m2 => gd .bad (owns x.2) (setAt env m2 i fun ds => putIx ds y.1 x.1) := by
  simp only [evalS]; cases evalE F e env m with
  | bad => rfl
  | ok x m1 =>
    simp only [Res.andThen]
    cases evalE F k env m1 with
    | bad => rfl
    | ok y m2 => simp only; cases owns x.2 <;> rfl
def augX (o : Option D) (k : Int → SR) : SR := match o with | some (.int a) => k a | _ => .bad
def augR (s : Slot) (d : D) (k : Int → SR) : SR := match s with | .ow (.lst ds) => augX (ixD (.lst ds) d) k | _ => .bad
def augO (o : Option D) (k : D → SR) : SR := match o with | some w => k w | none => .bad
def augP (o : Op) (a : Int) (d : D) (k : D → SR) : SR := match d with | .int b => augO (opD o (.int a) (.int b)) k | _ => .bad
theorem ag_r (ds : List D) (d : D) (k : Int → SR) : augR (.ow (.lst ds)) d k = augX (ixD (.lst ds) d) k := rfl
theorem ag_x (a : Int) (k : Int → SR) : augX (some (.int a)) k = k a := rfl
theorem ag_p (o : Op) (a b : Int) (k : D → SR) : augP o a (.int b) k = augO (opD o (.int a) (.int b)) k := rfl
theorem ag_o (w : D) (k : D → SR) : augO (some w) k = k w := rfl
theorem xS_augIx (i : Nat) (o : Op) (k e : E) : evalS F W (.augIx i o k e) env m = (evalE F k env m).andThen fun y m1 => augR (env.getD i .un) y.1 fun a => (evalE F e env m1).andThen fun z m2 => augP o a z.1 fun w => setAt env m2 i fun ds => putIx ds y.1 w := by
  simp only [evalS, Env.at]
  cases evalE F k env m with
  | bad => rfl
  | ok y m1 =>
    simp only [Res.andThen]
    cases env.getD i .un with
    | un => rfl
    | sh d => rfl
    | bw d => rfl
    | ow d =>
      cases d <;> first | rfl | skip
      rename_i ds
      show _ = augX (ixD (.lst ds) y.1) _
      simp only
      cases ixD (.lst ds) y.1 with
      | none => rfl
      | some v0 =>
        cases v0 <;> first | rfl | skip
        rename_i a
        simp only [augX]
        cases evalE F e env m1 with
        | bad => rfl
        | ok z m2 =>
          obtain ⟨zd, zm⟩ := z
          cases zd <;> rfl
theorem ls_ow (d : D) : lstS (.ow d) m = true := rfl
theorem ls_obj (n : Nat) : lstS (.sh (.obj n)) m = lstC m[n]? := rfl
theorem lc_l (ds : List D) : lstC (some (.lst ds)) = true := rfl
theorem xS_popL (i : Nat) : evalS F W (.popL i) env m = gd .bad (lstS (env.getD i .un) m) (setAt env m i fun ds => if ds = [] then none else some ds.dropLast) := by
  simp only [evalS]
  show _ = gd SR.bad (lstS (env.at i) m) _
  split
  · rename_i h
    rw [h]
    rfl
  · rename_i h
    cases q : lstS (env.at i) m with
    | true => exact absurd q h
    | false => rfl
theorem xS_app (i : Nat) (e : E) : evalS F W (.app i e) env m = gd .bad (lstS (env.getD i .un) m) ((evalE F e env m).andThen fun x m1 => gd .bad (owns x.2) (setAt env m1 i fun ds => appD ds x.1)) := by
  simp only [evalS]
  show _ = gd SR.bad (lstS (env.at i) m) _
  split
  · rename_i h
    rw [h]
    cases evalE F e env m with
    | bad => rfl
    | ok x m1 => simp only [Res.andThen]; cases owns x.2 <;> rfl
  · rename_i h
    rw [Bool.eq_false_iff.mpr h]; rfl
theorem xS_ext (i : Nat) (e : E) : evalS F W (.ext i e) env m = gd .bad (lstS (env.getD i .un) m) ((evalE F e env m).andThen fun x m1 => setAt env m1 i fun ds => extD ds x.1) := by
  simp only [evalS]
  show _ = gd SR.bad (lstS (env.at i) m) _
  split
  · rename_i h
    rw [h]
    cases evalE F e env m <;> rfl
  · rename_i h
    rw [Bool.eq_false_iff.mpr h]; rfl
def insD (x : D) (ds : List D) : Option (List D) := if ds.length < 16777216 then some (x :: ds) else none
theorem xS_ins0 (i : Nat) (e : E) : evalS F W (.ins0 i e) env m = gd .bad (lstS (env.getD i .un) m) ((evalE F e env m).andThen fun x m1 => gd .bad (owns x.2) (setAt env m1 i fun ds => insD x.1 ds)) := by
  simp only [evalS]
  show _ = gd SR.bad (lstS (env.at i) m) _
  split
  · rename_i h
    rw [h]
    cases evalE F e env m with
    | bad => rfl
    | ok x m1 => simp only [Res.andThen]; cases owns x.2 <;> rfl
  · rename_i h
    rw [Bool.eq_false_iff.mpr h]; rfl
def dpO (env : Env) (m : MH) (i : Nat) (o : Option D) : SR := match o with | some d => .nx (env.set i (.ow d)) m | none => .bad
def dpR (env : Env) (m : MH) (i : Nat) (k x : D) (s : Slot) : SR := match s with | .ow d => dpO env m i (putR d k x) | _ => .bad
theorem dp_ow (i : Nat) (k x d : D) : dpR env m i k x (.ow d) = dpO env m i (putR d k x) := rfl
theorem dp_some (i : Nat) (d : D) : dpO env m i (some d) = .nx (env.set i (.ow d)) m := rfl
theorem xS_dput (i : Nat) (k e : E) : evalS F W (.dput i k e) env m = (evalE F e env m).andThen fun x m1 => (evalE F k env m1).andThen fun y m2 => gd .bad (owns x.2) (gd .bad (owns y.2) (dpR env m2 i y.1 x.1 (env.getD i .un))) := by
  simp only [evalS, Env.at]; cases evalE F e env m with
  | bad => rfl
  | ok x m1 =>
    simp only [Res.andThen]
    cases evalE F k env m1 with
    | bad => rfl
    | ok y m2 =>
      simp only
      cases owns x.2
      · rfl
      cases owns y.2
      · rfl
      cases env.getD i .un with
      | ow d => simp only [dpR, gd, Bool.and_self, if_true]; cases putR d y.1 x.1 <;> rfl
      | _ => rfl
def retV (s : Slot) (m : MH) : SR := match s with | .sh d => .ret d false m | .ow d => .ret d true m | _ => .bad
theorem rt_sh (d : D) : retV (.sh d) m = .ret d false m := rfl
theorem rt_ow (d : D) : retV (.ow d) m = .ret d true m := rfl
theorem xS_retV (i : Nat) : evalS F W (.ret (.v i)) env m = retV (env.getD i .un) m := by simp only [evalS, Env.at]; cases env.getD i .un <;> rfl
def retE (x : D × Mode) (m : MH) : SR := match x.2 with | .sh => .ret x.1 false m | .fr => .ret x.1 true m | _ => .bad
theorem re_sh (d : D) : retE (d, .sh) m = .ret d false m := rfl
theorem re_fr (d : D) : retE (d, .fr) m = .ret d true m := rfl
theorem xS_ret (e : E) (h : isV e = false) : evalS F W (.ret e) env m = (evalE F e env m).andThen retE := by
  cases e <;> first | (cases h; done) | skip
  all_goals
    simp only [evalS]
    cases evalE F _ env m with
    | bad => rfl
    | ok x m1 => cases x with | mk d md => cases md <;> rfl
theorem xS_iff (c : E) (a b : List S) : evalS F W (.iff c a b) env m = (evalE F c env m).andThen fun x m1 => br .bad (dTrue x.1) (evalSs F W a env m1) (evalSs F W b env m1) := by
  simp only [evalS]; cases evalE F c env m with
  | bad => rfl
  | ok x m1 =>
    simp only [Res.andThen]
    cases dTrue x.1 with
    | none => rfl
    | some b => cases b <;> rfl
def forGo (t : T) (b : List S) (xs : List D) (env : Env) (m : MH) : SR := forLoop t (fun e' m' => evalSs F W b e' m') xs env m
def forOpt (t : T) (b : List S) (ox : Option (List D)) (env : Env) (m : MH) : SR := match ox with | some xs => forGo F W t b xs env m | none => .bad
theorem fo_some (t : T) (b : List S) (xs : List D) : forOpt F W t b (some xs) env m = forGo F W t b xs env m := rfl
def dctOpt (t : T) (b : List S) (o : Option D) (env : Env) (m : MH) : SR := match o with | some d => forOpt F W t b (dictItems d) env m | none => .bad
theorem dc_some (t : T) (b : List S) (d : D) : dctOpt F W t b (some d) env m = forOpt F W t b (dictItems d) env m := rfl
theorem xS_forD (t : T) (i : Nat) (b : List S) : evalS F W (.forD t i b) env m = dctOpt F W t b (dctS (env.getD i .un)) env m := by
  simp only [evalS, Env.at]
  cases dctS (env.getD i .un) with
  | none => rfl
  | some d => simp only [dctOpt, forOpt]; cases dictItems d <;> rfl
theorem xS_forP (t : T) (i c : Nat) (b : List S) : evalS F W (.forP t i c b) env m = dctOpt F W t b (dctC (env.getD i .un) c) env m := by
  simp only [evalS, Env.at]
  cases dctC (env.getD i .un) c with
  | none => rfl
  | some d => simp only [dctOpt, forOpt]; cases dictItems d <;> rfl
def clO (env : Env) (i : Nat) (o : Option D) (m : MH) : SR := match o with | some d => .nx (env.set i (.ow d)) m | none => .bad
theorem co_some (env : Env) (i : Nat) (d : D) (m : MH) : clO env i (some d) m = .nx (env.set i (.ow d)) m := rfl
def owD : Slot → Option D
  | .ow d => some d
  | _ => none
theorem ow_ow (d : D) : owD (.ow d) = some d := rfl
def clB (env : Env) (i : Nat) (f : D → Option D) (o : Option D) (m : MH) : SR := match o with | some d => clO env i (f d) m | none => .bad
theorem cb_some (env : Env) (i : Nat) (f : D → Option D) (d : D) (m : MH) : clB env i f (some d) m = clO env i (f d) m := rfl
theorem xS_clr (i : Nat) : evalS F W (.clr i) env m = clB env i clrR (owD (env.getD i .un)) m := by
  simp only [evalS, Env.at]
  cases env.getD i .un with
  | ow d => simp only [clB, owD, clO] <;> (cases clrR d <;> rfl)
  | _ => rfl
theorem xS_dpop (i : Nat) (k : E) : evalS F W (.dpop i k) env m = (evalE F k env m).andThen fun y m1 => if owns y.2 = true then clB env i (fun d => dropR d y.1) (owD (env.getD i .un)) m1 else .bad := by
  simp only [evalS, Env.at]
  cases evalE F k env m with
  | bad => rfl
  | ok y m1 =>
    simp only [Res.andThen]
    split
    · cases env.getD i .un with
      | ow d => simp only [clB, owD, clO] <;> (cases dropR d y.1 <;> rfl)
      | _ => rfl
    · rfl
theorem xS_upd (i : Nat) (k : E) : evalS F W (.upd i k) env m = (evalE F k env m).andThen fun y m1 => if owns y.2 = true then clB env i (fun d => updR d y.1) (owD (env.getD i .un)) m1 else .bad := by
  simp only [evalS, Env.at]
  cases evalE F k env m with
  | bad => rfl
  | ok y m1 =>
    simp only [Res.andThen]
    split
    · cases env.getD i .un with
      | ow d => simp only [clB, owD, clO] <;> (cases updR d y.1 <;> rfl)
      | _ => rfl
    · rfl
theorem cr_K (kvs : List (Key × D)) : clrR (.dK kvs) = some (.dK []) := rfl
theorem cr_T (kvs : List (List Key × D)) : clrR (.dT kvs) = some (.dT []) := rfl
theorem ds_sh (d : D) : dctS (.sh d) = some d := rfl
theorem ds_bw (d : D) : dctS (.bw d) = some d := rfl
theorem di_K (kvs : List (Key × D)) : dictItems (.dK kvs) = some (kvs.map fun kv => keyD kv.1) := rfl
theorem di_T (kvs : List (List Key × D)) : dictItems (.dT kvs) = some (kvs.map fun kv => keysD kv.1) := rfl
theorem xS_parN (is : List Nat) (es : List E) : evalS F W (.parN is es) env m = (evalPs F es env m).andThen fun xs m1 => optEnv (putL env is xs) m1 := by
  simp only [evalS]; cases evalPs F es env m with
  | bad => rfl
  | ok xs m1 => simp only [Res.andThen]; cases putL env is xs <;> rfl
theorem pl_nil (env : Env) : putL env [] [] = some env := rfl
theorem pl_cons (env : Env) (i : Nat) (is : List Nat) (x : D × Mode) (xs : List (D × Mode)) : putL env (i :: is) (x :: xs) = (put env i x).bind fun e => putL e is xs := rfl
theorem pu_sh (env : Env) (i : Nat) (d : D) (h : decide (i < env.length) = true) : put env i (d, .sh) = some (env.set i (.sh d)) := by
  unfold put
  rw [List.getElem?_eq_getElem (by simpa using h)]
theorem pu_fr (env : Env) (i : Nat) (d : D) (h : decide (i < env.length) = true) : put env i (d, .fr) = some (env.set i (.ow d)) := by
  unfold put
  rw [List.getElem?_eq_getElem (by simpa using h)]
def sfR (z f : Str) (v : D) (env : Env) (m : MH) (t : Option (Nat × Str × List (Str × D))) : SR := match t with
  | some (n, y, fs) => if y = z ∧ fs.length < 1000 then .nx env (m.set n (.ins y (putFD f v fs))) else .bad
  | none => .bad
theorem sf_some (z f : Str) (v : D) (n : Nat) (fs : List (Str × D)) (h : decide (fs.length < 1000) = true) : sfR z f v env m (some (n, z, fs)) = .nx env (m.set n (.ins z (putFD f v fs))) := if_pos ⟨rfl, by simpa using h⟩
theorem xS_setF (z : Str) (e : E) (f : Str) (x : E) : evalS F W (.setF z e f x) env m = (evalE F x env m).andThen fun v m1 => gd .bad (owns v.2) ((evalE F e env m1).andThen fun o m2 => sfR z f v.1 env m2 (insOf m2 o.1)) := by
  simp only [evalS]; cases evalE F x env m with
  | bad => rfl
  | ok v m1 =>
    simp only [Res.andThen]
    cases owns v.2
    · rfl
    simp only [gd, if_true]
    cases evalE F e env m1 with
    | bad => rfl
    | ok o m2 => first | rfl | (simp only [sfR]; done) | (simp only [sfR]; rfl)
theorem xS_tryB (b : List S) : evalS F W (.tryB b) env m = evalSs F W b env m := by simp only [evalS]
def afR (F : CallF) (i : Nat) (y f : Str) (eo : E) (env : Env) (m1 : MH) (d : D) : SR := match d with
  | .tup [a, b] => if i < env.length then (evalE F eo (env.set i (.sh a)) m1).andThen fun ob m2 => sfR y f b (env.set i (.sh a)) m2 (insOf m2 ob.1) else .bad
  | _ => .bad
theorem xS_asgF (i : Nat) (y f : Str) (o e : E) : evalS F W (.asgF i y o f e) env m = (evalE F e env m).andThen fun x m1 => gd .bad (owns x.2) (afR F i y f o env m1 x.1) := by
  simp only [evalS]; cases evalE F e env m with
  | bad => rfl
  | ok x m1 =>
    simp only [Res.andThen]
    cases owns x.2
    · rfl
    simp only [gd, if_true]
    obtain ⟨d, md⟩ := x
    cases d <;> first | rfl | skip
    rename_i ds
    rcases ds with _ | ⟨a, _ | ⟨b, _ | ⟨c, r⟩⟩⟩ <;> first | rfl | skip
    by_cases h : i < env.length
    · simp only [afR, if_pos h]
      cases evalE F o (env.set i (.sh a)) m1 with
      | bad => rfl
      | ok ob m2 => first | rfl | (simp only [Res.andThen, sfR]; done) | (simp only [Res.andThen, sfR]; rfl)
    · simp only [afR, if_neg h]
theorem af_tup (i : Nat) (y f : Str) (eo : E) (a b : D) (h : decide (i < env.length) = true) : afR F i y f eo env m (.tup [a, b]) = (evalE F eo (env.set i (.sh a)) m).andThen fun ob m2 => sfR y f b (env.set i (.sh a)) m2 (insOf m2 ob.1) := if_pos (by simpa using h)
def peR (env : Env) (o : Option MH) : SR := match o with | some m => .nx env m | none => .bad
theorem pe_some (m : MH) : peR env (some m) = .nx env m := rfl
theorem xS_clrE (e : E) : evalS F W (.clrE e) env m = (evalE F e env m).andThen fun o m1 => peR env (clrCell m1 o.1) := by
  simp only [evalS]; cases evalE F e env m with
  | bad => rfl
  | ok o m1 => simp only [Res.andThen] <;> (cases clrCell m1 o.1 <;> rfl)
theorem xS_dpopE (d k : E) : evalS F W (.dpopE d k) env m = (evalE F d env m).andThen fun o m1 => gd .bad (isCellD o.1 m1) ((evalE F k env m1).andThen fun y m2 => gd .bad (owns y.2) (peR env (dropCell m2 o.1 y.1))) := by
  simp only [evalS]; cases evalE F d env m with
  | bad => rfl
  | ok o m1 =>
    simp only [Res.andThen]
    cases isCellD o.1 m1
    · rfl
    cases evalE F k env m1 with
    | bad => rfl
    | ok y m2 =>
      simp only
      cases owns y.2
      · rfl
      simp only [gd, peR, if_true] <;> (cases dropCell m2 o.1 y.1 <;> rfl)
theorem xS_dputE (d k e : E) : evalS F W (.dputE d k e) env m = (evalE F e env m).andThen fun x m1 => gd .bad (owns x.2) ((evalE F d env m1).andThen fun o m2 => (evalE F k env m2).andThen fun y m3 => gd .bad (owns y.2) (peR env (putCell m3 o.1 y.1 x.1))) := by
  simp only [evalS]; cases evalE F e env m with
  | bad => rfl
  | ok x m1 =>
    simp only [Res.andThen]
    cases owns x.2
    · rfl
    simp only [gd, if_true]
    cases evalE F d env m1 with
    | bad => rfl
    | ok o m2 =>
      simp only
      cases evalE F k env m2 with
      | bad => rfl
      | ok y m3 =>
        simp only
        cases owns y.2
        · rfl
        simp only [if_true]
        cases putCell m3 o.1 y.1 x.1 <;> rfl
def ffR (t : T) (b : List S) (env : Env) (m : MH) (r : Res (D × Mode)) : SR := match r with | .ok x _ => forOpt F W t b (dictItems x.1) env m | .bad => .bad
theorem ff_ok (t : T) (b : List S) (x : D × Mode) (m1 : MH) : ffR F W t b env m (.ok x m1) = forOpt F W t b (dictItems x.1) env m := rfl
def fsR (y f : Str) (t : T) (b : List S) (env : Env) (m : MH) (s : Slot) : SR := match s with | .sh d => ffR F W t b env m (fldR y d f m) | _ => .bad
theorem fs_sh (y f : Str) (t : T) (b : List S) (d : D) : fsR F W y f t b env m (.sh d) = ffR F W t b env m (fldR y d f m) := rfl
theorem xS_forF (t : T) (y : Str) (i : Nat) (f : Str) (b : List S) : evalS F W (.forF t y i f b) env m = fsR F W y f t b env m (env.getD i .un) := by
  simp only [evalS, Env.at]
  cases env.getD i .un <;> rfl
def fzR (f : Str) (env : Env) (m : MH) (s : Slot) : SR := match s with | .sh d => peR env (frzR d f m) | _ => .bad
theorem fz'_sh (f : Str) (d : D) : fzR f env m (.sh d) = peR env (frzR d f m) := rfl
theorem xS_frzA (i : Nat) (f : Str) : evalS F W (.frzA i f) env m = fzR f env m (env.getD i .un) := by
  simp only [evalS, Env.at]
  cases env.getD i .un <;> rfl
theorem xS_for (t : T) (k : ItK) (its : List E) (b : List S) : evalS F W (.for_ t k its b) env m = (evalPs F its env m).andThen fun ds m1 => gd .bad (ds.all fun x => walkable x.2) (forOpt F W t b (itD k (ds.map (·.1))) env m1) := by
  simp only [evalS]; cases evalPs F its env m with
  | bad => rfl
  | ok ds m1 =>
    simp only [Res.andThen]
    cases ds.all fun x => walkable x.2 with
    | false => rfl
    | true =>
      refine (if_neg (by decide)).trans ?_
      simp only [gd, forOpt]
      cases itD k (ds.map (·.1)) <;> rfl
def frzE (env : Env) (i : Nat) (s : Slot) : Env := match s with | .ow d => env.set i (.sh d) | _ => env
theorem fz_ow (i : Nat) (d : D) : frzE env i (.ow d) = env.set i (.sh d) := rfl
theorem fz_sh (i : Nat) (d : D) : frzE env i (.sh d) = env := rfl
theorem fz_un (i : Nat) : frzE env i .un = env := rfl
theorem fz_bw (i : Nat) (d : D) : frzE env i (.bw d) = env := rfl
theorem xS_frz (i : Nat) : evalS F W (.frz i) env m = .nx (frzE env i (env.getD i .un)) m := by simp only [evalS, Env.at]; cases env.getD i .un <;> rfl
def pubR (env : Env) (m : MH) (i : Nat) (s : Slot) : SR := match s with
  | .ow (.lst ds) => .nx (env.set i (.sh (.obj m.length))) (m ++ [.lst ds])
  | .ow (.dK ds) => .nx (env.set i (.sh (.obj m.length))) (m ++ [.dK ds])
  | .ow (.dT ds) => .nx (env.set i (.sh (.obj m.length))) (m ++ [.dT ds])
  | _ => .bad
theorem pb_owK (i : Nat) (ds : List (Key × D)) : pubR env m i (.ow (.dK ds)) = .nx (env.set i (.sh (.obj m.length))) (m ++ [.dK ds]) := rfl
theorem pb_owT (i : Nat) (ds : List (List Key × D)) : pubR env m i (.ow (.dT ds)) = .nx (env.set i (.sh (.obj m.length))) (m ++ [.dT ds]) := rfl
theorem pb_ow (i : Nat) (ds : List D) : pubR env m i (.ow (.lst ds)) = .nx (env.set i (.sh (.obj m.length))) (m ++ [.lst ds]) := rfl
theorem xS_pub (i : Nat) : evalS F W (.pub i) env m = pubR env m i (env.getD i .un) := by simp only [evalS, Env.at]; cases env.getD i .un with | ow d => cases d <;> rfl | _ => rfl
def optL (k : List D → SR) : Option (List D) → SR
  | some es => k es
  | none => .bad
theorem ol_some (k : List D → SR) (es : List D) : optL k (some es) = k es := rfl
def setR (env : Env) (m : MH) (i : Nat) (f : List D → Option (List D)) (s : Slot) : SR := match s with
  | .ow (.lst ds) => optL (fun es => .nx (env.set i (.ow (.lst es))) m) (f ds)
  | .sh (.obj n) => (match m[n]? with | some (.lst ds) => optL (fun es => .nx env (m.set n (.lst es))) (f ds) | _ => .bad)
  | _ => .bad
theorem st_ow (i : Nat) (f : List D → Option (List D)) (ds : List D) : setR env m i f (.ow (.lst ds)) = optL (fun es => .nx (env.set i (.ow (.lst es))) m) (f ds) := rfl
theorem st_at (i : Nat) (f : List D → Option (List D)) : setAt env m i f = setR env m i f (env.getD i .un) := by
  unfold setAt setR Env.at
  cases env.getD i .un with
  | ow d => cases d <;> first | rfl | (simp only; cases f _ <;> rfl)
  | sh d => cases d <;> first | rfl | (rename_i n; simp only; cases m[n]? with | none => rfl | some c => (cases c <;> first | rfl | (simp only; cases f _ <;> rfl)))
  | _ => rfl
end
def popD (ds : List D) (k : Int) : Option (D × List D) := if small k = true then (ixN ds.length k).bind fun n => ds[n]?.map fun d => (d, ds.eraseIdx n) else none
def popO (env : Env) (j i : Nat) (m : MH) (o : Option (D × List D)) : SR := match o with | some p => if j ≠ i ∧ j < env.length then .nx ((env.set i (.ow (.lst p.2))).set j (.sh p.1)) m else .bad | none => .bad
def popAtR (env : Env) (j i : Nat) (x : D) (m : MH) (s : Slot) : SR := match s, x with | .ow (.lst ds), .int k => popO env j i m (popD ds k) | _, _ => .bad
theorem pp_r (env : Env) (j i : Nat) (k : Int) (m : MH) (ds : List D) : popAtR env j i (.int k) m (.ow (.lst ds)) = popO env j i m (popD ds k) := rfl
theorem pp_o (env : Env) (j i : Nat) (m : MH) (d : D) (es : List D) (h : j ≠ i) (h2 : j < env.length) : popO env j i m (some (d, es)) = .nx ((env.set i (.ow (.lst es))).set j (.sh d)) m := if_pos ⟨h, h2⟩
theorem xS_popAt (F : CallF) (W : Nat) (env : Env) (m : MH) (j i : Nat) (e : E) : evalS F W (.popAt j i e) env m = (evalE F e env m).andThen fun x m1 => popAtR env j i x.1 m1 (env.getD i .un) := by
  simp only [evalS, Env.at]
  cases evalE F e env m with
  | bad => rfl
  | ok x m1 =>
    simp only [Res.andThen]
    cases env.getD i .un with
    | ow d =>
      cases d <;> first | rfl | skip
      rename_i ds
      obtain ⟨xd, md⟩ := x
      cases xd <;> first | rfl | skip
      rename_i k
      simp only [popAtR, popD]
      cases hx : ixN ds.length k with
      | none => by_cases hs : small k = true <;> simp [hs, popO]
      | some n =>
        simp only
        cases hd : ds[n]? with
        | none => by_cases hs : small k = true <;> simp [hs, hd, popO]
        | some d => by_cases hs : small k = true <;> simp [hs, hd, popO]
    | _ => rfl
def appPO (env : Env) (j i : Nat) (es : List D) (m : MH) (o : Option (D × List D)) : SR := match o with | some p => if j ≠ i then match appD es p.1 with | some fs => .nx ((env.set i (.ow (.lst p.2))).set j (.ow (.lst fs))) m | none => .bad else .bad | none => .bad
def appPR (env : Env) (j i : Nat) (x : D) (m : MH) (s t : Slot) : SR := match s with
  | .ow (.lst es) => match t, x with | .ow (.lst ds), .int k => appPO env j i es m (popD ds k) | _, _ => .bad
  | _ => .bad
theorem ap_r (env : Env) (j i : Nat) (k : Int) (m : MH) (es ds : List D) : appPR env j i (.int k) m (.ow (.lst es)) (.ow (.lst ds)) = appPO env j i es m (popD ds k) := rfl
theorem xS_appP (F : CallF) (W : Nat) (env : Env) (m : MH) (j i : Nat) (e : E) : evalS F W (.appP j i e) env m = (evalE F e env m).andThen fun x m1 => appPR env j i x.1 m1 (env.getD j .un) (env.getD i .un) := by
  simp only [evalS, Env.at]
  cases evalE F e env m with
  | bad =>
    simp only [Res.andThen]
    cases env.getD j .un with
    | ow d => cases d <;> rfl
    | _ => rfl
  | ok x m1 =>
    simp only [Res.andThen]
    cases env.getD j .un with
    | ow dj =>
      cases dj <;> first | rfl | skip
      rename_i es
      cases env.getD i .un with
      | ow d =>
        cases d <;> first | rfl | skip
        rename_i ds
        obtain ⟨xd, md⟩ := x
        cases xd <;> first | rfl | skip
        rename_i k
        simp only [appPR, popD]
        cases ixN ds.length k with
        | none => by_cases hs : small k = true <;> simp [hs, appPO]
        | some n =>
          simp only [Option.bind_some]
          cases hd : ds[n]? with
          | none => by_cases hs : small k = true <;> simp [hs, hd, appPO]
          | some d => by_cases hs : small k = true <;> by_cases hji : j = i <;> cases ha : appD es d <;> simp [hs, hd, hji, ha, appPO]
      | _ => rfl
    | _ => rfl
def apE (o : Option (List D)) (env : Env) (m : MH) (n : Nat) : SR := match o with | some es => .nx env (m.set n (.lst es)) | none => .bad
def apC (c : Option Cell) (y : D) (env : Env) (m : MH) (n : Nat) : SR := match c with | some (.lst ds) => apE (appD ds y) env m n | _ => .bad
def apO (d : D) (k : Nat → SR) : SR := match d with | .obj n => k n | _ => .bad
theorem ae_some (es : List D) (env : Env) (m : MH) (n : Nat) : apE (some es) env m n = .nx env (m.set n (.lst es)) := rfl
theorem ac_lst (ds : List D) (y : D) (env : Env) (m : MH) (n : Nat) : apC (some (.lst ds)) y env m n = apE (appD ds y) env m n := rfl
theorem ao_obj (n : Nat) (k : Nat → SR) : apO (.obj n) k = k n := rfl
theorem xS_appE (F : CallF) (W : Nat) (env : Env) (m : MH) (e x : E) : evalS F W (.appE e x) env m = (evalE F e env m).andThen fun o m1 => apO o.1 fun n => gd .bad (lstC m1[n]?) ((evalE F x env m1).andThen fun y m2 => gd .bad (owns y.2) (apC m2[n]? y.1 env m2 n)) := by
  simp only [evalS]
  cases evalE F e env m with
  | bad => rfl
  | ok o m1 =>
    obtain ⟨od, md⟩ := o
    cases od <;> first | rfl | skip
    rename_i n
    simp only [Res.andThen, apO]
    cases lstC m1[n]? with
    | false => rfl
    | true =>
      simp only [if_true, gd]
      cases evalE F x env m1 with
      | bad => rfl
      | ok y m2 =>
        simp only
        cases owns y.2 with
        | false => rfl
        | true =>
          simp only [if_true]
          cases m2[n]? with
          | none => rfl
          | some c => cases c <;> first | rfl | (simp only [apC]; cases appD _ y.1 <;> rfl)
theorem iv_hasN (a : E) : isV (.hasN a) = false := id rfl
theorem iv_hasNN (a : E) : isV (.hasNN a) = false := id rfl
theorem iv_join (a b : E) : isV (.join a b) = false := id rfl
theorem iv_its (a : E) : isV (.its a) = false := id rfl
theorem iv_sits (a : E) : isV (.sits a) = false := id rfl
theorem iv_itsT (a : E) : isV (.itsT a) = false := id rfl
theorem iv_vals (a : E) : isV (.vals a) = false := id rfl
theorem iv_idx (a b : E) : isV (.idx a b) = false := id rfl
theorem iv_box (a : E) : isV (.box a) = false := id rfl
theorem iv_callZ (f : Nat) (es : List E) : isV (.callZ f es) = false := id rfl
theorem o_add (i j : Int) : opD .add (.int i) (.int j) = some (.int (i + j)) := rfl
theorem o_sub (i j : Int) : opD .sub (.int i) (.int j) = some (.int (i - j)) := rfl
theorem o_addT (xs ys : List D) (h : xs.length + ys.length ≤ 16777216) : opD .add (.tup xs) (.tup ys) = some (.tup (xs ++ ys)) := if_pos h
theorem o_addL (xs ys : List D) (h : xs.length + ys.length ≤ 16777216) : opD .add (.lst xs) (.lst ys) = some (.lst (xs ++ ys)) := if_pos h
def inR (i : Int) : Bool := Nat.blt i.natAbs 18446744073709551616
theorem inR_of {i : Int} (h : -18446744073709551616 < i) (h' : i < 18446744073709551616) : inR i = true := by
  show Nat.ble (i.natAbs + 1) _ = true
  exact Nat.ble_eq_true_of_le (by omega)
theorem of_inR {i : Int} (h : inR i = true) : i.natAbs < 18446744073709551616 := Nat.le_of_ble_eq_true h
def jS (j : Int) : Bool := decide (0 ≤ j) && Nat.ble j.natAbs 1000000
theorem o_mulL (i j : Int) (h : inR i = true) : opD .mul (.int i) (.int j) = some (.int (i * j)) := if_pos (.inl (of_inR h))
theorem o_mulR (i j : Int) (h : inR j = true) : opD .mul (.int i) (.int j) = some (.int (i * j)) := if_pos (.inr (of_inR h))
theorem o_mod (i j : Int) (h : 0 < j) : opD .mod (.int i) (.int j) = some (.int (i % j)) := if_pos h
theorem o_fdiv (i j : Int) (h : 0 < j) (h' : j < 1073741824) : opD .fdiv (.int i) (.int j) = some (.int (i / j)) := if_pos ⟨h, by omega⟩
theorem o_pow (i j : Int) (h : jS j = true) (h' : inR i = true) : opD .pow (.int i) (.int j) = some (.int (i ^ j.toNat)) := by
  simp only [jS, Bool.and_eq_true, decide_eq_true_eq] at h
  exact if_pos ⟨h.1, Nat.le_of_ble_eq_true h.2, of_inR h'⟩
theorem c_lt (i j : Int) : cmD .lt (.int i) (.int j) = some (decide (i < j)) := rfl
theorem c_le (i j : Int) : cmD .le (.int i) (.int j) = some (decide (i ≤ j)) := rfl
theorem c_gt (i j : Int) : cmD .gt (.int i) (.int j) = some (decide (j < i)) := rfl
theorem c_ge (i j : Int) : cmD .ge (.int i) (.int j) = some (decide (j ≤ i)) := rfl
theorem c_isN0 (a : D) : cmD .is a .non = some a.isNon := by cases a <;> rfl
theorem c_isnN0 (a : D) : cmD .isN a .non = some (!a.isNon) := by cases a <;> rfl
theorem t_bl (b : Bool) : dTrue (.bl b) = some b := rfl
theorem m_int (i : Int) : modeOf (.int i) = .sh := rfl
theorem m_bl (i : Bool) : modeOf (.bl i) = .sh := rfl
theorem m_str (i : Str) : modeOf (.str i) = .sh := rfl
theorem m_tup (i : List D) : modeOf (.tup i) = .sh := rfl
theorem m_lst (i : List D) : modeOf (.lst i) = .fr := rfl
theorem m_non : modeOf .non = .sh := rfl
theorem ow_sh : owns .sh = true := rfl
theorem ow_fr : owns .fr = true := rfl
theorem le_sh : lent .sh = false := rfl
theorem le_fr : lent .fr = false := rfl
theorem le_bo : lent .bo = true := rfl
theorem le_br : lent .br = true := rfl
theorem df_lst (m : MH) (ds : List D) : deref m (.lst ds) = .lst ds := rfl
theorem df_tup (m : MH) (ds : List D) : deref m (.tup ds) = .tup ds := rfl
theorem df_scr (m : MH) (ns : List Int) : deref m (.scr ns) = .scr ns := rfl
theorem i_tup (xs : List D) (i : Int) : ixD (.tup xs) (.int i) = atI xs i := rfl
theorem i_lst (xs : List D) (i : Int) : ixD (.lst xs) (.int i) = atI xs i := rfl
theorem i_scr (ns : List Int) (i : Int) : ixD (.scr ns) (.int i) = (atI ns i).map D.int := rfl
theorem s_tupx (xs : List D) (lo hi : Option Int) : slD (.tup xs) lo hi = some (.tup (cutD xs lo hi)) := rfl
theorem s_lstx (xs : List D) (lo hi : Option Int) : slD (.lst xs) lo hi = some (.lst (cutD xs lo hi)) := rfl
theorem s_scrx (xs : List Int) (lo hi : Option Int) : slD (.scr xs) lo hi = some (.lst ((cutD xs lo hi).map D.int)) := rfl
theorem b_lenL (xs : List D) : biD .len [.lst xs] = some (.int (xs.length : Int)) := rfl
theorem b_lenT (xs : List D) : biD .len [.tup xs] = some (.int (xs.length : Int)) := rfl
theorem b_lenS (xs : List Int) : biD .len [.scr xs] = some (.int (xs.length : Int)) := rfl
theorem b_listL (xs : List D) : biD .list [.lst xs] = some (.lst xs) := rfl
theorem b_listT (xs : List D) : biD .list [.tup xs] = some (.lst xs) := rfl
theorem b_tupL (xs : List D) : biD .tuple [.lst xs] = some (.tup xs) := rfl
theorem b_tupT (xs : List D) : biD .tuple [.tup xs] = some (.tup xs) := rfl
theorem b_max3 (i j k : Int) : biD .max3 [.int i, .int j, .int k] = some (.int (if (if i < j then j else i) < k then k else (if i < j then j else i))) := rfl
theorem b_min3 (i j k : Int) : biD .min3 [.int i, .int j, .int k] = some (.int (if k < (if j < i then j else i) then k else (if j < i then j else i))) := rfl
theorem w_rvl (xs : List D) : itD .rev [.lst xs] = some xs.reverse := rfl
theorem w_rvt (xs : List D) : itD .rev [.tup xs] = some xs.reverse := rfl
theorem b_max2 (i j : Int) : biD .max2 [.int i, .int j] = some (.int (if j > i then j else i)) := rfl
theorem b_min2 (i j : Int) : biD .min2 [.int i, .int j] = some (.int (if j < i then j else i)) := rfl
theorem w_pl (xs : List D) : itD .plain [.lst xs] = some xs := rfl
theorem w_pt (xs : List D) : itD .plain [.tup xs] = some xs := rfl
theorem w_r1 (j : Int) (h : small j = true) : itD .rng [.int j] = some (rngD 0 j.toNat) := if_pos h
theorem w_en (xs : List D) : itD .enu [.lst xs] = some (enumD xs) := rfl
theorem w_et (xs : List D) : itD .enu [.tup xs] = some (enumD xs) := rfl
theorem w_zlt (xs ys : List D) : itD (.zip false) [.lst xs, .tup ys] = some (zipD xs ys) := rfl
theorem w_ztl (xs ys : List D) : itD (.zip false) [.tup xs, .lst ys] = some (zipD xs ys) := rfl
theorem w_zl (xs ys : List D) : itD (.zip false) [.lst xs, .lst ys] = some (zipD xs ys) := rfl
theorem w_zt (xs ys : List D) : itD (.zip false) [.tup xs, .tup ys] = some (zipD xs ys) := rfl
theorem call_eq {FT : Nat → Option FD} {W n f : Nat} {fd : FD} {as : List Arg} {m : MH} (h : FT f = some fd) (hl : as.length = fd.np) : callF FT W (n + 1) f as m = finish (evalSs (callF FT W n) W fd.body (startEnv fd as) m) := by
  simp only [callF, h, hl, if_true]
theorem f_ret (d : D) (b : Bool) (m : MH) : finish (.ret d b m) = .ok (d, b) m := rfl
theorem f_nx (e : Env) (m : MH) : finish (.nx e m) = .ok (.non, false) m := rfl
theorem so_f (d : D) : slotOf (d, false) = .sh d := rfl
theorem so_t (d : D) : slotOf (d, true) = .bw d := rfl
theorem pt_sh (env : Env) (i : Nat) (d : D) (h : i < env.length) : put env i (d, .sh) = some (env.set i (.sh d)) := by unfold put; rw [List.getElem?_eq_getElem h]
theorem pt_fr (env : Env) (i : Nat) (d : D) (h : i < env.length) : put env i (d, .fr) = some (env.set i (.ow d)) := by unfold put; rw [List.getElem?_eq_getElem h]
theorem pT_nm (env : Env) (i : Nat) (x : D × Mode) : putT (.nm i) x env = put env i x := rfl
theorem pT_tup (env : Env) (ts : List T) (x : D × Mode) : putT (.tup ts) x env = if owns x.2 then bindT (.tup ts) x.1 env else none := rfl
theorem bt_nm (env : Env) (i : Nat) (d : D) (h : i < env.length) : bindT (.nm i) d env = some (env.set i (.sh d)) := by simp only [bindT]; rw [List.getElem?_eq_getElem h]
theorem bt_tup (env : Env) (ts : List T) (ds : List D) : bindT (.tup ts) (.tup ds) env = bindTs ts ds env := by simp only [bindT]
theorem bts_nil (env : Env) : bindTs [] [] env = some env := by simp only [bindTs]
theorem bts_cons (env : Env) (t : T) (ts : List T) (d : D) (ds : List D) : bindTs (t :: ts) (d :: ds) env = (bindT t d env).bind fun e => bindTs ts ds e := by simp only [bindTs]
theorem sE (as : List Arg) (fd : FD) : startEnv fd as = as.map slotOf ++ List.replicate (fd.nl - as.length) .un := rfl
def wipe1 (e : Env) (i : Nat) (s : Slot) : Option Env := match s with | .ow _ => none | .bw _ => none | _ => some (e.set i .un)
theorem w1_sh (e : Env) (i : Nat) (d : D) : wipe1 e i (.sh d) = some (e.set i .un) := rfl
theorem w1_un (e : Env) (i : Nat) : wipe1 e i .un = some (e.set i .un) := rfl
theorem wE_nil (env : Env) : wipeE env [] = some env := rfl
theorem wE_cons (env : Env) (i : Nat) (r : List Nat) (h : i < env.length) : wipeE env (i :: r) = (wipeE env r).bind fun e => wipe1 e i (env.getD i .un) := by
  simp only [wipeE, List.getD_eq_getElem?_getD, List.getElem?_eq_getElem h]
  cases wipeE env r with
  | none => rfl
  | some e => simp only [Option.bind, Option.getD]; cases env[i] <;> rfl
theorem d_t : decide True = true := rfl
theorem d_f : decide False = false := rfl
theorem iv_c (d : D) : isV (.c d) = false := id rfl
theorem iv_tup (es : List E) : isV (.tup es) = false := id rfl
theorem iv_lst (es : List E) : isV (.lst es) = false := id rfl
theorem iv_op (o : Op) (a b : E) : isV (.op o a b) = false := id rfl
theorem iv_neg (a : E) : isV (.neg a) = false := id rfl
theorem iv_cmp (o : Cm) (a b : E) : isV (.cmp o a b) = false := id rfl
theorem iv_ch (o p : Cm) (a b c : E) : isV (.ch o p a b c) = false := id rfl
theorem iv_and (a b : E) : isV (.and a b) = false := id rfl
theorem iv_or (a b : E) : isV (.or a b) = false := id rfl
theorem iv_not (a : E) : isV (.not a) = false := id rfl
theorem iv_ite (c a b : E) : isV (.ite c a b) = false := id rfl
theorem iv_ix (a b : E) : isV (.ix a b) = false := id rfl
theorem iv_sl (a : E) (l h : List E) : isV (.sl a l h) = false := id rfl
theorem iv_rv (a : E) : isV (.rv a) = false := id rfl
theorem iv_ssetI (a : E) : isV (.ssetI a) = false := id rfl
theorem iv_ev (a : E) : isV (.ev a) = false := id rfl
theorem ev_t (xs : List D) : evD (.tup xs) = some (.tup (ev2 xs)) := rfl
theorem iv_sset (a : E) : isV (.sset a) = false := id rfl
theorem iv_call (f : Nat) (es : List E) : isV (.call f es) = false := id rfl
theorem iv_bi (b : Bi) (es : List E) : isV (.bi b es) = false := id rfl
theorem iv_isi (b : Bool) (ts : List Ty) (a : E) : isV (.isi b ts a) = false := id rfl
theorem iv_lc (e : E) (o : List Nat) (t : T) (k : ItK) (i j : List E) : isV (.lc e o t k i j) = false := id rfl
theorem st_obj0 (env : Env) (m : MH) (i : Nat) (f : List D → Option (List D)) (ds : List D) : setR env (.lst ds :: m) i f (.sh (.obj 0)) = optL (fun es => .nx env (.lst es :: m)) (f ds) := rfl
theorem df_obj0 (m : MH) (ds : List D) : deref (.lst ds :: m) (.obj 0) = .lst ds := rfl
theorem px1 (a b c v : D) : putIx [a, b, c] (.int 1) v = some [a, v, c] := id rfl
theorem px2 (a b c v : D) : putIx [a, b, c] (.int 2) v = some [a, b, v] := id rfl
theorem at3_0 (a b c : D) : atI [a, b, c] 0 = some a := id rfl
theorem at3_1 (a b c : D) : atI [a, b, c] 1 = some b := id rfl
theorem at3_2 (a b c : D) : atI [a, b, c] 2 = some c := id rfl
theorem at2_0 (a b : D) : atI [a, b] 0 = some a := id rfl
theorem at2_1 (a b : D) : atI [a, b] 1 = some b := id rfl
theorem px (ds : List D) (i : Nat) (v : D) (h : i < ds.length) : putIx ds (.int i) v = some (ds.set i v) := by
  show (ixN ds.length i).map _ = _
  have : ixN ds.length (i : Int) = some i := by
    unfold ixN
    rw [if_pos (by omega), if_pos (by omega)]
    rfl
  rw [this]
  rfl
section
variable {F : CallF} {W : Nat} {t : T} {b : List S}
theorem for_aux (I : Nat → Env → MH → Prop) (R : SR → Prop) (n : Nat) : ∀ (xs : List D) (k : Nat) (env : Env) (m : MH), k + xs.length = n → I k env m →
    (∀ (i : Nat) (x : D) (e : Env) (m1 : MH), k ≤ i → xs[i - k]? = some x → I i e m1 → ∃ e1, bindT t x e = some e1 ∧ ((∃ e2 m2, (evalSs F W b e1 m1 = .nx e2 m2 ∨ evalSs F W b e1 m1 = .cnt e2 m2) ∧ I (i + 1) e2 m2) ∨ (∃ d f m2, evalSs F W b e1 m1 = .ret d f m2 ∧ R (.ret d f m2)) ∨ ∃ e2 m2, evalSs F W b e1 m1 = .brk e2 m2 ∧ R (.nx e2 m2))) →
    (∃ e' m', forGo F W t b xs env m = .nx e' m' ∧ I n e' m') ∨ R (forGo F W t b xs env m)
  | [], k, env, m, hn, h0, _ => .inl ⟨env, m, rfl, by simp at hn; rw [← hn]; exact h0⟩
  | x :: xs, k, env, m, hn, h0, hs => by
    obtain ⟨e1, hb, hstep⟩ := hs k x env m (Nat.le_refl _) (by simp) h0
    have hn' : (k + 1) + xs.length = n := by simp at hn; omega
    have next : ∀ e2 m2, I (k + 1) e2 m2 → (∃ e' m', forGo F W t b xs e2 m2 = .nx e' m' ∧ I n e' m') ∨ R (forGo F W t b xs e2 m2) := fun e2 m2 h => for_aux I R n xs (k + 1) e2 m2 hn' h fun i y e m1 hi hy hI => hs i y e m1 (by omega) (by
      have : i - k = (i - (k + 1)) + 1 := by omega
      rw [this, List.getElem?_cons_succ]; exact hy) hI
    rcases hstep with ⟨e2, m2, h | h, hI⟩ | ⟨d, f, m2, h, hR⟩ | ⟨e2, m2, h, hR⟩
    · have : forGo F W t b (x :: xs) env m = forGo F W t b xs e2 m2 := by simp only [forGo, forLoop, hb, h]
      rw [this]; exact next e2 m2 hI
    · have : forGo F W t b (x :: xs) env m = forGo F W t b xs e2 m2 := by simp only [forGo, forLoop, hb, h]
      rw [this]; exact next e2 m2 hI
    · have : forGo F W t b (x :: xs) env m = .ret d f m2 := by simp only [forGo, forLoop, hb, h]
      rw [this]; exact .inr hR
    · have : forGo F W t b (x :: xs) env m = .nx e2 m2 := by simp only [forGo, forLoop, hb, h]
      rw [this]; exact .inr hR
theorem for_or (I : Nat → Env → MH → Prop) (R : SR → Prop) {xs : List D} {env : Env} {m : MH} (h0 : I 0 env m)
    (hs : ∀ (i : Nat) (x : D) (e : Env) (m1 : MH), xs[i]? = some x → I i e m1 → ∃ e1, bindT t x e = some e1 ∧ ((∃ e2 m2, (evalSs F W b e1 m1 = .nx e2 m2 ∨ evalSs F W b e1 m1 = .cnt e2 m2) ∧ I (i + 1) e2 m2) ∨ (∃ d f m2, evalSs F W b e1 m1 = .ret d f m2 ∧ R (.ret d f m2)) ∨ ∃ e2 m2, evalSs F W b e1 m1 = .brk e2 m2 ∧ R (.nx e2 m2))) :
    (∃ e' m', forGo F W t b xs env m = .nx e' m' ∧ I xs.length e' m') ∨ R (forGo F W t b xs env m) :=
  for_aux I R xs.length xs 0 env m (by simp) h0 fun i x e m1 _ hx hI => hs i x e m1 (by simpa using hx) hI
theorem for_inv (I : Nat → Env → MH → Prop) {xs : List D} {env : Env} {m : MH} (h0 : I 0 env m)
    (hs : ∀ (i : Nat) (x : D) (e : Env) (m1 : MH), xs[i]? = some x → I i e m1 → ∃ e1, bindT t x e = some e1 ∧ ∃ e2 m2, evalSs F W b e1 m1 = .nx e2 m2 ∧ I (i + 1) e2 m2) :
    ∃ e' m', forGo F W t b xs env m = .nx e' m' ∧ I xs.length e' m' := by
  rcases for_or (F := F) (W := W) (t := t) (b := b) I (fun _ => False) h0 (fun i x e m1 hx hI => by
    obtain ⟨e1, h1, e2, m2, h2, h3⟩ := hs i x e m1 hx hI
    exact ⟨e1, h1, .inl ⟨e2, m2, .inl h2, h3⟩⟩) with h | h
  · exact h
  · exact h.elim
theorem lc_mapT {α : Type} (enc : α → D) {elt : E} {ifs : List E} {e : Env} {m : MH} (p : α → Bool) (g : α → D) {l : List α} (hl : l.length ≤ 16777216) (h : ∀ a ∈ l, ∃ e1, bindT t (enc a) e = some e1 ∧ evalT F ifs e1 m = .ok (p a) m ∧ (p a = true → ∃ md, evalE F elt e1 m = .ok (g a, md) m ∧ owns md = true)) :
    lcGo F elt t ifs e (l.map enc) m = .ok (.lst ((l.filter p).map g), .fr) m := by
  have go : ∀ ys : List α, (∀ x ∈ ys, x ∈ l) → lcLoop t (fun e' m' => evalT F ifs e' m') (fun e' m' => (evalE F elt e' m').bind fun x m'' => if owns x.2 then .ok x.1 m'' else .bad) e (ys.map enc) m = .ok ((ys.filter p).map g) m := by
    intro ys
    induction ys with
    | nil => intro _; rfl
    | cons x ys ih =>
      intro hy
      obtain ⟨e1, h1, h2, h3⟩ := h x (hy x List.mem_cons_self)
      have ih := ih fun z hz => hy z (List.mem_cons_of_mem _ hz)
      simp only [List.map_cons, lcLoop, h1, h2, Res.bind_ok]
      cases hp : p x with
      | false => simp only [Bool.false_eq_true, if_false, ih, List.filter_cons, hp]
      | true =>
        obtain ⟨md, h4, h5⟩ := h3 hp
        simp only [if_true, h4, Res.bind_ok, h5, ih, List.filter_cons, hp, List.map_cons]
  unfold lcGo
  rw [go l fun x h => h]
  have : ((l.filter p).map g).length ≤ 16777216 := by
    rw [List.length_map]
    exact Nat.le_trans (List.length_filter_le _ _) hl
  simp only [Res.bind_ok, this, if_true]
theorem lc_mapA {α : Type} (enc : α → D) {elt : E} {e : Env} {m : MH} (g : α → D) {l : List α} (hl : l.length ≤ 16777216) (h : ∀ a ∈ l, ∃ e1, bindT t (enc a) e = some e1 ∧ ∃ md, evalE F elt e1 m = .ok (g a, md) m ∧ owns md = true) :
    lcGo F elt t [] e (l.map enc) m = .ok (.lst (l.map g), .fr) m := by
  have := lc_mapT (F := F) (t := t) enc (elt := elt) (ifs := []) (e := e) (m := m) (fun _ => true) g hl fun a ha => by
    obtain ⟨e1, h1, md, h2, h3⟩ := h a ha
    exact ⟨e1, h1, xT_nil _ _ _, fun _ => ⟨md, h2, h3⟩⟩
  rw [this, List.filter_eq_self.mpr fun _ _ => rfl]
end
theorem cut_mid {α : Type} (xs : List α) (a b : Nat) : cutD xs (some (a : Int)) (some (b : Int)) = (xs.drop a).take (b - a) := by
  unfold cutD
  rw [HT.sIx_nat, HT.sIx_nat]
  by_cases h : a ≤ xs.length
  · rw [Nat.min_eq_left h, List.take_eq_take_iff, List.length_drop]
    omega
  · rw [List.drop_eq_nil_of_le (by omega), List.drop_eq_nil_of_le (by omega)]
    simp
theorem cut_to {α : Type} (xs : List α) (b : Nat) : cutD xs none (some (b : Int)) = xs.take b := by
  unfold cutD
  rw [HT.sIx_nat, HT.sIx_none, List.drop_zero, List.take_eq_take_iff]
  omega
theorem isd_non (ts : List Ty) : isD ts .non = some (ts.any fun t => isTy t .non) := rfl
theorem ty_int_non : isTy .int .non = false := rfl
theorem ty_bool_non : isTy .bool .non = false := rfl
theorem ty_str_non : isTy .str .non = false := rfl
theorem ty_tuple_non : isTy .tuple .non = false := rfl
theorem ty_list_non : isTy .list .non = false := rfl
theorem ty_dict_non : isTy .dict .non = false := rfl
theorem isd_bl (ts : List Ty) (b : Bool) : isD ts (.bl b) = some (ts.any fun t => isTy t (.bl b)) := rfl
theorem ty_int_bl (b : Bool) : isTy .int (.bl b) = true := rfl
theorem ty_bool_bl (b : Bool) : isTy .bool (.bl b) = true := rfl
theorem ty_str_bl (b : Bool) : isTy .str (.bl b) = false := rfl
theorem ty_tuple_bl (b : Bool) : isTy .tuple (.bl b) = false := rfl
theorem ty_list_bl (b : Bool) : isTy .list (.bl b) = false := rfl
theorem ty_dict_bl (b : Bool) : isTy .dict (.bl b) = false := rfl
theorem isd_int (ts : List Ty) (i : Int) : isD ts (.int i) = some (ts.any fun t => isTy t (.int i)) := rfl
theorem ty_int_int (i : Int) : isTy .int (.int i) = true := rfl
theorem ty_bool_int (i : Int) : isTy .bool (.int i) = false := rfl
theorem ty_str_int (i : Int) : isTy .str (.int i) = false := rfl
theorem ty_tuple_int (i : Int) : isTy .tuple (.int i) = false := rfl
theorem ty_list_int (i : Int) : isTy .list (.int i) = false := rfl
theorem ty_dict_int (i : Int) : isTy .dict (.int i) = false := rfl
theorem isd_str (ts : List Ty) (x : Str) : isD ts (.str x) = some (ts.any fun t => isTy t (.str x)) := rfl
theorem ty_int_str (x : Str) : isTy .int (.str x) = false := rfl
theorem ty_bool_str (x : Str) : isTy .bool (.str x) = false := rfl
theorem ty_str_str (x : Str) : isTy .str (.str x) = true := rfl
theorem ty_tuple_str (x : Str) : isTy .tuple (.str x) = false := rfl
theorem ty_list_str (x : Str) : isTy .list (.str x) = false := rfl
theorem ty_dict_str (x : Str) : isTy .dict (.str x) = false := rfl
theorem isd_tup (ts : List Ty) (xs : List D) : isD ts (.tup xs) = some (ts.any fun t => isTy t (.tup xs)) := rfl
theorem ty_int_tup (xs : List D) : isTy .int (.tup xs) = false := rfl
theorem ty_bool_tup (xs : List D) : isTy .bool (.tup xs) = false := rfl
theorem ty_str_tup (xs : List D) : isTy .str (.tup xs) = false := rfl
theorem ty_tuple_tup (xs : List D) : isTy .tuple (.tup xs) = true := rfl
theorem ty_list_tup (xs : List D) : isTy .list (.tup xs) = false := rfl
theorem ty_dict_tup (xs : List D) : isTy .dict (.tup xs) = false := rfl
theorem isd_lst (ts : List Ty) (xs : List D) : isD ts (.lst xs) = some (ts.any fun t => isTy t (.lst xs)) := rfl
theorem ty_int_lst (xs : List D) : isTy .int (.lst xs) = false := rfl
theorem ty_bool_lst (xs : List D) : isTy .bool (.lst xs) = false := rfl
theorem ty_str_lst (xs : List D) : isTy .str (.lst xs) = false := rfl
theorem ty_tuple_lst (xs : List D) : isTy .tuple (.lst xs) = false := rfl
theorem ty_list_lst (xs : List D) : isTy .list (.lst xs) = true := rfl
theorem ty_dict_lst (xs : List D) : isTy .dict (.lst xs) = false := rfl
theorem isd_dK (ts : List Ty) (ks : List (Key × D)) : isD ts (.dK ks) = some (ts.any fun t => isTy t (.dK ks)) := rfl
theorem ty_int_dK (ks : List (Key × D)) : isTy .int (.dK ks) = false := rfl
theorem ty_bool_dK (ks : List (Key × D)) : isTy .bool (.dK ks) = false := rfl
theorem ty_str_dK (ks : List (Key × D)) : isTy .str (.dK ks) = false := rfl
theorem ty_tuple_dK (ks : List (Key × D)) : isTy .tuple (.dK ks) = false := rfl
theorem ty_list_dK (ks : List (Key × D)) : isTy .list (.dK ks) = false := rfl
theorem ty_dict_dK (ks : List (Key × D)) : isTy .dict (.dK ks) = true := rfl
theorem nn_non : D.isNon .non = true := rfl
theorem nn_bl (b : Bool) : D.isNon (.bl b) = false := rfl
theorem nn_int (i : Int) : D.isNon (.int i) = false := rfl
theorem nn_str (x : Str) : D.isNon (.str x) = false := rfl
theorem nn_tup (xs : List D) : D.isNon (.tup xs) = false := rfl
theorem nn_lst (xs : List D) : D.isNon (.lst xs) = false := rfl
theorem nn_dK (ks : List (Key × D)) : D.isNon (.dK ks) = false := rfl
theorem sv_so (d : D) (b : Bool) (m : MH) : slotV (slotOf (d, b)) m = .ok (d, if b then .br else .sh) m := by cases b <;> rfl
theorem c_eq_ii (i j : Int) : cmD .eq (.int i) (.int j) = some (i == j) := rfl
theorem c_eq_bb (i j : Bool) : cmD .eq (.bl i) (.bl j) = some (i == j) := rfl
theorem c_eq_ss (i j : Str) : cmD .eq (.str i) (.str j) = some (i == j) := rfl
theorem c_ne_ii (i j : Int) : cmD .ne (.int i) (.int j) = some (!(i == j)) := rfl
theorem c_ne_bb (i j : Bool) : cmD .ne (.bl i) (.bl j) = some (!(i == j)) := rfl
theorem c_ne_ss (i j : Str) : cmD .ne (.str i) (.str j) = some (!(i == j)) := rfl
theorem bq_ft : (false == true) = false := rfl
theorem bq_tf : (true == false) = false := rfl
end MP
namespace MP
open PySem L2
def WPe {α : Type} (r : Res α) (Q : α → MH → Prop) : Prop := match r with | .ok a m => Q a m | .bad => False
def WPs (r : SR) (N : Env → MH → Prop) (R : D → Bool → MH → Prop) (B C : Env → MH → Prop) : Prop := match r with | .nx e m => N e m | .ret d f m => R d f m | .brk e m => B e m | .cnt e m => C e m | .bad => False
def nE : Env → MH → Prop := fun _ _ => False
theorem we_ok {α : Type} (a : α) (m : MH) (Q : α → MH → Prop) : WPe (.ok a m) Q = Q a m := rfl
section
variable (N : Env → MH → Prop) (R : D → Bool → MH → Prop) (B C : Env → MH → Prop)
theorem ws_nx (e : Env) (m : MH) : WPs (.nx e m) N R B C = N e m := rfl
theorem ws_ret (d : D) (f : Bool) (m : MH) : WPs (.ret d f m) N R B C = R d f m := rfl
theorem ws_brk (e : Env) (m : MH) : WPs (.brk e m) N R B C = B e m := rfl
theorem ws_cnt (e : Env) (m : MH) : WPs (.cnt e m) N R B C = C e m := rfl
theorem ws_then (r : SR) (K : Env → MH → SR) : WPs (r.then K) N R B C = WPs r (fun e m => WPs (K e m) N R B C) R B C := by cases r <;> rfl
theorem ws_at {α : Type} (r : Res α) (K : α → MH → SR) : WPs (r.andThen K) N R B C = WPe r (fun a m => WPs (K a m) N R B C) := by cases r <;> rfl
theorem we_bind {α β : Type} (r : Res α) (K : α → MH → Res β) (Q : β → MH → Prop) : WPe (r.bind K) Q = WPe r (fun a m => WPe (K a m) Q) := by cases r <;> rfl
theorem we_fin (r : SR) (Q : D × Bool → MH → Prop) : WPe (finish r) Q = WPs r (fun _ m => Q (.non, false) m) (fun d f m => Q (d, f) m) nE nE := by cases r <;> rfl
end
def Po {α : Type} (o : Option α) (Q : α → Prop) : Prop := match o with | some a => Q a | none => False
theorem po_s {α : Type} (a : α) (Q : α → Prop) : Po (some a) Q = Q a := rfl
theorem po_get {α : Type} {o : Option α} {Q : α → Prop} (h : Po o Q) : ∃ a, o = some a ∧ Q a := by
  cases o with
  | none => exact h.elim
  | some a => exact ⟨a, rfl, h⟩
theorem we_mono {α : Type} {r : Res α} {P Q : α → MH → Prop} (h : WPe r P) (k : ∀ a m, P a m → Q a m) : WPe r Q := by
  cases r with
  | bad => exact h
  | ok a m => exact k a m h
theorem we_eq {α : Type} {r : Res α} {a : α} {m : MH} {Q : α → MH → Prop} (h : r = .ok a m) (q : Q a m) : WPe r Q := by rw [h]; exact q
theorem we_get {α : Type} {r : Res α} {Q : α → MH → Prop} (h : WPe r Q) : ∃ a m, r = .ok a m ∧ Q a m := by
  cases r with
  | bad => exact h.elim
  | ok a m => exact ⟨a, m, rfl, h⟩
theorem of_we {r : Res (D × Bool)} {a : D × Bool} (h : WPe r fun a' _ => a' = a) : ∃ m', r = .ok a m' := by
  obtain ⟨a', m', e, rfl⟩ := we_get h
  exact ⟨m', e⟩
def Sh0 (s : Slot) : Prop := s = .un ∨ ∃ d, s = .sh d
theorem sh0_un : Sh0 .un := .inl rfl
theorem w1_s {s : Slot} (h : Sh0 s) (e : Env) (i : Nat) : wipe1 e i s = some (e.set i .un) := by
  rcases h with rfl | ⟨d, rfl⟩ <;> rfl
theorem wSs_cons (F : CallF) (W : Nat) (s : S) (ss : List S) (x : Slot) (env : Env) (m : MH) : evalSs F W (s :: ss) (x :: env) m = (evalS F W s (x :: env) m).then fun e m1 => evalSs F W ss e m1 := xSs_cons ..
theorem wSs_nil (F : CallF) (W : Nat) (x : Slot) (env : Env) (m : MH) : evalSs F W [] (x :: env) m = .nx (x :: env) m := xSs_nil ..
def upds : List Nat → List Slot → Env → Env
  | i :: is, s :: ss, e => upds is ss (e.set i s)
  | _, _, e => e
section
variable {F : CallF} {W : Nat} {t : T} {b : List S} {xs : List D} {env : Env} {m : MH} {N : Env → MH → Prop} {R : D → Bool → MH → Prop} {B C : Env → MH → Prop}
theorem for_e (I : Nat → Env → MH → Prop) (h0 : I 0 env m)
    (hs : ∀ (k : Nat) (x : D) (e : Env) (m1 : MH), xs[k]? = some x → I k e m1 → Po (bindT t x e) fun e1 => WPs (evalSs F W b e1 m1) (I (k + 1)) R N (I (k + 1)))
    (hp : ∀ e m', I xs.length e m' → N e m') : WPs (forGo F W t b xs env m) N R B C := by
  have go : ∀ (ys : List D) (k : Nat) (e : Env) (m1 : MH), k + ys.length = xs.length → (∀ i, ys[i]? = xs[k + i]?) → I k e m1 → WPs (forLoop t (fun e' m' => evalSs F W b e' m') ys e m1) N R B C := by
    intro ys
    induction ys with
    | nil => intro k e m1 hk _ hI; simp at hk; subst hk; exact hp e m1 hI
    | cons x ys ih =>
      intro k e m1 hk hy hI
      have hx : xs[k]? = some x := by have := hy 0; simpa using this.symm
      obtain ⟨e1, h1, h2⟩ := po_get (hs k x e m1 hx hI)
      have nxt : ∀ e2 m2, I (k + 1) e2 m2 → WPs (forLoop t (fun e' m' => evalSs F W b e' m') ys e2 m2) N R B C := fun e2 m2 h => ih (k + 1) e2 m2 (by simp at hk; omega) (fun i => by have := hy (i + 1); rw [List.getElem?_cons_succ] at this; rw [this]; congr 1; omega) h
      simp only [forLoop, h1]
      cases hr : evalSs F W b e1 m1 with
      | nx e2 m2 => rw [hr] at h2; exact nxt e2 m2 h2
      | cnt e2 m2 => rw [hr] at h2; exact nxt e2 m2 h2
      | brk e2 m2 => rw [hr] at h2; exact h2
      | ret d f m2 => rw [hr] at h2; exact h2
      | bad => rw [hr] at h2; exact h2
  exact go xs 0 env m (by simp) (fun i => by simp) h0
theorem for_w (A : List Nat) (I : Nat → List Slot → MH → Prop) (h0 : ∃ vs, upds A vs env = env ∧ I 0 vs m)
    (hs : ∀ (k : Nat) (x : D) (vs : List Slot) (m1 : MH), xs[k]? = some x → I k vs m1 → Po (bindT t x (upds A vs env)) fun e1 => WPs (evalSs F W b e1 m1) (fun e2 m2 => ∃ ws, upds A ws env = e2 ∧ I (k + 1) ws m2) R N (fun e2 m2 => ∃ ws, upds A ws env = e2 ∧ I (k + 1) ws m2))
    (hp : ∀ vs m', I xs.length vs m' → N (upds A vs env) m') : WPs (forGo F W t b xs env m) N R B C :=
  for_e (fun k e m1 => ∃ vs, upds A vs env = e ∧ I k vs m1) h0 (fun k x e m1 hx ⟨vs, he, hI⟩ => by subst he; exact hs k x vs m1 hx hI) fun e m' ⟨vs, he, hI⟩ => by subst he; exact hp vs m' hI
theorem lc_w {elt : E} {ifs : List E} {e : Env} {Q : D × Mode → MH → Prop} (I : Nat → List D → MH → Prop) (hl : xs.length ≤ 16777216) (h0 : I 0 [] m)
    (hs : ∀ (k : Nat) (x : D) (acc : List D) (m1 : MH), xs[k]? = some x → I k acc m1 → Po (bindT t x e) fun e1 => WPe (evalT F ifs e1 m1) fun p m2 => (p = true → WPe (evalE F elt e1 m2) fun y m3 => owns y.2 = true ∧ I (k + 1) (acc ++ [y.1]) m3) ∧ (p = false → I (k + 1) acc m2))
    (hp : ∀ ds m', I xs.length ds m' → Q (.lst ds, .fr) m') : WPe (lcGo F elt t ifs e xs m) Q := by
  have go : ∀ (ys : List D) (k : Nat) (acc : List D) (m1 : MH), k + ys.length = xs.length → (∀ i, ys[i]? = xs[k + i]?) → I k acc m1 → WPe (lcLoop t (fun e' m' => evalT F ifs e' m') (fun e' m' => (evalE F elt e' m').bind fun x m'' => if owns x.2 then .ok x.1 m'' else .bad) e ys m1) fun ds m' => ds.length ≤ ys.length ∧ I xs.length (acc ++ ds) m' := by
    intro ys
    induction ys with
    | nil => intro k acc m1 hk _ hI; simp at hk; subst hk; exact ⟨Nat.le_refl _, by simpa using hI⟩
    | cons x ys ih =>
      intro k acc m1 hk hy hI
      have hx : xs[k]? = some x := by have := hy 0; simpa using this.symm
      obtain ⟨e1, h1, h2⟩ := po_get (hs k x acc m1 hx hI)
      have nxt : ∀ ac m2, I (k + 1) ac m2 → _ := fun ac m2 h => ih (k + 1) ac m2 (by simp at hk; omega) (fun i => by have := hy (i + 1); rw [List.getElem?_cons_succ] at this; rw [this]; congr 1; omega) h
      obtain ⟨p, m2, e2, h3⟩ := we_get h2
      simp only [lcLoop, h1, e2, Res.bind_ok]
      obtain ⟨h3a, h3b⟩ := h3
      cases p with
      | true =>
        obtain ⟨y, m3, e3, h4, h5⟩ := we_get (h3a rfl)
        obtain ⟨ds, m4, e4, h6, h7⟩ := we_get (nxt _ _ h5)
        simp only [if_true, e3, Res.bind_ok, h4, e4]
        exact ⟨by simp; omega, by simpa using h7⟩
      | false =>
        obtain ⟨ds, m4, e4, h6, h7⟩ := we_get (nxt _ _ (h3b rfl))
        simp only [Bool.false_eq_true, if_false, e4]
        exact ⟨by simp; omega, h7⟩
  obtain ⟨ds, m', e1, h1, h2⟩ := we_get (go xs 0 [] m (by simp) (fun i => by simp) h0)
  unfold lcGo
  rw [e1]
  have : ds.length ≤ 16777216 := by omega
  simp only [Res.bind_ok, this, if_true]
  exact hp ds m' (by simpa using h2)
theorem lc_w0 {elt : E} {e : Env} {Q : D × Mode → MH → Prop} (I : Nat → List D → MH → Prop) (hl : xs.length ≤ 16777216) (h0 : I 0 [] m)
    (hs : ∀ (k : Nat) (x : D) (acc : List D) (m1 : MH), xs[k]? = some x → I k acc m1 → Po (bindT t x e) fun e1 => WPe (evalE F elt e1 m1) fun y m3 => owns y.2 = true ∧ I (k + 1) (acc ++ [y.1]) m3)
    (hp : ∀ ds m', I xs.length ds m' → Q (.lst ds, .fr) m') : WPe (lcGo F elt t [] e xs m) Q :=
  lc_w I hl h0 (fun k x acc m1 hx hI => by
    obtain ⟨e1, h1, h2⟩ := po_get (hs k x acc m1 hx hI)
    rw [h1, po_s, xT_nil]
    exact ⟨fun _ => h2, fun h => nomatch h⟩) hp
theorem lc_mw {α : Type} (enc : α → D) (g : α → D) {elt : E} {e : Env} {Q : D × Mode → MH → Prop} {l : List α} (hl : l.length ≤ 16777216) (h : ∀ a ∈ l, Po (bindT t (enc a) e) fun e1 => WPe (evalE F elt e1 m) fun y m2 => y.1 = g a ∧ owns y.2 = true ∧ m2 = m)
    (q : Q (.lst (l.map g), .fr) m) : WPe (lcGo F elt t [] e (l.map enc) m) Q := by
  have e1 := lc_mapA (F := F) (t := t) enc (elt := elt) (e := e) (m := m) g hl fun a ha => by
    obtain ⟨e1, h1, h2⟩ := po_get (h a ha)
    obtain ⟨y, m2, h5, h6, h7, rfl⟩ := we_get h2
    exact ⟨e1, h1, y.2, by rw [h5, ← h6], h7⟩
  exact we_eq e1 q
end
theorem up_n (e : Env) : upds [] [] e = e := rfl
theorem up_c (i : Nat) (is : List Nat) (s : Slot) (ss : List Slot) (e : Env) : upds (i :: is) (s :: ss) e = upds is ss (e.set i s) := rfl
end MP
namespace MP
open PySem
def fd7 : FD := ⟨1, 4, [.asg (.nm 1) (.bi .list [(.sl (.v 0) [] [(.c (.int 12))])]),
 .for_ (.tup [(.nm 2), (.nm 3)]) .enu [(.sl (.v 0) [(.c (.int 12))] [(.c (.int 63))])]
[.setIx 1 (.op .mod (.v 2) (.c (.int 12))) (.op .add (.ix (.v 1) (.op .mod (.v 2) (.c (.int 12)))) (.v 3))],
 .frz 1,
 .ret (.lst [(.v 1), (.c (.int 0)), (.c (.int 0))])]⟩
def fd8 : FD := ⟨2, 6, [.iff (.cmp .ge (.v 0) (.op .pow (.c (.int 10)) (.c (.int 18))))
[.ret (.v 0)]
[],
 .asg (.nm 2) (.lst [(.c (.int 2147483629)), (.c (.int 2147483587)), (.c (.int 2147483579)), (.c (.int 2147483563)), (.c (.int 2147483549)), (.c (.int 2147483543)), (.c (.int 2147483497)), (.c (.int 2147483489))]),
 .asg (.nm 2) (.op .add (.v 2) (.lst [(.c (.int 2147483477)), (.c (.int 2147483423)), (.c (.int 2147483399)), (.c (.int 2147483353)), (.c (.int 2147483323))])),
 .asg (.nm 3) (.op .mod (.op .pow (.op .add (.op .add (.op .mul (.op .mod (.v 0) (.c (.int 1000000007))) (.op .add (.op .mul (.c (.int 2)) (.v 1)) (.c (.int 69069)))) (.op .mul (.v 1) (.c (.int 40503)))) (.c (.int 977))) (.c (.int 3))) (.ix (.v 2) (.op .mod (.v 1) (.c (.int 13))))),
 .asg (.nm 4) (.op .mod (.op .pow (.op .add (.op .add (.op .mul (.v 3) (.op .add (.v 1) (.c (.int 3)))) (.op .mod (.v 0) (.c (.int 65537)))) (.c (.int 5))) (.c (.int 5))) (.ix (.v 2) (.op .mod (.op .add (.v 1) (.c (.int 5))) (.c (.int 13))))),
 .asg (.nm 5) (.op .mod (.op .pow (.op .add (.op .add (.v 4) (.op .mod (.v 3) (.c (.int 1009)))) (.v 1)) (.c (.int 3))) (.ix (.v 2) (.op .mod (.op .add (.v 1) (.c (.int 7))) (.c (.int 13))))),
 .ret (.op .add (.op .mul (.op .add (.op .mul (.v 3) (.c (.int 2147483647))) (.v 4)) (.c (.int 2147483647))) (.v 5))]⟩
def fd9 : FD := ⟨2, 5, [.iff (.cmp .lt (.ix (.v 0) (.c (.int 2))) (.v 1))
[.asg (.nm 2) (.ix (.v 0) (.c (.int 1))),
 .asg (.nm 3) (.c (.int 0)),
 .iff (.cmp .lt (.v 2) (.bi .len [(.ix (.v 0) (.c (.int 0)))]))
[.asg (.nm 3) (.ix (.ix (.v 0) (.c (.int 0))) (.v 2))]
[.iff (.cmp .gt (.bi .len [(.ix (.v 0) (.c (.int 0)))]) (.c (.int 0)))
[.asg (.nm 3) (.op .mod (.ix (.ix (.v 0) (.c (.int 0))) (.op .mod (.op .add (.op .mul (.v 2) (.c (.int 5))) (.c (.int 3))) (.bi .len [(.ix (.v 0) (.c (.int 0)))]))) (.op .add (.op .pow (.c (.int 10)) (.c (.int 17))) (.v 2)))]
[]],
 .setIx 0 (.c (.int 1)) (.op .add (.v 2) (.c (.int 1))),
 .setIx 0 (.c (.int 2)) (.call 8 [(.v 3), (.v 2)])]
[],
 .asg (.nm 4) (.op .mod (.ix (.v 0) (.c (.int 2))) (.v 1)),
 .setIx 0 (.c (.int 2)) (.op .fdiv (.ix (.v 0) (.c (.int 2))) (.v 1)),
 .ret (.v 4)]⟩
def fd21 : FD := ⟨1, 11, [.asg (.nm 1) (.call 7 [(.v 0)]),
 .pub 1,
 .for_ (.nm 2) .rng [(.c (.int 4))]
[.asg (.nm 3) (.lst [(.c .non), (.c (.bl true)), (.c (.bl false)), (.c (.int 0)), (.c (.int 1)), (.neg (.c (.int 1))), (.op .pow (.c (.int 10)) (.c (.int 50))), (.c (.str "")), (.c (.str "a")), (.c (.str "ab")), (.tup []), (.lst []), (.c (.dK [])), (.tup [(.c (.int 0))]), (.lst [(.c (.int 0))])]),
 .asg (.nm 4) (.lc (.ix (.v 3) (.call 9 [(.v 1), (.c (.int 15))])) [5] (.nm 5) .rng [(.c (.int 2))] []),
 .asg (.nm 6) (.lst [(.mkX "InvalidTask" [(.ix (.v 4) (.c (.int 0)))]), (.mkX "InvalidDuration" [(.ix (.v 4) (.c (.int 1)))])]),
 .frz 6,
 .for_ (.tup [(.nm 7), (.nm 8)]) .enu [(.v 6)]
[.iff (.or (.not (.isX "AnycriticalError" (.v 8))) (.not (.isX "ValueError" (.v 8))))
[.ret (.c (.bl false))]
[],
 .asg (.nm 9) (.lst [(.isX "InvalidTask" (.v 8)), (.isX "InvalidDuration" (.v 8))]),
 .iff (.cmp .ne (.v 9) (.lc (.cmp .eq (.v 10) (.v 7)) [10] (.nm 10) .rng [(.c (.int 2))] []))
[.ret (.c (.bl false))]
[]],
 .iff (.cmp .ne (.bi .repr [(.lst [(.fldX "task" (.ix (.v 6) (.c (.int 0)))), (.fldX "duration" (.ix (.v 6) (.c (.int 1))))])]) (.bi .repr [(.v 4)]))
[.ret (.c (.bl false))]
[]],
 .ret (.c (.bl true))]⟩
def FT : Nat → Option FD
  | 7 => some fd7
  | 8 => some fd8
  | 9 => some fd9
  | 21 => some fd21
  | _ => none
theorem ft7 : FT 7 = some fd7 := rfl
theorem ft8 : FT 8 = some fd8 := rfl
theorem ft9 : FT 9 = some fd9 := rfl
theorem ft21 : FT 21 = some fd21 := rfl
end MP
namespace MP
open PySem
local macro_rules
  | `(tactic| simp_arith [$ls,*]) => `(tactic| simp (decide := true) only [w_et, w_zlt, w_ztl, Res.bind_ok, Res.bind_bad, at_ok, at_bad, th_nx, th_ret, th_brk, th_cnt, br_t, br_f, gd_t, oe_some, ox_some, od_some, ob_some, xE_c, sv_sh, sv_ow, sv_bw, xE_v, xE_tup, xE_lst, xE_op, ng_i, xE_neg, xE_cmp, xE_ch, xE_and, xE_or, xE_not, xE_ite, xE_ix, xE_sl, rv_t, rv_l, xE_rv, xE_call, xE_bi, xE_isi, lo_some, xE_lc, xEs_nil, xEs_cons, xAs_nil, xAs_cons, xPs_nil, xPs_cons, xO_nil, or_i, xO_one, xT_nil, xT_one, wSs_nil, wSs_cons, xS_pass, xS_brk, xS_cnt, xS_ex, xS_asg, xS_par, xS_setIx, xS_app, xS_ext, rt_sh, rt_ow, xS_retV, re_sh, re_fr, xS_ret, xS_iff, fo_some, xS_for, fz_ow, fz_sh, fz_un, fz_bw, xS_frz, pb_ow, xS_pub, ol_some, st_ow, st_at, o_add, o_sub, o_addT, o_addL, o_mulL, o_mulR, o_mod, o_fdiv, o_pow, c_lt, c_le, c_gt, c_ge, c_isN0, c_isnN0, t_bl, m_int, m_bl, m_str, m_tup, m_lst, m_non, ow_sh, ow_fr, le_sh, le_fr, le_bo, le_br, df_lst, df_tup, df_scr, i_tup, i_lst, i_scr, s_tupx, s_lstx, s_scrx, b_lenL, b_lenT, b_lenS, b_listL, b_listT, b_tupL, b_tupT, b_max2, b_min2, w_pl, w_pt, w_en, w_zl, w_zt, f_ret, f_nx, iv_c, iv_tup, iv_lst, iv_op, iv_neg, iv_cmp, iv_ch, iv_and, iv_or, iv_not, iv_ite, iv_ix, iv_sl, iv_rv, iv_call, iv_bi, iv_isi, iv_lc, tslots, tslotss, pT_nm, pT_tup, pt_sh, pt_fr, bt_nm, bt_tup, bts_nil, bts_cons, sE, so_f, so_t, w1_sh, w1_un, wE_nil, wE_cons, d_t, d_f, st_obj0, df_obj0, px1, px2, at3_0, at3_1, at3_2, at2_0, at2_1, isd_non, ty_int_non, ty_bool_non, ty_str_non, ty_tuple_non, ty_list_non, ty_dict_non, isd_bl, ty_int_bl, ty_bool_bl, ty_str_bl, ty_tuple_bl, ty_list_bl, ty_dict_bl, isd_int, ty_int_int, ty_bool_int, ty_str_int, ty_tuple_int, ty_list_int, ty_dict_int, isd_str, ty_int_str, ty_bool_str, ty_str_str, ty_tuple_str, ty_list_str, ty_dict_str, isd_tup, ty_int_tup, ty_bool_tup, ty_str_tup, ty_tuple_tup, ty_list_tup, ty_dict_tup, isd_lst, ty_int_lst, ty_bool_lst, ty_str_lst, ty_tuple_lst, ty_list_lst, ty_dict_lst, isd_dK, ty_int_dK, ty_bool_dK, ty_str_dK, ty_tuple_dK, ty_list_dK, ty_dict_dK, nn_non, nn_bl, nn_int, nn_str, nn_tup, nn_lst, nn_dK, sv_so, c_eq_ii, c_eq_bb, c_eq_ss, c_ne_ii, c_ne_bb, c_ne_ss, bq_ft, bq_tf, xE_isG, iv_isG, xE_cmZ, cz_some, iv_cmZ, xE_fldX, iv_fldX, xE_isX, iv_isX, xE_isC, iv_isC, xE_mkX, mx_ok, iv_mkX, xE_slO, iv_slO, xS_popL, xE_sits, iv_sits, si_m, xE_itsT, iv_itsT, itT_m, xE_vals, iv_vals, xS_clrE, pb_owK, pb_owT, xS_tryB, xS_asgF, af_tup, xE_ssetI, iv_ssetI, xE_ev, iv_ev, ev_t, xE_hasNN, iv_hasNN, xE_hasN, iv_hasN, xE_join, iv_join, xE_its, it_m, iv_its, xS_upd, xS_dpopE, xS_appP, ap_r, xS_clr, xS_dpop, co_some, cb_some, ow_ow, cr_K, cr_T, xE_lcP, iv_lcP, xS_forP, dp_tup, bx_T, bx_K, xE_fld, iv_fld, xE_get, iv_get, xE_cmO, iv_cmO, xE_biO, iv_biO, xE_meth, mth_some, iv_meth, mk_non, xE_make, iv_make, ci_some, xE_callI, iv_callI, xE_popE, iv_popE, dsr_some, xE_dsp, iv_dsp, do_some, xE_dc, iv_dc, lo2_some, xE_lc2, iv_lc2, do2_some, xE_dc2, iv_dc2, xS_parN, pl_nil, pl_cons, pu_sh, pu_fr, sf_some, xS_setF, pe_some, xS_dputE, ff_ok, fs_sh, xS_forF, fz'_sh, xS_frzA, ls_ow, ls_obj, lc_l, xS_ins0, xS_dput, dp_ow, dp_some, xS_forD, dc_some, ds_sh, ds_bw, di_K, di_T, xE_lcD, ld_some, iv_lcD, xE_ch3, xE_lit, lr_some, xS_augIx, ag_r, ag_x, ag_p, ag_o, xE_sset, xS_par3, p3_ok, b_max3, b_min3, w_rvl, w_rvt, iv_sset, xE_idx, xE_box, bx_fr, xE_callZ, za_some, zg_bl, zg_int, xS_popAt, pp_r, pp_o, xS_appE, ae_some, ac_lst, ao_obj, iv_idx, iv_box, iv_callZ, we_ok, ws_nx, ws_ret, ws_brk, ws_cnt, ws_then, ws_at, we_bind, we_fin, up_n, up_c, po_s, List.map_cons, List.map_nil, List.getD_cons_zero, List.getD_cons_succ, List.set_cons_zero, List.set_cons_succ, List.getElem?_cons_zero, List.getElem?_cons_succ, List.length_cons, List.length_nil, List.cons_append, List.nil_append, List.append_nil, List.replicate, List.all_cons, List.all_nil, Option.bind_some, Bool.and_self, Bool.and_true, Bool.true_and, walkable, Nat.sub_self, Nat.reduceSub, Nat.reduceAdd, Nat.zero_add, List.contains_cons, List.contains_nil, Bool.false_eq_true, ite_true, ite_false, if_true, if_false, Nat.succ_lt_succ_iff, Nat.zero_lt_succ, Nat.reduceLT, Nat.reduceLeDiff, Int.reduceToNat, Int.reducePow, List.any_cons, List.any_nil, Bool.or_false, Bool.false_or, Bool.or_true, Bool.true_or, Bool.and_false, Bool.false_and, Bool.not_true, Bool.not_false, Bool.or_self, beq_self_eq_true, and_true, true_and, and_self, true_implies, false_implies, Bool.true_eq_false, forall_const, true_or, or_true, false_or, or_false, $ls,*])
section
open PySem L2
theorem atI_some {α : Type} {xs : List α} {i : Int} (h0 : 0 ≤ i) (h1 : i < xs.length) : ∃ x, atI xs i = some x ∧ x ∈ xs := by
  obtain ⟨n, rfl⟩ := Int.eq_ofNat_of_zero_le h0
  have hn : n < xs.length := by omega
  exact ⟨xs[n], atI_nat (List.getElem?_eq_getElem hn), List.getElem_mem hn⟩
def primesD : List D := [2147483629, 2147483587, 2147483579, 2147483563, 2147483549, 2147483543, 2147483497, 2147483489, 2147483477, 2147483423, 2147483399, 2147483353, 2147483323].map D.int
theorem prime_at (i : Int) : ∃ p : Int, atI primesD (i % 13) = some (.int p) ∧ 0 < p ∧ p < 2147483648 := by
  have h0 : 0 ≤ i % 13 := Int.emod_nonneg _ (by decide)
  have h1 : i % 13 < 13 := Int.emod_lt_of_pos _ (by decide)
  obtain ⟨x, hx, hm⟩ := atI_some (xs := primesD) h0 (by show _ < ((13 : Nat) : Int); omega)
  have : ∀ y ∈ primesD, ∃ p : Int, y = .int p ∧ 0 < p ∧ p < 2147483648 := by
    intro y hy
    simp only [primesD, List.map_cons, List.map_nil, List.mem_cons, List.not_mem_nil, or_false] at hy
    rcases hy with rfl | rfl | rfl | rfl | rfl | rfl | rfl | rfl | rfl | rfl | rfl | rfl | rfl <;> exact ⟨_, rfl, by decide, by decide⟩
  obtain ⟨p, rfl, h2, h3⟩ := this x hm
  exact ⟨p, hx, h2, h3⟩
theorem spread_ok {W n : Nat} (cell at' : Int) (h : 0 ≤ at') (h2 : at' ≤ 1000000000) (m : MH) : ∃ r, 0 ≤ r ∧ callF FT W (n + 1) 8 [(.int cell, false), (.int at', false)] m = .ok (.int r, false) m := by
  rw [call_eq ft8 rfl]
  by_cases hc : (1000000000000000000 : Int) ≤ cell
  · refine ⟨cell, by omega, ?_⟩
    simp_arith [fd8, hc]
  · obtain ⟨p1, e1, p1a, p1b⟩ := prime_at at'
    obtain ⟨p2, e2, p2a, p2b⟩ := prime_at (at' + 5)
    obtain ⟨p3, e3, p3a, p3b⟩ := prime_at (at' + 7)
    simp only [primesD, List.map_cons, List.map_nil] at e1 e2 e3
    have c0 : 0 ≤ cell % 1000000007 := Int.emod_nonneg _ (by decide)
    have c1 : cell % 1000000007 < 1000000007 := Int.emod_lt_of_pos _ (by decide)
    generalize hx : cell % 1000000007 * (2 * at' + 69069) + at' * 40503 + 977 = x
    have x0 : 0 ≤ x := by
      have := Int.mul_nonneg c0 (show 0 ≤ 2 * at' + 69069 by omega)
      omega
    have x1 : x < 18446744073709551616 := by
      have : cell % 1000000007 * (2 * at' + 69069) ≤ 1000000007 * 2000069069 := Int.mul_le_mul (by omega) (by omega) (by omega) (by decide)
      omega
    have x2 : inR x = true := inR_of (by omega) x1
    generalize hy : x ^ 3 % p1 = y
    have y0 : 0 ≤ y := by rw [← hy]; exact Int.emod_nonneg _ (by omega)
    have y1 : y < p1 := by rw [← hy]; exact Int.emod_lt_of_pos _ p1a
    generalize hz : y * (at' + 3) + cell % 65537 + 5 = z
    have d0 : 0 ≤ cell % 65537 := Int.emod_nonneg _ (by decide)
    have d1 : cell % 65537 < 65537 := Int.emod_lt_of_pos _ (by decide)
    have z0 : 0 ≤ z := by
      have := Int.mul_nonneg y0 (show 0 ≤ at' + 3 by omega)
      omega
    have z1 : z < 18446744073709551616 := by
      have : y * (at' + 3) ≤ 2147483648 * 1000000003 := Int.mul_le_mul (by omega) (by omega) (by omega) (by decide)
      omega
    have z2 : inR z = true := inR_of (by omega) z1
    generalize hu : z ^ 5 % p2 = u
    have u0 : 0 ≤ u := by rw [← hu]; exact Int.emod_nonneg _ (by omega)
    have u1 : u < p2 := by rw [← hu]; exact Int.emod_lt_of_pos _ p2a
    have f0 : 0 ≤ y % 1009 := Int.emod_nonneg _ (by decide)
    have f1 : y % 1009 < 1009 := Int.emod_lt_of_pos _ (by decide)
    have v2 : inR (u + y % 1009 + at') = true := inR_of (by omega) (by omega)
    have q : 0 ≤ (u + y % 1009 + at') ^ 3 % p3 := Int.emod_nonneg _ (by omega)
    have m1 : inR (cell % 1000000007) = true := inR_of (by omega) (by omega)
    have m2 : inR y = true := inR_of (by omega) (by omega)
    refine ⟨(y * 2147483647 + u) * 2147483647 + (u + y % 1009 + at') ^ 3 % p3, ?_, ?_⟩
    · have a1 := Int.mul_nonneg y0 (show (0 : Int) ≤ 2147483647 by decide)
      have a2 := Int.mul_nonneg (show 0 ≤ y * 2147483647 + u by omega) (show (0 : Int) ≤ 2147483647 by decide)
      omega
    · simp_arith [fd8, hc, e1, e2, e3, p1a, p2a, p3a, m1, m2, hx, hy, hz, hu, x2, z2, v2]
def penC (cs : List Int) (at' c : Int) : Cell := .lst [.lst (cs.map .int), .int at', .int c]
def Pen (B : Int) (m : MH) : Prop := ∃ cs at' c, m.head? = some (penC cs at' c) ∧ 0 ≤ at' ∧ at' ≤ B ∧ 0 ≤ c
theorem Pen.set {B : Int} {m : MH} {n : Nat} {x : Cell} (h : Pen B m) (hn : 0 < n) : Pen B (m.set n x) := by
  obtain ⟨cs, a, c, e, h0, h1, h2⟩ := h
  refine ⟨cs, a, c, ?_, h0, h1, h2⟩
  cases m with
  | nil => cases e
  | cons y r =>
    cases n with
    | zero => exact absurd hn (Nat.lt_irrefl _)
    | succ n => exact e
theorem atI_map' (cs : List Int) (i : Int) (h0 : 0 ≤ i) (h1 : i < cs.length) : ∃ x, atI (cs.map D.int) i = some (.int x) := by
  obtain ⟨x, hx, hm⟩ := atI_some (xs := cs.map D.int) h0 (by simpa using h1)
  obtain ⟨y, _, rfl⟩ := List.mem_map.mp hm
  exact ⟨y, hx⟩
theorem take_ok {W n : Nat} {B : Int} {m : MH} (hp : Pen B m) (hB : B ≤ 1000000000) (a : Int) (a0 : 0 < a) (a1 : a < 1073741824) :
    ∃ r m', 0 ≤ r ∧ r < a ∧ Pen (B + 1) m' ∧ callF FT W (n + 2) 9 [(.obj 0, false), (.int a, false)] m = .ok (.int r, false) m' := by
  obtain ⟨cs, at', c, e, h0, h1, h2⟩ := hp
  obtain ⟨r', rfl⟩ : ∃ r', m = penC cs at' c :: r' := by
    cases m with
    | nil => cases e
    | cons y r => cases e; exact ⟨r, rfl⟩
  clear e
  have fin : ∀ (k c : Int), 0 ≤ k → k ≤ B + 1 → 0 ≤ c → Pen (B + 1) (penC cs k (c / a) :: r') := fun k c h h' h2 => ⟨cs, k, c / a, rfl, h, h', Int.ediv_nonneg h2 (by omega)⟩
  have md : ∀ c : Int, 0 ≤ c % a ∧ c % a < a := fun c => ⟨Int.emod_nonneg _ (by omega), Int.emod_lt_of_pos _ a0⟩
  rw [call_eq ft9 rfl]
  by_cases hc : c < a
  · by_cases hl : at' < (cs.length : Int)
    · obtain ⟨x, hx⟩ := atI_map' cs at' h0 hl
      obtain ⟨r, r0, hr⟩ := spread_ok (W := W) (n := n) x at' h0 (by omega) (penC cs (at' + 1) c :: r')
      refine ⟨r % a, penC cs (at' + 1) (r / a) :: r', (md r).1, (md r).2, fin (at' + 1) r (by omega) (by omega) r0, ?_⟩
      simp only [penC] at hr
      simp_arith [fd9, hc, hl, hx, hr, a0, a1, penC, List.length_map]
    · by_cases hz : (0 : Int) < cs.length
      · have e0 : 0 ≤ (at' * 5 + 3) % (cs.length : Int) := Int.emod_nonneg _ (by omega)
        have e1 : (at' * 5 + 3) % (cs.length : Int) < cs.length := Int.emod_lt_of_pos _ hz
        obtain ⟨x, hx⟩ := atI_map' cs _ e0 e1
        obtain ⟨r, r0, hr⟩ := spread_ok (W := W) (n := n) (x % (100000000000000000 + at')) at' h0 (by omega) (penC cs (at' + 1) c :: r')
        refine ⟨r % a, penC cs (at' + 1) (r / a) :: r', (md r).1, (md r).2, fin (at' + 1) r (by omega) (by omega) r0, ?_⟩
        simp only [penC] at hr
        have w : (0 : Int) < 100000000000000000 + at' := by omega
        simp_arith [fd9, hc, hl, hx, hr, a0, a1, penC, List.length_map, hz, w]
      · obtain ⟨r, r0, hr⟩ := spread_ok (W := W) (n := n) 0 at' h0 (by omega) (penC cs (at' + 1) c :: r')
        refine ⟨r % a, penC cs (at' + 1) (r / a) :: r', (md r).1, (md r).2, fin (at' + 1) r (by omega) (by omega) r0, ?_⟩
        simp only [penC] at hr
        simp_arith [fd9, hc, hl, hr, a0, a1, penC, List.length_map, hz]
  · refine ⟨c % a, penC cs at' (c / a) :: r', (md c).1, (md c).2, fin at' c h0 (by omega) h2, ?_⟩
    simp_arith [fd9, hc, a0, a1, penC]
theorem open_ok {W n : Nat} (ns : List Int) (hl : ns.length ≤ 63) (m : MH) : ∃ cs : List Int, callF FT W (n + 1) 7 [(.scr ns, false)] m = .ok (.lst [.lst (cs.map .int), .int 0, .int 0], true) m := by
  rw [call_eq ft7 rfl]
  obtain ⟨e', m', h1, cs, j2, j3, he, hm', hc⟩ := for_inv (F := callF FT W n) (W := W) (t := .tup [.nm 2, .nm 3]) (b := [.setIx 1 (.op .mod (.v 2) (.c (.int 12))) (.op .add (.ix (.v 1) (.op .mod (.v 2) (.c (.int 12)))) (.v 3))])
    (xs := enumD ((cutD ns (some 12) (some 63)).map D.int)) (env := [.sh (.scr ns), .ow (.lst ((cutD ns none (some 12)).map D.int)), .un, .un]) (m := m)
    (fun _ e m1 => ∃ (cs : List Int) (j2 j3 : Slot), e = [.sh (.scr ns), .ow (.lst (cs.map D.int)), j2, j3] ∧ m1 = m ∧ cs.length = (cutD ns none (some 12)).length) ⟨_, _, _, rfl, rfl, rfl⟩ (by
      rintro i x e m1 hx ⟨cs, j2, j3, rfl, rfl, hc⟩
      obtain ⟨y, hy, rfl⟩ := enum_get hx
      rw [List.getElem?_map, Option.map_eq_some_iff] at hy
      obtain ⟨z, hz, rfl⟩ := hy
      have q12 : 12 < ns.length := by
        have := (List.getElem?_eq_some_iff.mp hz).1
        rw [show (12 : Int) = ((12 : Nat) : Int) from rfl, show (63 : Int) = ((63 : Nat) : Int) from rfl, cut_mid, List.length_take, List.length_drop] at this
        omega
      have hc' : cs.length = 12 := by
        rw [hc, show (12 : Int) = ((12 : Nat) : Int) from rfl, cut_to, List.length_take]
        omega
      have e0 : 0 ≤ (i : Int) % 12 := Int.emod_nonneg _ (by decide)
      have e1 : (i : Int) % 12 < 12 := Int.emod_lt_of_pos _ (by decide)
      obtain ⟨w, hw⟩ := atI_map' cs ((i : Int) % 12) e0 (by omega)
      obtain ⟨k, hk⟩ := Int.eq_ofNat_of_zero_le e0
      have hk12 : k < (cs.map D.int).length := by rw [List.length_map]; omega
      have pk := px (cs.map D.int) k (.int (w + z)) hk12
      refine ⟨[.sh (.scr ns), .ow (.lst (cs.map D.int)), .sh (.int i), .sh (.int z)], ?_, [.sh (.scr ns), .ow (.lst ((cs.set k (w + z)).map D.int)), .sh (.int i), .sh (.int z)], _, ?_, cs.set k (w + z), _, _, rfl, rfl, by rw [List.length_set]; exact hc⟩
      · simp_arith [id]
      · rw [hk] at hw
        simp_arith [hw, hk]
        have pk' : putIx (cs.map D.int) (D.int (k : Int)) (D.int (w + z)) = some ((cs.set k (w + z)).map D.int) := by rw [pk, List.map_set]
        rw [pk']
        simp_arith [id])
  subst he hm'
  refine ⟨cs, ?_⟩
  simp_arith [fd7, h1]
end
section
open PySem L2
mutual
def dep : D → Nat
  | .tup xs => deps xs + 1
  | .lst xs => deps xs + 1
  | _ => 0
def deps : List D → Nat
  | [] => 0
  | x :: xs => max (dep x) (deps xs)
end
end
section
open List
def dPath (p : List Int) : D := .tup (p.map .int)
end
section
open PySem L2
def dPair (p : Int × Int) : D := .tup [.int p.1, .int p.2]
end
section
open PySem L2
structure EncD {α : Type} [BEq α] (f : α → D) (k : Nat) : Prop where
  lay : ∀ a, (f a).py.canLay0 = true
  dep : ∀ a, (f a).py.depth ≤ k
  eqv : ∀ a b, eqv (f a) (f b) = (a == b)
section
variable {α β : Type} [BEq α] [BEq β] {f : α → D} {g : β → D} {k j : Nat}
theorem enc_int : EncD D.int 0 := ⟨fun _ => rfl, fun _ => Nat.le_refl _, fun a b => rfl⟩
theorem enc_all (h : EncD f k) (l : List α) : PyData.canLayAll0 (pys (l.map f)) = true ∧ PyData.depthAll (pys (l.map f)) ≤ k ∧ ∀ l' : List α, PyData.eqvAll (pys (l.map f)) (pys (l'.map f)) = (l == l') := by
  induction l with
  | nil => exact ⟨rfl, Nat.zero_le _, fun l' => by cases l' <;> rfl⟩
  | cons a r ih =>
    refine ⟨?_, ?_, fun l' => ?_⟩
    · show ((f a).py.canLay0 && PyData.canLayAll0 (pys (r.map f))) = true
      rw [h.lay, ih.1]; rfl
    · show max (f a).py.depth (PyData.depthAll (pys (r.map f))) ≤ k
      have := h.dep a
      omega
    · cases l' with
      | nil => rfl
      | cons b r' =>
        show (PyData.eqv (f a).py (f b).py && PyData.eqvAll (pys (r.map f)) (pys (r'.map f))) = ((a == b) && (r == r'))
        rw [ih.2.2 r']
        congr 1
        exact h.eqv a b
theorem enc_tup (h : EncD f k) : EncD (fun l : List α => .tup (l.map f)) (k + 1) := ⟨fun l => (enc_all h l).1, fun l => Nat.succ_le_succ (enc_all h l).2.1, fun l l' => (enc_all h l).2.2 l'⟩
theorem enc_lst (h : EncD f k) : EncD (fun l : List α => .lst (l.map f)) (k + 1) := ⟨fun l => (enc_all h l).1, fun l => Nat.succ_le_succ (enc_all h l).2.1, fun l l' => (enc_all h l).2.2 l'⟩
theorem enc_pair (h : EncD f k) (h' : EncD g j) : EncD (fun p : α × β => .tup [f p.1, g p.2]) (max k j + 1) := by
  refine ⟨fun p => ?_, fun p => ?_, fun p q => ?_⟩
  · show ((f p.1).py.canLay0 && ((g p.2).py.canLay0 && true)) = true
    rw [h.lay, h'.lay]; rfl
  · show max (f p.1).py.depth (max (g p.2).py.depth 0) + 1 ≤ _
    have := h.dep p.1
    have := h'.dep p.2
    omega
  · show (PyData.eqv (f p.1).py (f q.1).py && (PyData.eqv (g p.2).py (g q.2).py && true)) = ((p.1 == q.1) && (p.2 == q.2))
    rw [Bool.and_true]
    congr 1
    · exact h.eqv _ _
    · exact h'.eqv _ _
theorem enc_flat (h : EncD f k) (hk : k ≤ 64) (a : α) : flat (f a) = true := by
  show ((f a).py.canLay0 && decide ((f a).py.depth ≤ 64)) = true
  rw [h.lay, decide_eq_true (Nat.le_trans (h.dep a) hk)]; rfl
def nStr : D → Bool
  | .str _ => false
  | _ => true
theorem enc_eq (h : EncD f k) (hk : k ≤ 64) (hs : ∀ a, nStr (f a) = true) (a b : α) : cmD .eq (f a) (f b) = some (a == b) := by
  have h1 : cmD .eq (f a) (f b) = (if flat (f a) && flat (f b) then some (MP.eqv (f a) (f b)) else eqR (eqX 8) (f a) (f b)) := by
    have := hs a
    cases e : f a <;> first | rfl | (rw [e] at this; cases this)
  rw [h1, enc_flat h hk, enc_flat h hk, h.eqv]; rfl
theorem enc_ne (h : EncD f k) (hk : k ≤ 64) (hs : ∀ a, nStr (f a) = true) (a b : α) : cmD .ne (f a) (f b) = some (!(a == b)) := by
  have h1 : cmD .ne (f a) (f b) = (if flat (f a) && flat (f b) then some (!MP.eqv (f a) (f b)) else (eqDD (f a) (f b)).map fun r => !r) := by
    have := hs a
    cases e : f a <;> first | rfl | (rw [e] at this; cases this)
  rw [h1, enc_flat h hk, enc_flat h hk, h.eqv]; rfl
theorem enc_mem (h : EncD f k) (x : α) : ∀ l : List α, memD (f x) (l.map f) = l.any fun a => a == x
  | [] => rfl
  | a :: l => by
    show (MP.eqv (f a) (f x) || memD (f x) (l.map f)) = _
    rw [enc_mem h x l, h.eqv]; rfl
theorem enc_inL (h : EncD f k) (hk : k + 1 ≤ 64) (x : α) (l : List α) : cmD .inn (f x) (.lst (l.map f)) = some (l.any fun a => a == x) := by
  show (if flat (f x) && flat (.lst (l.map f)) then some (memD (f x) (l.map f)) else none) = _
  rw [enc_flat h (by omega), enc_flat (enc_lst h) hk, enc_mem h]; rfl
theorem enc_ninL (h : EncD f k) (hk : k + 1 ≤ 64) (x : α) (l : List α) : cmD .nin (f x) (.lst (l.map f)) = some (!l.any fun a => a == x) := by
  show (if flat (f x) && flat (.lst (l.map f)) then some (!memD (f x) (l.map f)) else none) = _
  rw [enc_flat h (by omega), enc_flat (enc_lst h) hk, enc_mem h]; rfl
theorem enc_inT (h : EncD f k) (hk : k + 1 ≤ 64) (x : α) (l : List α) : cmD .inn (f x) (.tup (l.map f)) = some (l.any fun a => a == x) := by
  show (if flat (f x) && flat (.tup (l.map f)) then some (memD (f x) (l.map f)) else none) = _
  rw [enc_flat h (by omega), enc_flat (enc_tup h) hk, enc_mem h]; rfl
theorem enc_ninT (h : EncD f k) (hk : k + 1 ≤ 64) (x : α) (l : List α) : cmD .nin (f x) (.tup (l.map f)) = some (!l.any fun a => a == x) := by
  show (if flat (f x) && flat (.tup (l.map f)) then some (!memD (f x) (l.map f)) else none) = _
  rw [enc_flat h (by omega), enc_flat (enc_tup h) hk, enc_mem h]; rfl
end
theorem any_c {α : Type} [BEq α] [LawfulBEq α] (x : α) (l : List α) : (l.any fun a => a == x) = l.contains x := by
  induction l with
  | nil => rfl
  | cons a r ih =>
    rw [List.any_cons, ih, List.contains_cons, Bool.eq_iff_iff, Bool.or_eq_true, Bool.or_eq_true, beq_iff_eq, beq_iff_eq]
    exact ⟨fun h => h.imp Eq.symm id, fun h => h.imp Eq.symm id⟩
theorem enc_path : EncD dPath 1 := enc_tup enc_int
theorem enc_dPair : EncD dPair 1 := enc_pair enc_int enc_int
theorem enc_pathsL : EncD (fun l : List (List Int) => .lst (l.map dPath)) 2 := enc_lst enc_path
theorem enc_pairsL : EncD (fun l : List (Int × Int) => .lst (l.map dPair)) 2 := enc_lst enc_dPair
theorem enc_pairsT : EncD (fun l : List (Int × Int) => .tup (l.map dPair)) 2 := enc_tup enc_dPair
theorem enc_intsL : EncD (fun l : List Int => .lst (l.map D.int)) 1 := enc_lst enc_int
theorem enc_proj : EncD (fun p : List (Int × Int) × List (Int × Int) => .tup [.tup (p.1.map dPair), .tup (p.2.map dPair)]) 3 := enc_pair enc_pairsT enc_pairsT
theorem q_pathE (a b : List Int) : cmD .eq (.tup (a.map D.int)) (.tup (b.map D.int)) = some (a == b) := enc_eq enc_path (by decide) (fun _ => rfl) a b
theorem q_pathE0 (a : List Int) : cmD .eq (.tup (a.map D.int)) (.tup []) = some a.isEmpty := by
  have h : cmD .eq (.tup (a.map D.int)) (.tup (([] : List Int).map D.int)) = some (a == []) := enc_eq enc_path (by decide) (fun _ => rfl) a []
  have e : (a == []) = a.isEmpty := by cases a <;> rfl
  rw [e] at h; exact h
theorem q_pathN0 (a : List Int) : cmD .ne (.tup (a.map D.int)) (.tup []) = some (!a.isEmpty) := by
  have h : cmD .ne (.tup (a.map D.int)) (.tup (([] : List Int).map D.int)) = some (!(a == [])) := enc_ne enc_path (by decide) (fun _ => rfl) a []
  have e : (a == []) = a.isEmpty := by cases a <;> rfl
  rw [e] at h; exact h
theorem q_nnE : cmD .eq .non .non = some true := rfl
theorem q_nnN : cmD .ne .non .non = some false := rfl
theorem q_pathN (a b : List Int) : cmD .ne (.tup (a.map D.int)) (.tup (b.map D.int)) = some (!(a == b)) := enc_ne enc_path (by decide) (fun _ => rfl) a b
theorem q_pathsE (a b : List (List Int)) : cmD .eq (.lst (a.map dPath)) (.lst (b.map dPath)) = some (a == b) := enc_eq enc_pathsL (by decide) (fun _ => rfl) a b
theorem q_pathsN (a b : List (List Int)) : cmD .ne (.lst (a.map dPath)) (.lst (b.map dPath)) = some (!(a == b)) := enc_ne enc_pathsL (by decide) (fun _ => rfl) a b
theorem q_pathsE0 (a : List (List Int)) : cmD .eq (.lst (a.map dPath)) (.lst []) = some a.isEmpty := by rw [show D.lst [] = .lst (([] : List (List Int)).map dPath) from rfl, q_pathsE]; cases a <;> rfl
theorem q_pathsN0 (a : List (List Int)) : cmD .ne (.lst (a.map dPath)) (.lst []) = some (!a.isEmpty) := by rw [show D.lst [] = .lst (([] : List (List Int)).map dPath) from rfl, q_pathsN]; cases a <;> rfl
theorem q_pairsE0 (a : List (Int × Int)) : cmD .eq (.lst (a.map dPair)) (.lst []) = some a.isEmpty := by
  have := enc_eq enc_pairsL (by decide) (fun _ => rfl) a []
  rw [show D.lst [] = .lst (([] : List (Int × Int)).map dPair) from rfl, this]; cases a <;> rfl
theorem q_pairsN0 (a : List (Int × Int)) : cmD .ne (.lst (a.map dPair)) (.lst []) = some (!a.isEmpty) := by
  have := enc_ne enc_pairsL (by decide) (fun _ => rfl) a []
  rw [show D.lst [] = .lst (([] : List (Int × Int)).map dPair) from rfl, this]; cases a <;> rfl
theorem q_pairsE (a b : List (Int × Int)) : cmD .eq (.lst (a.map dPair)) (.lst (b.map dPair)) = some (a == b) := enc_eq enc_pairsL (by decide) (fun _ => rfl) a b
theorem q_pairsN (a b : List (Int × Int)) : cmD .ne (.lst (a.map dPair)) (.lst (b.map dPair)) = some (!(a == b)) := enc_ne enc_pairsL (by decide) (fun _ => rfl) a b
theorem q_pairsTE (a b : List (Int × Int)) : cmD .eq (.tup (a.map dPair)) (.tup (b.map dPair)) = some (a == b) := enc_eq enc_pairsT (by decide) (fun _ => rfl) a b
theorem q_pairsTN (a b : List (Int × Int)) : cmD .ne (.tup (a.map dPair)) (.tup (b.map dPair)) = some (!(a == b)) := enc_ne enc_pairsT (by decide) (fun _ => rfl) a b
theorem q_intsE (a b : List Int) : cmD .eq (.lst (a.map D.int)) (.lst (b.map D.int)) = some (a == b) := enc_eq enc_intsL (by decide) (fun _ => rfl) a b
theorem q_intsN (a b : List Int) : cmD .ne (.lst (a.map D.int)) (.lst (b.map D.int)) = some (!(a == b)) := enc_ne enc_intsL (by decide) (fun _ => rfl) a b
theorem q_intsE0 (a : List Int) : cmD .eq (.lst (a.map D.int)) (.lst []) = some a.isEmpty := by rw [show D.lst [] = .lst (([] : List Int).map D.int) from rfl, q_intsE]; cases a <;> rfl
theorem q_intsN0 (a : List Int) : cmD .ne (.lst (a.map D.int)) (.lst []) = some (!a.isEmpty) := by rw [show D.lst [] = .lst (([] : List Int).map D.int) from rfl, q_intsN]; cases a <;> rfl
theorem q_pairE (i j k l : Int) : cmD .eq (.tup [.int i, .int j]) (.tup [.int k, .int l]) = some ((i, j) == (k, l)) := enc_eq enc_dPair (by decide) (fun _ => rfl) (i, j) (k, l)
theorem q_pairN (i j k l : Int) : cmD .ne (.tup [.int i, .int j]) (.tup [.int k, .int l]) = some (!((i, j) == (k, l))) := enc_ne enc_dPair (by decide) (fun _ => rfl) (i, j) (k, l)
theorem q_iT (t : Int) (p : List Int) : cmD .inn (.int t) (.tup (p.map D.int)) = some (p.contains t) := by rw [enc_inT enc_int (by decide), any_c]
theorem q_niT (t : Int) (p : List Int) : cmD .nin (.int t) (.tup (p.map D.int)) = some (!p.contains t) := by rw [enc_ninT enc_int (by decide), any_c]
theorem q_iL (t : Int) (p : List Int) : cmD .inn (.int t) (.lst (p.map D.int)) = some (p.contains t) := by rw [enc_inL enc_int (by decide), any_c]
theorem q_niL (t : Int) (p : List Int) : cmD .nin (.int t) (.lst (p.map D.int)) = some (!p.contains t) := by rw [enc_ninL enc_int (by decide), any_c]
theorem q_pL (q : List Int) (P : List (List Int)) : cmD .inn (.tup (q.map D.int)) (.lst (P.map dPath)) = some (P.contains q) := by
  have := enc_inL enc_path (by decide) q P
  rw [any_c] at this; exact this
theorem q_npL (q : List Int) (P : List (List Int)) : cmD .nin (.tup (q.map D.int)) (.lst (P.map dPath)) = some (!P.contains q) := by
  have := enc_ninL enc_path (by decide) q P
  rw [any_c] at this; exact this
theorem q_aT (i j : Int) (ar : List (Int × Int)) : cmD .inn (.tup [.int i, .int j]) (.tup (ar.map dPair)) = some (ar.contains (i, j)) := by
  have := enc_inT enc_dPair (by decide) (i, j) ar
  rw [any_c] at this; exact this
theorem q_naT (i j : Int) (ar : List (Int × Int)) : cmD .nin (.tup [.int i, .int j]) (.tup (ar.map dPair)) = some (!ar.contains (i, j)) := by
  have := enc_ninT enc_dPair (by decide) (i, j) ar
  rw [any_c] at this; exact this
theorem q_aL (i j : Int) (ar : List (Int × Int)) : cmD .inn (.tup [.int i, .int j]) (.lst (ar.map dPair)) = some (ar.contains (i, j)) := by
  have := enc_inL enc_dPair (by decide) (i, j) ar
  rw [any_c] at this; exact this
theorem q_naL (i j : Int) (ar : List (Int × Int)) : cmD .nin (.tup [.int i, .int j]) (.lst (ar.map dPair)) = some (!ar.contains (i, j)) := by
  have := enc_ninL enc_dPair (by decide) (i, j) ar
  rw [any_c] at this; exact this
theorem q_projE (a b c d : List (Int × Int)) : cmD .eq (.tup [.tup (a.map dPair), .tup (b.map dPair)]) (.tup [.tup (c.map dPair), .tup (d.map dPair)]) = some ((a, b) == (c, d)) := enc_eq enc_proj (by decide) (fun _ => rfl) (a, b) (c, d)
theorem q_projN (a b c d : List (Int × Int)) : cmD .ne (.tup [.tup (a.map dPair), .tup (b.map dPair)]) (.tup [.tup (c.map dPair), .tup (d.map dPair)]) = some (!((a, b) == (c, d))) := enc_ne enc_proj (by decide) (fun _ => rfl) (a, b) (c, d)
theorem enc_bl : EncD D.bl 0 := ⟨fun _ => rfl, fun _ => Nat.le_refl _, fun a b => by cases a <;> cases b <;> rfl⟩
theorem q_bL (c : Bool) (bs : List Bool) : cmD .inn (.bl c) (.lst (bs.map D.bl)) = some (bs.contains c) := by rw [enc_inL enc_bl (by decide), any_c]
theorem q_nbL (c : Bool) (bs : List Bool) : cmD .nin (.bl c) (.lst (bs.map D.bl)) = some (!bs.contains c) := by rw [enc_ninL enc_bl (by decide), any_c]
end
local macro_rules
  | `(tactic| simp_arith [$ls,*]) => `(tactic| simp (decide := true) only [w_et, w_zlt, w_ztl, Res.bind_ok, Res.bind_bad, at_ok, at_bad, th_nx, th_ret, th_brk, th_cnt, br_t, br_f, gd_t, oe_some, ox_some, od_some, ob_some, xE_c, sv_sh, sv_ow, sv_bw, xE_v, xE_tup, xE_lst, xE_op, ng_i, xE_neg, xE_cmp, xE_ch, xE_and, xE_or, xE_not, xE_ite, xE_ix, xE_sl, rv_t, rv_l, xE_rv, xE_call, xE_bi, xE_isi, lo_some, xE_lc, xEs_nil, xEs_cons, xAs_nil, xAs_cons, xPs_nil, xPs_cons, xO_nil, or_i, xO_one, xT_nil, xT_one, wSs_nil, wSs_cons, xS_pass, xS_brk, xS_cnt, xS_ex, xS_asg, xS_par, xS_setIx, xS_app, xS_ext, rt_sh, rt_ow, xS_retV, re_sh, re_fr, xS_ret, xS_iff, fo_some, xS_for, fz_ow, fz_sh, fz_un, fz_bw, xS_frz, pb_ow, xS_pub, ol_some, st_ow, st_at, o_add, o_sub, o_addT, o_addL, o_mulL, o_mulR, o_mod, o_fdiv, o_pow, c_lt, c_le, c_gt, c_ge, c_isN0, c_isnN0, t_bl, m_int, m_bl, m_str, m_tup, m_lst, m_non, ow_sh, ow_fr, le_sh, le_fr, le_bo, le_br, df_lst, df_tup, df_scr, i_tup, i_lst, i_scr, s_tupx, s_lstx, s_scrx, b_lenL, b_lenT, b_lenS, b_listL, b_listT, b_tupL, b_tupT, b_max2, b_min2, w_pl, w_pt, w_en, w_zl, w_zt, f_ret, f_nx, iv_c, iv_tup, iv_lst, iv_op, iv_neg, iv_cmp, iv_ch, iv_and, iv_or, iv_not, iv_ite, iv_ix, iv_sl, iv_rv, iv_call, iv_bi, iv_isi, iv_lc, tslots, tslotss, pT_nm, pT_tup, pt_sh, pt_fr, bt_nm, bt_tup, bts_nil, bts_cons, sE, so_f, so_t, w1_sh, w1_un, wE_nil, wE_cons, d_t, d_f, st_obj0, df_obj0, px1, px2, at3_0, at3_1, at3_2, at2_0, at2_1, isd_non, ty_int_non, ty_bool_non, ty_str_non, ty_tuple_non, ty_list_non, ty_dict_non, isd_bl, ty_int_bl, ty_bool_bl, ty_str_bl, ty_tuple_bl, ty_list_bl, ty_dict_bl, isd_int, ty_int_int, ty_bool_int, ty_str_int, ty_tuple_int, ty_list_int, ty_dict_int, isd_str, ty_int_str, ty_bool_str, ty_str_str, ty_tuple_str, ty_list_str, ty_dict_str, isd_tup, ty_int_tup, ty_bool_tup, ty_str_tup, ty_tuple_tup, ty_list_tup, ty_dict_tup, isd_lst, ty_int_lst, ty_bool_lst, ty_str_lst, ty_tuple_lst, ty_list_lst, ty_dict_lst, isd_dK, ty_int_dK, ty_bool_dK, ty_str_dK, ty_tuple_dK, ty_list_dK, ty_dict_dK, nn_non, nn_bl, nn_int, nn_str, nn_tup, nn_lst, nn_dK, sv_so, c_eq_ii, c_eq_bb, c_eq_ss, c_ne_ii, c_ne_bb, c_ne_ss, bq_ft, bq_tf, xE_isG, iv_isG, xE_cmZ, cz_some, iv_cmZ, xE_fldX, iv_fldX, xE_isX, iv_isX, xE_isC, iv_isC, xE_mkX, mx_ok, iv_mkX, xE_slO, iv_slO, xS_popL, xE_sits, iv_sits, si_m, xE_itsT, iv_itsT, itT_m, xE_vals, iv_vals, xS_clrE, pb_owK, pb_owT, xS_tryB, xS_asgF, af_tup, xE_ssetI, iv_ssetI, xE_ev, iv_ev, ev_t, xE_hasNN, iv_hasNN, xE_hasN, iv_hasN, xE_join, iv_join, xE_its, it_m, iv_its, xS_upd, xS_dpopE, xS_appP, ap_r, xS_clr, xS_dpop, co_some, cb_some, ow_ow, cr_K, cr_T, xE_lcP, iv_lcP, xS_forP, dp_tup, bx_T, bx_K, xE_fld, iv_fld, xE_get, iv_get, xE_cmO, iv_cmO, xE_biO, iv_biO, xE_meth, mth_some, iv_meth, mk_non, xE_make, iv_make, ci_some, xE_callI, iv_callI, xE_popE, iv_popE, dsr_some, xE_dsp, iv_dsp, do_some, xE_dc, iv_dc, lo2_some, xE_lc2, iv_lc2, do2_some, xE_dc2, iv_dc2, xS_parN, pl_nil, pl_cons, pu_sh, pu_fr, sf_some, xS_setF, pe_some, xS_dputE, ff_ok, fs_sh, xS_forF, fz'_sh, xS_frzA, ls_ow, ls_obj, lc_l, xS_ins0, xS_dput, dp_ow, dp_some, xS_forD, dc_some, ds_sh, ds_bw, di_K, di_T, xE_lcD, ld_some, iv_lcD, xE_ch3, xE_lit, lr_some, xS_augIx, ag_r, ag_x, ag_p, ag_o, xE_sset, xS_par3, p3_ok, b_max3, b_min3, w_rvl, w_rvt, iv_sset, xE_idx, xE_box, bx_fr, xE_callZ, za_some, zg_bl, zg_int, xS_popAt, pp_r, pp_o, xS_appE, ae_some, ac_lst, ao_obj, iv_idx, iv_box, iv_callZ, we_ok, ws_nx, ws_ret, ws_brk, ws_cnt, ws_then, ws_at, we_bind, we_fin, up_n, up_c, po_s, q_pathE, q_pathE0, q_pathN0, q_nnE, q_nnN, q_pathN, q_pathsE, q_pathsN, q_pathsE0, q_pathsN0, q_pairsE0, q_pairsN0, q_pairsE, q_pairsN, q_pairsTE, q_pairsTN, q_intsE, q_intsN, q_intsE0, q_intsN0, q_pairE, q_pairN, q_iT, q_niT, q_iL, q_niL, q_pL, q_npL, q_aT, q_naT, q_aL, q_naL, q_projE, q_projN, q_bL, q_nbL, List.map_cons, List.map_nil, List.getD_cons_zero, List.getD_cons_succ, List.set_cons_zero, List.set_cons_succ, List.getElem?_cons_zero, List.getElem?_cons_succ, List.length_cons, List.length_nil, List.cons_append, List.nil_append, List.append_nil, List.replicate, List.all_cons, List.all_nil, Option.bind_some, Bool.and_self, Bool.and_true, Bool.true_and, walkable, Nat.sub_self, Nat.reduceSub, Nat.reduceAdd, Nat.zero_add, List.contains_cons, List.contains_nil, Bool.false_eq_true, ite_true, ite_false, if_true, if_false, Nat.succ_lt_succ_iff, Nat.zero_lt_succ, Nat.reduceLT, Nat.reduceLeDiff, Int.reduceToNat, Int.reducePow, List.any_cons, List.any_nil, Bool.or_false, Bool.false_or, Bool.or_true, Bool.true_or, Bool.and_false, Bool.false_and, Bool.not_true, Bool.not_false, Bool.or_self, beq_self_eq_true, and_true, true_and, and_self, true_implies, false_implies, Bool.true_eq_false, forall_const, true_or, or_true, false_or, or_false, $ls,*])
section
open PySem L2
section
variable {W : Nat} {m : MH} {B : Int}
theorem take_w (hp : Pen B m) (hB : B ≤ 1000000000) (a : Int) (a0 : 0 < a) (a1 : a < 1073741824) (n : Nat) : WPe (callF FT W (n + 2) 9 [(.obj 0, false), (.int a, false)] m) fun x m' => ∃ r, x = (.int r, false) ∧ 0 ≤ r ∧ r < a ∧ Pen (B + 1) m' := by
  obtain ⟨r, m', h0, h1, h2, h3⟩ := take_ok (W := W) (n := n) hp hB a a0 a1
  exact we_eq h3 ⟨r, rfl, h0, h1, h2⟩
end
end
section
open PySem L2
section
variable {W n : Nat} {m : MH}
def some02 : List D := [.non, .bl true, .bl false, .int 0, .int 1, .int (-1), .int 100000000000000000000000000000000000000000000000000, .str "", .str "a", .str "ab", .tup [], .lst [], .dK [], .tup [.int 0], .lst [.int 0]]
theorem okr02 : ∀ a ∈ some02, ∀ b ∈ some02, okRepr (.lst [a, b]) = true := by decide +kernel
theorem rep02 {a b : D} (ha : a ∈ some02) (hb : b ∈ some02) : biD .repr [.lst [a, b]] = some (.str (D.lst [a, b]).py.shown) := if_pos (okr02 a ha b hb)
theorem xl1 : 1 = (xfl (Str.ofString "InvalidTask")).length := by decide +kernel
theorem xl2 : 1 = (xfl (Str.ofString "InvalidDuration")).length := by decide +kernel
theorem mx1 (a : D) : mxR (Str.ofString "InvalidTask") [a] m = .ok (.obj m.length, .sh) (m ++ [.exc (Str.ofString "InvalidTask") [a]]) := if_pos ⟨xl1, fun z => nomatch z⟩
theorem mx2 (a : D) : mxR (Str.ofString "InvalidDuration") [a] m = .ok (.obj m.length, .sh) (m ++ [.exc (Str.ofString "InvalidDuration") [a]]) := if_pos ⟨xl2, fun z => nomatch z⟩
theorem isX_at {C h : Str} {vs : List D} (hm : m[n]? = some (.exc C vs)) (hx : (xfl C).isEmpty = false) : isXD m h (.obj n) = some (subX C h) := by
  unfold isXD
  simp only [hm, hx]
  rfl
theorem fieldX_at {C f : Str} {vs : List D} {d : D} (hm : m[n]? = some (.exc C vs)) (hx : ((xfl C).zip vs).lookup f = some d) : fieldX m f (.obj n) = some d := by
  unfold fieldX
  simp only [hm, hx]
def two02 (m : MH) (a b : D) : MH := m ++ [.exc (Str.ofString "InvalidTask") [a]] ++ [.exc (Str.ofString "InvalidDuration") [b]]
theorem two0 (a b : D) : (two02 m a b)[m.length]? = some (.exc (Str.ofString "InvalidTask") [a]) := by unfold two02; simp
theorem two1 (a b : D) : (two02 m a b)[m.length + 1]? = some (.exc (Str.ofString "InvalidDuration") [b]) := by unfold two02; simp
theorem twoX0 (a b : D) (h : Str) : isXD (two02 m a b) h (.obj m.length) = some (subX (Str.ofString "InvalidTask") h) := isX_at (two0 a b) (by decide +kernel)
theorem twoX1 (a b : D) (h : Str) : isXD (two02 m a b) h (.obj (m.length + 1)) = some (subX (Str.ofString "InvalidDuration") h) := isX_at (two1 a b) (by decide +kernel)
theorem twoF0 (a b : D) : fieldX (two02 m a b) (Str.ofString "task") (.obj m.length) = some a := fieldX_at (two0 a b) rfl
theorem twoF1 (a b : D) : fieldX (two02 m a b) (Str.ofString "duration") (.obj (m.length + 1)) = some b := fieldX_at (two1 a b) rfl
theorem sxTA : subX (Str.ofString "InvalidTask") (Str.ofString "AnycriticalError") = true := by decide +kernel
theorem sxTV : subX (Str.ofString "InvalidTask") (Str.ofString "ValueError") = true := by decide +kernel
theorem sxTT : subX (Str.ofString "InvalidTask") (Str.ofString "InvalidTask") = true := by decide +kernel
theorem sxTD : subX (Str.ofString "InvalidTask") (Str.ofString "InvalidDuration") = false := by decide +kernel
theorem sxDA : subX (Str.ofString "InvalidDuration") (Str.ofString "AnycriticalError") = true := by decide +kernel
theorem sxDV : subX (Str.ofString "InvalidDuration") (Str.ofString "ValueError") = true := by decide +kernel
theorem sxDT : subX (Str.ofString "InvalidDuration") (Str.ofString "InvalidTask") = false := by decide +kernel
theorem sxDD : subX (Str.ofString "InvalidDuration") (Str.ofString "InvalidDuration") = true := by decide +kernel
set_option maxHeartbeats 0 in
theorem law_k02 (ns : List Int) (hl : ns.length ≤ 63) : ∃ m', callF FT W 60 21 [(.scr ns, false)] [] = .ok (.bl true, false) m' := by
  obtain ⟨cs, c7⟩ := open_ok (W := W) (n := 58) ns hl []
  refine of_we ?_
  rw [call_eq ft21 rfl]
  have rg := w_r1 4 (by decide)
  have rg2 := w_r1 2 (by decide)
  simp_arith [fd21, c7, rg]
  refine for_w [2, 3, 4, 5, 6, 7, 8, 9, 10] (fun j vs m' => (∃ s2 s3 s4 s5 s6 s7 s8 s9 s10, Sh0 s5 ∧ Sh0 s10 ∧ vs = [s2, s3, s4, s5, s6, s7, s8, s9, s10]) ∧ Pen (2 * j) m') ⟨[.un, .un, .un, .un, .un, .un, .un, .un, .un], rfl, ⟨_, _, _, _, _, _, _, _, _, sh0_un, sh0_un, rfl⟩, ?_⟩ (fun j x vs m1 hx ⟨⟨s2, s3, s4, s5, s6, s7, s8, s9, s10, h5, h10, hv⟩, pn⟩ => ?_) (fun vs m1 ⟨⟨s2, s3, s4, s5, s6, s7, s8, s9, s10, h5, h10, hv⟩, pn⟩ => ?_)
  · exact ⟨cs, 0, 0, rfl, by omega, by omega, by omega⟩
  · subst hv
    obtain ⟨hj, rfl⟩ := rng_get hx
    have es : (D.lst [.non, .bl true, .bl false, .int 0, .int 1, .int (-1), .int 100000000000000000000000000000000000000000000000000, .str (Str.ofString ""), .str (Str.ofString "a"), .str (Str.ofString "ab"), .tup [], .lst [], .dK [], .tup [.int 0], .lst [.int 0]]) = .lst some02 := rfl
    simp_arith [rg2, modeOf, es, w1_s h5]
    refine lc_w0 (fun k acc m' => acc.length = k ∧ (∀ a ∈ acc, a ∈ some02) ∧ Pen (2 * j + k) m') (by show 2 ≤ 16777216; decide) ⟨rfl, (fun a h => nomatch h), by simpa using pn⟩ (fun k x acc m2 hx2 ⟨h1, h2, h3⟩ => ?_) (fun ds m2 ⟨h1, h2, h3⟩ => ?_)
    · have h1 : acc.length = k := h1
      obtain ⟨hk, rfl⟩ := rng_get hx2
      have hk : k < 2 := hk
      simp_arith [id]
      refine we_mono (take_w h3 (by omega) 15 (by decide) (by decide) 57) ?_
      rintro _ m3 ⟨r, rfl, r0, r1, p3⟩
      obtain ⟨y, hy, hm⟩ := atI_some (xs := some02) (i := r) r0 r1
      simp_arith [hy]
      exact ⟨by rw [List.length_append, h1]; rfl, fun a ha => (List.mem_append.mp ha).elim (h2 a) fun z => by rw [List.mem_singleton.mp z]; exact hm, by have := p3; rwa [show (2 * (j : Int) + k + 1) = 2 * j + ((k + 1 : Nat) : Int) by omega] at this⟩
    · obtain ⟨a, b, rfl⟩ : ∃ a b, ds = [a, b] := by
        have h1 : ds.length = 2 := h1
        match ds, h1 with
        | [a, b], _ => exact ⟨a, b, rfl⟩
      have ha := h2 a (by simp)
      have hb := h2 b (by simp)
      have h3 : Pen (2 * j + 2) m2 := h3
      have ml : (m2 ++ [Cell.exc (Str.ofString "InvalidTask") [a]]).length = m2.length + 1 := by simp
      have mt : m2 ++ [Cell.exc (Str.ofString "InvalidTask") [a]] ++ [Cell.exc (Str.ofString "InvalidDuration") [b]] = two02 m2 a b := rfl
      have en : itD .enu [.lst [.obj m2.length, .obj (m2.length + 1)]] = some [.tup [.int 0, .obj m2.length], .tup [.int 1, .obj (m2.length + 1)]] := rfl
      have r2 : (rngD 0 2) = ([0, 1] : List Int).map D.int := rfl
      have pn2 : Pen (2 * ((j + 1 : Nat) : Int)) (two02 m2 a b) := by
        obtain ⟨cs', k', c', e, h0, h1, h2⟩ := h3
        refine ⟨cs', k', c', ?_, h0, by omega, h2⟩
        cases m2 with
        | nil => cases e
        | cons x r => exact e
      have i0 : atI [a, b] 0 = some a := rfl
      have i1 : atI [a, b] 1 = some b := rfl
      have j0 : atI [D.obj m2.length, .obj (m2.length + 1)] 0 = some (.obj m2.length) := rfl
      have j1 : atI [D.obj m2.length, .obj (m2.length + 1)] 1 = some (.obj (m2.length + 1)) := rfl
      simp_arith [i0, i1, mx1, mx2, ml, mt, en]
      refine for_w [7, 8, 9, 10] (fun i vs m' => (∃ a b c d, Sh0 d ∧ vs = [a, b, c, d]) ∧ m' = two02 m2 a b) ⟨[_, _, _, _], rfl, ⟨_, _, _, _, h10, rfl⟩, rfl⟩ (fun i x vs m3 hx3 ⟨⟨t7, t8, t9, t10, g10, hv⟩, hm⟩ => ?_) (fun vs m3 ⟨⟨t7, t8, t9, t10, g10, hv⟩, hm⟩ => ?_)
      · subst hv hm
        match i, hx3 with
        | 0, hx3 =>
          cases hx3
          have e0 : cmD .ne (.lst [.bl true, .bl false]) (.lst [.bl true, .bl ((1 : Int) == 0)]) = some false := rfl
          simp_arith [twoX0, sxTA, sxTV, sxTT, sxTD, rg2, w1_s g10]
          rw [r2]
          refine lc_mw D.int (fun a => .bl (a == 0)) (by decide) (fun q hq => ?_) ?_
          · simp_arith [c_eq_ii]
          · simp_arith [e0]
            exact ⟨[_, _, _, _], rfl, _, _, _, _, g10, rfl⟩
        | 1, hx3 =>
          cases hx3
          have e0 : cmD .ne (.lst [.bl false, .bl true]) (.lst [.bl ((0 : Int) == 1), .bl true]) = some false := rfl
          simp_arith [twoX1, sxDA, sxDV, sxDT, sxDD, rg2, w1_s g10]
          rw [r2]
          refine lc_mw D.int (fun a => .bl (a == 1)) (by decide) (fun q hq => ?_) ?_
          · simp_arith [c_eq_ii]
          · simp_arith [e0]
            exact ⟨[_, _, _, _], rfl, _, _, _, _, g10, rfl⟩
      · subst hv hm
        have rr := rep02 ha hb
        simp_arith [twoF0, twoF1, j0, j1, rr]
        exact ⟨[_, _, _, _, _, _, _, _, _], rfl, ⟨_, _, _, _, _, _, _, _, _, h5, g10, rfl⟩, pn2⟩
  · subst hv
    simp_arith [id]
end
end
end MP
namespace MP
open PySem
def topS (i : Nat) : Stmt := PySem.Challenge.pw_anycritical_k02_errors_by_hand.main.body.getD i (.Pass ⟨0, 0, 0, 0⟩)
def fn7 : Fn := { id := 7, x := "_law_open", st := topS 5, N := ["_law_script", "_law_cells", "_law_k", "_law_cell"] }
def fn8 : Fn := { id := 8, x := "_law_spread", st := topS 6, N := ["_law_cell", "_law_at", "_law_primes", "_law_one", "_law_two", "_law_three"] }
def fn9 : Fn := { id := 9, x := "_law_take", st := topS 7, N := ["_law_pen", "_law_amount", "_law_at", "_law_cell", "_law_found"] }
def fn21 : Fn := { id := 21, x := "law", st := topS 8, N := ["_law_script", "_law_pen", "_law_turn", "_law_some", "_law_values", "_law_again", "_law_errors", "_law_k", "_law_error", "_law_kinds", "_law_index"] }
def FNS : List Fn := [fn7, fn8, fn9, fn21]
def BLS : List Str := ["enumerate", "isinstance", "len", "list", "range", "repr"]
def CSS : List (Str × D) := []
def ATS : List (Str × Str) := []
def MKS : List Str := []
def XCS : List Str := ["InvalidTask", "InvalidDuration"]
def XHS : List Str := []
def EQS : List Str := []
def XFS : List Str := ["duration", "task"]
def XIS : List Str := ["AnycriticalError", "InvalidDuration", "InvalidTask", "ValueError"]
def xst0 : Stmt := L2.inClass (topS 2) 0
def xst1 : Stmt := L2.inClass (topS 3) 0
theorem fns_ok : ∀ φ ∈ FNS, chkFn FT FNS BLS φ CSS ATS MKS XCS XHS EQS XFS XIS = true := by
  intro φ h
  simp only [FNS, List.mem_cons, List.not_mem_nil, or_false] at h
  rcases h with rfl | rfl | rfl | rfl
  · decide +kernel
  · decide +kernel
  · decide +kernel
  · decide +kernel
section
open PySem PySem.Spec PyProof.Rows L2
set_option maxHeartbeats 0 in
theorem all_mk {P : Program} {w : World} {K : PySem.W.Frag} {h : Heap} {mg : Str → Option Value} {fa : Addr} (X : K.In h) (G : h.Ns mainGlobals mg) (hfa : mg "law" = some (.ref fa)) (n : Nat)
    {f7 f8 f9 f21 : Addr} {od7 an7 od8 an8 od9 an9 od21 an21 : Option Addr} {sl7 sl8 sl9 sl21 : Array (Option Value)} {oc7 kV7 dc7 pm7 cd7 ct7 oc8 kV8 dc8 pm8 cd8 ct8 oc9 kV9 dc9 pm9 cd9 ct9 oc21 kV21 dc21 pm21 cd21 ct21  : Value}
    {xa0 xb0 : Str} {X0 xN0 xf0 : Addr} {xc0 xd0 xe0 : List Value} {xg0 : List Str} {xh0 : Bool} {xi0 : Option Bool} {xj0 xod0 xan0 : Option Addr} {xk0 xl0 xm0 xn0 xo0 : Option Value} {xoc0 xkV0 xdc0 xpm0 xcd0 xct0 : Value} {xsl0 : Array (Option Value)}
    (xA0 : PySem.W.nsIn K mainGlobals "InvalidTask" = some (some (.ref X0))) (xL0 : K.lookup X0 = some (excClassObj xa0 xb0 X0 xN0 xc0 xd0 true xg0 xe0 xh0 xi0 xj0 xk0 xl0 xm0 xn0 xo0 "ValueError.__new__")) (xR0 : PySem.HandSPX.refsVE xd0 = true)
    (xS0 : PySem.W.findIn K (.ref X0) "__setattr__" = some (some (.builtin "object.__setattr__"))) (xE0 : PySem.W.subIn K (.ref X0) (.type "BaseException") = some true) (xT0 : PySem.W.typeIn K (.ref X0) = some (.type "type")) (xK0 : PySem.W.keepIn K (.ref X0) = true)
    (xI0 : PySem.W.findIn K (.ref X0) "__init__" = some (some (.ref xf0))) (xY0 : PySem.W.typeIn K (.ref xf0) = some (.type "function")) (xB0 : PySem.W.findIn K (.ref X0) "__getattribute__" = some (some (.builtin "BaseException.__getattribute__"))) (xG0 : PySem.W.findIn K (.ref X0) "__getattr__" = some none) (xD0 : PySem.W.hasDictIn K X0 = true)
    (xF0_0 : PySem.W.findIn K (.ref X0) "task" = some none)
    (xl_0 : K.lookup xf0 = some ⟨xoc0, xod0, .func (PySem.W.fnOf "__init__" "InvalidTask.__init__" (defArgs xst0) (defBody xst0) (defScope xst0) .none xkV0 xdc0 xpm0 xan0 xcd0 xct0), xsl0⟩) (xc_0 : PySem.W.codeIn K xcd0 "InvalidTask.__init__" = true) (xk_0 : PySem.W.keepIn K (.ref xf0) = true)
    {xa1 xb1 : Str} {X1 xN1 xf1 : Addr} {xc1 xd1 xe1 : List Value} {xg1 : List Str} {xh1 : Bool} {xi1 : Option Bool} {xj1 xod1 xan1 : Option Addr} {xk1 xl1 xm1 xn1 xo1 : Option Value} {xoc1 xkV1 xdc1 xpm1 xcd1 xct1 : Value} {xsl1 : Array (Option Value)}
    (xA1 : PySem.W.nsIn K mainGlobals "InvalidDuration" = some (some (.ref X1))) (xL1 : K.lookup X1 = some (excClassObj xa1 xb1 X1 xN1 xc1 xd1 true xg1 xe1 xh1 xi1 xj1 xk1 xl1 xm1 xn1 xo1 "ValueError.__new__")) (xR1 : PySem.HandSPX.refsVE xd1 = true)
    (xS1 : PySem.W.findIn K (.ref X1) "__setattr__" = some (some (.builtin "object.__setattr__"))) (xE1 : PySem.W.subIn K (.ref X1) (.type "BaseException") = some true) (xT1 : PySem.W.typeIn K (.ref X1) = some (.type "type")) (xK1 : PySem.W.keepIn K (.ref X1) = true)
    (xI1 : PySem.W.findIn K (.ref X1) "__init__" = some (some (.ref xf1))) (xY1 : PySem.W.typeIn K (.ref xf1) = some (.type "function")) (xB1 : PySem.W.findIn K (.ref X1) "__getattribute__" = some (some (.builtin "BaseException.__getattribute__"))) (xG1 : PySem.W.findIn K (.ref X1) "__getattr__" = some none) (xD1 : PySem.W.hasDictIn K X1 = true)
    (xF1_0 : PySem.W.findIn K (.ref X1) "duration" = some none)
    (xl_1 : K.lookup xf1 = some ⟨xoc1, xod1, .func (PySem.W.fnOf "__init__" "InvalidDuration.__init__" (defArgs xst1) (defBody xst1) (defScope xst1) .none xkV1 xdc1 xpm1 xan1 xcd1 xct1), xsl1⟩) (xc_1 : PySem.W.codeIn K xcd1 "InvalidDuration.__init__" = true) (xk_1 : PySem.W.keepIn K (.ref xf1) = true)
    {XB : Addr} (yA : PySem.W.nsIn K mainGlobals "AnycriticalError" = some (some (.ref XB))) (yG : PySem.W.specialIn K (.ref XB) "__getattribute__" = some (some (.builtin "type.__getattribute__"))) (yR : PySem.W.readsIn K XB (.type "type") = true) (yF : PySem.W.findCls K (.ref XB) (.type "type") "__init__" = some (.val (.builtin "ValueError.__init__")))
    (xZ0 : PySem.W.nsIn K mainGlobals "Refuted" = some none)
    (xZ1 : PySem.W.nsIn K mainGlobals "InvalidTick" = some none)
    (xZ2 : PySem.W.nsIn K mainGlobals "InvalidLimit" = some none)
    (xZ3 : PySem.W.nsIn K mainGlobals "InvalidNarrowing" = some none)
    (wB : PySem.W.specialIn K (.builtin "object.__class__") "__get__" = some (some (.builtin "getset_descriptor.__get__"))) (wC : PySem.W.takesIn K (.builtin "object.__class__") = some true)
    (wA0 : PySem.W.findIn K (.ref X0) "__class__" = some (some (.builtin "object.__class__"))) (wD0 : PySem.W.mroIn K X0 (.type "object") = some true)
    (wA1 : PySem.W.findIn K (.ref X1) "__class__" = some (some (.builtin "object.__class__"))) (wD1 : PySem.W.mroIn K X1 (.type "object") = some true)
    {W0 : Addr} (wz0 : PySem.W.nsIn K mainGlobals "AnycriticalError" = some (some (.ref W0)))
    (iEx0_0 : PySem.W.kitOne K (.ref X0) (.ref W0) = some true)
    (iEx1_0 : PySem.W.kitOne K (.ref X1) (.ref W0) = some true)
    (iEk0_0 : PySem.W.kitOne K (.type "NoneType") (.ref W0) = some false)
    (iEk1_0 : PySem.W.kitOne K (.type "bool") (.ref W0) = some false)
    (iEk2_0 : PySem.W.kitOne K (.type "int") (.ref W0) = some false)
    (iEk3_0 : PySem.W.kitOne K (.type "str") (.ref W0) = some false)
    (iEk4_0 : PySem.W.kitOne K (.type "tuple") (.ref W0) = some false)
    (iEk5_0 : PySem.W.kitOne K (.type "list") (.ref W0) = some false)
    (iEk6_0 : PySem.W.kitOne K (.type "dict") (.ref W0) = some false)
    {W1 : Addr} (wz1 : PySem.W.nsIn K mainGlobals "InvalidDuration" = some (some (.ref W1)))
    (iEx0_1 : PySem.W.kitOne K (.ref X0) (.ref W1) = some false)
    (iEx1_1 : PySem.W.kitOne K (.ref X1) (.ref W1) = some true)
    (iEk0_1 : PySem.W.kitOne K (.type "NoneType") (.ref W1) = some false)
    (iEk1_1 : PySem.W.kitOne K (.type "bool") (.ref W1) = some false)
    (iEk2_1 : PySem.W.kitOne K (.type "int") (.ref W1) = some false)
    (iEk3_1 : PySem.W.kitOne K (.type "str") (.ref W1) = some false)
    (iEk4_1 : PySem.W.kitOne K (.type "tuple") (.ref W1) = some false)
    (iEk5_1 : PySem.W.kitOne K (.type "list") (.ref W1) = some false)
    (iEk6_1 : PySem.W.kitOne K (.type "dict") (.ref W1) = some false)
    {W2 : Addr} (wz2 : PySem.W.nsIn K mainGlobals "InvalidTask" = some (some (.ref W2)))
    (iEx0_2 : PySem.W.kitOne K (.ref X0) (.ref W2) = some true)
    (iEx1_2 : PySem.W.kitOne K (.ref X1) (.ref W2) = some false)
    (iEk0_2 : PySem.W.kitOne K (.type "NoneType") (.ref W2) = some false)
    (iEk1_2 : PySem.W.kitOne K (.type "bool") (.ref W2) = some false)
    (iEk2_2 : PySem.W.kitOne K (.type "int") (.ref W2) = some false)
    (iEk3_2 : PySem.W.kitOne K (.type "str") (.ref W2) = some false)
    (iEk4_2 : PySem.W.kitOne K (.type "tuple") (.ref W2) = some false)
    (iEk5_2 : PySem.W.kitOne K (.type "list") (.ref W2) = some false)
    (iEk6_2 : PySem.W.kitOne K (.type "dict") (.ref W2) = some false)
    (wz3 : PySem.W.nsIn K mainGlobals "ValueError" = some none)
    (iEx0_3 : PySem.W.kitOne K (.ref X0) (.type "ValueError") = some true)
    (iEx1_3 : PySem.W.kitOne K (.ref X1) (.type "ValueError") = some true)
    (iEk0_3 : PySem.W.kitOne K (.type "NoneType") (.type "ValueError") = some false)
    (iEk1_3 : PySem.W.kitOne K (.type "bool") (.type "ValueError") = some false)
    (iEk2_3 : PySem.W.kitOne K (.type "int") (.type "ValueError") = some false)
    (iEk3_3 : PySem.W.kitOne K (.type "str") (.type "ValueError") = some false)
    (iEk4_3 : PySem.W.kitOne K (.type "tuple") (.type "ValueError") = some false)
    (iEk5_3 : PySem.W.kitOne K (.type "list") (.type "ValueError") = some false)
    (iEk6_3 : PySem.W.kitOne K (.type "dict") (.type "ValueError") = some false)
    (a7 : PySem.W.nsIn K mainGlobals "_law_open" = some (some (.ref f7))) (l7 : K.lookup f7 = some ⟨oc7, od7, .func (PySem.W.fnOf "_law_open" "_law_open" (defArgs fn7.st) (defBody fn7.st) (defScope fn7.st) .none kV7 dc7 pm7 an7 cd7 ct7), sl7⟩) (c7 : PySem.W.codeIn K cd7 "_law_open" = true) (k7 : PySem.W.keepIn K (.ref f7) = true)
    (a8 : PySem.W.nsIn K mainGlobals "_law_spread" = some (some (.ref f8))) (l8 : K.lookup f8 = some ⟨oc8, od8, .func (PySem.W.fnOf "_law_spread" "_law_spread" (defArgs fn8.st) (defBody fn8.st) (defScope fn8.st) .none kV8 dc8 pm8 an8 cd8 ct8), sl8⟩) (c8 : PySem.W.codeIn K cd8 "_law_spread" = true) (k8 : PySem.W.keepIn K (.ref f8) = true)
    (a9 : PySem.W.nsIn K mainGlobals "_law_take" = some (some (.ref f9))) (l9 : K.lookup f9 = some ⟨oc9, od9, .func (PySem.W.fnOf "_law_take" "_law_take" (defArgs fn9.st) (defBody fn9.st) (defScope fn9.st) .none kV9 dc9 pm9 an9 cd9 ct9), sl9⟩) (c9 : PySem.W.codeIn K cd9 "_law_take" = true) (k9 : PySem.W.keepIn K (.ref f9) = true)
    (a21 : PySem.W.nsIn K mainGlobals "law" = some (some (.ref f21))) (l21 : K.lookup f21 = some ⟨oc21, od21, .func (PySem.W.fnOf "law" "law" (defArgs fn21.st) (defBody fn21.st) (defScope fn21.st) .none kV21 dc21 pm21 an21 cd21 ct21), sl21⟩) (c21 : PySem.W.codeIn K cd21 "law" = true) (k21 : PySem.W.keepIn K (.ref f21) = true)
    (z0 : PySem.W.nsIn K mainGlobals "enumerate" = some none) (z1 : PySem.W.nsIn K mainGlobals "isinstance" = some none) (z2 : PySem.W.nsIn K mainGlobals "len" = some none) (z3 : PySem.W.nsIn K mainGlobals "list" = some none) (z4 : PySem.W.nsIn K mainGlobals "range" = some none) (z5 : PySem.W.nsIn K mainGlobals "repr" = some none) :
    ∃ fd : FuncData, (∀ (s : Shared) (u : Value), BindsTo s fd ⟨[u], []⟩ [("_law_script", u)]) ∧ ∀ base : Heap, K.In base → base.Ns mainGlobals mg → FnG P w K mg base (2 * n + 2) fa fd ["_law_script"] (spOf K (callF FT 1000000 n) 21) := by
  have e := hfa.symm.trans (PySem.W.mg_of X G a21)
  cases e
  have F7 := fun_mk (st := fn7.st) l7 c7 k7
  have b7 := F7.binds (ps := ["_law_script"]) fun _ _ _ _ _ _ us hl => match us, hl with | [_], _ => rfl
  have F8 := fun_mk (st := fn8.st) l8 c8 k8
  have b8 := F8.binds (ps := ["_law_cell", "_law_at"]) fun _ _ _ _ _ _ us hl => match us, hl with | [_, _], _ => rfl
  have F9 := fun_mk (st := fn9.st) l9 c9 k9
  have b9 := F9.binds (ps := ["_law_pen", "_law_amount"]) fun _ _ _ _ _ _ us hl => match us, hl with | [_, _], _ => rfl
  have F21 := fun_mk (st := fn21.st) l21 c21 k21
  have b21 := F21.binds (ps := ["_law_script"]) fun _ _ _ _ _ _ us hl => match us, hl with | [_], _ => rfl
  refine ⟨_, fun s v => .of_eq rfl, fun base _ _ => (all_fns FT 1000000 FNS BLS CSS ATS MKS XCS XHS EQS XFS XIS fns_ok (fun φ hφ hcl => ?_) (fun φ hφ hcl => ?_) (fun z hz => ?_) (fun y hy => ?_) (fun x hx => ?_) (fun y hy => ?_) (fun C hC => ?_) (fun h hh => ?_) (fun C Ca h v h1 h2 h3 h4 => ?_) (fun y hy => ?_) (fun f hf C Ca h1 h2 => ?_) (fun y hy => ?_) n fn21 (by simp [FNS]) _ _ F21).1⟩
  · simp only [FNS, List.mem_cons, List.not_mem_nil, or_false] at hφ
    rcases hφ with rfl | rfl | rfl | rfl
    · exact ⟨_, _, F7, PySem.W.mg_of X G a7, b7⟩
    · exact ⟨_, _, F8, PySem.W.mg_of X G a8, b8⟩
    · exact ⟨_, _, F9, PySem.W.mg_of X G a9, b9⟩
    · exact ⟨_, _, F21, PySem.W.mg_of X G a21, b21⟩
  · simp only [FNS, List.mem_cons, List.not_mem_nil, or_false] at hφ
    rcases hφ with rfl | rfl | rfl | rfl
    · exact absurd rfl hcl
    · exact absurd rfl hcl
    · exact absurd rfl hcl
    · exact absurd rfl hcl
  · simp only [ATS, List.mem_cons, List.not_mem_nil, or_false] at hz
  · simp only [MKS, List.mem_cons, List.not_mem_nil, or_false] at hy
  · simp only [BLS, List.mem_cons, List.not_mem_nil, or_false] at hx
    rcases hx with rfl | rfl | rfl | rfl | rfl | rfl
    · exact PySem.W.mg_none_of X G z0
    · exact PySem.W.mg_none_of X G z1
    · exact PySem.W.mg_none_of X G z2
    · exact PySem.W.mg_none_of X G z3
    · exact PySem.W.mg_none_of X G z4
    · exact PySem.W.mg_none_of X G z5
  · simp only [CSS, List.mem_cons, List.not_mem_nil, or_false] at hy
  · simp only [XCS, List.mem_cons, List.not_mem_nil, or_false] at hC
    rcases hC with rfl | rfl
    · refine excF_mk (N := ["self", "task"]) xA0 (PySem.W.mg_of X G xA0) ⟨⟨_, _, _, _, _, _, _, _, _, _, _, _, _, _, _, xL0, xR0⟩, xS0, xE0, xT0, xK0⟩ (fun f hf => ?_) xI0 xY0 (fun_mk (st := xst0) xl_0 xc_0 xk_0) ((fun_mk (st := xst0) xl_0 xc_0 xk_0).binds (ps := ["self", "task"]) fun _ _ _ _ _ _ us hl => match us, hl with | [_, _], _ => rfl) ⟨xB0, xG0, xE0, xD0⟩ ⟨yG, yR, yF⟩ (PySem.W.mg_of X G yA) (by decide +kernel)
      rcases (show f = "task" from by rw [show xfl "InvalidTask" = (["task"] : List Str) by decide +kernel] at hf; simpa using hf) with rfl
      · exact xF0_0
    · refine excF_mk (N := ["self", "duration"]) xA1 (PySem.W.mg_of X G xA1) ⟨⟨_, _, _, _, _, _, _, _, _, _, _, _, _, _, _, xL1, xR1⟩, xS1, xE1, xT1, xK1⟩ (fun f hf => ?_) xI1 xY1 (fun_mk (st := xst1) xl_1 xc_1 xk_1) ((fun_mk (st := xst1) xl_1 xc_1 xk_1).binds (ps := ["self", "duration"]) fun _ _ _ _ _ _ us hl => match us, hl with | [_, _], _ => rfl) ⟨xB1, xG1, xE1, xD1⟩ ⟨yG, yR, yF⟩ (PySem.W.mg_of X G yA) (by decide +kernel)
      rcases (show f = "duration" from by rw [show xfl "InvalidDuration" = (["duration"] : List Str) by decide +kernel] at hf; simpa using hf) with rfl
      · exact xF1_0
  · simp only [XHS, List.mem_cons, List.not_mem_nil, or_false] at hh
  · simp only [XHS, List.mem_cons, List.not_mem_nil, or_false] at h3
  · simp only [EQS, List.mem_cons, List.not_mem_nil, or_false] at hy
  · simp only [XFS, List.mem_cons, List.not_mem_nil, or_false] at hf
    rcases xfl_six (fun z => by rw [z] at h2; cases h2) with rfl | rfl | rfl | rfl | rfl | rfl
    · rw [xA0] at h1; cases h1
      rcases hf with rfl | rfl
      · exact absurd h2 (by decide +kernel)
      · exact ⟨⟨xB0, xG0, xE0, xD0⟩, xF0_0⟩
    · rw [xA1] at h1; cases h1
      rcases hf with rfl | rfl
      · exact ⟨⟨xB1, xG1, xE1, xD1⟩, xF1_0⟩
      · exact absurd h2 (by decide +kernel)
    · rw [xZ0] at h1; cases h1
    · rw [xZ1] at h1; cases h1
    · rw [xZ2] at h1; cases h1
    · rw [xZ3] at h1; cases h1
  · simp only [XIS, List.mem_cons, List.not_mem_nil, or_false] at hy
    rcases hy with rfl | rfl | rfl | rfl
    · refine ⟨.ref W0, .ref W0, ⟨fun C Ca h1 h2 => ?_, fun k => by cases k <;> assumption⟩, fun u e => e, .inl ⟨PySem.W.mg_of X G wz0, rfl⟩⟩
      rcases xfl_six h1 with rfl | rfl | rfl | rfl | rfl | rfl
      · rw [xA0] at h2; cases h2
        exact ⟨⟨xB0, xG0, xE0, xD0, wA0, wB, wC, wD0⟩, iEx0_0.trans (congrArg some (by decide +kernel))⟩
      · rw [xA1] at h2; cases h2
        exact ⟨⟨xB1, xG1, xE1, xD1, wA1, wB, wC, wD1⟩, iEx1_0.trans (congrArg some (by decide +kernel))⟩
      · rw [xZ0] at h2; cases h2
      · rw [xZ1] at h2; cases h2
      · rw [xZ2] at h2; cases h2
      · rw [xZ3] at h2; cases h2
    · refine ⟨.ref W1, .ref W1, ⟨fun C Ca h1 h2 => ?_, fun k => by cases k <;> assumption⟩, fun u e => e, .inl ⟨PySem.W.mg_of X G wz1, rfl⟩⟩
      rcases xfl_six h1 with rfl | rfl | rfl | rfl | rfl | rfl
      · rw [xA0] at h2; cases h2
        exact ⟨⟨xB0, xG0, xE0, xD0, wA0, wB, wC, wD0⟩, iEx0_1.trans (congrArg some (by decide +kernel))⟩
      · rw [xA1] at h2; cases h2
        exact ⟨⟨xB1, xG1, xE1, xD1, wA1, wB, wC, wD1⟩, iEx1_1.trans (congrArg some (by decide +kernel))⟩
      · rw [xZ0] at h2; cases h2
      · rw [xZ1] at h2; cases h2
      · rw [xZ2] at h2; cases h2
      · rw [xZ3] at h2; cases h2
    · refine ⟨.ref W2, .ref W2, ⟨fun C Ca h1 h2 => ?_, fun k => by cases k <;> assumption⟩, fun u e => e, .inl ⟨PySem.W.mg_of X G wz2, rfl⟩⟩
      rcases xfl_six h1 with rfl | rfl | rfl | rfl | rfl | rfl
      · rw [xA0] at h2; cases h2
        exact ⟨⟨xB0, xG0, xE0, xD0, wA0, wB, wC, wD0⟩, iEx0_2.trans (congrArg some (by decide +kernel))⟩
      · rw [xA1] at h2; cases h2
        exact ⟨⟨xB1, xG1, xE1, xD1, wA1, wB, wC, wD1⟩, iEx1_2.trans (congrArg some (by decide +kernel))⟩
      · rw [xZ0] at h2; cases h2
      · rw [xZ1] at h2; cases h2
      · rw [xZ2] at h2; cases h2
      · rw [xZ3] at h2; cases h2
    · refine ⟨.ty "ValueError", .type "ValueError", ⟨fun C Ca h1 h2 => ?_, fun k => by cases k <;> assumption⟩, fun u e => e, .inr ⟨PySem.W.mg_none_of X G wz3, rfl, rfl, by decide⟩⟩
      rcases xfl_six h1 with rfl | rfl | rfl | rfl | rfl | rfl
      · rw [xA0] at h2; cases h2
        exact ⟨⟨xB0, xG0, xE0, xD0, wA0, wB, wC, wD0⟩, iEx0_3.trans (congrArg some (by decide +kernel))⟩
      · rw [xA1] at h2; cases h2
        exact ⟨⟨xB1, xG1, xE1, xD1, wA1, wB, wC, wD1⟩, iEx1_3.trans (congrArg some (by decide +kernel))⟩
      · rw [xZ0] at h2; cases h2
      · rw [xZ1] at h2; cases h2
      · rw [xZ2] at h2; cases h2
      · rw [xZ3] at h2; cases h2
end
def DEPTH : Nat := 60
theorem law_true (ns : List Int) (h : ns.length ≤ 63) : ∃ m', callF FT 1000000 DEPTH 21 [(.scr ns, false)] [] = .ok (.bl true, false) m' :=
  law_k02 ns h
end MP
open PySem PySem.W PyProof.Rows
set_option maxHeartbeats 0 in
theorem PySem.Challenge.cw_anycritical_k02_errors_by_hand_holds : PySem.Challenge.rw_anycritical_k02_errors_by_hand.Holds := by
  w_on; o_law; k_head; (case hw => w_witness2)
  k_fill
  refine MP.law_walk (l := PySem.Challenge.rw_anycritical_k02_errors_by_hand) (n := 63) (k := 2 * MP.DEPTH + 2) (j := MP.DEPTH) (x := "_law_script") (FT := MP.FT) (W := 1000000) (f := 21) rfl (by decide) rfl ⟨rfl, by decide, by decide⟩ (fun w h Y => PySem.W.kIn_of Y) ?F (fun ns hl => MP.law_true ns hl)
  case F =>
    intro w mg fa h KX G hmg
    refine' MP.all_mk KX G hmg MP.DEPTH ?xA0 ?xL0 ?xR0 ?xS0 ?xE0 ?xT0 ?xK0 ?xI0 ?xY0 ?xB0 ?xG0 ?xD0 ?xl_0 ?xc_0 ?xk_0 ?xF0_0 ?xA1 ?xL1 ?xR1 ?xS1 ?xE1 ?xT1 ?xK1 ?xI1 ?xY1 ?xB1 ?xG1 ?xD1 ?xl_1 ?xc_1 ?xk_1 ?xF1_0 ?yA ?yG ?yR ?yF ?xZ0 ?xZ1 ?xZ2 ?xZ3 ?wB ?wC ?wA0 ?wD0 ?wA1 ?wD1 ?wz0 ?iEx0_0 ?iEx1_0 ?iEk0_0 ?iEk1_0 ?iEk2_0 ?iEk3_0 ?iEk4_0 ?iEk5_0 ?iEk6_0 ?wz1 ?iEx0_1 ?iEx1_1 ?iEk0_1 ?iEk1_1 ?iEk2_1 ?iEk3_1 ?iEk4_1 ?iEk5_1 ?iEk6_1 ?wz2 ?iEx0_2 ?iEx1_2 ?iEk0_2 ?iEk1_2 ?iEk2_2 ?iEk3_2 ?iEk4_2 ?iEk5_2 ?iEk6_2 ?wz3 ?iEx0_3 ?iEx1_3 ?iEk0_3 ?iEk1_3 ?iEk2_3 ?iEk3_3 ?iEk4_3 ?iEk5_3 ?iEk6_3 ?a7 ?l7 ?c7 ?k7 ?a8 ?l8 ?c8 ?k8 ?a9 ?l9 ?c9 ?k9 ?a21 ?l21 ?c21 ?k21 ?z0 ?z1 ?z2 ?z3 ?z4 ?z5
    (case xA0 => k_is); (case xL0 => k_is); (case xR0 => exact rfl); (case xS0 => k_is); (case xE0 => k_is); (case xT0 => k_is); (case xK0 => k_is); (case xI0 => k_is); (case xY0 => k_is); (case xB0 => k_is); (case xG0 => k_is); (case xD0 => k_is); (case xl_0 => k_is); (case xc_0 => k_is); (case xk_0 => k_is); (case xF0_0 => k_is); (case xA1 => k_is); (case xL1 => k_is); (case xR1 => exact rfl); (case xS1 => k_is); (case xE1 => k_is); (case xT1 => k_is); (case xK1 => k_is); (case xI1 => k_is); (case xY1 => k_is); (case xB1 => k_is); (case xG1 => k_is); (case xD1 => k_is); (case xl_1 => k_is); (case xc_1 => k_is); (case xk_1 => k_is); (case xF1_0 => k_is); (case yA => k_is); (case yG => k_is); (case yR => k_is); (case yF => k_is); (case xZ0 => k_is); (case xZ1 => k_is); (case xZ2 => k_is); (case xZ3 => k_is); (case wB => k_is); (case wC => k_is); (case wA0 => k_is); (case wD0 => k_is); (case wA1 => k_is); (case wD1 => k_is); (case wz0 => k_is); (case iEx0_0 => kernel_rfl); (case iEx1_0 => kernel_rfl); (case iEk0_0 => kernel_rfl); (case iEk1_0 => kernel_rfl); (case iEk2_0 => kernel_rfl); (case iEk3_0 => kernel_rfl); (case iEk4_0 => kernel_rfl); (case iEk5_0 => kernel_rfl); (case iEk6_0 => kernel_rfl); (case wz1 => k_is); (case iEx0_1 => kernel_rfl); (case iEx1_1 => kernel_rfl); (case iEk0_1 => kernel_rfl); (case iEk1_1 => kernel_rfl); (case iEk2_1 => kernel_rfl); (case iEk3_1 => kernel_rfl); (case iEk4_1 => kernel_rfl); (case iEk5_1 => kernel_rfl); (case iEk6_1 => kernel_rfl); (case wz2 => k_is); (case iEx0_2 => kernel_rfl); (case iEx1_2 => kernel_rfl); (case iEk0_2 => kernel_rfl); (case iEk1_2 => kernel_rfl); (case iEk2_2 => kernel_rfl); (case iEk3_2 => kernel_rfl); (case iEk4_2 => kernel_rfl); (case iEk5_2 => kernel_rfl); (case iEk6_2 => kernel_rfl); (case wz3 => k_is); (case iEx0_3 => kernel_rfl); (case iEx1_3 => kernel_rfl); (case iEk0_3 => kernel_rfl); (case iEk1_3 => kernel_rfl); (case iEk2_3 => kernel_rfl); (case iEk3_3 => kernel_rfl); (case iEk4_3 => kernel_rfl); (case iEk5_3 => kernel_rfl); (case iEk6_3 => kernel_rfl); (case a7 => k_is); (case l7 => k_is); (case c7 => k_is); (case k7 => k_is); (case a8 => k_is); (case l8 => k_is); (case c8 => k_is); (case k8 => k_is); (case a9 => k_is); (case l9 => k_is); (case c9 => k_is); (case k9 => k_is); (case a21 => k_is); (case l21 => k_is); (case c21 => k_is); (case k21 => k_is); (case z0 => k_is); (case z1 => k_is); (case z2 => k_is); (case z3 => k_is); (case z4 => k_is); (case z5 => k_is)
