import PyProof.Rows.All
import Wide.All
import OpenK.AllK
import Wide.FinOn
import PyProof.EqAt
import PyProof.EqKinds
import PyProof.TupleCall
import HandS.ForMost
import HandS.Deep
import HandS.TupAny
import HandS.Exc
import HandS.ExcOwn
import HandS.IsInst
import KE.SortData
import HandS.TupLen
import HandS.More
import HandS.Conv
import KE.DataEq
import KE.DataCmp
import KE.DatumOrd
import HandS.Rev
import HandS.ExcIs
import HandS.Zip
import HandS.SetFor
import HandS.ExcBuiltin
import HandS.Iter
import HandS.TryOnly
import HandS.Head0
import HandS.Head1
import HandS.Head2
import HandS.HeadEnd
import HandS.HeadHook1
import HandS.HeadHook2
import HandS.Defaults
import PyProof.ExcBaseAll.ValueError
import PySem.Challenge.RW_guardround_k04_shortest_ways
import KE.KStateDown
set_option Elab.async false
set_option linter.all false
set_option maxRecDepth 100000
set_option maxHeartbeats 1000000
/-! Gr A: a small evaluator over plain data, with tags that say who holds a thing. -/
namespace Gr
open PySem L2
abbrev D := PyData
/-- what a thing is -/
inductive Tx where
  | py (d : D)
  | dik (kvs : List (Key × D))
  | dit (kvs : List (List Key × D))
  | obj (c : Nat) (fs : List D)
  /-- a list of lists that are its own -/
  | lls (xss : List (List D))
/-- what a slot holds -/
inductive C where
  | und
  | fro (x : Tx)
  | bor (x : Tx)
  | own (x : Tx)
  | lkd (x : Tx)
  | exc (n : Nat)
  | pk (i : Nat)
/-- an expression's end -/
inductive RE where
  | ok (c : C) (ρ : List C)
  | err (n : Nat) (ρ : List C)
  | stuck
inductive RL where
  | ok (cs : List C) (ρ : List C)
  | err (n : Nat) (ρ : List C)
  | stuck
/-- a def's end -/
inductive RF where
  | ok (c : C) (outs : List C)
  | err (n : Nat)
  | stuck
/-- a statement's end -/
inductive RS where
  | next (ρ : List C)
  | ret (c : C) (ρ : List C)
  | brk (ρ : List C)
  | cont (ρ : List C)
  | err (n : Nat) (ρ : List C)
  | stuck
abbrev Fn := List C → RF
inductive Op where
  | add | sub | mul | fdiv | mod | pow | shl | bor
  deriving DecidableEq
inductive Cm where
  | eq | ne | lt | le | gt | ge | isin | notin
  deriving DecidableEq
inductive Bi where
  | len | sum | sorted | list | tuple | all | any | min1 | max1 | min2 | max2 | int | str | abs | sortedK | lenT
  deriving DecidableEq
/-- a class that isinstance is asked of -/
inductive Cl where
  | ty (n : String)
  | own (c : Nat)
  | exc (n : Nat)
  deriving DecidableEq
inductive Tg where
  | nm (i : Nat)
  | tup (is : List Nat)
  deriving DecidableEq
inductive Mt where
  | append | extend | reverse | insert
  deriving DecidableEq
mutual
inductive E where
  | v (i : Nat)
  | int (n : Int)
  | bl (b : Bool)
  | non
  | str (s : Str)
  | gint (x : Str) (n : Int)
  | neg (a : E)
  | op (o : Op) (a b : E)
  | cm (o : Cm) (a b : E)
  | isn (neg : Bool) (a : E)
  | chn (o p : Cm) (a b c : E)
  | and (a b : E)
  | or (a b : E)
  | not (a : E)
  | ix (a b : E)
  | sl (a : E) (lo hi : Oe)
  | sls (a : E) (lo hi st : Oe)
  | tup (es : Es)
  | lst (es : Es)
  | bi (b : Bi) (es : Es)
  | rng (tu : Bool) (r : Rg)
  | trev (a : E)
  | dnew (t : Bool)
  | call (g : Nat) (ms : List Nat) (es : Es)
  | mk (c : Nat) (ms : List Nat) (es : Es)
  | fld (a : E) (c j : Nat)
  | isi (one : Bool) (a : E) (cs : List Cl)
  | lc (own : List Nat) (tg : Tg) (it : It) (cond : Oe) (elt : E)
  | lens (a : E)
  | disp (a b : E)
  | frz (a : E)
inductive Es where
  | nil
  | cons (e : E) (es : Es)
inductive Oe where
  | no
  | yes (e : E)
/-- a range's ends -/
inductive Rg where
  | one (b : E)
  | two (a b : E)
/-- what a loop walks -/
inductive It where
  | of (e : E)
  | rng (r : Rg)
  | enum (e : E)
  | rev (e : E)
  | zip (a b : E)
end
mutual
inductive S where
  | set (i : Nat) (e : E)
  | setT (is : List Nat) (e : E)
  | aug (i : Nat) (o : Op) (e : E)
  | setI (i : Nat) (k e : E)
  | setF (i c j : Nat) (e : E)
  | mt (i : Nat) (m : Mt) (es : Es)
  | ex (e : E)
  | ife (c : E) (a b : Ss)
  | forS (tg : Tg) (it : It) (b : Ss)
  | whl (fuel : Nat) (c : E) (b : Ss)
  | ret (e : E)
  | retN
  | rais (n : Nat)
  | tryK (body : Ss) (n i j : Nat)
  | pass | brk | cont
  | no
  | ext (i : Nat) (es : Es)
  | tryA (body : Ss) (n i j : Nat) (e : E)
  | tryO (body : Ss) (n j : Nat) (e : E)
  /-- a walk over a name's dict -/
  | forK (tg : Tg) (i : Nat) (b : Ss)
inductive Ss where
  | nil
  | cons (s : S) (ss : Ss)
  | gh (fr wp : List Nat) (ss : Ss)
end
def isNo : S → Bool
  | .no => true
  | _ => false
/-! ### the evaluator -/
def RE.bind (r : RE) (k : C → List C → RE) : RE := match r with
  | .ok c ρ => k c ρ
  | .err n ρ => .err n ρ
  | .stuck => .stuck
def RL.bind (r : RL) (k : List C → List C → RE) : RE := match r with
  | .ok c ρ => k c ρ
  | .err n ρ => .err n ρ
  | .stuck => .stuck
def isSc : D → Bool
  | .none => true
  | .bool _ => true
  | .int _ => true
  | .str _ => true
  | _ => false
def scX : Tx → Bool
  | .py d => isSc d
  | _ => false
/-- an item of what is held so -/
def asB (x : Tx) : C := if scX x = true then .fro x else .bor x
def Tx.see : Tx → Option D
  | .py d => some d
  | _ => none
/-- the thing, wherever it lies -/
def look (ρ : List C) : C → Option Tx
  | .fro x => some x
  | .bor x => some x
  | .own x => some x
  | .lkd x => some x
  | .pk i => match ρ[i]? with
    | some (.own x) => some x
    | some (.lkd x) => some x
    | _ => none
  | _ => none
def see (ρ : List C) (c : C) : Option D := (look ρ c).bind Tx.see
/-- kept for ever: the thing and the slots behind it -/
def fz (ρ : List C) : C → Option (Tx × List C)
  | .fro x => some (x, ρ)
  | .own x => some (x, ρ)
  | .pk i => match ρ[i]? with
    | some (.own x) => some (x, ρ.set i (.fro x))
    | _ => none
  | _ => none
def fzD (ρ : List C) (c : C) : Option (D × List C) := (fz ρ c).bind fun p => p.1.see.map fun d => (d, p.2)
def fzDs (ρ : List C) : List C → Option (List D × List C)
  | [] => some ([], ρ)
  | c :: cs => (fzD ρ c).bind fun p => (fzDs p.2 cs).map fun q => (p.1 :: q.1, q.2)
def dep : Nat → D → Bool
  | _, .none => true
  | _, .bool _ => true
  | _, .int _ => true
  | _, .str _ => true
  | n + 1, .list xs => xs.all (dep n)
  | n + 1, .tuple xs => xs.all (dep n)
  | _, _ => false
abbrev dp (d : D) : Bool := dep 8 d
def keyOf : D → Option Key
  | .int i => some (.inl i)
  | .str s => some (.inr s)
  | _ => none
def keysOf : List D → Option (List Key)
  | [] => some []
  | d :: ds => (keyOf d).bind fun k => (keysOf ds).map fun ks => k :: ks
def tkeyOf : D → Option (List Key)
  | .tuple ds => keysOf ds
  | _ => none
def valD {κ : Type} [DecidableEq κ] (kvs : List (κ × D)) (k : κ) : Option D := (kvs.find? fun kv => decide (kv.1 = k)).map (·.2)
def putD {κ : Type} [DecidableEq κ] (kvs : List (κ × D)) (k : κ) (v : D) : List (κ × D) :=
  if kvs.any (fun kv => decide (kv.1 = k)) then kvs.map fun kv => if kv.1 = k then (kv.1, v) else kv else kvs ++ [(k, v)]
/-- the value at a key: some none where the key is not there -/
def getX : Tx → D → Option (Option D)
  | .dik kvs, k => (keyOf k).map fun k => valD kvs k
  | .dit kvs, k => (tkeyOf k).map fun k => valD kvs k
  | _, _ => none
def line : Nat := 16777216
def opC : Op → D → D → Option C
  | .add, .int i, .int j => some (.fro (.py (.int (i + j))))
  | .add, .list a, .list b => if a.length + b.length ≤ line then some (.own (.py (.list (a ++ b)))) else none
  | .add, .tuple a, .tuple b => if a.length + b.length ≤ line then some (.fro (.py (.tuple (a ++ b)))) else none
  | .add, .str a, .str b => if a.length + b.length ≤ line then some (.fro (.py (.str (a ++ b)))) else none
  | .sub, .int i, .int j => some (.fro (.py (.int (i - j))))
  | .mul, .int i, .int j => if (-18446744073709551616 < i ∧ i < 18446744073709551616) ∨ (-18446744073709551616 < j ∧ j < 18446744073709551616) then some (.fro (.py (.int (i * j)))) else none
  | .fdiv, .int i, .int j => if 0 < j ∧ j < 1073741824 then some (.fro (.py (.int (i / j)))) else none
  | .mod, .int i, .int j => if 0 < j then some (.fro (.py (.int (i % j)))) else none
  | .pow, .int i, .int j => if 0 ≤ j ∧ j ≤ 1000000 ∧ i.natAbs < 18446744073709551616 then some (.fro (.py (.int (i ^ j.toNat)))) else none
  | .shl, .int i, .int j => if 0 ≤ j ∧ j ≤ 1000000 ∧ i.natAbs < 18446744073709551616 then some (.fro (.py (.int (i * 2 ^ j.toNat)))) else none
  | .bor, .int i, .int j => some (.fro (.py (.int (Builtin.bitOr i j))))
  | _, _, _ => none
def cmC : Cm → D → D → Option Bool
  | .eq, a, b => if dp a || dp b then some (PyData.eqv a b) else none
  | .ne, a, b => if dp a || dp b then some (!PyData.eqv a b) else none
  | .lt, .int i, .int j => some (decide (i < j))
  | .le, .int i, .int j => some (decide (i ≤ j))
  | .gt, .int i, .int j => some (decide (j < i))
  | .ge, .int i, .int j => some (decide (j ≤ i))
  | .lt, .tuple a, .tuple b => if PySem.W.alike (.tuple a) (.tuple b) && (dp (.tuple a) || dp (.tuple b)) then some (PySem.W.dataLt (.tuple a) (.tuple b)) else none
  | .gt, .tuple a, .tuple b => if PySem.W.alike (.tuple a) (.tuple b) && (dp (.tuple a) || dp (.tuple b)) then some (PySem.W.dataLt (.tuple b) (.tuple a)) else none
  | .isin, a, .list b => if dp a || dp (.list b) then some (b.any fun z => PyData.eqv z a) else none
  | .isin, a, .tuple b => if dp a || dp (.tuple b) then some (b.any fun z => PyData.eqv z a) else none
  | .notin, a, .list b => if dp a || dp (.list b) then some (!b.any fun z => PyData.eqv z a) else none
  | .notin, a, .tuple b => if dp a || dp (.tuple b) then some (!b.any fun z => PyData.eqv z a) else none
  | _, _, _ => none
/-- a comparison of two things -/
def cmX (o : Cm) (a b : Tx) : Option Bool := match a, b with
  | .py x, .py y => cmC o x y
  | .py x, y => match o with
    | .isin => (getX y x).map (·.isSome)
    | .notin => (getX y x).map (!·.isSome)
    | _ => none
  | _, _ => none
def cmR (ρ : List C) (o : Cm) (a b : C) : Option Bool := (look ρ a).bind fun x => (look ρ b).bind fun y => cmX o x y
def bool (b : Bool) : C := .fro (.py (.bool b))
def num (n : Int) : C := .fro (.py (.int n))
def nonC : C := .fro (.py .none)
/-- an item of what c holds, held as c is -/
def itemC : C → D → C
  | .bor _, d => asB (.py d)
  | _, d => .fro (.py d)
def ixX (a : C) (x : Tx) (k : D) : Option C := match x, k with
  | .py (.list ds), .int i => (atI ds i).map (itemC a)
  | .py (.tuple ds), .int i => (atI ds i).map (itemC a)
  | .py (.str s), .int i => if s.length ≤ line then (atI s.cps.toList i).map fun c => .fro (.py (.str ⟨#[c]⟩)) else none
  | y, k => (getX y k).bind fun r => r.map (itemC a)
def ixC (ρ : List C) (a b : C) : Option C := (look ρ a).bind fun x => (see ρ b).bind fun k => ixX a x k
def cutD (ds : List D) (lo hi : Option Int) : List D := (ds.drop (HT.sIx ds.length 0 lo)).take (HT.sIx ds.length ds.length hi - HT.sIx ds.length 0 lo)
def slC (ρ : List C) (a : C) (lo hi : Option Int) : Option C := (look ρ a).bind fun x => match a, x with
  | .bor _, .py (.list ds) => if ds.all isSc then some (.own (.py (.list (cutD ds lo hi)))) else none
  | .bor _, .py (.tuple ds) => some (.bor (.py (.tuple (cutD ds lo hi))))
  | _, .py (.list ds) => some (.own (.py (.list (cutD ds lo hi))))
  | _, .py (.tuple ds) => some (.fro (.py (.tuple (cutD ds lo hi))))
  | _, _ => none
/-- the items of a slice with a step -/
def stepD {α : Type} (ds : List α) (lo hi st : Option Int) : List α := (sliceRange (sliceBounds lo hi st ds.length).1 (sliceBounds lo hi st ds.length).2.1 (sliceBounds lo hi st ds.length).2.2).filterMap (ds[·]?)
def rgD (a b : Int) : List D := (List.range (b - a).toNat).map fun i => .int (a + (i : Nat))
def rgOk (a b : Int) : Bool := decide (-4611686018427387904 ≤ a ∧ a < 4611686018427387904 ∧ -4611686018427387904 ≤ b ∧ b < 4611686018427387904)
def intsD : List D → Option (List Int)
  | [] => some []
  | .int i :: ds => (intsD ds).map (i :: ·)
  | _ :: _ => none
def boolsD : List D → Option (List Bool)
  | [] => some []
  | .bool i :: ds => (boolsD ds).map (i :: ·)
  | _ :: _ => none
def sortable (ds : List D) : Bool :=
  (ds.all fun d => ds.all fun e => PySem.W.alike d e) && ((ds.all fun d => match d with | .tuple (_ :: _) => true | _ => false) || (ds.all fun d => match d with | .none => false | .tuple _ => false | _ => true))
def sortD (ds : List D) : List D := ds.mergeSort (PySem.W.dataLe false id)
def items : D → Option (List D)
  | .list ds => some ds
  | .tuple ds => some ds
  | _ => none
def isBor : C → Bool
  | .bor _ => true
  | _ => false
/-- a list or tuple of what c holds may be laid anew -/
def clear (c : C) (ds : List D) : Bool := match c with
  | .bor _ => ds.all isSc
  | _ => true
def slS (ρ : List C) (a : C) (lo hi st : Option Int) : Option C := (look ρ a).bind fun x => match x with
  | .py (.list ds) => if clear a ds && !decide (st = some 0) then some (.own (.py (.list (stepD ds lo hi st)))) else none
  | _ => none
/-- the keys, where they are whole numbers -/
def keysI : List (Key × D) → Option (List Int)
  | [] => some []
  | (.inl i, _) :: kvs => (keysI kvs).map (i :: ·)
  | (.inr _, _) :: _ => none
def biC (ρ : List C) (b : Bi) (cs : List C) : Option C := match b, cs with
  | .len, [c] => (look ρ c).bind fun x => match x with
    | .py (.list ds) => some (num ds.length)
    | .py (.tuple ds) => some (num ds.length)
    | .py (.str s) => if s.length ≤ line then some (num s.length) else none
    | .dik kvs => some (num kvs.length)
    | _ => none
  | .sum, [c] => (see ρ c).bind fun d => match d with
    | .list ds => (intsD ds).map fun ns => num ns.sum
    | _ => none
  | .sorted, [c] => (see ρ c).bind fun d => (items d).bind fun ds => if sortable ds && clear c ds && (ds.all dp) then some (.own (.py (.list (sortD ds)))) else none
  | .list, [c] => (see ρ c).bind fun d => (items d).bind fun ds => if clear c ds then some (.own (.py (.list ds))) else none
  | .tuple, [c] => (see ρ c).bind fun d => match d with
    | .list ds => if clear c ds then some (.fro (.py (.tuple ds))) else none
    | .tuple ds => some (if isBor c then .bor (.py (.tuple ds)) else .fro (.py (.tuple ds)))
    | _ => none
  | .all, [c] => (see ρ c).bind fun d => match d with
    | .list ds => (boolsD ds).map fun bs => bool (bs.all id)
    | _ => none
  | .any, [c] => (see ρ c).bind fun d => match d with
    | .list ds => (boolsD ds).map fun bs => bool (bs.any id)
    | _ => none
  | .min1, [c] => match (see ρ c).bind items with
    | some ds => match intsD ds with
      | some (n :: ns) => some (num (ns.foldl (fun a y => if y < a then y else a) n))
      | _ => none
    | none => none
  | .max1, [c] => match (see ρ c).bind items with
    | some ds => match intsD ds with
      | some (n :: ns) => some (num (ns.foldl (fun a y => if a < y then y else a) n))
      | _ => none
    | none => none
  | .min2, [a, b] => match see ρ a, see ρ b with
    | some (.int i), some (.int j) => some (num (if j < i then j else i))
    | _, _ => none
  | .max2, [a, b] => match see ρ a, see ρ b with
    | some (.int i), some (.int j) => some (num (if j > i then j else i))
    | _, _ => none
  | .int, [c] => match see ρ c with
    | some (.int i) => some (num i)
    | some (.bool k) => some (num (if k then 1 else 0))
    | _ => none
  | .str, [c] => match see ρ c with
    | some (.int i) => if i.natAbs.log2 < 1920 then some (.fro (.py (.str (toString i)))) else none
    | _ => none
  | .abs, [c] => match see ρ c with
    | some (.int i) => some (num (if i < 0 then -i else i))
    | _ => none
  | .sortedK, [c] => match look ρ c with
    | some (.dik kvs) => (keysI kvs).bind fun ns => if ns.length < 64 then some (.own (.py (.list (sortD (ns.map .int))))) else none
    | _ => none
  | .lenT, [c] => match look ρ c with
    | some (.dit kvs) => some (num kvs.length)
    | _ => none
  | _, _ => none
/-- how a call hands on what it has: 0 kept for ever, 1 lent, 2 to be changed -/
def pass0 : List C → List Nat → List C → Option (List C × List C)
  | ρ, [], [] => some ([], ρ)
  | ρ, m :: ms, c :: cs => match m with
    | 0 => match c with
      | .bor x => (pass0 ρ ms cs).map fun q => (.bor x :: q.1, q.2)
      | .exc n => (pass0 ρ ms cs).map fun q => (.exc n :: q.1, q.2)
      | c => (fz ρ c).bind fun p => (pass0 p.2 ms cs).map fun q => (.fro p.1 :: q.1, q.2)
    | _ => (pass0 ρ ms cs).map fun q => (c :: q.1, q.2)
  | _, _, _ => none
def pass1 (ρ : List C) (m : Nat) (c : C) : Option C := match m, c with
  | _, .fro x => some (.fro x)
  | _, .bor x => some (.bor x)
  | _, .exc n => some (.exc n)
  | 1, .own x => some (.bor x)
  | 1, .pk i => (look ρ (.pk i)).map .bor
  | 2, .pk i => match ρ[i]? with
    | some (.own x) => some (.own x)
    | _ => none
  | _, _ => none
def pass1s (ρ : List C) : List Nat → List C → Option (List C)
  | [], [] => some []
  | m :: ms, c :: cs => (pass1 ρ m c).bind fun a => (pass1s ρ ms cs).map fun as => a :: as
  | _, _ => none
/-- the slots whose things are handed on to be changed; that are lent -/
def isPk (k : Nat) (m : Nat) : C → Option Nat
  | .pk i => if m = k then some i else none
  | _ => none
def pks (k : Nat) : List Nat → List C → List Nat
  | m :: ms, c :: cs => match isPk k m c with
    | some i => i :: pks k ms cs
    | none => pks k ms cs
  | _, _ => []
abbrev muts : List Nat → List C → List Nat := pks 2
abbrev lent : List Nat → List C → List Nat := pks 1
def passOk (ms : List Nat) (cs : List C) : Bool := decide (muts ms cs).Nodup && (lent ms cs).all fun i => !(muts ms cs).contains i
/-- the things of these slots come back -/
def backIs : List C → List Nat → List C → Option (List C)
  | ρ, [], [] => some ρ
  | ρ, i :: is, .own x :: outs => backIs (ρ.set i (.own x)) is outs
  | _, _, _ => none
def lostIs : List C → List Nat → List C
  | ρ, [] => ρ
  | ρ, i :: is => lostIs (ρ.set i .und) is
def resC : C → Option C
  | .fro x => some (.fro x)
  | .own x => some (.own x)
  | .exc n => some (.exc n)
  | _ => none
def callR (F : Fn) (ms : List Nat) (cs ρ : List C) : RE := match pass0 ρ ms cs with
  | none => .stuck
  | some (cs', ρ') => match pass1s ρ' ms cs' with
    | none => .stuck
    | some as => if passOk ms cs' then match F as with
      | .ok c outs => match backIs ρ' (muts ms cs') outs, resC c with
        | some ρ'', some c => .ok c ρ''
        | _, _ => .stuck
      | .err n => .err n (lostIs ρ' (muts ms cs'))
      | .stuck => .stuck
    else .stuck
def mkR (F : Fn) (k : Nat) (ms : List Nat) (cs ρ : List C) : RE := match pass0 ρ ms cs with
  | none => .stuck
  | some (cs', ρ') => match pass1s ρ' ms cs' with
    | none => .stuck
    | some as => if (muts ms cs').isEmpty then match F (.own (.obj k []) :: as) with
      | .ok (.fro (.py .none)) [.own x] => .ok (.own x) ρ'
      | .ok _ _ => .stuck
      | .err n => .err n ρ'
      | .stuck => .stuck
    else .stuck
/-- is an exception of the number n one of the class -/
def tyOf : D → Option String
  | .none => some "NoneType"
  | .bool _ => some "bool"
  | .int _ => some "int"
  | .str _ => some "str"
  | .list _ => some "list"
  | .tuple _ => some "tuple"
  | .dict _ => none
structure Glob where
  cls : List (Str × List Str)
  exs : List Str
  sup : Nat → Nat → Bool
  excTy : String → Option Bool
/-- what a def's text may call -/
structure Kit where
  g : Glob
  fns : List (Str × Fn)
  ini : List Fn
  bl : List Str
  gi : List (Str × Int)
  rs : List Nat
def isiOne (K : Glob) (x : Tx ⊕ Nat) : Cl → Option Bool
  | .ty n => match x with
    | .inl (.py d) => (tyOf d).bind fun t => kitB t n
    | .inr e => K.excTy n
    | _ => none
  | .own _ => none
  | .exc c => match x with
    | .inr e => some (K.sup e c)
    | .inl (.py _) => some false
    | _ => none
def isiAll (K : Glob) (x : Tx ⊕ Nat) : List Cl → Option Bool
  | [] => some false
  | c :: cs => (isiOne K x c).bind fun b => if b then some true else isiAll K x cs
def isiC (K : Glob) (ρ : List C) (c : C) (cs : List Cl) : Option Bool := match c with
  | .exc n => isiAll K (.inr n) cs
  | c => (look ρ c).bind fun x => isiAll K (.inl x) cs
/-- may a slot be stored to -/
def free (fx : List Nat) (ρ : List C) (i : Nat) : Bool := !fx.contains i && match ρ[i]? with
  | some (.lkd _) => false
  | some _ => true
  | none => false
def setN (fx : List Nat) (ρ : List C) (i : Nat) (c : C) : Option (List C) := if free fx ρ i then some (ρ.set i c) else none
def setNs (fx : List Nat) : List C → List Nat → List C → Option (List C)
  | ρ, [], [] => some ρ
  | ρ, i :: is, c :: cs => (setN fx ρ i c).bind fun ρ => setNs fx ρ is cs
  | _, _, _ => none
def setTg (fx : List Nat) (ρ : List C) (t : Tg) (c : C) : Option (List C) := match t with
  | .nm i => setN fx ρ i c
  | .tup is => match c with
    | .fro (.py (.tuple ds)) => setNs fx ρ is (ds.map fun d => .fro (.py d))
    | .bor (.py (.tuple ds)) => setNs fx ρ is (ds.map fun d => asB (.py d))
    | _ => none
/-- the slot that a walk holds: its thing, was it locked for this walk -/
inductive Lk where
  | no
  | at (i : Nat) (x : Tx) (new : Bool)
/-- what is walked: the items, the slot that is locked, the slots -/
inductive RI where
  | ok (cs : List C) (lk : Lk) (ρ : List C)
  | err (n : Nat) (ρ : List C)
  | stuck
def lockC (ρ : List C) (c : C) : Option (List D × Lk × List C) := (look ρ c).bind fun x => match c, x with
  | .pk i, .py (.list ds) => match ρ[i]? with
    | some (.own _) => some (ds, .at i x true, ρ.set i (.lkd x))
    | some (.lkd _) => some (ds, .at i x false, ρ)
    | _ => none
  | _, .py (.list ds) => some (ds, .no, ρ)
  | _, .py (.tuple ds) => some (ds, .no, ρ)
  | _, _ => none
def isLst (ρ : List C) (c : C) : Bool := match see ρ c with
  | some (.list _) => true
  | _ => false
/-- a list that is counted -/
def enumC (ρ : List C) (c : C) : Option (List D × Lk × List C) := if isBor c then none else (lockC ρ c).bind fun p => if isLst p.2.2 c then some p else none
def unlock (ρ : List C) : Lk → List C
  | .at i x true => ρ.set i (.own x)
  | _ => ρ
/-- it is locked still -/
def lkIs (ρ : List C) : Lk → Prop
  | .no => True
  | .at i x _ => ρ[i]? = some (.lkd x)
def RE.toRI (r : RE) (k : C → List C → RI) : RI := match r with
  | .ok c ρ => k c ρ
  | .err n ρ => .err n ρ
  | .stuck => .stuck
open Classical in
/-- behind the walk -/
noncomputable def RI.go (r : RI) (k : List C → Lk → List C → RE) : RE := match r with
  | .ok cs lk ρ => match k cs lk ρ with
    | .ok c ρ' => if lkIs ρ' lk then .ok c (unlock ρ' lk) else .stuck
    | _ => .stuck
  | .err n ρ => .err n ρ
  | .stuck => .stuck
def wipeC (ρ : List C) : List Nat → List C
  | [] => ρ
  | i :: is => (wipeC ρ is).set i .und
/-- the block's own names have their old things again -/
def backC (ρ0 ρ : List C) : List Nat → List C
  | [] => ρ
  | i :: is => (backC ρ0 ρ is).set i (ρ0[i]?.getD .und)
def ownOk (ρ : List C) (own : List Nat) : Bool := own.all fun i => match ρ[i]? with
  | some .und => true
  | some (.fro _) => true
  | some (.bor _) => true
  | _ => false
/-- how many unlike numbers -/
def ndist : List Int → Nat
  | [] => 0
  | n :: ns => if n ∈ ns then ndist ns else ndist ns + 1
def lensC (ρ : List C) (c : C) : Option C := match see ρ c with
  | some (.tuple ds) => match intsD ds with
    | some ns => if ns.length ≤ 1000 then some (num (ndist ns : Nat)) else none
    | none => none
  | _ => none
/-- a dict of one entry -/
def dispC (ρ : List C) (c c' : C) : Option (List (Key × D)) := match see ρ c, see ρ c' with
  | some k, some d => match keyOf k with
    | some k => if isSc d then some [(k, d)] else none
    | none => none
  | _, _ => none
/-- two kept tuples side by side -/
def zipC (c c' : C) : Option (List D) := match c, c' with
  | .fro (.py (.tuple a)), .fro (.py (.tuple b)) => some (List.zipWith (fun x y => .tuple [x, y]) a b)
  | _, _ => none
open Classical in
/-- a comprehension's turns -/
noncomputable def lcGo (lk : Lk) (own : List Nat) (tg : Tg) (cond elt : List C → RE) : List C → List D → List C → RE
  | [], acc, ρ => if lkIs ρ lk then .ok (.own (.py (.list acc))) ρ else .stuck
  | c :: cs, acc, ρ => if lkIs ρ lk then (match setTg [] ρ tg c with
    | none => .stuck
    | some ρ1 => match cond ρ1 with
      | .ok (.fro (.py (.bool false))) ρ2 => lcGo lk own tg cond elt cs acc (wipeC ρ2 own)
      | .ok (.fro (.py (.bool true))) ρ2 => match elt ρ2 with
        | .ok c ρ3 => match fzD ρ3 c with
          | some (d, ρ4) => if acc.length < line then lcGo lk own tg cond elt cs (acc ++ [d]) (wipeC ρ4 own) else .stuck
          | none => .stuck
        | _ => .stuck
      | _ => .stuck) else .stuck
/-- is it none (or not) -/
def isnC (ng : Bool) (ρ : List C) (c : C) : Option Bool := match c with
  | .exc _ => some ng
  | c => (look ρ c).map fun x => match x with
    | .py .none => !ng
    | _ => ng
noncomputable section
variable (K : Kit)
mutual
def ev : E → List C → RE
  | .v i, ρ => match ρ[i]? with
    | some (.fro x) => .ok (.fro x) ρ
    | some (.bor x) => .ok (.bor x) ρ
    | some (.own _) => .ok (.pk i) ρ
    | some (.lkd _) => .ok (.pk i) ρ
    | some (.exc n) => .ok (.exc n) ρ
    | _ => .stuck
  | .int n, ρ => .ok (num n) ρ
  | .bl b, ρ => .ok (bool b) ρ
  | .non, ρ => .ok nonC ρ
  | .str s, ρ => .ok (.fro (.py (.str s))) ρ
  | .gint _ n, ρ => .ok (num n) ρ
  | .neg a, ρ => (ev a ρ).bind fun c ρ => match see ρ c with
    | some (.int i) => .ok (num (-i)) ρ
    | _ => .stuck
  | .op o a b, ρ => (ev a ρ).bind fun c ρ => (ev b ρ).bind fun c' ρ => match see ρ c, see ρ c' with
    | some d, some e => match opC o d e with
      | some r => match r with
        | .own (.py (.list ds)) => if clear c ds && clear c' ds then .ok r ρ else .stuck
        | .fro (.py (.tuple ds)) => .ok (if isBor c || isBor c' then .bor (.py (.tuple ds)) else .fro (.py (.tuple ds))) ρ
        | r => .ok r ρ
      | none => .stuck
    | _, _ => .stuck
  | .cm o a b, ρ => (ev a ρ).bind fun c ρ => (ev b ρ).bind fun c' ρ => match cmR ρ o c c' with
    | some b => .ok (bool b) ρ
    | none => .stuck
  | .isn neg a, ρ => (ev a ρ).bind fun c ρ => match isnC neg ρ c with
    | some b => .ok (bool b) ρ
    | none => .stuck
  | .chn o p a b d, ρ => (ev a ρ).bind fun c ρ => (ev b ρ).bind fun c' ρ => match cmR ρ o c c' with
    | some false => .ok (bool false) ρ
    | some true => (ev d ρ).bind fun c2 ρ => match cmR ρ p c' c2 with
      | some b => .ok (bool b) ρ
      | none => .stuck
    | none => .stuck
  | .and a b, ρ => (ev a ρ).bind fun c ρ => match c with
    | .fro (.py (.bool true)) => ev b ρ
    | .fro (.py (.bool false)) => .ok (bool false) ρ
    | _ => .stuck
  | .or a b, ρ => (ev a ρ).bind fun c ρ => match c with
    | .fro (.py (.bool true)) => .ok (bool true) ρ
    | .fro (.py (.bool false)) => ev b ρ
    | _ => .stuck
  | .not a, ρ => (ev a ρ).bind fun c ρ => match c with
    | .fro (.py (.bool b)) => .ok (bool (!b)) ρ
    | _ => .stuck
  | .ix a b, ρ => (ev a ρ).bind fun c ρ => (ev b ρ).bind fun c' ρ => match ixC ρ c c' with
    | some r => .ok r ρ
    | none => .stuck
  | .sl a lo hi, ρ => (ev a ρ).bind fun c ρ => evP lo ρ fun l ρ => evP hi ρ fun h ρ => match slC ρ c l h with
    | some r => .ok r ρ
    | none => .stuck
  | .sls a lo hi st, ρ => (ev a ρ).bind fun c ρ => evP lo ρ fun l ρ => evP hi ρ fun h ρ => evP st ρ fun k ρ => match slS ρ c l h k with
    | some r => .ok r ρ
    | none => .stuck
  | .tup es, ρ => (evs es ρ).bind fun cs ρ => match fzDs ρ cs with
    | some (ds, ρ) => .ok (.fro (.py (.tuple ds))) ρ
    | none => .stuck
  | .lst es, ρ => (evs es ρ).bind fun cs ρ => match fzDs ρ cs with
    | some (ds, ρ) => .ok (.own (.py (.list ds))) ρ
    | none => .stuck
  | .bi b es, ρ => (evs es ρ).bind fun cs ρ => match biC ρ b cs with
    | some r => .ok r ρ
    | none => .stuck
  | .rng tu r, ρ => evR r ρ fun i j ρ => if rgOk i j && decide ((j - i).toNat ≤ line) then .ok (if tu then .fro (.py (.tuple (rgD i j))) else .own (.py (.list (rgD i j)))) ρ else .stuck
  | .trev a, ρ => (ev a ρ).bind fun c ρ => match see ρ c with
    | some (.list ds) => if clear c ds then .ok (.fro (.py (.tuple ds.reverse))) ρ else .stuck
    | _ => .stuck
  | .dnew t, ρ => .ok (.own (if t then .dit [] else .dik [])) ρ
  | .call g ms es, ρ => (evs es ρ).bind fun cs ρ => match K.fns[g]? with
    | some (_, F) => callR F ms cs ρ
    | none => .stuck
  | .mk k ms es, ρ => (evs es ρ).bind fun cs ρ => match K.ini[k]? with
    | some F => mkR F k ms cs ρ
    | none => .stuck
  | .fld a k j, ρ => (ev a ρ).bind fun c ρ => match look ρ c with
    | some (.obj k' fs) => if k' = k then match fs[j]? with
      | some d => .ok (itemC c d) ρ
      | none => .stuck else .stuck
    | _ => .stuck
  | .isi _ a cs, ρ => (ev a ρ).bind fun c ρ => match isiC K.g ρ c cs with
    | some b => .ok (bool b) ρ
    | none => .stuck
  | .lc own tg it cond elt, ρ => (evI it ρ).go fun cs lk ρ => if ownOk ρ own then
      (match lcGo lk own tg (fun ρ => evC cond ρ) (fun ρ => ev elt ρ) cs [] (wipeC ρ own) with
      | .ok c ρ' => .ok c (backC ρ ρ' own)
      | r => .stuck)
    else .stuck
  | .lens a, ρ => (ev a ρ).bind fun c ρ => match lensC ρ c with
    | some r => .ok r ρ
    | none => .stuck
  | .disp a b, ρ => (ev a ρ).bind fun c ρ => (ev b ρ).bind fun c' ρ => match dispC ρ c c' with
    | some kvs => .ok (.own (.dik kvs)) ρ
    | none => .stuck
  | .frz a, ρ => (ev a ρ).bind fun c ρ => match fz ρ c with
    | some (x, ρ) => .ok (.fro x) ρ
    | none => .stuck
def evs : Es → List C → RL
  | .nil, ρ => .ok [] ρ
  | .cons e es, ρ => match ev e ρ with
    | .ok c ρ => match evs es ρ with
      | .ok cs ρ => .ok (c :: cs) ρ
      | r => r
    | .err n ρ => .err n ρ
    | .stuck => .stuck
/-- a part of a slice -/
def evP : Oe → List C → (Option Int → List C → RE) → RE
  | .no, ρ, k => k none ρ
  | .yes e, ρ, k => (ev e ρ).bind fun c ρ => match see ρ c with
    | some (.int i) => k (some i) ρ
    | _ => .stuck
/-- a range's ends -/
def evR : Rg → List C → (Int → Int → List C → RE) → RE
  | .one b, ρ, k => (ev b ρ).bind fun c ρ => match see ρ c with
    | some (.int j) => k 0 j ρ
    | _ => .stuck
  | .two a b, ρ, k => (ev a ρ).bind fun c ρ => (ev b ρ).bind fun c' ρ => match see ρ c, see ρ c' with
    | some (.int i), some (.int j) => k i j ρ
    | _, _ => .stuck
/-- a comprehension's test -/
def evC : Oe → List C → RE
  | .no, ρ => .ok (bool true) ρ
  | .yes e, ρ => ev e ρ
def evI : It → List C → RI
  | .of e, ρ => (ev e ρ).toRI fun c ρ => match lockC ρ c with
    | some (ds, lk, ρ) => .ok (ds.map (itemC c)) lk ρ
    | none => .stuck
  | .rng r, ρ => (evR r ρ fun i j ρ => if rgOk i j then .ok (.fro (.py (.list (rgD i j)))) ρ else .stuck).toRI fun c ρ => match c with
    | .fro (.py (.list ds)) => .ok (ds.map fun d => .fro (.py d)) .no ρ
    | _ => .stuck
  | .enum e, ρ => (ev e ρ).toRI fun c ρ => match enumC ρ c with
    | some (ds, lk, ρ) => .ok (ds.zipIdx.map fun p => .fro (.py (.tuple [.int (p.2 : Nat), p.1]))) lk ρ
    | none => .stuck
  | .rev e, ρ => (ev e ρ).toRI fun c ρ => match lockC ρ c with
    | some (ds, lk, ρ) => .ok (ds.reverse.map (itemC c)) lk ρ
    | none => .stuck
  | .zip a b, ρ => (ev a ρ).toRI fun c ρ => (ev b ρ).toRI fun c' ρ => match zipC c c' with
    | some ds => .ok (ds.map fun d => .fro (.py d)) .no ρ
    | none => .stuck
end
/-! ### statements -/
def RE.toRS (r : RE) (k : C → List C → RS) : RS := match r with
  | .ok c ρ => k c ρ
  | .err n ρ => .err n ρ
  | .stuck => .stuck
def RL.toRS (r : RL) (k : List C → List C → RS) : RS := match r with
  | .ok c ρ => k c ρ
  | .err n ρ => .err n ρ
  | .stuck => .stuck
def RS.seq (r : RS) (k : List C → RS) : RS := match r with
  | .next ρ => k ρ
  | r => r
/-- a thing to be stored: a name's own thing is kept from now on -/
def lay (ρ : List C) : C → Option (C × List C)
  | .fro x => some (.fro x, ρ)
  | .bor x => some (.bor x, ρ)
  | .own x => some (.own x, ρ)
  | .exc n => some (.exc n, ρ)
  | .pk i => (fz ρ (.pk i)).map fun p => (.fro p.1, p.2)
  | _ => none
/-- a slot's own thing is changed -/
def mutC (ρ : List C) (i : Nat) (f : Tx → Option Tx) : Option (List C) := match ρ[i]? with
  | some (.own x) => (f x).map fun y => ρ.set i (.own y)
  | _ => none
def setIX (k d : D) : Tx → Option Tx
  | .py (.list ds) => match k with
    | .int i => (ixN ds.length i).map fun j => .py (.list (ds.set j d))
    | _ => none
  | .dik kvs => (keyOf k).bind fun k => if kvs.length < line then some (.dik (putD kvs k d)) else none
  | .dit kvs => (tkeyOf k).bind fun k => if kvs.length < line then some (.dit (putD kvs k d)) else none
  | _ => none
def setFX (c j : Nat) (d : D) : Tx → Option Tx
  | .obj k fs => if k = c ∧ j ≤ fs.length ∧ fs.length < 1000 then (if j = fs.length then some (.obj k (fs ++ [d])) else some (.obj k (fs.set j d))) else none
  | _ => none
def mtX (m : Mt) (ds : List D) : Tx → Option Tx
  | .py (.list xs) => match m, ds with
    | .append, [d] => if xs.length < line then some (.py (.list (xs ++ [d]))) else none
    | .extend, [.list ys] => if xs.length + ys.length ≤ line then some (.py (.list (xs ++ ys))) else none
    | .reverse, [] => some (.py (.list xs.reverse))
    | .insert, [.int i, d] => if xs.length < line then (if 0 ≤ i ∧ i ≤ xs.length then some (.py (.list (xs.take i.toNat ++ d :: xs.drop i.toNat))) else none) else none
    | _, _ => none
  | _ => none
def extX (ys : List D) : Tx → Option Tx
  | .py (.list xs) => if xs.length + ys.length ≤ line then some (.py (.list (xs ++ ys))) else none
  | _ => none
/-- what a list is made longer by -/
def extA (ρ : List C) : List C → Option (List D)
  | [c] => ((see ρ c).bind items).bind fun ds => if clear c ds then some ds else none
  | _ => none
/-- what a def gives back: a name's own thing goes -/
def retC (ρ : List C) : C → Option (C × List C)
  | .fro x => some (.fro x, ρ)
  | .own x => some (.own x, ρ)
  | .exc n => some (.exc n, ρ)
  | .pk i => match ρ[i]? with
    | some (.own x) => some (.own x, ρ.set i .und)
    | _ => none
  | _ => none
def augC (o : Op) (a : Int) : Option D → Option Int
  | some (.int b) => match o with
    | .add => some (a + b)
    | .sub => some (a - b)
    | _ => none
  | _ => none
def isOwn (ρ : List C) (i : Nat) : Bool := match ρ[i]? with
  | some (.own _) => true
  | _ => false
def isOwnL (ρ : List C) (i : Nat) : Bool := match ρ[i]? with
  | some (.own (.py (.list _))) => true
  | _ => false
open Classical in
/-- a loop's turns -/
def forGo (lk : Lk) (fx : List Nat) (tg : Tg) (body : List C → RS) : List C → List C → RS
  | [], ρ => if lkIs ρ lk then .next (unlock ρ lk) else .stuck
  | c :: cs, ρ => if lkIs ρ lk then (match setTg fx ρ tg c with
    | none => .stuck
    | some ρ1 => match body ρ1 with
      | .next ρ2 => forGo lk fx tg body cs ρ2
      | .cont ρ2 => forGo lk fx tg body cs ρ2
      | .brk ρ2 => if lkIs ρ2 lk then .next (unlock ρ2 lk) else .stuck
      | .ret c ρ2 => if lkIs ρ2 lk then .ret c (unlock ρ2 lk) else .stuck
      | .err n ρ2 => if lkIs ρ2 lk then .err n (unlock ρ2 lk) else .stuck
      | .stuck => .stuck) else .stuck
/-- a walk over keys: nothing may be raised in it -/
def forGoK (fx : List Nat) (tg : Tg) (body : List C → RS) : List C → List C → RS
  | [], ρ => .next ρ
  | c :: cs, ρ => match setTg fx ρ tg c with
    | none => .stuck
    | some ρ1 => match body ρ1 with
      | .next ρ2 => forGoK fx tg body cs ρ2
      | .cont ρ2 => forGoK fx tg body cs ρ2
      | .brk ρ2 => .next ρ2
      | .ret c ρ2 => .ret c ρ2
      | .err _ _ => .stuck
      | .stuck => .stuck
def keyD : Key → D
  | .inl i => .int i
  | .inr s => .str s
/-- the keys of a slot's dict, that is kept from now on -/
def keysAt (ρ : List C) (i : Nat) : Option (List D × List C) := match ρ[i]? with
  | some (.own (.dik kvs)) => some (kvs.map fun kv => keyD kv.1, ρ.set i (.fro (.dik kvs)))
  | some (.fro (.dik kvs)) => some (kvs.map fun kv => keyD kv.1, ρ)
  | some (.bor (.dik kvs)) => some (kvs.map fun kv => keyD kv.1, ρ)
  | _ => none
def whlGo (c : List C → RE) (body : List C → RS) : Nat → List C → RS
  | 0, ρ => .stuck
  | n + 1, ρ => (c ρ).toRS fun b ρ1 => match b with
    | .fro (.py (.bool true)) => match body ρ1 with
      | .next ρ2 => whlGo c body n ρ2
      | .cont ρ2 => whlGo c body n ρ2
      | .brk ρ2 => .next ρ2
      | r => r
    | .fro (.py (.bool false)) => .next ρ1
    | _ => .stuck
/-- a slot's own thing is kept from now on; a slot is forgotten -/
def frz1 (ρ : List C) (i : Nat) : List C := match ρ[i]? with
  | some (.own x) => ρ.set i (.fro x)
  | _ => ρ
def wip1 (ρ : List C) (i : Nat) : List C := match ρ[i]? with
  | some (.lkd _) => ρ
  | _ => ρ.set i .und
def ghost (ρ : List C) (fr wp : List Nat) : List C := wp.foldl wip1 (fr.foldl frz1 ρ)
def Lk.fx : Lk → List Nat
  | .no => []
  | .at i _ _ => [i]
mutual
def run (fx : List Nat) : S → List C → RS
  | .set i e, ρ => (ev K e ρ).toRS fun c ρ => match lay ρ c with
    | some (c, ρ) => match setN fx ρ i c with
      | some ρ => .next ρ
      | none => .stuck
    | none => .stuck
  | .setT is e, ρ => (ev K e ρ).toRS fun c ρ => match setTg fx ρ (.tup is) c with
    | some ρ => .next ρ
    | none => .stuck
  | .aug i o e, ρ => match see ρ (ρ[i]?.getD .und) with
    | some (.int a) => (ev K e ρ).toRS fun c ρ => match augC o a (see ρ c) with
      | some r => match setN fx ρ i (num r) with
        | some ρ => .next ρ
        | none => .stuck
      | none => .stuck
    | _ => .stuck
  | .setI i k e, ρ => (ev K e ρ).toRS fun c ρ => match fzD ρ c with
    | some (d, ρ) => if isOwn ρ i then (ev K k ρ).toRS fun c' ρ => match fzD ρ c' with
      | some (kd, ρ) => match mutC ρ i (setIX kd d) with
        | some ρ => .next ρ
        | none => .stuck
      | none => .stuck
      else .stuck
    | none => .stuck
  | .setF i c j e, ρ => (ev K e ρ).toRS fun c' ρ => match fzD ρ c' with
    | some (d, ρ) => match mutC ρ i (setFX c j d) with
      | some ρ => .next ρ
      | none => .stuck
    | none => .stuck
  | .mt i m es, ρ => if isOwnL ρ i then (evs K es ρ).toRS fun cs ρ => match fzDs ρ cs with
    | some (ds, ρ) => match mutC ρ i (mtX m ds) with
      | some ρ => .next ρ
      | none => .stuck
    | none => .stuck
    else .stuck
  | .ex e, ρ => (ev K e ρ).toRS fun _ ρ => .next ρ
  | .ife c a b, ρ => (ev K c ρ).toRS fun c ρ => match c with
    | .fro (.py (.bool true)) => runs fx a ρ
    | .fro (.py (.bool false)) => runs fx b ρ
    | _ => .stuck
  | .forS tg it b, ρ => match evI K it ρ with
    | .ok cs lk ρ => forGo lk fx tg (fun ρ => runs (lk.fx ++ fx) b ρ) cs ρ
    | .err n ρ => .err n ρ
    | .stuck => .stuck
  | .whl fuel c b, ρ => whlGo (fun ρ => ev K c ρ) (fun ρ => runs fx b ρ) fuel ρ
  | .ret e, ρ => (ev K e ρ).toRS fun c ρ => match retC ρ c with
    | some (c, ρ) => .ret c ρ
    | none => .stuck
  | .retN, ρ => .ret nonC ρ
  | .rais n, ρ => .err n ρ
  | .tryK body n i j, ρ => match runs fx body ρ with
    | .err m ρ => if K.g.sup m n then (match setN fx ρ i (.exc m) with
      | some ρ => match setN fx ρ j (.exc m) with
        | some ρ => .next (ρ.set i .und)
        | none => .stuck
      | none => .stuck) else .err m ρ
    | r => r
  | .pass, ρ => .next ρ
  | .brk, ρ => .brk ρ
  | .cont, ρ => .cont ρ
  | .no, _ => .stuck
  | .ext i es, ρ => if isOwnL ρ i then (evs K es ρ).toRS fun cs ρ => match extA ρ cs with
    | some ys => match mutC ρ i (extX ys) with
      | some ρ => .next ρ
      | none => .stuck
    | none => .stuck
    else .stuck
  | .tryA body n i j e, ρ => match runs fx body ρ with
    | .err m ρ => if K.g.sup m n then (match setN fx ρ i (.exc m) with
      | some ρ => (ev K e ρ).toRS fun c ρ => match lay ρ c with
        | some (c, ρ) => match setN fx ρ j c with
          | some ρ => .next (ρ.set i .und)
          | none => .stuck
        | none => .stuck
      | none => .stuck) else .err m ρ
    | r => r
  | .tryO body n j e, ρ => match runs fx body ρ with
    | .err m ρ => if K.g.sup m n then ((ev K e ρ).toRS fun c ρ => match lay ρ c with
      | some (c, ρ) => match setN fx ρ j c with
        | some ρ => .next ρ
        | none => .stuck
      | none => .stuck) else .err m ρ
    | r => r
  | .forK tg i b, ρ => match keysAt ρ i with
    | some (ds, ρ) => forGoK fx tg (fun ρ => runs fx b ρ) (ds.map fun d => .fro (.py d)) ρ
    | none => .stuck
def runs (fx : List Nat) : Ss → List C → RS
  | .nil, ρ => .next ρ
  | .cons s ss, ρ => match run fx s ρ with
    | .next ρ => runs fx ss ρ
    | r => r
  | .gh fr wp ss, ρ => runs fx ss (ghost ρ fr wp)
end
/-- the own things handed in, as they are now -/
def ownIx : Nat → List C → List Nat
  | _, [] => []
  | i, c :: cs => match c with
    | .own _ => i :: ownIx (i + 1) cs
    | _ => ownIx (i + 1) cs
def outAt (ρ : List C) (i : Nat) : C := match ρ[i]? with
  | some (.own x) => .own x
  | _ => .und
def outsOf (cs ρ : List C) : List C := (ownIx 0 cs).map (outAt ρ)
/-- a def: np parameters, n names -/
def fnOf (np n : Nat) (b : Ss) : Fn := fun cs => if cs.length = np then
    match runs K (ownIx 0 cs) b (cs ++ List.replicate (n - np) .und) with
    | .next ρ => .ok nonC (outsOf cs ρ)
    | .ret c ρ => .ok c (outsOf cs ρ)
    | .err n _ => .err n
    | _ => .stuck
  else .stuck
end
end Gr

set_option Elab.async false
set_option linter.all false
set_option maxRecDepth 100000
set_option maxHeartbeats 1000000
/-! Gr B: how slots and things lie in the abstract heap; what keeps that. -/
namespace Gr
open PySem L2
mutual
inductive Rp (H : Hp) : V → D → Prop
  | non : Rp H .non .none
  | bl (b : Bool) : Rp H (.bl b) (.bool b)
  | int (i : Int) : Rp H (.int i) (.int i)
  | str (x : Str) : Rp H (.str x) (.str x)
  | lst {a : Addr} {xs : List V} {ds : List D} : Rd H a (.lst xs) → RpA H xs ds → Rp H (.ref a) (.list ds)
  | tup {a : Addr} {xs : List V} {ds : List D} : H a = some (.tup xs) → RpA H xs ds → Rp H (.ref a) (.tuple ds)
inductive RpA (H : Hp) : List V → List D → Prop
  | nil : RpA H [] []
  | cons {v : V} {vs : List V} {d : D} {ds : List D} : Rp H v d → RpA H vs ds → RpA H (v :: vs) (d :: ds)
end
section
variable {H H' G B : Hp}
mutual
theorem Rp.mono (s : Same H H') : ∀ {d : D} {v : V}, Rp H v d → Rp H' v d
  | .none, _, h => by cases h; exact .non
  | .bool _, _, h => by cases h; exact .bl _
  | .int _, _, h => by cases h; exact .int _
  | .str _, _, h => by cases h; exact .str _
  | .list _, _, h => by
    cases h with
    | lst r a =>
      refine .lst ?_ (RpA.mono s a)
      rcases r with r | ⟨o, r⟩
      · exact .inl (s _ _ r)
      · exact .inr ⟨o, s _ _ r⟩
  | .tuple _, _, h => by
    cases h with
    | tup r a => exact .tup (s _ _ r) (RpA.mono s a)
  | .dict _, _, h => by cases h
theorem RpA.mono (s : Same H H') : ∀ {ds : List D} {vs : List V}, RpA H vs ds → RpA H' vs ds
  | [], _, h => by cases h; exact .nil
  | _ :: _, _, h => by
    cases h with
    | cons a b => exact .cons (Rp.mono s a) (RpA.mono s b)
end
theorem RpA.length : ∀ {vs : List V} {ds : List D}, RpA H vs ds → vs.length = ds.length
  | _, _, .nil => rfl
  | _, _, .cons _ t => by rw [List.length_cons, List.length_cons, RpA.length t]
theorem RpA.append : ∀ {vs ws : List V} {ds es : List D}, RpA H vs ds → RpA H ws es → RpA H (vs ++ ws) (ds ++ es)
  | _, _, _, _, .nil, s => s
  | _, _, _, _, .cons r t, s => .cons r (RpA.append t s)
theorem RpA.one {v : V} {d : D} (r : Rp H v d) : RpA H [v] [d] := .cons r .nil
theorem RpA.get : ∀ {vs : List V} {ds : List D} {i : Nat} {d : D}, RpA H vs ds → ds[i]? = some d → ∃ v, vs[i]? = some v ∧ Rp H v d
  | _, _, _, _, .nil, e => by simp at e
  | _, _, 0, _, .cons r _, e => by simp at e; subst e; exact ⟨_, rfl, r⟩
  | _, _, i + 1, _, .cons _ t, e => by
    obtain ⟨v, h1, h2⟩ := RpA.get (i := i) t (by simpa using e)
    exact ⟨v, by simpa using h1, h2⟩
theorem RpA.getV : ∀ {vs : List V} {ds : List D} {i : Nat} {v : V}, RpA H vs ds → vs[i]? = some v → ∃ d, ds[i]? = some d ∧ Rp H v d
  | _, _, _, _, .nil, e => by simp at e
  | _, _, 0, _, .cons r _, e => by simp at e; subst e; exact ⟨_, rfl, r⟩
  | _, _, i + 1, _, .cons _ t, e => by
    obtain ⟨v, h1, h2⟩ := RpA.getV (i := i) t (by simpa using e)
    exact ⟨v, by simpa using h1, h2⟩
theorem RpA.take : ∀ {vs : List V} {ds : List D} (n : Nat), RpA H vs ds → RpA H (vs.take n) (ds.take n)
  | _, _, 0, _ => .nil
  | _, _, _ + 1, .nil => .nil
  | _, _, n + 1, .cons r t => .cons r (RpA.take n t)
theorem RpA.drop : ∀ {vs : List V} {ds : List D} (n : Nat), RpA H vs ds → RpA H (vs.drop n) (ds.drop n)
  | _, _, 0, r => r
  | _, _, _ + 1, .nil => .nil
  | _, _, n + 1, .cons _ t => RpA.drop n t
theorem RpA.reverse {vs : List V} {ds : List D} (h : RpA H vs ds) : RpA H vs.reverse ds.reverse := by
  induction h using RpA.rec (motive_1 := fun _ _ _ => True) <;> try trivial
  · exact .nil
  · rename_i r _ _ ih
    rw [List.reverse_cons, List.reverse_cons]
    exact ih.append (.one r)
theorem RpA.set {v : V} {d : D} (r : Rp H v d) : ∀ {vs : List V} {ds : List D} (i : Nat), RpA H vs ds → RpA H (vs.set i v) (ds.set i d)
  | _, _, _, .nil => .nil
  | _, _, 0, .cons _ t => .cons r t
  | _, _, i + 1, .cons q t => .cons q (RpA.set r i t)
theorem Rp.sc {d : D} {v : V} (h : Rp H v d) (s : isSc d = true) : Rp H' v d := by
  cases h with
  | non => exact .non
  | bl b => exact .bl b
  | int i => exact .int i
  | str x => exact .str x
  | lst _ _ => cases s
  | tup _ _ => cases s
theorem RpA.sc : ∀ {ds : List D} {vs : List V}, RpA H vs ds → ds.all isSc = true → RpA H' vs ds
  | [], _, h, _ => by cases h; exact .nil
  | _ :: _, _, h, s => by
    cases h with
    | cons a b =>
      rw [List.all_cons, Bool.and_eq_true] at s
      exact .cons (Rp.sc a s.1) (RpA.sc b s.2)
mutual
theorem Rp.dp {K : PySem.W.Frag} : ∀ {d : D} {v : V}, Rp H v d → Dp K H v d
  | .none, _, h => by cases h; exact .non
  | .bool _, _, h => by cases h; exact .bl _
  | .int _, _, h => by cases h; exact .int _
  | .str _, _, h => by cases h; exact .str _
  | .list _, _, h => by
    cases h with
    | lst r a => exact .lst (.inl r) (RpA.dp a)
  | .tuple _, _, h => by
    cases h with
    | tup r a => exact .tup (.inl (.inl r)) (RpA.dp a)
  | .dict _, _, h => by cases h
theorem RpA.dp {K : PySem.W.Frag} : ∀ {ds : List D} {vs : List V}, RpA H vs ds → DpAll K H vs ds
  | [], _, h => by cases h; exact .nil
  | _ :: _, _, h => by
    cases h with
    | cons a b => exact .cons (Rp.dp a) (RpA.dp b)
end
theorem Rp.intV {v : V} {i : Int} (h : Rp H v (.int i)) : v = .int i := by cases h; rfl
theorem Rp.blV {v : V} {b : Bool} (h : Rp H v (.bool b)) : v = .bl b := by cases h; rfl
theorem Rp.strV {v : V} {x : Str} (h : Rp H v (.str x)) : v = .str x := by cases h; rfl
theorem Rp.nonV {v : V} (h : Rp H v .none) : v = .non := by cases h; rfl
theorem RpA.ints : ∀ {ds : List D} {vs : List V} {ns : List Int}, RpA H vs ds → intsD ds = some ns → vs = ns.map V.int
  | [], _, _, h, e => by
    cases h
    have e' : some [] = some _ := e
    cases e'
    rfl
  | d :: ds, _, _, h, e => by
    cases h with
    | cons a b =>
      cases d with
      | int i =>
        have e' : (intsD ds).map (i :: ·) = some _ := e
        cases q : intsD ds with
        | none => rw [q] at e'; cases e'
        | some ms =>
          rw [q] at e'
          cases e'
          rw [a.intV, RpA.ints b q]
          rfl
      | _ => cases e
theorem RpA.bls : ∀ {ds : List D} {vs : List V} {ns : List Bool}, RpA H vs ds → boolsD ds = some ns → vs = ns.map V.bl
  | [], _, _, h, e => by
    cases h
    have e' : some [] = some _ := e
    cases e'
    rfl
  | d :: ds, _, _, h, e => by
    cases h with
    | cons a b =>
      cases d with
      | bool i =>
        have e' : (boolsD ds).map (i :: ·) = some _ := e
        cases q : boolsD ds with
        | none => rw [q] at e'; cases e'
        | some ms =>
          rw [q] at e'
          cases e'
          rw [a.blV, RpA.bls b q]
          rfl
      | _ => cases e
theorem Rp.key {v : V} {d : D} {k : Key} (h : Rp H v d) (e : keyOf d = some k) : v = kV k := by
  cases h with
  | int i => cases e; rfl
  | str x => cases e; rfl
  | _ => cases e
theorem RpA.keys : ∀ {ds : List D} {vs : List V} {ks : List Key}, RpA H vs ds → keysOf ds = some ks → vs = ks.map kV
  | [], _, _, h, e => by
    cases h
    have e' : some [] = some _ := e
    cases e'
    rfl
  | d :: ds, _, _, h, e => by
    cases h with
    | cons a b =>
      have e' : ((keyOf d).bind fun k => (keysOf ds).map fun ks => k :: ks) = some _ := e
      cases q : keyOf d with
      | none => rw [q] at e'; cases e'
      | some k =>
        cases q2 : keysOf ds with
        | none => rw [q, q2] at e'; cases e'
        | some ks =>
          rw [q, q2] at e'
          cases e'
          rw [a.key q, RpA.keys b q2]
          rfl
end

/-! ### pairs of a dict -/
def RpK {κ : Type} (H : Hp) : List (κ × V) → List (κ × D) → Prop := Paired fun p q => p.1 = q.1 ∧ Rp H p.2 q.2
theorem RpK.mono {κ : Type} {H H' : Hp} (s : Same H H') {vs : List (κ × V)} {ds : List (κ × D)} (h : RpK H vs ds) : RpK H' vs ds := Paired.mapP h fun _ _ z => ⟨z.1, z.2.mono s⟩
theorem RpK.length {κ : Type} {H : Hp} {vs : List (κ × V)} {ds : List (κ × D)} (h : RpK H vs ds) : vs.length = ds.length := Paired.length h
section
variable {κ : Type} [DecidableEq κ] {H : Hp}
theorem RpK.val : ∀ {vs : List (κ × V)} {ds : List (κ × D)} (k : κ), RpK H vs ds → (∃ v d, valV vs k = some v ∧ valD ds k = some d ∧ Rp H v d) ∨ (valV vs k = none ∧ valD ds k = none)
  | _, _, k, .nil => .inr ⟨rfl, rfl⟩
  | _, _, k, .cons (a := p) (b := q) r t => by
    obtain ⟨e, r⟩ := r
    by_cases h : p.1 = k
    · refine .inl ⟨p.2, q.2, valV_pos h, ?_, r⟩
      have h2 : q.1 = k := e ▸ h
      simp [valD, List.find?_cons, h2]
    · have h2 : ¬ q.1 = k := e ▸ h
      rw [valV_neg h]
      rcases RpK.val k t with ⟨v, d, a, b, c⟩ | ⟨a, b⟩
      · refine .inl ⟨v, d, a, ?_, c⟩
        unfold valD at b ⊢
        rw [List.find?_cons]
        simp only [h2, decide_false]
        exact b
      · refine .inr ⟨a, ?_⟩
        unfold valD at b ⊢
        rw [List.find?_cons]
        simp only [h2, decide_false]
        exact b
theorem RpK.any : ∀ {vs : List (κ × V)} {ds : List (κ × D)} (k : κ), RpK H vs ds → (vs.any fun kv => decide (kv.1 = k)) = ds.any fun kv => decide (kv.1 = k)
  | _, _, k, .nil => rfl
  | _, _, k, .cons r t => by rw [List.any_cons, List.any_cons, RpK.any k t, r.1]
theorem RpK.repl {v : V} {d : D} (r : Rp H v d) (k : κ) : ∀ {vs : List (κ × V)} {ds : List (κ × D)}, RpK H vs ds → RpK H (vs.map fun kv => if kv.1 = k then (kv.1, v) else kv) (ds.map fun kv => if kv.1 = k then (kv.1, d) else kv)
  | _, _, .nil => .nil
  | _, _, .cons (a := p) (b := q) z t => by
    rw [List.map_cons, List.map_cons]
    refine .cons ?_ (RpK.repl r k t)
    by_cases h : p.1 = k
    · have h2 : q.1 = k := z.1 ▸ h
      rw [if_pos h, if_pos h2]
      exact ⟨z.1, r⟩
    · have h2 : ¬ q.1 = k := z.1 ▸ h
      rw [if_neg h, if_neg h2]
      exact z
theorem Paired.app {α β : Type} {F : α → β → Prop} : ∀ {l₁ m₁ : List α} {l₂ m₂ : List β}, Paired F l₁ l₂ → Paired F m₁ m₂ → Paired F (l₁ ++ m₁) (l₂ ++ m₂)
  | _, _, _, _, .nil, s => s
  | _, _, _, _, .cons r t, s => .cons r (Paired.app t s)
theorem RpK.put {v : V} {d : D} (r : Rp H v d) (k : κ) {vs : List (κ × V)} {ds : List (κ × D)} (h : RpK H vs ds) : RpK H (putK vs k v) (putD ds k d) := by
  unfold putK putD
  rw [RpK.any k h]
  split
  · exact RpK.repl r k h
  · exact Paired.app h (.cons ⟨rfl, r⟩ .nil)
end

/-! ### cells -/
theorem rd_mono {R R' : Hp} {a : Addr} {u : HO} (s : Same R R') (h : Rd R a u) : Rd R' a u := h.elim (fun z => .inl (s _ _ z)) fun ⟨o, z⟩ => .inr ⟨o, s _ _ z⟩
theorem rd_dK {R : Hp} {a : Addr} {vs ws : List (Key × V)} (h : Rd R a (.dK vs)) (h' : Rd R a (.dK ws)) : vs = ws := by
  rcases h with h | ⟨o, h⟩ <;> rcases h' with h' | ⟨o', h'⟩ <;> (rw [h] at h'; cases h' <;> rfl)
theorem rd_dT {R : Hp} {a : Addr} {vs ws : List (List Key × V)} (h : Rd R a (.dT vs)) (h' : Rd R a (.dT ws)) : vs = ws := by
  rcases h with h | ⟨o, h⟩ <;> rcases h' with h' | ⟨o', h'⟩ <;> (rw [h] at h'; cases h' <;> rfl)
abbrev Kx := Nat ⊕ Nat
abbrev Cell := Option V × C
section
variable (T : Glob) (mg : Str → Option Value)
/-- an instance: its class, its attributes so far -/
def ObjAt (R G : Hp) (a : Addr) (c : Nat) (fs : List D) : Prop :=
  ∃ (Cx dx : Addr) (gs : List (Str × V)) (nm : Str) (fl : List Str), T.cls[c]? = some (nm, fl) ∧ mg nm = some (.ref Cx) ∧ R a = some (.ins Cx dx gs) ∧ gs.map (·.1) = fl.take fs.length ∧ RpA G (gs.map (·.2)) fs
/-- a thing that lies in R whole -/
def RX (R : Hp) (v : V) : Tx → Prop
  | .py d => Rp R v d
  | .dik kvs => ∃ a vs, v = .ref a ∧ Rd R a (.dK vs) ∧ RpK R vs kvs
  | .dit kvs => ∃ a vs, v = .ref a ∧ Rd R a (.dT vs) ∧ RpK R vs kvs
  | .obj c fs => ∃ a, v = .ref a ∧ ObjAt T mg R R a c fs
  | .lls xss => Rp R v (.list (xss.map .list))
/-- an own thing: its top at a, what it holds in G; Wn: what its holder owns -/
def OX (Wn : Addr → Prop) (G H : Hp) (a : Addr) : Tx → Prop
  | .py (.list ds) => ∃ vs, H a = some (.lst vs) ∧ RpA G vs ds
  | .py _ => False
  | .dik kvs => ∃ vs, H a = some (.dK vs) ∧ RpK G vs kvs
  | .dit kvs => ∃ vs, H a = some (.dT vs) ∧ RpK G vs kvs
  | .obj c fs => ObjAt T mg H G a c fs
  | .lls xss => ∃ bs : List Addr, H a = some (.lst (bs.map V.ref)) ∧ bs.Nodup ∧ (∀ b ∈ bs, b ≠ a ∧ Wn b) ∧ Paired (fun b xs => ∃ vs, H b = some (.lst vs) ∧ RpA G vs xs) bs xss
/-- an exception object of the class cls at a -/
def ExV (cls : Value) (a : Addr) : HO := .ext fun h => ∃ (oe : Obj) (vs : Array Value), h.get? a = some oe ∧ Zc cls none oe ∧ oe.data = .fields vs
def ExAt (R : Hp) (v : V) (n : Nat) : Prop := ∃ (a Cx : Addr) (nm : Str), v = .ref a ∧ T.exs[n]? = some nm ∧ mg nm = some (.ref Cx) ∧ R a = some (ExV (.ref Cx) a)
/-- what a cell says; ow: whose an address is -/
def Cel (ow : Addr → Option Kx) (cell : Kx → Option Cell) (k : Kx) (G B H : Hp) (v : Option V) : C → Prop
  | .und => True
  | .fro x => ∃ u, v = some u ∧ RX T mg G u x
  | .bor x => ∃ u, v = some u ∧ RX T mg B u x
  | .own x => ∃ a, v = some (.ref a) ∧ ow a = some k ∧ OX T mg (fun b => ow b = some k) G H a x
  | .lkd x => ∃ a, v = some (.ref a) ∧ ow a = some k ∧ OX T mg (fun b => ow b = some k) G H a x
  | .exc n => ∃ u, v = some u ∧ ExAt T mg G u n
  | .pk i => ∃ u, v = some u ∧ ∀ w x, (cell (.inl i) = some (w, .own x) ∨ cell (.inl i) = some (w, .lkd x)) → w = some u
def cel (σ : St) (ρ : List C) (ts : List Cell) : Kx → Option Cell
  | .inl i => match σ[i]?, ρ[i]? with
    | some v, some c => some (v, c)
    | _, _ => none
  | .inr j => ts[j]?
structure SRx (H0 G0 : Hp) (Fx : List (Nat × V)) (ow : Addr → Option Kx) (G B : Hp) (σ : St) (ρ : List C) (ts : List Cell) (H : Hp) : Prop where
  len : σ.length = ρ.length
  g0 : Same G0 G
  new : ∀ b o, G b = some o → G0 b = some o ∨ H0 b = none
  h0 : Same H0 B
  gb : Same G B
  bh : Same B H
  nb : ∀ b k, ow b = some k → B b = none
  live : ∀ b k, ow b = some k → ∃ o, H b = some o
  npk : ∀ (i j : Nat), ρ[i]? ≠ some (C.pk j)
  rel : ∀ k v c, cel σ ρ ts k = some (v, c) → Cel T mg ow (cel σ ρ ts) k G B H v c
  fix : ∀ p ∈ Fx, σ[p.1]? = some (some p.2)
def SR (H0 G0 : Hp) (Fx : List (Nat × V)) (σ : St) (ρ : List C) (ts : List Cell) (H : Hp) : Prop := ∃ ow G B, SRx T mg H0 G0 Fx ow G B σ ρ ts H
end
section
variable {T : Glob} {mg : Str → Option Value}
theorem ObjAt.mono {R R' G G' : Hp} {a : Addr} {c : Nat} {fs : List D} (h : ObjAt T mg R G a c fs) (s : ∀ o, R a = some o → R' a = some o) (g : Same G G') : ObjAt T mg R' G' a c fs := by
  obtain ⟨Cx, dx, gs, nm, fl, h1, h2, h3, h4, h5⟩ := h
  exact ⟨Cx, dx, gs, nm, fl, h1, h2, s _ h3, h4, h5.mono g⟩
theorem RX.mono {R R' : Hp} {v : V} {x : Tx} (s : Same R R') (h : RX T mg R v x) : RX T mg R' v x := by
  cases x with
  | py d => exact Rp.mono s h
  | dik kvs =>
    obtain ⟨a, vs, e, h1, h2⟩ := h
    exact ⟨a, vs, e, rd_mono s h1, h2.mono s⟩
  | dit kvs =>
    obtain ⟨a, vs, e, h1, h2⟩ := h
    exact ⟨a, vs, e, rd_mono s h1, h2.mono s⟩
  | obj c fs =>
    obtain ⟨a, e, h1⟩ := h
    exact ⟨a, e, h1.mono (s a) s⟩
  | lls xss => exact Rp.mono s h
theorem Paired.mem {α β : Type} {F G : α → β → Prop} : ∀ {l : List α} {m : List β}, Paired F l m → (∀ a ∈ l, ∀ b, F a b → G a b) → Paired G l m
  | [], _, .nil, _ => .nil
  | a :: l, _, .cons h t, f => .cons (f a List.mem_cons_self _ h) (Paired.mem t fun b hb c hc => f b (List.mem_cons_of_mem _ hb) c hc)
theorem OX.mono {Wn Wn' : Addr → Prop} {G G' H H' : Hp} {a : Addr} {x : Tx} (h : OX T mg Wn G H a x) (wa : Wn a) (s : ∀ b, Wn b → ∀ o, H b = some o → H' b = some o) (ww : ∀ b, Wn b → Wn' b) (g : Same G G') : OX T mg Wn' G' H' a x := by
  have s0 := s
  have s := s a wa
  cases x with
  | lls xss =>
    obtain ⟨bs, h1, h2, h3, h4⟩ := h
    exact ⟨bs, s _ h1, h2, fun b hb => ⟨(h3 b hb).1, ww b (h3 b hb).2⟩, Paired.mem h4 fun b hb xs ⟨vs, q1, q2⟩ => ⟨vs, s0 b (h3 b hb).2 _ q1, q2.mono g⟩⟩
  | py d =>
    cases d with
    | list ds =>
      obtain ⟨vs, h1, h2⟩ := h
      exact ⟨vs, s _ h1, h2.mono g⟩
    | _ => exact h.elim
  | dik kvs =>
    obtain ⟨vs, h1, h2⟩ := h
    exact ⟨vs, s _ h1, h2.mono g⟩
  | dit kvs =>
    obtain ⟨vs, h1, h2⟩ := h
    exact ⟨vs, s _ h1, h2.mono g⟩
  | obj c fs => exact ObjAt.mono h s g
/-- an own thing, looked at where it lies -/
theorem paired_lists {G R : Hp} (g : Same G R) : ∀ {bs : List Addr} {xss : List (List D)}, Paired (fun b xs => ∃ vs, R b = some (.lst vs) ∧ RpA G vs xs) bs xss → RpA R (bs.map V.ref) (xss.map .list)
  | [], _, .nil => .nil
  | _ :: _, _, .cons ⟨_, q1, q2⟩ t => .cons (Rp.lst (.inl q1) (q2.mono g)) (paired_lists g t)
theorem OX.view {Wn : Addr → Prop} {G H : Hp} {a : Addr} {x : Tx} (h : OX T mg Wn G H a x) (g : Same G H) : RX T mg H (.ref a) x := by
  cases x with
  | lls xss =>
    obtain ⟨bs, h1, h2, h3, h4⟩ := h
    exact Rp.lst (.inl h1) (paired_lists g h4)
  | py d =>
    cases d with
    | list ds =>
      obtain ⟨vs, h1, h2⟩ := h
      exact Rp.lst (.inl h1) (h2.mono g)
    | _ => exact h.elim
  | dik kvs =>
    obtain ⟨vs, h1, h2⟩ := h
    exact ⟨a, vs, rfl, .inl h1, h2.mono g⟩
  | dit kvs =>
    obtain ⟨vs, h1, h2⟩ := h
    exact ⟨a, vs, rfl, .inl h1, h2.mono g⟩
  | obj c fs => exact ⟨a, rfl, ObjAt.mono h (fun _ z => z) g⟩
theorem OX.at {Wn : Addr → Prop} {G H : Hp} {a : Addr} {x : Tx} (h : OX T mg Wn G H a x) : ∃ o, H a = some o := by
  cases x with
  | lls xss =>
    obtain ⟨bs, h1, h2, h3, h4⟩ := h
    exact ⟨_, h1⟩
  | py d =>
    cases d with
    | list ds =>
      obtain ⟨vs, h1, h2⟩ := h
      exact ⟨_, h1⟩
    | _ => exact h.elim
  | dik kvs =>
    obtain ⟨vs, h1, h2⟩ := h
    exact ⟨_, h1⟩
  | dit kvs =>
    obtain ⟨vs, h1, h2⟩ := h
    exact ⟨_, h1⟩
  | obj c fs =>
    obtain ⟨Cx, dx, gs, nm, fl, h1, h2, h3, h4, h5⟩ := h
    exact ⟨_, h3⟩
theorem ExAt.mono {R R' : Hp} {v : V} {n : Nat} (s : Same R R') (h : ExAt T mg R v n) : ExAt T mg R' v n := by
  obtain ⟨a, Cx, nm, h1, h2, h3, h4⟩ := h
  exact ⟨a, Cx, nm, h1, h2, h3, s _ _ h4⟩
/-- an own thing put into the kept region -/
theorem OX.frozen {Wn : Addr → Prop} {G G' H : Hp} {a : Addr} {x : Tx} (h : OX T mg Wn G H a x) (wa : Wn a) (s : Same G G') (f : ∀ b, Wn b → G' b = H b) : RX T mg G' (.ref a) x := by
  have fa := f a wa
  cases x with
  | lls xss =>
    obtain ⟨bs, h1, h2, h3, h4⟩ := h
    exact Rp.lst (.inl (by rw [fa]; exact h1)) (paired_lists s (Paired.mem h4 fun b hb xs ⟨vs, q1, q2⟩ => ⟨vs, by rw [f b (h3 b hb).2]; exact q1, q2⟩))
  | py d =>
    cases d with
    | list ds =>
      obtain ⟨vs, h1, h2⟩ := h
      exact Rp.lst (.inl (by rw [fa]; exact h1)) (h2.mono s)
    | _ => exact h.elim
  | dik kvs =>
    obtain ⟨vs, h1, h2⟩ := h
    exact ⟨a, vs, rfl, .inl (by rw [fa]; exact h1), h2.mono s⟩
  | dit kvs =>
    obtain ⟨vs, h1, h2⟩ := h
    exact ⟨a, vs, rfl, .inl (by rw [fa]; exact h1), h2.mono s⟩
  | obj c fs =>
    obtain ⟨Cx, dx, gs, nm, fl, h1, h2, h3, h4, h5⟩ := h
    exact ⟨a, rfl, Cx, dx, gs, nm, fl, h1, h2, by rw [fa]; exact h3, h4, h5.mono s⟩

/-! ### cells by place -/
theorem cel_inl {σ : St} {ρ : List C} {ts : List Cell} {i : Nat} {v : Option V} {c : C} : cel σ ρ ts (.inl i) = some (v, c) ↔ σ[i]? = some v ∧ ρ[i]? = some c := by
  cases h1 : σ[i]? <;> cases h2 : ρ[i]? <;> simp [cel, h1, h2]
theorem cel_inr {σ : St} {ρ : List C} {ts : List Cell} {j : Nat} : cel σ ρ ts (.inr j) = ts[j]? := rfl

section
variable {H0 G0 G B H H' : Hp} {Fx : List (Nat × V)} {ow : Addr → Option Kx} {σ : St} {ρ : List C} {ts as : List Cell} {v : V} {c : C} {x : Tx}

theorem SRx.gh (S : SRx T mg H0 G0 Fx ow G B σ ρ ts H) : Same G H := S.gb.trans S.bh
theorem SRx.h0h (S : SRx T mg H0 G0 Fx ow G B σ ρ ts H) : Same H0 H := S.h0.trans S.bh
theorem SR.h0h (S : SR T mg H0 G0 Fx σ ρ ts H) : Same H0 H := let ⟨_, _, _, S⟩ := S; S.h0h

/-- what is seen of a cell -/
theorem SRx.look (S : SRx T mg H0 G0 Fx ow G B σ ρ ts H) {k : Kx} {v : Option V} (h : cel σ ρ ts k = some (v, c)) (l : look ρ c = some x) : ∃ u, v = some u ∧ RX T mg H u x := by
  have r := S.rel k v c h
  cases c with
  | und => cases l
  | exc n => cases l
  | fro y => cases l; obtain ⟨u, e, r⟩ := r; exact ⟨u, e, r.mono S.gh⟩
  | bor y => cases l; obtain ⟨u, e, r⟩ := r; exact ⟨u, e, r.mono S.bh⟩
  | own y => cases l; obtain ⟨a, e, _, r⟩ := r; exact ⟨_, e, r.view S.gh⟩
  | lkd y => cases l; obtain ⟨a, e, _, r⟩ := r; exact ⟨_, e, r.view S.gh⟩
  | pk i =>
    obtain ⟨u, e, r⟩ := r
    have l' : (match ρ[i]? with | some (.own x) => some x | some (.lkd x) => some x | _ => none) = some x := l
    cases q : ρ[i]? with
    | none => rw [q] at l'; cases l'
    | some c' =>
      rw [q] at l'
      have hi : i < σ.length := by rw [S.len]; exact (List.getElem?_eq_some_iff.mp q).1
      have hs : σ[i]? = some σ[i] := List.getElem?_eq_getElem hi
      cases c' with
      | own y =>
        cases l'
        have hc : cel σ ρ ts (.inl i) = some (σ[i], .own x) := cel_inl.mpr ⟨hs, q⟩
        have e2 := r _ _ (.inl hc)
        obtain ⟨a, e3, _, r3⟩ := S.rel _ _ _ hc
        rw [e2] at e3
        cases e3
        exact ⟨_, e, r3.view S.gh⟩
      | lkd y =>
        cases l'
        have hc : cel σ ρ ts (.inl i) = some (σ[i], .lkd x) := cel_inl.mpr ⟨hs, q⟩
        have e2 := r _ _ (.inr hc)
        obtain ⟨a, e3, _, r3⟩ := S.rel _ _ _ hc
        rw [e2] at e3
        cases e3
        exact ⟨_, e, r3.view S.gh⟩
      | _ => cases l'

/-- the general step of the cells: the regions may grow; each new cell says what it should, or comes of an old one -/
theorem SRx.step {ow' : Addr → Option Kx} {G' B' H' : Hp} {σ' : St} {ρ' : List C} {ts' : List Cell} (S : SRx T mg H0 G0 Fx ow G B σ ρ ts H)
    (len : σ'.length = ρ'.length) (fix : ∀ p ∈ Fx, σ'[p.1]? = some (some p.2)) (gg : Same G G') (ng : ∀ b o, G' b = some o → G b = some o ∨ H0 b = none) (bb : Same B B') (gb : Same G' B') (bh : Same B' H')
    (nb : ∀ b k, ow' b = some k → B' b = none) (live : ∀ b k, ow' b = some k → ∃ o, H' b = some o) (npk : ∀ (i j : Nat), ρ'[i]? ≠ some (C.pk j)) (rel : ∀ k v c, cel σ' ρ' ts' k = some (v, c) → Cel T mg ow' (cel σ' ρ' ts') k G' B' H' v c) : SRx T mg H0 G0 Fx ow' G' B' σ' ρ' ts' H' :=
  ⟨len, S.g0.trans gg, fun b o e => by
    rcases ng b o e with z | z
    · exact S.new b o z
    · exact .inr z, S.h0.trans bb, gb, bh, nb, live, npk, rel, fix⟩
/-- a cell in grown regions -/
theorem Cel.grow {ow' : Addr → Option Kx} {cell cell' : Kx → Option Cell} {k k' : Kx} {v : Option V} {G' B' : Hp} (h : Cel T mg ow cell k G B H v c) (gg : Same G G') (bb : Same B B') (hh : ∀ a o, ow a = some k → (∃ x, c = .own x ∨ c = .lkd x) → H a = some o → H' a = some o)
    (oo : ∀ a, ow a = some k → (∃ x, c = .own x ∨ c = .lkd x) → ow' a = some k') (pp : ∀ i, c = .pk i → ∀ w x, (cell' (.inl i) = some (w, .own x) ∨ cell' (.inl i) = some (w, .lkd x)) → ∃ y, cell (.inl i) = some (w, .own y) ∨ cell (.inl i) = some (w, .lkd y)) : Cel T mg ow' cell' k' G' B' H' v c := by
  cases c with
  | und => trivial
  | fro y => obtain ⟨u, e, r⟩ := h; exact ⟨u, e, r.mono gg⟩
  | bor y => obtain ⟨u, e, r⟩ := h; exact ⟨u, e, r.mono bb⟩
  | own y => obtain ⟨a, e, o, r⟩ := h; exact ⟨a, e, oo a o ⟨y, .inl rfl⟩, r.mono o (fun b ob u z => hh b u ob ⟨y, .inl rfl⟩ z) (fun b ob => oo b ob ⟨y, .inl rfl⟩) gg⟩
  | lkd y => obtain ⟨a, e, o, r⟩ := h; exact ⟨a, e, oo a o ⟨y, .inr rfl⟩, r.mono o (fun b ob u z => hh b u ob ⟨y, .inr rfl⟩ z) (fun b ob => oo b ob ⟨y, .inr rfl⟩) gg⟩
  | exc n => obtain ⟨u, e, r⟩ := h; exact ⟨u, e, r.mono gg⟩
  | pk i =>
    obtain ⟨u, e, r⟩ := h
    refine ⟨u, e, fun w x z => ?_⟩
    obtain ⟨y, z'⟩ := pp i rfl w x z
    exact r w y z'

/-- a temp more, that owns nothing -/
theorem SRx.push (S : SRx T mg H0 G0 Fx ow G B σ ρ ts H) {v : Option V} (hc : ∀ k, Cel T mg (fun _ => none) (cel σ ρ (ts ++ [(v, c)])) k G B H v c) : SRx T mg H0 G0 Fx ow G B σ ρ (ts ++ [(v, c)]) H := by
  refine S.step S.len S.fix (Same.refl _) (fun b o e => .inl e) (Same.refl _) S.gb S.bh S.nb S.live S.npk fun k w c' e => ?_
  have old : cel σ ρ ts k = some (w, c') → Cel T mg ow (cel σ ρ (ts ++ [(v, c)])) k G B H w c' := fun e =>
    (S.rel k w c' e).grow (Same.refl _) (Same.refl _) (fun _ _ _ _ z => z) (fun _ z _ => z) fun i _ w x z => ⟨x, z⟩
  cases k with
  | inl i => exact old e
  | inr j =>
    have e : (ts ++ [(v, c)])[j]? = some (w, c') := e
    by_cases hj : j < ts.length
    · rw [List.getElem?_append_left hj] at e
      exact old e
    · rw [List.getElem?_append_right (by omega)] at e
      have hj0 : j - ts.length = 0 := by
        cases q : j - ts.length with
        | zero => rfl
        | succ m => rw [q] at e; simp at e
      rw [hj0] at e
      simp at e
      obtain ⟨rfl, rfl⟩ := e
      have q := hc (.inr j)
      cases c with
      | own y => obtain ⟨a, _, o, _⟩ := q; cases o
      | lkd y => obtain ⟨a, _, o, _⟩ := q; cases o
      | _ => exact q
/-- fewer temps -/
theorem SRx.drop (S : SRx T mg H0 G0 Fx ow G B σ ρ (ts ++ as) H) : SRx T mg H0 G0 Fx ow G B σ ρ ts H := by
  refine S.step S.len S.fix (Same.refl _) (fun b o e => .inl e) (Same.refl _) S.gb S.bh S.nb S.live S.npk fun k w c' e => ?_
  have e' : cel σ ρ (ts ++ as) k = some (w, c') := by
    cases k with
    | inl i => exact e
    | inr j =>
      have e : ts[j]? = some (w, c') := e
      show (ts ++ as)[j]? = _
      rw [List.getElem?_append_left (List.getElem?_eq_some_iff.mp e).1]
      exact e
  exact (S.rel k w c' e').grow (Same.refl _) (Same.refl _) (fun _ _ _ _ z => z) (fun _ z _ => z) fun i _ w x z => ⟨x, z⟩
theorem SR.drop (S : SR T mg H0 G0 Fx σ ρ (ts ++ as) H) : SR T mg H0 G0 Fx σ ρ ts H := let ⟨ow, G, B, S⟩ := S; ⟨ow, G, B, S.drop⟩
end
end
end Gr

set_option Elab.async false
set_option linter.all false
set_option maxRecDepth 100000
set_option maxHeartbeats 1000000
/-! Gr C: what is done to cells. -/
namespace Gr
open PySem L2
section
variable {T : Glob} {mg : Str → Option Value} {H0 G0 G B H H' : Hp} {Fx : List (Nat × V)} {ow : Addr → Option Kx} {σ : St} {ρ ρ' : List C} {ts as bs : List Cell} {v : V} {c : C} {x y : Tx} {p a : Addr} {o : HO} {k : Kx}

theorem getElem?_mid {α : Type} (l r : List α) (x : α) (j : Nat) : (l ++ x :: r)[j]? = if j < l.length then l[j]? else if j = l.length then some x else r[j - l.length - 1]? := by
  by_cases h : j < l.length
  · rw [if_pos h, List.getElem?_append_left h]
  · rw [if_neg h, List.getElem?_append_right (by omega)]
    by_cases h2 : j = l.length
    · rw [if_pos h2]; subst h2; simp
    · rw [if_neg h2]
      have e : j - l.length = (j - l.length - 1) + 1 := by omega
      rw [e, List.getElem?_cons_succ]
      rfl
/-- a cell at the end -/
theorem cel_snoc {k : Kx} {w : Option V} {c' : C} {d : Cell} (h : cel σ ρ (ts ++ [d]) k = some (w, c')) : (k = .inr ts.length ∧ (w, c') = d) ∨ (k ≠ .inr ts.length ∧ cel σ ρ ts k = some (w, c')) := by
  cases k with
  | inl i => exact .inr ⟨by simp, h⟩
  | inr j =>
    have h : (ts ++ [d])[j]? = some (w, c') := h
    rw [getElem?_mid] at h
    by_cases h1 : j < ts.length
    · rw [if_pos h1] at h
      refine .inr ⟨fun e => ?_, h⟩
      have : j = ts.length := Sum.inr.inj e
      omega
    · rw [if_neg h1] at h
      by_cases h2 : j = ts.length
      · rw [if_pos h2] at h
        cases h
        exact .inl ⟨by rw [h2], rfl⟩
      · rw [if_neg h2] at h
        simp at h
theorem cel_snoc_lt {k : Kx} {w : Option V} {c' : C} {d : Cell} (h : cel σ ρ ts k = some (w, c')) : cel σ ρ (ts ++ [d]) k = some (w, c') := by
  cases k with
  | inl i => exact h
  | inr j =>
    have h : ts[j]? = some (w, c') := h
    show (ts ++ [d])[j]? = _
    rw [List.getElem?_append_left (List.getElem?_eq_some_iff.mp h).1]
    exact h
theorem cel_last {d : Cell} : cel σ ρ (ts ++ [d]) (.inr ts.length) = some d := by
  show (ts ++ [d])[ts.length]? = some d
  simp

theorem SRx.dead (S : SRx T mg H0 G0 Fx ow G B σ ρ ts H) (hp : H p = none) : G p = none ∧ B p = none ∧ H0 p = none ∧ ow p = none := by
  have hb : B p = none := S.bh.free hp
  refine ⟨S.gb.free hb, hb, S.h0.free hb, ?_⟩
  cases q : ow p with
  | none => rfl
  | some k =>
    obtain ⟨o, e⟩ := S.live _ _ q
    rw [hp] at e
    cases e
theorem same_upd (hp : H p = none) : Same H (upd H p o) := fun b u q => by rw [upd_ne (ne_of_none q hp)]; exact q
theorem same_upd2 (s : Same G B) (hp : B p = none) : Same (upd G p o) (upd B p o) := fun b u q => by
  by_cases e : b = p
  · subst e
    rw [upd_same] at q ⊢
    exact q
  · rw [upd_ne e] at q ⊢
    exact s _ _ q
/-- the heap has grown -/
theorem SRx.growH (S : SRx T mg H0 G0 Fx ow G B σ ρ ts H) (s : Same H H') : SRx T mg H0 G0 Fx ow G B σ ρ ts H' := by
  refine S.step S.len S.fix (Same.refl _) (fun b o e => .inl e) (Same.refl _) S.gb (S.bh.trans s) S.nb (fun b k e => ?_) S.npk fun k w c' e => ?_
  · obtain ⟨u, q⟩ := S.live b k e
    exact ⟨u, s _ _ q⟩
  · exact (S.rel k w c' e).grow (Same.refl _) (Same.refl _) (fun _ _ _ _ z => s _ _ z) (fun _ z _ => z) fun i _ w x z => ⟨x, z⟩
/-- a new kept object -/
theorem SRx.allocF (S : SRx T mg H0 G0 Fx ow G B σ ρ ts H) (hp : H p = none) (hx : RX T mg (upd G p o) (.ref p) x) : SRx T mg H0 G0 Fx ow (upd G p o) (upd B p o) σ ρ (ts ++ [(some (.ref p), .fro x)]) (upd H p o) := by
  obtain ⟨g, b, h0, w0⟩ := S.dead hp
  refine S.step S.len S.fix (same_upd g) (fun q u e => ?_) (same_upd b) (same_upd2 S.gb b) (same_upd2 S.bh hp) (fun q k e => ?_) (fun q k e => ?_) S.npk fun k w c' e => ?_
  · by_cases z : q = p
    · subst z; exact .inr h0
    · rw [upd_ne z] at e; exact .inl e
  · rw [upd_ne (fun z => by rw [z, w0] at e; cases e)]
    exact S.nb _ _ e
  · obtain ⟨u, r⟩ := S.live q k e
    exact ⟨u, same_upd hp _ _ r⟩
  · rcases cel_snoc e with ⟨_, z⟩ | ⟨_, z⟩
    · cases z
      exact ⟨_, rfl, hx⟩
    · exact (S.rel k w c' z).grow (same_upd g) (same_upd b) (fun _ _ _ _ z => same_upd hp _ _ z) (fun _ z _ => z) fun i _ w x z => ⟨x, z⟩
/-- a new own object -/
theorem SRx.allocO (S : SRx T mg H0 G0 Fx ow G B σ ρ ts H) (hp : H p = none) (hx : ∀ {Wn}, OX T mg Wn G (upd H p o) p x) :
    SRx T mg H0 G0 Fx (fun b => if b = p then some (.inr ts.length) else ow b) G B σ ρ (ts ++ [(some (.ref p), .own x)]) (upd H p o) := by
  obtain ⟨g, b, h0, w0⟩ := S.dead hp
  refine S.step S.len S.fix (Same.refl _) (fun q u e => .inl e) (Same.refl _) S.gb (S.bh.trans (same_upd hp)) (fun q k e => ?_) (fun q k e => ?_) S.npk fun k w c' e => ?_
  · by_cases z : q = p
    · subst z; exact b
    · rw [if_neg z] at e; exact S.nb _ _ e
  · by_cases z : q = p
    · subst z; exact ⟨o, upd_same⟩
    · rw [if_neg z] at e
      obtain ⟨u, r⟩ := S.live q k e
      exact ⟨u, same_upd hp _ _ r⟩
  · rcases cel_snoc e with ⟨ek, z⟩ | ⟨nk, z⟩
    · cases z
      exact ⟨p, rfl, by rw [ek]; exact if_pos rfl, hx⟩
    · exact (S.rel k w c' z).grow (Same.refl _) (Same.refl _) (fun _ _ _ _ z => same_upd hp _ _ z) (fun a z _ => by
        have : a ≠ p := fun q => by rw [q, w0] at z; cases z
        show (if a = p then _ else ow a) = _
        rw [if_neg this]; exact z) fun i _ w x z => ⟨x, z⟩
/-- an own thing is kept from now on -/
theorem SRx.freeze (S : SRx T mg H0 G0 Fx ow G B σ ρ ts H) (hk : cel σ ρ ts k = some (some (.ref a), .own x)) (len : σ.length = ρ'.length) (npk : ∀ (i j : Nat), ρ'[i]? ≠ some (C.pk j))
    (hc : ∀ k' w c', cel σ ρ' as k' = some (w, c') → (k' ≠ k ∧ cel σ ρ ts k' = some (w, c')) ∨ (w = some (.ref a) ∧ c' = .fro x) ∨ c' = .und) : ∃ ow' G' B', SRx T mg H0 G0 Fx ow' G' B' σ ρ' as H := by
  obtain ⟨a', ea, oa, rx⟩ := S.rel _ _ _ hk
  cases ea
  have bw : ∀ b, ow b = some k → B b = none := fun b e => S.nb _ _ e
  have sg : Same G (fun b => if ow b = some k then H b else G b) := fun b u q => by
    show (if ow b = some k then H b else G b) = _
    rw [if_neg fun z => by have := S.gb _ _ q; rw [bw b z] at this; cases this]; exact q
  have sb : Same B (fun b => if ow b = some k then H b else B b) := fun b u q => by
    show (if ow b = some k then H b else B b) = _
    rw [if_neg fun z => by rw [bw b z] at q; cases q]; exact q
  refine ⟨fun b => if ow b = some k then none else ow b, fun b => if ow b = some k then H b else G b, fun b => if ow b = some k then H b else B b, S.step len S.fix sg (fun q u e => ?_) sb (fun q u e => ?_) (fun q u e => ?_) (fun q k e => ?_) (fun q k e => ?_) npk fun k' w c' e => ?_⟩
  · have e : (if ow q = some k then H q else G q) = some u := e
    by_cases z : ow q = some k
    · exact .inr (S.h0.free (bw q z))
    · rw [if_neg z] at e; exact .inl e
  · have e : (if ow q = some k then H q else G q) = some u := e
    show (if ow q = some k then H q else B q) = some u
    by_cases z : ow q = some k
    · rw [if_pos z] at e ⊢; exact e
    · rw [if_neg z] at e ⊢; exact S.gb _ _ e
  · have e : (if ow q = some k then H q else B q) = some u := e
    by_cases z : ow q = some k
    · rw [if_pos z] at e; exact e
    · rw [if_neg z] at e; exact S.bh _ _ e
  · next k0 =>
    have e : (if ow q = some k0 then none else ow q) = some k := e
    show (if ow q = some k0 then H q else B q) = none
    by_cases z : ow q = some k0
    · rw [if_pos z] at e; cases e
    · rw [if_neg z] at e ⊢; exact S.nb _ _ e
  · next k0 =>
    have e : (if ow q = some k0 then none else ow q) = some k := e
    by_cases z : ow q = some k0
    · rw [if_pos z] at e; cases e
    · rw [if_neg z] at e; exact S.live _ _ e
  · rcases hc k' w c' e with ⟨nk, z⟩ | ⟨rfl, rfl⟩ | rfl
    · refine (S.rel k' w c' z).grow sg sb (fun _ _ _ _ z => z) (fun b q _ => ?_) fun i ei w x z => ?_
      · show (if ow b = some k then none else ow b) = _
        rw [if_neg fun r => nk (Option.some.inj (q.symm.trans r)), q]
      · rcases z with z | z
        · rcases hc _ _ _ z with ⟨_, r⟩ | ⟨_, r⟩ | r
          · exact ⟨x, .inl r⟩
          · cases r
          · cases r
        · rcases hc _ _ _ z with ⟨_, r⟩ | ⟨_, r⟩ | r
          · exact ⟨x, .inr r⟩
          · cases r
          · cases r
    · exact ⟨_, rfl, rx.frozen oa sg fun b hb => if_pos hb⟩
    · trivial
/-- an own thing is changed -/
theorem SRx.mut (S : SRx T mg H0 G0 Fx ow G B σ ρ ts H) (hk : cel σ ρ ts k = some (some (.ref a), .own x)) (len : σ.length = ρ'.length) (npk : ∀ (i j : Nat), ρ'[i]? ≠ some (C.pk j)) (hy : ∀ {Wn}, OX T mg Wn G (upd H a o) a y)
    (hc : ∀ k' w c', cel σ ρ' as k' = some (w, c') → (k' ≠ k ∧ cel σ ρ ts k' = some (w, c')) ∨ (k' = k ∧ w = some (.ref a) ∧ c' = .own y)) : SRx T mg H0 G0 Fx ow G B σ ρ' as (upd H a o) := by
  obtain ⟨a', ea, oa, rx⟩ := S.rel _ _ _ hk
  cases ea
  have ba := S.nb _ _ oa
  refine S.step len S.fix (Same.refl _) (fun q u e => .inl e) (Same.refl _) S.gb (fun q u e => ?_) S.nb (fun q k e => ?_) npk fun k' w c' e => ?_
  · rw [upd_ne (ne_of_none e ba)]; exact S.bh _ _ e
  · by_cases z : q = a
    · subst z; exact ⟨o, upd_same⟩
    · obtain ⟨u, r⟩ := S.live q k e
      exact ⟨u, by rw [upd_ne z]; exact r⟩
  · rcases hc k' w c' e with ⟨nk, z⟩ | ⟨rfl, rfl, rfl⟩
    · refine (S.rel k' w c' z).grow (Same.refl _) (Same.refl _) (fun b u q _ r => ?_) (fun b q _ => q) fun i ei w x z => ?_
      · have : b ≠ a := fun r => by rw [r, oa] at q; exact nk (Option.some.inj q).symm
        rw [upd_ne this]; exact r
      · rcases z with z | z
        · rcases hc _ _ _ z with ⟨_, r⟩ | ⟨rfl, rfl, r⟩
          · exact ⟨x, .inl r⟩
          · exact ⟨_, .inl hk⟩
        · rcases hc _ _ _ z with ⟨_, r⟩ | ⟨_, _, r⟩
          · exact ⟨x, .inr r⟩
          · cases r
    · exact ⟨a, rfl, oa, hy⟩
/-- only some cells, by old ones of the same holding -/
theorem SRx.re {σ' : St} (f : Kx → Kx) (S : SRx T mg H0 G0 Fx ow G B σ ρ ts H) (len : σ'.length = ρ'.length) (fix : ∀ p ∈ Fx, σ'[p.1]? = some (some p.2)) (npk : ∀ (i j : Nat), ρ'[i]? ≠ some (C.pk j))
    (hc : ∀ k w c, cel σ' ρ' as k = some (w, c) → c = .und ∨ (cel σ ρ ts (f k) = some (w, c) ∧ ∀ k2 w2 c2, f k2 = f k → cel σ' ρ' as k2 = some (w2, c2) → (∃ x, c2 = .own x ∨ c2 = .lkd x) → k2 = k))
    (hp : ∀ k w j, cel σ' ρ' as k = some (w, .pk j) → ∀ w2 x, (cel σ' ρ' as (.inl j) = some (w2, .own x) ∨ cel σ' ρ' as (.inl j) = some (w2, .lkd x)) → ∃ y, cel σ ρ ts (.inl j) = some (w2, .own y) ∨ cel σ ρ ts (.inl j) = some (w2, .lkd y)) :
    ∃ ow', SRx T mg H0 G0 Fx ow' G B σ' ρ' as H := by
  -- whose an address is now: the new cell that comes of its old owner
  have own_of : ∀ k, ∃ r : Option Kx, ∀ k2 w2 x, cel σ' ρ' as k2 = some (w2, .own x) ∨ cel σ' ρ' as k2 = some (w2, .lkd x) → f k2 = k → r = some k2 := fun k => by
    by_cases h : ∃ k2 w2 x, (cel σ' ρ' as k2 = some (w2, .own x) ∨ cel σ' ρ' as k2 = some (w2, .lkd x)) ∧ f k2 = k
    · obtain ⟨k2, w2, x, h2, h3⟩ := h
      refine ⟨some k2, fun k3 w3 x3 h4 h5 => ?_⟩
      have h6 : ∃ c3, cel σ' ρ' as k3 = some (w3, c3) ∧ ∃ x, c3 = .own x ∨ c3 = .lkd x := by
        rcases h4 with h4 | h4
        · exact ⟨_, h4, x3, .inl rfl⟩
        · exact ⟨_, h4, x3, .inr rfl⟩
      obtain ⟨c3, e3, z3⟩ := h6
      have h7 : ∃ c2, cel σ' ρ' as k2 = some (w2, c2) ∧ c2 ≠ .und := by
        rcases h2 with h2 | h2
        · exact ⟨_, h2, fun q => by cases q⟩
        · exact ⟨_, h2, fun q => by cases q⟩
      obtain ⟨c2, e2, z2⟩ := h7
      rcases hc _ _ _ e2 with r | ⟨_, r⟩
      · exact absurd r z2
      · rw [r k3 w3 c3 (h5.trans h3.symm) e3 z3]
    · exact ⟨none, fun k3 w3 x3 h4 h5 => absurd ⟨k3, w3, x3, h4, h5⟩ h⟩
  refine ⟨fun b => (ow b).bind fun k => (own_of k).choose, S.step len fix (Same.refl _) (fun q u e => .inl e) (Same.refl _) S.gb S.bh (fun q k e => ?_) (fun q k e => ?_) npk fun k w c e => ?_⟩
  · cases z : ow q with
    | none => rw [z] at e; cases e
    | some k' => exact S.nb _ _ z
  · cases z : ow q with
    | none => rw [z] at e; cases e
    | some k' => exact S.live _ _ z
  · rcases hc k w c e with rfl | ⟨z, _⟩
    · trivial
    · refine (S.rel _ _ _ z).grow (Same.refl _) (Same.refl _) (fun _ _ _ _ z => z) (fun b hb hx => ?_) fun i ei w2 x2 z2 => ?_
      · show (ow b).bind _ = _
        rw [hb]
        obtain ⟨x, hx⟩ := hx
        exact (own_of (f k)).choose_spec k w x (hx.elim (fun q => .inl (by rw [← q]; exact e)) fun q => .inr (by rw [← q]; exact e)) rfl
      · subst ei
        exact hp k w i e w2 x2 z2

/-! ### in short -/
theorem npk_set {i : Nat} {c : C} (h : ∀ (i j : Nat), ρ[i]? ≠ some (C.pk j)) (hc : ∀ j, c ≠ .pk j) : ∀ (k j : Nat), (ρ.set i c)[k]? ≠ some (C.pk j) := fun k j e => by
  by_cases z : i = k
  · subst z
    by_cases hl : i < ρ.length
    · rw [List.getElem?_set_self hl] at e
      exact hc j (Option.some.inj e)
    · rw [List.getElem?_eq_none (by simpa using hl)] at e
      cases e
  · rw [List.getElem?_set_ne z] at e
    exact h k j e
theorem cel_set_ne {i : Nat} {σ' : St} {k : Kx} (hk : k ≠ .inl i) {u : Option V} : cel (σ.set i u) (ρ.set i c) ts k = cel σ ρ ts k := by
  cases k with
  | inl j =>
    have : i ≠ j := fun e => hk (by rw [e])
    show (match (σ.set i u)[j]?, (ρ.set i c)[j]? with | some v, some c => some (v, c) | _, _ => none) = _
    rw [List.getElem?_set_ne this, List.getElem?_set_ne this]
    rfl
  | inr j => rfl
theorem cel_set_ne' {i : Nat} {k : Kx} (hk : k ≠ .inl i) : cel σ (ρ.set i c) ts k = cel σ ρ ts k := by
  cases k with
  | inl j =>
    have : i ≠ j := fun e => hk (by rw [e])
    show (match σ[j]?, (ρ.set i c)[j]? with | some v, some c => some (v, c) | _, _ => none) = _
    rw [List.getElem?_set_ne this]
    rfl
  | inr j => rfl
theorem cel_mid {k : Kx} {w : Option V} {c' : C} {d e : Cell} (h : cel σ ρ (ts ++ d :: as) k = some (w, c')) (hk : k ≠ .inr ts.length) : cel σ ρ (ts ++ e :: as) k = some (w, c') := by
  cases k with
  | inl i => exact h
  | inr j =>
    have h : (ts ++ d :: as)[j]? = some (w, c') := h
    show (ts ++ e :: as)[j]? = some (w, c')
    have hj : j ≠ ts.length := fun e => hk (by rw [e])
    rw [getElem?_mid, if_neg hj] at h
    rw [getElem?_mid, if_neg hj]
    exact h
theorem cel_mid_at {d : Cell} : cel σ ρ (ts ++ d :: as) (.inr ts.length) = some d := by
  show (ts ++ d :: as)[ts.length]? = some d
  simp
/-- a temp is kept from now on -/
theorem SR.fz (S : SR T mg H0 G0 Fx σ ρ (ts ++ (some v, c) :: as) H) (h : fz ρ c = some (x, ρ')) : SR T mg H0 G0 Fx σ ρ' (ts ++ (some v, .fro x) :: as) H := by
  obtain ⟨ow, G, B, S⟩ := S
  cases c with
  | fro y => cases h; exact ⟨ow, G, B, S⟩
  | own y =>
    cases h
    have hk : cel σ ρ (ts ++ (some v, .own x) :: as) (.inr ts.length) = some (some v, .own x) := cel_mid_at
    obtain ⟨a, ea, _, _⟩ := S.rel _ _ _ hk
    cases ea
    refine S.freeze hk S.len S.npk fun k' w c' e => ?_
    by_cases z : k' = .inr ts.length
    · subst z
      rw [cel_mid_at] at e
      cases e
      exact .inr (.inl ⟨rfl, rfl⟩)
    · exact .inl ⟨z, cel_mid e z⟩
  | pk i =>
    have h' : (match ρ[i]? with | some (.own x) => some (x, ρ.set i (.fro x)) | _ => none) = some (x, ρ') := h
    cases q : ρ[i]? with
    | none => rw [q] at h'; cases h'
    | some c' =>
      rw [q] at h'
      cases c' with
      | own y =>
        cases h'
        have hi : i < σ.length := by rw [S.len]; exact (List.getElem?_eq_some_iff.mp q).1
        have hs : σ[i]? = some σ[i] := List.getElem?_eq_getElem hi
        have hc : cel σ ρ (ts ++ (some v, .pk i) :: as) (.inl i) = some (σ[i], .own x) := cel_inl.mpr ⟨hs, q⟩
        obtain ⟨u, eu, hu⟩ := S.rel _ _ _ (cel_mid_at (σ := σ) (ρ := ρ) (ts := ts) (as := as) (d := (some v, .pk i)))
        cases eu
        have e2 := hu _ _ (.inl hc)
        obtain ⟨a, ea, _, _⟩ := S.rel _ _ _ hc
        rw [e2] at ea hc
        cases ea
        refine S.freeze hc (by rw [S.len, List.length_set]) (npk_set S.npk fun j z => by cases z) fun k' w c' e => ?_
        by_cases z : k' = .inl i
        · subst z
          obtain ⟨z1, z2⟩ := cel_inl.mp e
          have hl : i < ρ.length := (List.getElem?_eq_some_iff.mp q).1
          rw [List.getElem?_set_self hl] at z2
          cases z2
          rw [hs, e2] at z1
          cases z1
          exact .inr (.inl ⟨rfl, rfl⟩)
        · rw [cel_set_ne' z] at e
          by_cases z2 : k' = .inr ts.length
          · subst z2
            rw [cel_mid_at] at e
            cases e
            exact .inr (.inl ⟨rfl, rfl⟩)
          · exact .inl ⟨z, cel_mid e z2⟩
      | _ => cases h'
  | _ => cases h
theorem SR.pop {d : Cell} (S : SR T mg H0 G0 Fx σ ρ (ts ++ [d]) H) : SR T mg H0 G0 Fx σ ρ ts H := S.drop
theorem SR.growH (S : SR T mg H0 G0 Fx σ ρ ts H) (s : Same H H') : SR T mg H0 G0 Fx σ ρ ts H' := let ⟨ow, G, B, S⟩ := S; ⟨ow, G, B, S.growH s⟩
theorem SR.len (S : SR T mg H0 G0 Fx σ ρ ts H) : σ.length = ρ.length := let ⟨_, _, _, S⟩ := S; S.len
/-- a temp that holds nothing but a scalar -/
theorem SR.scal {d : D} (S : SR T mg H0 G0 Fx σ ρ ts H) (r : ∀ G, Rp G v d) : SR T mg H0 G0 Fx σ ρ (ts ++ [(some v, .fro (.py d))]) H := by
  obtain ⟨ow, G, B, S⟩ := S
  exact ⟨ow, G, B, S.push fun k => ⟨v, rfl, r G⟩⟩
theorem SR.num {n : Int} (S : SR T mg H0 G0 Fx σ ρ ts H) : SR T mg H0 G0 Fx σ ρ (ts ++ [(some (.int n), num n)]) H := S.scal fun _ => .int n
theorem SR.bool {b : Bool} (S : SR T mg H0 G0 Fx σ ρ ts H) : SR T mg H0 G0 Fx σ ρ (ts ++ [(some (.bl b), Gr.bool b)]) H := S.scal fun _ => .bl b
theorem SR.look {k : Kx} {w : Option V} (S : SR T mg H0 G0 Fx σ ρ ts H) (h : cel σ ρ ts k = some (w, c)) (l : Gr.look ρ c = some x) : ∃ u, w = some u ∧ RX T mg H u x := let ⟨_, _, _, S⟩ := S; S.look h l
/-- the last temp seen -/
theorem SR.last (S : SR T mg H0 G0 Fx σ ρ (ts ++ [(some v, c)]) H) (l : Gr.look ρ c = some x) : RX T mg H v x := by
  obtain ⟨u, e, r⟩ := S.look cel_last l
  cases e
  exact r
theorem SR.lastD {d : D} (S : SR T mg H0 G0 Fx σ ρ (ts ++ [(some v, c)]) H) (l : Gr.see ρ c = some d) : Rp H v d := by
  unfold Gr.see at l
  cases q : Gr.look ρ c with
  | none => rw [q] at l; cases l
  | some x =>
    rw [q] at l
    have r := S.last q
    cases x with
    | py e => cases l; exact r
    | _ => cases l
/-- the last but one -/
theorem SR.last2 {d : Cell} (S : SR T mg H0 G0 Fx σ ρ (ts ++ [(some v, c)] ++ [d]) H) (l : Gr.look ρ c = some x) : RX T mg H v x := S.pop.last l
theorem SR.last2D {e : Cell} {d : D} (S : SR T mg H0 G0 Fx σ ρ (ts ++ [(some v, c)] ++ [e]) H) (l : Gr.see ρ c = some d) : Rp H v d := S.pop.lastD l
/-- what a name holds, as a temp -/
theorem SR.var {i : Nat} {r : C} (S : SR T mg H0 G0 Fx σ ρ ts H) (h : ρ[i]? = some c) (e : (match c with | .fro x => some (.fro x) | .bor x => some (.bor x) | .own _ => some (.pk i) | .lkd _ => some (.pk i) | .exc n => some (.exc n) | _ => none) = some r) :
    ∃ v, σ[i]? = some (some v) ∧ SR T mg H0 G0 Fx σ ρ (ts ++ [(some v, r)]) H := by
  obtain ⟨ow, G, B, S⟩ := S
  have hi : i < σ.length := by rw [S.len]; exact (List.getElem?_eq_some_iff.mp h).1
  have hs : σ[i]? = some σ[i] := List.getElem?_eq_getElem hi
  have hc : cel σ ρ ts (.inl i) = some (σ[i], c) := cel_inl.mpr ⟨hs, h⟩
  have q := S.rel _ _ _ hc
  cases c with
  | fro x =>
    cases e
    obtain ⟨u, e1, e2⟩ := q
    exact ⟨u, by rw [hs, e1], ow, G, B, S.push fun k => ⟨u, rfl, e2⟩⟩
  | bor x =>
    cases e
    obtain ⟨u, e1, e2⟩ := q
    exact ⟨u, by rw [hs, e1], ow, G, B, S.push fun k => ⟨u, rfl, e2⟩⟩
  | exc n =>
    cases e
    obtain ⟨u, e1, e2⟩ := q
    exact ⟨u, by rw [hs, e1], ow, G, B, S.push fun k => ⟨u, rfl, e2⟩⟩
  | own x =>
    cases e
    obtain ⟨a, e1, e2⟩ := q
    refine ⟨_, by rw [hs, e1], ow, G, B, S.push fun k => ⟨_, rfl, fun w y z => ?_⟩⟩
    rcases z with z | z
    · have z' := (cel_inl.mp z).1
      rw [hs, e1] at z'
      exact (Option.some.inj z').symm
    · have z' := (cel_inl.mp z).1
      rw [hs, e1] at z'
      exact (Option.some.inj z').symm
  | lkd x =>
    cases e
    obtain ⟨a, e1, e2⟩ := q
    refine ⟨_, by rw [hs, e1], ow, G, B, S.push fun k => ⟨_, rfl, fun w y z => ?_⟩⟩
    rcases z with z | z
    · have z' := (cel_inl.mp z).1
      rw [hs, e1] at z'
      exact (Option.some.inj z').symm
    · have z' := (cel_inl.mp z).1
      rw [hs, e1] at z'
      exact (Option.some.inj z').symm
  | und => cases e
  | pk j => cases e
/-- no temp stands for a slot -/
def NoPk (ts : List Cell) : Prop := ∀ t ∈ ts, ∀ j, t.2 ≠ .pk j
/-- a slot is stored to -/
theorem SR.set {i : Nat} (S : SR T mg H0 G0 Fx σ ρ (ts ++ [(some v, c)]) H) (hfx : ∀ p ∈ Fx, p.1 ≠ i) (hc : (∀ j, c ≠ .pk j) ∧ ∀ y, c ≠ .lkd y) (hn : (∀ t ∈ ts, t.2 ≠ .pk i) ∨ ∀ y, c ≠ .own y) : SR T mg H0 G0 Fx (σ.set i (some v)) (ρ.set i c) ts H := by
  obtain ⟨ow, G, B, S⟩ := S
  have last : cel σ ρ (ts ++ [(some v, c)]) (.inr ts.length) = some (some v, c) := cel_last
  have at_i : ∀ {w c'}, cel (σ.set i (some v)) (ρ.set i c) ts (.inl i) = some (w, c') → w = some v ∧ c' = c := fun {w c'} e => by
    obtain ⟨z1, z2⟩ := cel_inl.mp e
    have h1 : i < σ.length := by have := (List.getElem?_eq_some_iff.mp z1).1; simpa using this
    have h2 : i < ρ.length := by have := (List.getElem?_eq_some_iff.mp z2).1; simpa using this
    rw [List.getElem?_set_self h1] at z1
    rw [List.getElem?_set_self h2] at z2
    exact ⟨(Option.some.inj z1).symm, (Option.some.inj z2).symm⟩
  refine Exists.elim (S.re (σ' := σ.set i (some v)) (ρ' := ρ.set i c) (as := ts) (fun k => if k = .inl i then .inr ts.length else k) (by rw [List.length_set, List.length_set, S.len])
    (fun p hp => by rw [List.getElem?_set_ne (Ne.symm (hfx p hp))]; exact S.fix p hp) (npk_set S.npk hc.1) (fun k w c' e => ?_) (fun k w j e w2 x2 e2 => ?_)) fun ow' S' => ⟨ow', G, B, S'⟩
  · have lt : ∀ {j : Nat} {w c'}, cel (σ.set i (some v)) (ρ.set i c) ts (.inr j) = some (w, c') → j < ts.length := fun {j w c'} e => (List.getElem?_eq_some_iff.mp (show ts[j]? = some (w, c') from e)).1
    by_cases z : k = .inl i
    · subst z
      obtain ⟨rfl, rfl⟩ := at_i e
      refine .inr ⟨by rw [if_pos rfl]; exact last, fun k2 w2 c2 h2 e2 _ => ?_⟩
      rw [if_pos rfl] at h2
      by_cases z2 : k2 = .inl i
      · exact z2
      · rw [if_neg z2] at h2
        subst h2
        exact absurd (lt e2) (Nat.lt_irrefl _)
    · rw [cel_set_ne (σ' := σ) z] at e
      refine .inr ⟨by rw [if_neg z]; exact cel_snoc_lt e, fun k2 w2 c2 h2 e2 _ => ?_⟩
      rw [if_neg z] at h2
      by_cases z2 : k2 = .inl i
      · rw [if_pos z2] at h2
        subst h2
        exact absurd (lt (j := ts.length) (by rw [cel_set_ne (σ' := σ) z]; exact e)) (Nat.lt_irrefl _)
      · rw [if_neg z2] at h2
        exact h2
  · by_cases z : j = i
    · subst z
      rcases hn with hn | hn
      · exfalso
        cases k with
        | inl m => exact npk_set S.npk hc.1 m j (cel_inl.mp e).2
        | inr m => exact hn _ (List.mem_of_getElem? (show ts[m]? = some (w, .pk j) from e)) rfl
      · rcases e2 with e2 | e2
        · exact absurd (at_i e2).2.symm (hn _)
        · exact absurd (at_i e2).2.symm (hc.2 _)
    · have z' : (Sum.inl j : Kx) ≠ .inl i := fun q => z (Sum.inl.inj q)
      rw [cel_set_ne (σ' := σ) z'] at e2
      exact ⟨x2, e2.elim (fun q => .inl (cel_snoc_lt q)) fun q => .inr (cel_snoc_lt q)⟩
/-- a slot's own thing: where it lies -/
theorem SRx.ownAt {i : Nat} (S : SRx T mg H0 G0 Fx ow G B σ ρ ts H) (h : ρ[i]? = some (.own x)) : ∃ a, σ[i]? = some (some (.ref a)) ∧ cel σ ρ ts (.inl i) = some (some (.ref a), .own x) ∧ OX T mg (fun b => ow b = some (.inl i)) G H a x := by
  have hi : i < σ.length := by rw [S.len]; exact (List.getElem?_eq_some_iff.mp h).1
  have hs : σ[i]? = some σ[i] := List.getElem?_eq_getElem hi
  have hc : cel σ ρ ts (.inl i) = some (σ[i], .own x) := cel_inl.mpr ⟨hs, h⟩
  obtain ⟨a, e1, _, e2⟩ := S.rel _ _ _ hc
  exact ⟨a, by rw [hs, e1], by rw [hc, e1], e2⟩
/-- a slot's own thing is changed -/
theorem SRx.mutSlot {i : Nat} (S : SRx T mg H0 G0 Fx ow G B σ ρ ts H) (h : ρ[i]? = some (.own x)) (ha : σ[i]? = some (some (.ref a))) (hy : ∀ {Wn}, OX T mg Wn G (upd H a o) a y) : SRx T mg H0 G0 Fx ow G B σ (ρ.set i (.own y)) ts (upd H a o) := by
  obtain ⟨a', h1, h2, _⟩ := S.ownAt h
  rw [ha] at h1
  cases h1
  refine S.mut h2 (by rw [S.len, List.length_set]) (npk_set S.npk fun j z => by cases z) hy fun k' w c' e => ?_
  by_cases z : k' = .inl i
  · subst z
    obtain ⟨z1, z2⟩ := cel_inl.mp e
    have hl : i < ρ.length := (List.getElem?_eq_some_iff.mp h).1
    rw [List.getElem?_set_self hl] at z2
    rw [ha] at z1
    exact .inr ⟨rfl, (Option.some.inj z1).symm, (Option.some.inj z2).symm⟩
  · rw [cel_set_ne' z] at e
    exact .inl ⟨z, e⟩
/-- a slot's tag alone -/
theorem SR.tag {i : Nat} {c c' : C} (S : SR T mg H0 G0 Fx σ ρ ts H) (h : ρ[i]? = some c) (t : (c = .own x ∧ c' = .lkd x) ∨ (c = .lkd x ∧ c' = .own x)) : SR T mg H0 G0 Fx σ (ρ.set i c') ts H := by
  obtain ⟨ow, G, B, S⟩ := S
  have hl : i < ρ.length := (List.getElem?_eq_some_iff.mp h).1
  have nk : ∀ j, c' ≠ .pk j := fun j e => by rcases t with ⟨_, t⟩ | ⟨_, t⟩ <;> (rw [t] at e; cases e)
  have at_i : ∀ {w d}, cel σ (ρ.set i c') ts (.inl i) = some (w, d) → d = c' ∧ cel σ ρ ts (.inl i) = some (w, c) := fun {w d} e => by
    obtain ⟨z1, z2⟩ := cel_inl.mp e
    rw [List.getElem?_set_self hl] at z2
    exact ⟨(Option.some.inj z2).symm, cel_inl.mpr ⟨z1, h⟩⟩
  have pp : ∀ j w z, (cel σ (ρ.set i c') ts (.inl j) = some (w, .own z) ∨ cel σ (ρ.set i c') ts (.inl j) = some (w, .lkd z)) → ∃ y, cel σ ρ ts (.inl j) = some (w, .own y) ∨ cel σ ρ ts (.inl j) = some (w, .lkd y) := fun j w z e => by
    by_cases q : j = i
    · subst q
      have r : cel σ ρ ts (.inl j) = some (w, c) := by
        rcases e with e | e
        · exact (at_i e).2
        · exact (at_i e).2
      rcases t with ⟨t, _⟩ | ⟨t, _⟩
      · exact ⟨x, .inl (by rw [r, t])⟩
      · exact ⟨x, .inr (by rw [r, t])⟩
    · have q' : (Sum.inl j : Kx) ≠ .inl i := fun r => q (Sum.inl.inj r)
      rw [cel_set_ne' q'] at e
      exact ⟨z, e⟩
  refine ⟨ow, G, B, S.step (by rw [S.len, List.length_set]) S.fix (Same.refl _) (fun b o e => .inl e) (Same.refl _) S.gb S.bh S.nb S.live (npk_set S.npk nk) fun k w d e => ?_⟩
  by_cases q : k = .inl i
  · subst q
    obtain ⟨rfl, e2⟩ := at_i e
    have r := S.rel _ _ _ e2
    rcases t with ⟨t1, t2⟩ | ⟨t1, t2⟩
    · rw [t1] at r; rw [t2]; exact r
    · rw [t1] at r; rw [t2]; exact r
  · rw [cel_set_ne' q] at e
    exact (S.rel _ _ _ e).grow (Same.refl _) (Same.refl _) (fun _ _ _ _ z => z) (fun _ z _ => z) fun j _ w x z => pp j w x z
/-- a slot is forgotten -/
theorem SR.wipe (S : SR T mg H0 G0 Fx σ ρ ts H) (i : Nat) : SR T mg H0 G0 Fx σ (ρ.set i .und) ts H := by
  obtain ⟨ow, G, B, S⟩ := S
  by_cases hl : i < ρ.length
  · have at_i : ∀ {w d}, cel σ (ρ.set i .und) ts (.inl i) = some (w, d) → d = .und := fun {w d} e => by
      obtain ⟨z1, z2⟩ := cel_inl.mp e
      rw [List.getElem?_set_self hl] at z2
      exact (Option.some.inj z2).symm
    have pp : ∀ j w z, (cel σ (ρ.set i .und) ts (.inl j) = some (w, .own z) ∨ cel σ (ρ.set i .und) ts (.inl j) = some (w, .lkd z)) → ∃ y, cel σ ρ ts (.inl j) = some (w, .own y) ∨ cel σ ρ ts (.inl j) = some (w, .lkd y) := fun j w z e => by
      by_cases q : j = i
      · subst q
        rcases e with e | e
        · cases at_i e
        · cases at_i e
      · have q' : (Sum.inl j : Kx) ≠ .inl i := fun r => q (Sum.inl.inj r)
        rw [cel_set_ne' q'] at e
        exact ⟨z, e⟩
    refine ⟨ow, G, B, S.step (by rw [S.len, List.length_set]) S.fix (Same.refl _) (fun b o e => .inl e) (Same.refl _) S.gb S.bh S.nb S.live (npk_set S.npk fun j z => by cases z) fun k w d e => ?_⟩
    by_cases q : k = .inl i
    · subst q
      rw [at_i e]
      trivial
    · rw [cel_set_ne' q] at e
      exact (S.rel _ _ _ e).grow (Same.refl _) (Same.refl _) (fun _ _ _ _ z => z) (fun _ z _ => z) fun j _ w x z => pp j w x z
  · rw [List.set_eq_of_length_le (by omega)]
    exact ⟨ow, G, B, S⟩
theorem SR.wip1 (S : SR T mg H0 G0 Fx σ ρ ts H) (i : Nat) : SR T mg H0 G0 Fx σ (Gr.wip1 ρ i) ts H := by
  unfold Gr.wip1
  split
  · exact S
  · exact S.wipe i
theorem SR.frz1 (S : SR T mg H0 G0 Fx σ ρ ts H) (i : Nat) : SR T mg H0 G0 Fx σ (Gr.frz1 ρ i) ts H := by
  unfold Gr.frz1
  split
  · next x h =>
    obtain ⟨v, _, S1⟩ := S.var h rfl
    have e : Gr.fz ρ (.pk i) = some (x, ρ.set i (.fro x)) := by
      show (match ρ[i]? with | some (.own x) => some (x, ρ.set i (.fro x)) | _ => none) = _
      rw [h]
    exact (SR.fz (as := []) S1 e).pop
  · exact S
theorem SR.ghost (S : SR T mg H0 G0 Fx σ ρ ts H) (fr wp : List Nat) : SR T mg H0 G0 Fx σ (Gr.ghost ρ fr wp) ts H := by
  have h1 : ∀ (l : List Nat) (ρ : List C), SR T mg H0 G0 Fx σ ρ ts H → SR T mg H0 G0 Fx σ (l.foldl Gr.frz1 ρ) ts H := by
    intro l
    induction l with
    | nil => exact fun _ S => S
    | cons i l ih => exact fun ρ S => ih _ (S.frz1 i)
  have h2 : ∀ (l : List Nat) (ρ : List C), SR T mg H0 G0 Fx σ ρ ts H → SR T mg H0 G0 Fx σ (l.foldl Gr.wip1 ρ) ts H := by
    intro l
    induction l with
    | nil => exact fun _ S => S
    | cons i l ih => exact fun ρ S => ih _ (S.wip1 i)
  exact h2 _ _ (h1 _ _ S)
end
end Gr

set_option Elab.async false
set_option linter.all false
set_option maxRecDepth 100000
set_option maxHeartbeats 2000000
/-! Gr D: operations by values, over what reads as data. -/
namespace PySem.W
open PySem PySem.Calls PyProof.Rows
section
variable {prog : Program} {w : World} {A : Around} {E : Value → Shared → Prop} {s : Shared}
theorem gr_collect_tup {l : Addr} {vs : List Value} {Q : List Value → Shared → Prop} (hl : s.heap.IsTuple l vs.toArray)
    (h : Q vs { s with heap := (s.heap.push (seqObj "list" #[] 0)).update s.heap.objs.size (Obj.mapSeq (· ++ vs.toArray)) }) (hsz : vs.length ≤ sizeLine) :
    wpAny (model prog w) A (collect (.ref l)) Q E s := by
  obtain ⟨o, ho, hc, n, hd⟩ := id hl
  unfold collect
  refine wpAny_bind (wpAny_runValue (codeAny_builtin entry_proto_collect' ?_))
  show wpAny _ _ (do again (.builtin "list.__iadd__" ⟨[← newList [], .ref l], []⟩)) _ _ s
  refine wpAny_bind (wpAny_newList (wpAny_pure ⟨Code.quiet_builtin _ (by decide +kernel), codeAny_builtin entry_list_iadd' ?_⟩))
  show wpAny _ _ (Builtin.List.listExtendWith (.ref s.heap.objs.size) (.ref l) (.ref s.heap.objs.size)) _ _ { s with heap := s.heap.push (seqObj "list" #[] 0) }
  unfold Builtin.List.listExtendWith
  have ho' : (s.heap.push (seqObj "list" #[] 0)).get? l = some o := Heap.get?_push_of_some _ ho
  refine wpAny_bind (wpAny_typeOf (T := "tuple") ⟨o, ho', hc⟩ ?_)
  have ht : (Value.type "tuple" == Value.type "tuple") = true := by rfl
  rw [if_pos (by rw [ht]; simp)]
  refine wpAny_bind (listItems_at ho' hd ?_)
  refine wpAny_bind (listItems_at (xs := #[]) (n := 0) (Heap.get?_push_size _ rfl) rfl ?_)
  rw [if_neg (by simp)]
  refine wpAny_bind (listUpdate_at (xs := #[]) (n := 0) (Heap.get?_push_size _ rfl) rfl ?_ (Nat.zero_le _) (by show (#[] ++ vs.toArray).size ≤ sizeLine + 1; simp only [Array.size_append, List.size_toArray, List.length_nil]; omega))
  refine wpAny_pure ?_
  show wpAny (model prog w) A (do
      let o ← load s.heap.objs.size
      match o.data with
      | .seq xs _ => pure xs.toList
      | _ => unsupported "internal:collect") Q E { s with heap := (s.heap.push (seqObj "list" #[] 0)).update s.heap.objs.size (Obj.mapSeq (· ++ vs.toArray)) }
  refine wpAny_bind (wpAny_load (get?_update_seq (Heap.get?_push_size _ rfl) _) ?_)
  show wpAny _ _ (pure ((#[] : Array Value) ++ vs.toArray).toList) Q E _
  rw [show ((#[] : Array Value) ++ vs.toArray).toList = vs by simp]
  exact wpAny_pure h
theorem gr_collect {l : Addr} {vs : List Value} {Q : List Value → Shared → Prop} (hl : s.heap.IsList l vs.toArray ∨ s.heap.IsTuple l vs.toArray)
    (h : Q vs { s with heap := (s.heap.push (seqObj "list" #[] 0)).update s.heap.objs.size (Obj.mapSeq (· ++ vs.toArray)) }) (hsz : vs.length ≤ sizeLine) :
    wpAny (model prog w) A (collect (.ref l)) Q E s := by
  rcases hl with hl | hl
  · exact collect_list hl h hsz
  · exact gr_collect_tup hl h hsz
theorem gr_sorted {l : Addr} {vs : List Value} {ds : List PyData} {Q : Value → Shared → Prop} {R : Value → PyData → Prop} (hl : s.heap.IsList l vs.toArray ∨ s.heap.IsTuple l vs.toArray) (e : EachIs R vs ds) (er : EachIs (fun v b => ∃ as, Reads s.heap v b as) vs ds) (hal : AllAlike ds) (hk : Sortable ds) (hL : ds.length ≤ sizeLine)
    (hu : ∀ b, b ∈ ds → A.units + 2 + b.depth < cLine) (h : ∀ out, out.length = ds.length → EachIs R out (ds.mergeSort (dataLe false id)) → Q (.ref (s.heap.objs.size + 1)) { s with heap := sortedAll s.heap vs (List.toArray out) }) :
    wpAny (model prog w) A (call (.builtin "sorted") [.ref l]) Q E s := by
  have hLv : vs.length ≤ sizeLine := by rw [e.length]; exact hL
  have er' : EachIs (fun v b => ∃ as, Reads (sortingHeap (copyHeap s.heap vs) (s.heap.objs.size + 1) vs) v b as) vs ds := er.mono fun _ _ ⟨as, r⟩ => ⟨as, PyProof.Rows.Reads.keeps (fun _ _ => sorting_copy_old) r⟩
  have S : SortsAt prog w A.in1.in1 { s with heap := sortingHeap (copyHeap s.heap vs) (s.heap.objs.size + 1) vs } (dataKind (sortingHeap (copyHeap s.heap vs) (s.heap.objs.size + 1) vs) ds) vs :=
    SortsAt.data (s := { s with heap := sortingHeap (copyHeap s.heap vs) (s.heap.objs.size + 1) vs }) er' hal hk hu
  have eid : ds.map id = ds := List.map_id ds
  have fin := sortVals_data (h' := sortingHeap (copyHeap s.heap vs) (s.heap.objs.size + 1) vs) (R := R) (enc := id) (vs := vs) (bs := ds) false e er' (by rw [eid]; exact hal)
  rw [eid] at fin
  refine call_function_entry_kw kind_sorted plain_sorted entry_sorted (args_sorted1 _) ?_
  unfold Builtin.«sorted»
  refine wpAny_bind (m := checkCount "sorted" 1 1 _) (wpAny_pure ?_)
  refine wpAny_bind (gr_collect hl ?_ hLv)
  refine wpAny_bind (wpAny_newList ?_ hLv)
  have hsz : ((s.heap.push (seqObj "list" #[] 0)).update s.heap.objs.size (Obj.mapSeq (· ++ vs.toArray))).objs.size = s.heap.objs.size + 1 := by
    rw [Heap.size_update, size_push']
  show wpAny _ _ _ _ _ { s with heap := copyHeap s.heap vs }
  rw [hsz]
  refine wpAny_bind (wpAny_holding (wpAny_call_entry_kw slot_list_sort ⟨_, copyHeap_at s.heap vs, rfl⟩ entry_list_sort ?body (args_list_sort _)))
  case body =>
    show wpAny (model prog w) A.in1.in1 (Builtin.«list.sort» ⟨[.ref (s.heap.objs.size + 1)], []⟩) _ _ _
    refine wpAny_mono (list_sort_vals (P := fun f s' => f = .done (.ret .none) ∧ Q (.ref (s.heap.objs.size + 1)) s') (s := { s with heap := copyHeap s.heap vs }) (copyHeap_at s.heap vs) S hLv ⟨rfl, h _ (by rw [sortVals_length false rfl]; exact e.length) fin⟩) (fun f s' hf => ?_) fun _ _ e => e
    obtain ⟨rfl, hq⟩ := hf
    exact ⟨_, rfl, wpAny_pure ⟨_, rfl, hq⟩⟩
end
end PySem.W

namespace Gr
open PySem L2
/-! ### data that reads -/
section
mutual
theorem Rp.plain {H : Hp} : ∀ {d : D} {v : V}, Rp H v d → d.plain = true
  | .none, _, h => rfl
  | .bool _, _, h => rfl
  | .int _, _, h => rfl
  | .str _, _, h => rfl
  | .list _, _, h => by
    cases h with
    | lst r a => exact RpA.plain a
  | .tuple _, _, h => by
    cases h with
    | tup r a => exact RpA.plain a
  | .dict _, _, h => by cases h
theorem RpA.plain {H : Hp} : ∀ {ds : List D} {vs : List V}, RpA H vs ds → PyData.plainAll ds = true
  | [], _, h => rfl
  | _ :: _, _, h => by
    cases h with
    | cons a b =>
      rw [PyData.plainAll, Rp.plain a, RpA.plain b]
      rfl
end
theorem dep_depth : ∀ (n : Nat) (d : D), dep n d = true → d.depth ≤ n := by
  intro n
  induction n with
  | zero =>
    intro d h
    cases d <;> simp [dep, PyData.depth] at h ⊢
  | succ n ih =>
    have all : ∀ xs : List D, xs.all (dep n) = true → PyData.depthAll xs ≤ n := by
      intro xs
      induction xs with
      | nil => intro _; simp [PyData.depthAll]
      | cons x xs ih2 =>
        intro h
        rw [List.all_cons, Bool.and_eq_true] at h
        rw [PyData.depthAll]
        exact Nat.max_le.mpr ⟨ih x h.1, ih2 h.2⟩
    intro d h
    cases d with
    | list xs => simp only [PyData.depth]; exact Nat.succ_le_succ (all xs h)
    | tuple xs => simp only [PyData.depth]; exact Nat.succ_le_succ (all xs h)
    | dict kvs => simp [dep] at h
    | _ => simp [PyData.depth]
theorem dp_room {A : Around} {a b : D} (h : (dp a || dp b) = true) (hu : A.units + 64 < cLine) : A.units + min a.depth b.depth < cLine := by
  rcases Bool.or_eq_true_iff.mp h with h | h
  · have := dep_depth 8 a h
    have h2 : min a.depth b.depth ≤ a.depth := Nat.min_le_left _ _
    omega
  · have := dep_depth 8 b h
    have h2 : min a.depth b.depth ≤ b.depth := Nat.min_le_right _ _
    omega
end
section
variable {X : Cx}
theorem Rp.reads {pins : List (Addr × Obj)} {s : Shared} {σ : St} {H : Hp} {d : D} {v : V} {u : Value} (I : Inv X pins σ H s) (h : Rp H v d) (r : RelV v u) : ∃ as, Reads s.heap u d as := Dp.reads I d v u (h.dp (K := X.K)) r
theorem RpA.reads {pins : List (Addr × Obj)} {s : Shared} {σ : St} {H : Hp} {ds : List D} {vs : List V} {us : List Value} (I : Inv X pins σ H s) (h : RpA H vs ds) (r : Vals vs us) : ∃ as, ReadsAll s.heap us ds as := Dp.readsAll I ds vs us (h.dp (K := X.K)) r
/-! ### arithmetic and + -/
def opA : Op → Operator
  | .add => .Add | .sub => .Sub | .mul => .Mult | .fdiv => .FloorDiv | .mod => .Mod | .pow => .Pow | .shl => .LShift | .bor => .BitOr
def rCatL : R2 := fun x y H Q => ∃ l b xs zs, x = .ref l ∧ y = .ref b ∧ Rd H l (.lst xs) ∧ Rd H b (.lst zs) ∧ xs.length + zs.length ≤ sizeLine ∧ ∀ p, H p = none → Q (.ref p) (upd H p (.lst (xs ++ zs)))
theorem op_catL : OpR X (binaryOp .Add) rCatL := by
  intro pins s σ H x y v u Q I rx ry h
  obtain ⟨l, b, xs, zs, rfl, rfl, hH, hB, hz, q⟩ := h
  cases rx
  cases ry
  obtain ⟨z, its, n, r, e⟩ := hH.ok I.hok
  obtain ⟨z2, its2, n2, r2, e2⟩ := hB.ok I.hok
  have hl := r.length
  have hl2 := r2.length
  refine PySem.P.add_list e e2 ?_ (by rw [List.size_toArray, List.size_toArray]; omega)
  have ea : its.toArray ++ its2.toArray = (its ++ its2).toArray := by simp
  rw [ea]
  exact ⟨.ref _, _, I.lnew (t' := s.toks) (r.append r2) (by rw [List.length_append]; omega), rfl, q _ I.fresh⟩
def rO (K : PySem.W.Frag) : Op → R2
  | .add => fun x y H Q => rI0 (fun i j => .int (i + j)) x y H Q ∨ rCatL x y H Q ∨ rCatA K x y H Q ∨ ∃ i j, x = .str i ∧ y = .str j ∧ i.length + j.length ≤ sizeLine ∧ Q (.str (i ++ j)) H
  | .sub => rI0 fun i j => .int (i - j)
  | .mul => rI CMul fun i j => .int (i * j)
  | .fdiv => rI CDiv fun i j => .int (i / j)
  | .mod => rI (fun _ j => 0 < j) fun i j => .int (i % j)
  | .pow => rI CPow fun i j => .int (i ^ j.toNat)
  | .shl => rI CPow fun i j => .int (i * 2 ^ j.toNat)
  | .bor => rI0 fun i j => .int (Builtin.bitOr i j)
theorem op_ok : ∀ o : Op, OpR X (binaryOp (opA o)) (rO X.K o)
  | .add => op_add.or (op_catL.or (op_catA.or op_add_str))
  | .sub => op_sub
  | .mul => op_mul
  | .fdiv => op_fdiv
  | .mod => op_mod
  | .pow => op_pow
  | .shl => op_shl
  | .bor => op_or
theorem iop_ok : ∀ o : Op, o = .add ∨ o = .sub → OpR X (inplaceOp (opA o)) (match o with | .add => rI0 fun i j => .int (i + j) | _ => rI0 fun i j => .int (i - j))
  | .add, _ => iop_add
  | .sub, _ => iop_sub
  | .mul, h => by simp at h
  | .fdiv, h => by simp at h
  | .mod, h => by simp at h
  | .pow, h => by simp at h
  | .shl, h => by simp at h
  | .bor, h => by simp at h
/-! ### comparisons -/
def cmA : Cm → CmpOp
  | .eq => .Eq | .ne => .NotEq | .lt => .Lt | .le => .LtE | .gt => .Gt | .ge => .GtE | .isin => .In | .notin => .NotIn
/-- two things compared as data -/
def rCmD (o : Cm) : R2 := fun x y H Q => ∃ d e b, Rp H x d ∧ Rp H y e ∧ cmC o d e = some b ∧ Q (.bl b) H
theorem cmD_ok (hu : X.A.units + 65 < cLine) (o : Cm) : OpR X (compareOp (cmA o)) (rCmD o) := by
  intro pins s σ H x y v u Q I rx ry h
  obtain ⟨d, e, b, hd, he, hb, q⟩ := h
  obtain ⟨as, r1⟩ := hd.reads I rx
  obtain ⟨bs, r2⟩ := he.reads I ry
  have fin : ∀ {k : Bool}, k = b → EP X pins σ Q (.bool k) s := fun {k} e => ⟨.bl b, H, I, by rw [e]; rfl, q⟩
  have finI : ∀ (i j : Int) (k : Bool), d = .int i → e = .int j → k = b → ∃ t t', v = .int i t ∧ u = .int j t' ∧ EP X pins σ Q (.bool k) s := fun i j k e1 e2 e3 => by
    subst e1 e2
    obtain rfl := hd.intV
    obtain rfl := he.intV
    obtain ⟨t, rfl⟩ := rx
    obtain ⟨t', rfl⟩ := ry
    exact ⟨t, t', rfl, rfl, fin e3⟩
  cases o with
  | eq =>
    have hb' : (if (dp d || dp e) = true then some (PyData.eqv d e) else none) = some b := hb
    split at hb'
    · rename_i hp
      exact PySem.SeqAt.eq_plain r1 r2 hd.plain he.plain (dp_room hp (by omega)) (fin (Option.some.inj hb'))
    · cases hb'
  | ne =>
    have hb' : (if (dp d || dp e) = true then some (!PyData.eqv d e) else none) = some b := hb
    split at hb'
    · rename_i hp
      exact PySem.SeqAt.ne_plain r1 r2 hd.plain he.plain (dp_room hp (by omega)) (fin (Option.some.inj hb'))
    · cases hb'
  | le =>
    cases d with
    | int i =>
      cases e with
      | int j =>
        obtain ⟨t, t', rfl, rfl, z⟩ := finI i j _ rfl rfl (Option.some.inj hb)
        exact PyProof.Rows.le_int z
      | _ => cases hb
    | _ => cases hb
  | ge =>
    cases d with
    | int i =>
      cases e with
      | int j =>
        obtain ⟨t, t', rfl, rfl, z⟩ := finI i j _ rfl rfl (Option.some.inj hb)
        exact PyProof.Rows.ge_int z
      | _ => cases hb
    | _ => cases hb
  | lt =>
    cases d with
    | int i =>
      cases e with
      | int j =>
        obtain ⟨t, t', rfl, rfl, z⟩ := finI i j _ rfl rfl (Option.some.inj hb)
        exact PyProof.Rows.lt_int z
      | _ => cases hb
    | tuple xs =>
      cases e with
      | tuple ys =>
        have hb' : (if (PySem.W.alike (.tuple xs) (.tuple ys) && (dp (.tuple xs) || dp (.tuple ys))) = true then some (PySem.W.dataLt (.tuple xs) (.tuple ys)) else none) = some b := hb
        split at hb'
        · rename_i hp
          rw [Bool.and_eq_true] at hp
          exact PySem.W.lt_data r1 r2 hp.1 (fun z => by cases z) (dp_room hp.2 (by omega)) (fin (Option.some.inj hb'))
        · cases hb'
      | _ => cases hb
    | _ => cases hb
  | gt =>
    cases d with
    | int i =>
      cases e with
      | int j =>
        obtain ⟨t, t', rfl, rfl, z⟩ := finI i j _ rfl rfl (Option.some.inj hb)
        exact PyProof.Rows.gt_int z
      | _ => cases hb
    | tuple xs =>
      cases e with
      | tuple ys =>
        have hb' : (if (PySem.W.alike (.tuple xs) (.tuple ys) && (dp (.tuple xs) || dp (.tuple ys))) = true then some (PySem.W.dataLt (.tuple ys) (.tuple xs)) else none) = some b := hb
        split at hb'
        · rename_i hp
          rw [Bool.and_eq_true] at hp
          exact PySem.W.gt_data r1 r2 hp.1 (fun z => by cases z) (dp_room hp.2 (by omega)) (fin (Option.some.inj hb'))
        · cases hb'
      | _ => cases hb
    | _ => cases hb
  | isin =>
    have room : ∀ ys : List D, (dp d || dp (.list ys)) = true → X.A.units + 1 + min (PyData.depthAll ys) d.depth < cLine := fun ys h => by
      have := dp_room (A := X.A.in1) (a := .list ys) (b := d) (by rw [Bool.or_comm]; exact h) (by show X.A.units + 1 + 64 < cLine; omega)
      have e : PyData.depth (.list ys) = PyData.depthAll ys + 1 := by simp only [PyData.depth]
      have e2 : X.A.in1.units = X.A.units + 1 := rfl
      rw [e, e2] at this
      have : min (PyData.depthAll ys) d.depth ≤ min (PyData.depthAll ys + 1) d.depth := Nat.le_min.mpr ⟨Nat.le_trans (Nat.min_le_left _ _) (Nat.le_succ _), Nat.min_le_right _ _⟩
      omega
    cases e with
    | list ys =>
      have hb' : (if (dp d || dp (.list ys)) = true then some (ys.any fun z => PyData.eqv z d) else none) = some b := by cases d <;> exact hb
      split at hb'
      · rename_i hp
        exact PySem.SeqAt.in_list_data r2 r1 he.plain hd.plain (room ys hp) (fin (Option.some.inj hb'))
      · cases hb'
    | tuple ys =>
      have hb' : (if (dp d || dp (.tuple ys)) = true then some (ys.any fun z => PyData.eqv z d) else none) = some b := by cases d <;> exact hb
      split at hb'
      · rename_i hp
        exact PySem.SeqAt.in_tuple_data r2 r1 he.plain hd.plain (room ys hp) (fin (Option.some.inj hb'))
      · cases hb'
    | _ => cases d <;> cases hb
  | notin =>
    have room : ∀ ys : List D, (dp d || dp (.list ys)) = true → X.A.units + 1 + min (PyData.depthAll ys) d.depth < cLine := fun ys h => by
      have := dp_room (A := X.A.in1) (a := .list ys) (b := d) (by rw [Bool.or_comm]; exact h) (by show X.A.units + 1 + 64 < cLine; omega)
      have e : PyData.depth (.list ys) = PyData.depthAll ys + 1 := by simp only [PyData.depth]
      have e2 : X.A.in1.units = X.A.units + 1 := rfl
      rw [e, e2] at this
      have : min (PyData.depthAll ys) d.depth ≤ min (PyData.depthAll ys + 1) d.depth := Nat.le_min.mpr ⟨Nat.le_trans (Nat.min_le_left _ _) (Nat.le_succ _), Nat.min_le_right _ _⟩
      omega
    cases e with
    | list ys =>
      have hb' : (if (dp d || dp (.list ys)) = true then some (!ys.any fun z => PyData.eqv z d) else none) = some b := by cases d <;> exact hb
      split at hb'
      · rename_i hp
        exact PySem.SeqAt.notIn_list_data r2 r1 he.plain hd.plain (room ys hp) (fin (Option.some.inj hb'))
      · cases hb'
    | tuple ys =>
      have hb' : (if (dp d || dp (.tuple ys)) = true then some (!ys.any fun z => PyData.eqv z d) else none) = some b := by cases d <;> exact hb
      split at hb'
      · rename_i hp
        exact PySem.SeqAt.notIn_tuple_data r2 r1 he.plain hd.plain (room ys hp) (fin (Option.some.inj hb'))
      · cases hb'
    | _ => cases d <;> cases hb
/-- a key in a dict -/
theorem dIn_ok (hu : X.A.units + 1 < cLine) : OpR X (compareOp .In) (fun x y H Q => ∃ a o, y = .ref a ∧ DGet H a x o ∧ Q (.bl o.isSome) H) := by
  rintro pins s σ H x y v u Q I rx ry ⟨a, o, rfl, g, q⟩
  cases ry
  exact d_in hu I g rx fun s3 I3 => ⟨.bl o.isSome, H, I3, rfl, q⟩
theorem dNotIn_ok (hu : X.A.units + 1 < cLine) : OpR X (compareOp .NotIn) (fun x y H Q => ∃ a o, y = .ref a ∧ DGet H a x o ∧ Q (.bl (!o.isSome)) H) := by
  rintro pins s σ H x y v u Q I rx ry ⟨a, o, rfl, g, q⟩
  cases ry
  exact d_notIn hu I g rx fun s3 I3 => ⟨.bl (!o.isSome), H, I3, rfl, q⟩
def rCm (o : Cm) : R2 := match o with
  | .isin => fun x y H Q => rCmD .isin x y H Q ∨ ∃ a o, y = .ref a ∧ DGet H a x o ∧ Q (.bl o.isSome) H
  | .notin => fun x y H Q => rCmD .notin x y H Q ∨ ∃ a o, y = .ref a ∧ DGet H a x o ∧ Q (.bl (!o.isSome)) H
  | o => rCmD o
theorem cm_ok (hu : X.A.units + 65 < cLine) (o : Cm) : OpR X (compareOp (cmA o)) (rCm o) := by
  cases o with
  | isin => exact (cmD_ok hu .isin).or (dIn_ok (by omega))
  | notin => exact (cmD_ok hu .notin).or (dNotIn_ok (by omega))
  | eq => exact cmD_ok hu .eq
  | ne => exact cmD_ok hu .ne
  | lt => exact cmD_ok hu .lt
  | le => exact cmD_ok hu .le
  | gt => exact cmD_ok hu .gt
  | ge => exact cmD_ok hu .ge
/-! ### a key of a dict, as data -/
section
variable {T : Glob} {mg : Str → Option Value} {H : Hp}
/-- what is found at a key of a thing that lies in R, all of it in H -/
theorem getX_ok {R : Hp} {x : Tx} {k : D} {r : Option D} {v w : V} (s : Same R H) (h : RX T mg R v x) (hk : Rp H w k) (e : getX x k = some r) :
    ∃ a o, v = .ref a ∧ DGet H a w o ∧ o.isSome = r.isSome ∧ ∀ d, r = some d → ∃ u, o = some u ∧ Rp R u d := by
  cases x with
  | py d => cases e
  | obj c fs => cases e
  | lls xss => cases e
  | dik kvs =>
    have e' : (keyOf k).map (fun k => valD kvs k) = some r := e
    cases q : keyOf k with
    | none => rw [q] at e'; cases e'
    | some kk =>
      rw [q] at e'
      obtain ⟨a, vs, rfl, h1, h2⟩ := h
      have g : DGet H a (kV kk) (valV vs kk) := .inl ⟨vs, kk, rd_mono s h1, rfl, rfl⟩
      rw [← hk.key q] at g
      refine ⟨a, _, rfl, g, ?_⟩
      have e2 : valD kvs kk = r := Option.some.inj e'
      rcases RpK.val kk h2 with ⟨v, d, h3, h4, h5⟩ | ⟨h3, h4⟩
      · rw [h3, ← e2, h4]
        exact ⟨rfl, fun d' hd => by cases hd; exact ⟨v, rfl, h5⟩⟩
      · rw [h3, ← e2, h4]
        exact ⟨rfl, fun d' hd => by cases hd⟩
  | dit kvs =>
    have e' : (tkeyOf k).map (fun k => valD kvs k) = some r := e
    cases q : tkeyOf k with
    | none => rw [q] at e'; cases e'
    | some kk =>
      rw [q] at e'
      obtain ⟨a, vs, rfl, h1, h2⟩ := h
      cases k with
      | tuple ks =>
        cases hk with
        | @tup b xs _ hb hx =>
          have hxs := hx.keys q
          subst hxs
          have g : DGet H a (.ref b) (valV vs kk) := .inr ⟨vs, kk, b, rd_mono s h1, rfl, hb, rfl⟩
          refine ⟨a, _, rfl, g, ?_⟩
          have e2 : valD kvs kk = r := Option.some.inj e'
          rcases RpK.val kk h2 with ⟨v, d, h3, h4, h5⟩ | ⟨h3, h4⟩
          · rw [h3, ← e2, h4]
            exact ⟨rfl, fun d' hd => by cases hd; exact ⟨v, rfl, h5⟩⟩
          · rw [h3, ← e2, h4]
            exact ⟨rfl, fun d' hd => by cases hd⟩
      | _ => cases q
theorem cmX_ok {o : Cm} {x y : Tx} {b : Bool} {v w : V} {Q : VK} (hx : RX T mg H v x) (hy : RX T mg H w y) (e : cmX o x y = some b) (q : Q (.bl b) H) : rCm o v w H Q := by
  cases x with
  | py d =>
    cases y with
    | py d' =>
      have z : rCmD o v w H Q := ⟨d, d', b, hx, hy, e, q⟩
      cases o <;> first | exact z | exact .inl z
    | obj c fs => cases o <;> first | (cases e; done) | (have e' : (getX (.obj c fs) d).map _ = some b := e; cases e')
    | lls xss => cases o <;> first | (cases e; done) | (have e' : (getX (.lls xss) d).map _ = some b := e; cases e')
    | dik kvs =>
      cases o <;> try (cases e; done)
      · have e' : (getX (.dik kvs) d).map (·.isSome) = some b := e
        cases r : getX (.dik kvs) d with
        | none => rw [r] at e'; cases e'
        | some r' =>
          rw [r] at e'
          obtain ⟨a, ov, e1, g, hs, _⟩ := getX_ok (Same.refl _) hy hx r
          exact .inr ⟨a, ov, e1, g, by rw [hs]; rw [show r'.isSome = b from Option.some.inj e']; exact q⟩
      · have e' : (getX (.dik kvs) d).map (!·.isSome) = some b := e
        cases r : getX (.dik kvs) d with
        | none => rw [r] at e'; cases e'
        | some r' =>
          rw [r] at e'
          obtain ⟨a, ov, e1, g, hs, _⟩ := getX_ok (Same.refl _) hy hx r
          exact .inr ⟨a, ov, e1, g, by rw [hs]; rw [show (!r'.isSome) = b from Option.some.inj e']; exact q⟩
    | dit kvs =>
      cases o <;> try (cases e; done)
      · have e' : (getX (.dit kvs) d).map (·.isSome) = some b := e
        cases r : getX (.dit kvs) d with
        | none => rw [r] at e'; cases e'
        | some r' =>
          rw [r] at e'
          obtain ⟨a, ov, e1, g, hs, _⟩ := getX_ok (Same.refl _) hy hx r
          exact .inr ⟨a, ov, e1, g, by rw [hs]; rw [show r'.isSome = b from Option.some.inj e']; exact q⟩
      · have e' : (getX (.dit kvs) d).map (!·.isSome) = some b := e
        cases r : getX (.dit kvs) d with
        | none => rw [r] at e'; cases e'
        | some r' =>
          rw [r] at e'
          obtain ⟨a, ov, e1, g, hs, _⟩ := getX_ok (Same.refl _) hy hx r
          exact .inr ⟨a, ov, e1, g, by rw [hs]; rw [show (!r'.isSome) = b from Option.some.inj e']; exact q⟩
  | _ => cases y <;> cases e
end
end
end Gr

set_option Elab.async false
set_option linter.all false
set_option maxRecDepth 100000
set_option maxHeartbeats 2000000
/-! Gr E: built-ins by values. -/
namespace Gr
open PySem L2
section
variable {X : Cx}
/-- a list or a tuple at a -/
def Sq (H : Hp) (a : Addr) (vs : List V) : Prop := Rd H a (.lst vs) ∨ H a = some (.tup vs)
theorem Sq.two {H : Hp} {a : Addr} {vs : List V} {K : PySem.W.Frag} (h : Sq H a vs) : SqL K H a vs ∨ SqT K H a vs := h.elim (fun z => .inl (.inl z)) fun z => .inr (.inl (.inl z))
theorem Sq.its {pins : List (Addr × Obj)} {s : Shared} {σ : St} {H : Hp} {a : Addr} {vs : List V} (I : Inv X pins σ H s) (h : Sq H a vs) : ∃ its : List Value, Vals vs its ∧ (s.heap.IsList a its.toArray ∨ s.heap.IsTuple a its.toArray) ∧ vs.length ≤ sizeLine := by
  rcases h with h | h
  · obtain ⟨its, r, p, z⟩ := I.list (xs := vs) (.inl h)
    exact ⟨its, r, .inl p.isList, z⟩
  · obtain ⟨its, r, p, z⟩ := I.tuple (xs := vs) (.inl (.inl h))
    exact ⟨its, r, .inr p, z⟩
def rLenG : List V → Hp → VK → Prop := fun xs H Q =>
  (∃ p ys, xs = [.ref p] ∧ Sq H p ys ∧ Q (.int ys.length) H) ∨ (∃ z : Str, xs = [.str z] ∧ z.length ≤ sizeLine ∧ Q (.int z.length) H) ∨ ∃ p kvs, xs = [.ref p] ∧ Rd H p (.dK kvs) ∧ Q (.int kvs.length) H
theorem lenG_ok : CallR X (.builtin "len") rLenG := by
  intro pins s σ H xs us Q I r h
  rcases h with ⟨p, ys, e, h, q⟩ | h | ⟨p, kvs, rfl, h, q⟩
  · exact call_len_seq pins s σ H xs us Q I r ⟨p, ys, e, h.two, q⟩
  · exact call_len_str pins s σ H xs us Q I r h
  · obtain ⟨u, rfl, rx⟩ := vals1 r
    cases rx
    exact d_len I h fun t s' I' => ⟨.int kvs.length, H, I', ⟨t, rfl⟩, q⟩
def rLenT2 : List V → Hp → VK → Prop := fun xs H Q => ∃ p kvs, xs = [.ref p] ∧ Rd H p (.dT kvs) ∧ Q (.int kvs.length) H
theorem lenT2_ok : CallR X (.builtin "len") rLenT2 := by
  rintro pins s σ H xs us Q I r ⟨p, kvs, rfl, hp, q⟩
  obtain ⟨u, rfl, rx⟩ := vals1 r
  obtain rfl : u = .ref p := rx
  obtain ⟨z, hd, ys, rel, dd⟩ := dt_rd I.hok hp
  have hl : kvs.length = ys.length := Paired.length rel
  have hf : ((ys.length : Nat) : Int) < 2 ^ 63 := by
    rw [← hl]
    rw [sizeLine_eq] at z
    omega
  refine PySem.call_len_dictH hd dd hf ?_
  rw [← hl]
  exact ⟨.int ((kvs.length : Nat) : Int), H, I.tok _, ⟨_, rfl⟩, q⟩
/-- two lists item by item -/
def FaI {α β : Type} (R : α → β → Prop) (xs : List α) (ys : List β) : Prop := xs.length = ys.length ∧ ∀ (i : Nat) (x : α) (y : β), xs[i]? = some x → ys[i]? = some y → R x y
theorem faI_rpA {H : Hp} {vs : List V} {ds : List D} : FaI (Rp H) vs ds ↔ RpA H vs ds := by
  constructor
  · intro ⟨hl, h⟩
    induction vs generalizing ds with
    | nil =>
      cases ds with
      | nil => exact .nil
      | cons _ _ => cases hl
    | cons v vs ih =>
      cases ds with
      | nil => cases hl
      | cons d ds => exact .cons (h 0 v d rfl rfl) (ih (by simpa using hl) fun i x y a b => h (i + 1) x y (by simpa using a) (by simpa using b))
  · intro h
    refine ⟨h.length, fun i x y a b => ?_⟩
    obtain ⟨d, h1, h2⟩ := h.getV a
    rw [b] at h1
    cases h1
    exact h2
theorem each_of_get {α β : Type} {R : α → β → Prop} : ∀ {as : List α} {bs : List β}, FaI R as bs → PySem.W.EachIs R as bs
  | [], [], _ => .nil
  | [], _ :: _, h => by cases h.1
  | _ :: _, [], h => by cases h.1
  | a :: as, b :: bs, ⟨hl, h⟩ => .cons (h 0 a b rfl rfl) (each_of_get ⟨by simpa using hl, fun i x y p q => h (i + 1) x y (by simpa using p) (by simpa using q)⟩)
theorem get_of_each {α β : Type} {R : α → β → Prop} : ∀ {as : List α} {bs : List β}, PySem.W.EachIs R as bs → FaI R as bs
  | _, _, .nil => ⟨rfl, fun i x y h _ => by simp at h⟩
  | _, _, .cons r t => by
    obtain ⟨hl, h⟩ := get_of_each t
    refine ⟨by simp [hl], fun i x y p q => ?_⟩
    cases i with
    | zero => simp at p q; subst p; subst q; exact r
    | succ i => exact h i x y (by simpa using p) (by simpa using q)
def rSortG : List V → Hp → VK → Prop := fun xs H Q => ∃ a vs ds, xs = [.ref a] ∧ Sq H a vs ∧ RpA H vs ds ∧ sortable ds = true ∧ ds.all dp = true ∧
  ∀ p vs', H p = none → vs'.length = ds.length → (∀ R : V → D → Prop, FaI R vs ds → FaI R vs' (sortD ds)) → Q (.ref p) (upd H p (.lst vs'))
theorem sortG_ok (hu : X.A.units + 64 < cLine) : CallR X (.builtin "sorted") rSortG := by
  intro pins s σ H xs us Q I r h
  obtain ⟨a, vs, ds, rfl, hS, hr, hs, hd, q⟩ := h
  obtain ⟨u, rfl, rx⟩ := vals1 r
  cases rx
  obtain ⟨its, rv, hl, hz⟩ := hS.its I
  have hlen := rv.length
  have hlen2 := hr.length
  have er : PySem.W.EachIs (fun v b => ∃ as, Reads s.heap v b as) its ds := each_of_get ⟨by omega, fun i u d h1 h2 => by
    obtain ⟨v, h3, h4⟩ := hr.get h2
    obtain ⟨u', h5, h6⟩ := rv.get h3
    rw [h1] at h5
    cases h5
    exact h4.reads I h6⟩
  unfold sortable at hs
  rw [Bool.and_eq_true] at hs
  have hal : PySem.W.AllAlike ds := fun d hd d' hd' => List.all_eq_true.mp (List.all_eq_true.mp hs.1 d hd) d' hd'
  have hk : PySem.W.Sortable ds := by
    rcases Bool.or_eq_true_iff.mp hs.2 with h | h
    · refine .inl fun d hd => ?_
      have := List.all_eq_true.mp h d hd
      cases d with
      | tuple xs =>
        cases xs with
        | nil => cases this
        | cons x r => exact ⟨x, r, rfl⟩
      | _ => cases this
    · refine .inr fun d hd => ?_
      have := List.all_eq_true.mp h d hd
      cases d with
      | none => cases this
      | tuple xs => cases this
      | _ => exact ⟨(fun z => by cases z), (fun _ z => by cases z)⟩
  refine PySem.W.gr_sorted (R := fun u d => ∃ i, its[i]? = some u ∧ ds[i]? = some d) hl (each_of_get ⟨by omega, fun i u d h1 h2 => ⟨i, h1, h2⟩⟩) er hal hk (by omega) (fun b hb => ?_) fun out ho heach => ?_
  · have := dep_depth 8 b (List.all_eq_true.mp hd b hb)
    omega
  · -- the new list's items
    obtain ⟨hol, hog⟩ := get_of_each heach
    have hsl : (sortD ds).length = ds.length := List.length_mergeSort _
    have pick : ∀ i u, out[i]? = some u → ∃ v, RelV v u ∧ ∀ R : V → D → Prop, FaI R vs ds → ∀ d, (sortD ds)[i]? = some d → R v d := fun i u hu => by
      have hi : i < (sortD ds).length := by have := (List.getElem?_eq_some_iff.mp hu).1; omega
      obtain ⟨j, h1, h2⟩ := hog i u (sortD ds)[i] hu (List.getElem?_eq_getElem hi)
      have hj : j < vs.length := by have := (List.getElem?_eq_some_iff.mp h1).1; omega
      obtain ⟨u', h3, h4⟩ := rv.get (List.getElem?_eq_getElem hj)
      rw [h1] at h3
      cases h3
      refine ⟨vs[j], h4, fun R hR d hd => ?_⟩
      rw [List.getElem?_eq_getElem hi] at hd
      cases hd
      exact hR.2 j _ _ (List.getElem?_eq_getElem hj) h2
    obtain ⟨vs', hvs⟩ : ∃ vs' : List V, Vals vs' out ∧ ∀ R : V → D → Prop, FaI R vs ds → ∀ i v d, vs'[i]? = some v → (sortD ds)[i]? = some d → R v d := by
      have go : ∀ (n : Nat) (o : List Value), (∀ i u, o[i]? = some u → out[n + i]? = some u) → ∃ vs' : List V, Vals vs' o ∧ ∀ R : V → D → Prop, FaI R vs ds → ∀ i v d, vs'[i]? = some v → (sortD ds)[n + i]? = some d → R v d := by
        intro n o
        induction o generalizing n with
        | nil => intro _; exact ⟨[], .nil, fun R _ i v d h _ => by simp at h⟩
        | cons u o ih =>
          intro ho
          obtain ⟨v, h1, h2⟩ := pick n u (by simpa using ho 0 u rfl)
          obtain ⟨vs', h3, h4⟩ := ih (n + 1) fun i u' h => by have := ho (i + 1) u' (by simpa using h); rwa [show n + 1 + i = n + (i + 1) by omega]
          refine ⟨v :: vs', .cons h1 h3, fun R hR i w d hw hd => ?_⟩
          cases i with
          | zero => simp at hw; subst hw; exact h2 R hR d (by simpa using hd)
          | succ i => exact h4 R hR i w d (by simpa using hw) (by rwa [show n + 1 + i = n + (i + 1) by omega])
      obtain ⟨vs', h1, h2⟩ := go 0 out fun i u h => by simpa using h
      exact ⟨vs', h1, fun R hR i v d hv hd => h2 R hR i v d hv (by simpa using hd)⟩
    obtain ⟨hvv, hR⟩ := hvs
    have hvl : vs'.length = ds.length := by rw [hvv.length]; exact ho
    obtain ⟨c, hc⟩ := PyProof.Rows.sortedAll_at s.heap its out.toArray
    have hn : H (s.heap.objs.size + 1) = none := I.hok.fresh (Nat.le_succ _)
    refine ⟨.ref (s.heap.objs.size + 1), _, I.laid (t' := s.toks) (o := .lst vs') (fun b u e => PyProof.Rows.sortedAll_old e) (Nat.le_succ _) ⟨by rw [hvl]; omega, out, c, hvv, hc⟩, rfl, q _ vs' hn hvl fun R hRv => ⟨by rw [hvl, hsl], fun i v d => hR R hRv i v d⟩⟩
def rMin1 : List V → Hp → VK → Prop := fun xs H Q => ∃ a n ns, xs = [.ref a] ∧ Sq H a ((n :: ns).map V.int) ∧ Q (.int (ns.foldl (fun a y => if y < a then y else a) n)) H
def rMax1 : List V → Hp → VK → Prop := fun xs H Q => ∃ a n ns, xs = [.ref a] ∧ Sq H a ((n :: ns).map V.int) ∧ Q (.int (ns.foldl (fun a y => if a < y then y else a) n)) H
theorem minOf_int (n : Int) (ns : List Int) : PySem.W.minOf n ns = ns.foldl (fun a y => if y < a then y else a) n := by
  unfold PySem.W.minOf
  congr 1
  funext a y
  show (if decide (y < a) = true then y else a) = _
  simp
theorem maxOf_int (n : Int) (ns : List Int) : PySem.W.maxOf n ns = ns.foldl (fun a y => if a < y then y else a) n := by
  unfold PySem.W.maxOf
  congr 1
  funext a y
  show (if decide (a < y) = true then y else a) = _
  simp
theorem holds_intV {h : Heap} {v : Value} {n : Int} (H : PySem.W.Holds h v n) : ∃ t, v = .int n t := by
  obtain ⟨as, r⟩ := H
  have r' : Reads h v (.int n) as := r
  cases r'
  exact ⟨_, rfl⟩
theorem min1_ok (hc : X.calm = true) (hu : X.A.units + 64 < cLine) : CallR X (.builtin "min") rMin1 := by
  intro pins s σ H xs us Q I r h
  obtain ⟨a, n, ns, rfl, hS, q⟩ := h
  obtain ⟨u, rfl, rx⟩ := vals1 r
  cases rx
  obtain ⟨its, rv, hl, hz⟩ := hS.its I
  have hI : PySem.W.HoldAll s.heap its (n :: ns) := PySem.W.HoldAll.of_ints (Vals.ints rv)
  have fin : ∀ (i : Nat) v h' tk, its.toArray[i]? = some v → PySem.W.Holds h' v (PySem.W.minOf n ns) → (∀ b o, s.heap.get? b = some o → h'.get? b = some o) → EP X pins σ Q v { s with heap := h', toks := tk } := fun i v h' tk _ hh k => by
    rw [minOf_int] at hh
    obtain ⟨t, rfl⟩ := holds_intV hh
    exact ⟨.int _, H, I.kept k, ⟨t, rfl⟩, q⟩
  rcases hl with hl | hl
  · exact PySem.W.min_list_datum (I.ok.hd hc) hl (by simpa using hI) (by show X.A.units + 1 + 0 < cLine; omega) fin
  · exact PySem.W.min_tuple_datum (I.ok.hd hc) hl (by simpa using hI) (by show X.A.units + 1 + 0 < cLine; omega) fin
theorem max1_ok (hc : X.calm = true) (hu : X.A.units + 64 < cLine) : CallR X (.builtin "max") rMax1 := by
  intro pins s σ H xs us Q I r h
  obtain ⟨a, n, ns, rfl, hS, q⟩ := h
  obtain ⟨u, rfl, rx⟩ := vals1 r
  cases rx
  obtain ⟨its, rv, hl, hz⟩ := hS.its I
  have hI : PySem.W.HoldAll s.heap its (n :: ns) := PySem.W.HoldAll.of_ints (Vals.ints rv)
  have fin : ∀ (i : Nat) v h' tk, its.toArray[i]? = some v → PySem.W.Holds h' v (PySem.W.maxOf n ns) → (∀ b o, s.heap.get? b = some o → h'.get? b = some o) → EP X pins σ Q v { s with heap := h', toks := tk } := fun i v h' tk _ hh k => by
    rw [maxOf_int] at hh
    obtain ⟨t, rfl⟩ := holds_intV hh
    exact ⟨.int _, H, I.kept k, ⟨t, rfl⟩, q⟩
  rcases hl with hl | hl
  · exact PySem.W.max_list_datum (I.ok.hd hc) hl (by simpa using hI) (by show X.A.units + 1 + 0 < cLine; omega) fin
  · exact PySem.W.max_tuple_datum (I.ok.hd hc) hl (by simpa using hI) (by show X.A.units + 1 + 0 < cLine; omega) fin
def rListG : List V → Hp → VK → Prop := fun xs H Q => ∃ p ys, xs = [.ref p] ∧ Sq H p ys ∧ ∀ l, H l = none → Q (.ref l) (upd H l (.lst ys))
theorem listG_ok : CallR X (.type "list") rListG := by
  rintro pins s σ H xs us Q I r ⟨p, ys, e, h, q⟩
  exact call_list_of pins s σ H xs us Q I r ⟨p, ys, e, h.two, q⟩
def rTupleG : List V → Hp → VK → Prop := fun xs H Q => ∃ p ys, xs = [.ref p] ∧ ((Rd H p (.lst ys) ∧ ∀ l, H l = none → Q (.ref l) (upd H l (.tup ys))) ∨ (H p = some (.tup ys) ∧ Q (.ref p) H))
theorem tupleG_ok : CallR X (.type "tuple") rTupleG := by
  rintro pins s σ H xs us Q I r ⟨p, ys, e, h⟩
  refine call_tuple_of pins s σ H xs us Q I r ⟨p, ys, e, ?_⟩
  rcases h with ⟨h, q⟩ | ⟨h, q⟩
  · exact .inl ⟨.inl h, q⟩
  · exact .inr ⟨.inl (.inl h), q⟩
/-- what is asked of the arguments of a built-in -/
def rBi (K : PySem.W.Frag) : Bi → List V → Hp → VK → Prop
  | .len => rLenG
  | .sum => rSum K
  | .sorted => rSortG
  | .list => rListG
  | .tuple => rTupleG
  | .all => rAll K
  | .any => rAny K
  | .min1 => rMin1
  | .max1 => rMax1
  | .min2 => fun xs H Q => ∃ i j, xs = [.int i, .int j] ∧ Q (.int (if j < i then j else i)) H
  | .max2 => fun xs H Q => ∃ i j, xs = [.int i, .int j] ∧ Q (.int (if j > i then j else i)) H
  | .int => fun xs H Q => (∃ i, xs = [.int i] ∧ Q (.int i) H) ∨ ∃ k, xs = [.bl k] ∧ Q (.int (if k then 1 else 0)) H
  | .str => fun xs H Q => ∃ i, xs = [.int i] ∧ i.natAbs.log2 < 1920 ∧ Q (.str (toString i)) H
  | .abs => fun xs H Q => ∃ i, xs = [.int i] ∧ Q (.int (if i < 0 then -i else i)) H
  | .sortedK => fun xs H Q => ∃ (a : Addr) (kvs : List (Key × V)) (ks : List Int), xs = [.ref a] ∧ Rd H a (.dK kvs) ∧ kvs.map (·.1) = ks.map Sum.inl ∧ ks.length < 64 ∧
    ∀ (ys : List Int) (p : Addr), ys.Perm ks → ys.Pairwise (· ≤ ·) → H p = none → Q (.ref p) (upd H p (.lst (ys.map V.int)))
  | .lenT => rLenT2
def biN : Bi → Str
  | .len => "len" | .sum => "sum" | .sorted => "sorted" | .list => "list" | .tuple => "tuple" | .all => "all" | .any => "any" | .min1 => "min" | .max1 => "max" | .min2 => "min" | .max2 => "max" | .int => "int" | .str => "str" | .abs => "abs" | .sortedK => "sorted" | .lenT => "len"
def biV : Bi → Value
  | .len => .builtin "len" | .sum => .builtin "sum" | .sorted => .builtin "sorted" | .list => .type "list" | .tuple => .type "tuple" | .all => .builtin "all" | .any => .builtin "any" | .min1 => .builtin "min" | .max1 => .builtin "max"
  | .min2 => .builtin "min" | .max2 => .builtin "max" | .int => .type "int" | .str => .type "str" | .abs => .builtin "abs" | .sortedK => .builtin "sorted" | .lenT => .builtin "len"
theorem bi_call (hc : X.calm = true) (hu : X.A.units + 64 < cLine) : ∀ b : Bi, CallR X (biV b) (rBi X.K b)
  | .len => lenG_ok
  | .sum => cr_sum hc
  | .sorted => sortG_ok hu
  | .list => listG_ok
  | .tuple => tupleG_ok
  | .all => cr_all hc
  | .any => cr_any hc
  | .min1 => min1_ok hc hu
  | .max1 => max1_ok hc hu
  | .min2 => call_min2 hc
  | .max2 => call_max2 hc
  | .int => call_int1
  | .str => call_str_int
  | .abs => call_abs
  | .sortedK => call_sortedDI hc
  | .lenT => lenT2_ok
theorem bi_boot : ∀ b : Bi, bootBuiltins (biN b) = some (biV b)
  | .len => PySem.boot_len
  | .sum => PyProof.Rows.boot_sum
  | .sorted => PyProof.Rows.boot_sorted
  | .list => PyProof.Rows.boot_list
  | .tuple => PyProof.Rows.boot_tuple
  | .all => PyProof.Rows.boot_all
  | .any => PyProof.Rows.boot_any
  | .min1 => PyProof.Rows.boot_min
  | .max1 => PyProof.Rows.boot_max
  | .min2 => PyProof.Rows.boot_min
  | .max2 => PyProof.Rows.boot_max
  | .int => PyProof.Rows.boot_int
  | .str => PyProof.Rows.boot_str
  | .abs => PyProof.Rows.boot_abs
  | .sortedK => PyProof.Rows.boot_sorted
  | .lenT => PySem.boot_len
theorem bi_pe (b : Bi) {e : Expr} {es : List Expr} {t : TA} {p pos : Pos} (hc : X.calm = true) (hu : X.A.units + 64 < cLine) (hg : Gl X (biN b)) (hm : X.mg (biN b) = none) (ha : PA X (e :: es) t)
    (he : starEach (e :: es) X.env = (false, eval e X.env) :: starEach es X.env) (hpl : (backTo pos (starEach es X.env)).any (·.1) = false) : PE X (.Call (.Name (biN b) p) (e :: es) [] pos) (tCB (rBi X.K b) t) := by
  have hn : (biN b) ≠ "__name__" := by cases b <;> decide
  have hdb : (biN b == ("__debug__" : Str)) = false := by cases b <;> decide
  have hv := bi_boot b
  have hcall := bi_call hc hu b
  have h1 : ∀ id, biV b = .builtin id → PE X (.Call (.Name (biN b) p) (e :: es) [] pos) (tCB (rBi X.K b) t) := fun id q => by
    rw [q] at hv hcall
    exact pe_callB hcall hg hm hv ha hn hdb he hpl
  have h2 : ∀ id, biV b = .type id → PE X (.Call (.Name (biN b) p) (e :: es) [] pos) (tCB (rBi X.K b) t) := fun id q => by
    rw [q] at hv hcall
    exact pe_callTy hcall hg hm hv ha hn hdb he hpl
  cases b <;> first | exact h1 _ rfl | exact h2 _ rfl
end
end Gr

set_option Elab.async false
set_option linter.all false
set_option maxRecDepth 100000
set_option maxHeartbeats 2000000
/-! Gr F: what a def promises, by its function; the call. -/
namespace Gr
open PySem L2
def ownVs : List V → List C → List V
  | v :: vs, c :: cs => match c with
    | .own _ => v :: ownVs vs cs
    | _ => ownVs vs cs
  | _, _ => []
def argOk : C → Bool
  | .fro _ => true
  | .bor _ => true
  | .own _ => true
  | .exc _ => true
  | _ => false
abbrev tz (vs : List V) (cs : List C) : List Cell := (vs.map some).zip cs
/-- a def's promise: F tells its end -/
def spOf (T : Glob) (mg : Str → Option Value) (F : Fn) : Sp := fun vs H Q E => ∃ (cs : List C) (G H0 : Hp) (ow : Addr → Option Kx), SRx T mg H0 G [] ow G H0 (vs.map some) cs [] H ∧ (∀ c ∈ cs, argOk c = true) ∧
  match F cs with
  | .ok c outs => ∀ v H' ow' G' B', outs.length = (ownVs vs cs).length → SRx T mg H0 G [] ow' G' B' [] [] ((some v, c) :: tz (ownVs vs cs) outs) H' → Q v H'
  | .err n => ∀ Cx nm H', T.exs[n]? = some nm → mg nm = some (.ref Cx) → Same H0 H' → E (.ref Cx) none H'
  | .stuck => False
section
variable {T : Glob} {mg : Str → Option Value} {H0 G0 G B H H' : Hp} {Fx : List (Nat × V)} {ow : Addr → Option Kx} {σ : St} {ρ ρ' : List C} {ts as bs : List Cell}

theorem tz_cons {v : V} {vs : List V} {c : C} {cs : List C} : tz (v :: vs) (c :: cs) = (some v, c) :: tz vs cs := rfl
theorem pass0_ok : ∀ {vs : List V} {cs cs' : List C} {ms : List Nat} {ρ ρ' : List C} {ts : List Cell}, vs.length = cs.length → SR T mg H0 G0 Fx σ ρ (ts ++ tz vs cs) H → pass0 ρ ms cs = some (cs', ρ') → SR T mg H0 G0 Fx σ ρ' (ts ++ tz vs cs') H ∧ cs'.length = cs.length ∧ ms.length = cs.length := by
  intro vs
  induction vs with
  | nil =>
    intro cs cs' ms ρ ρ' ts hl S h
    cases cs with
    | cons _ _ => cases hl
    | nil =>
      cases ms with
      | nil => cases h; exact ⟨S, rfl, rfl⟩
      | cons _ _ => cases h
  | cons v vs ih =>
    intro cs cs' ms ρ ρ' ts hl S h
    cases cs with
    | nil => cases hl
    | cons c cs =>
      cases ms with
      | nil => cases h
      | cons m ms =>
        have hl' : vs.length = cs.length := by simpa using hl
        have go : ∀ (d : C) (ρ1 : List C), SR T mg H0 G0 Fx σ ρ1 (ts ++ (some v, d) :: tz vs cs) H → (pass0 ρ1 ms cs).map (fun q => (d :: q.1, q.2)) = some (cs', ρ') →
            SR T mg H0 G0 Fx σ ρ' (ts ++ tz (v :: vs) cs') H ∧ cs'.length = (c :: cs).length ∧ (m :: ms).length = (c :: cs).length := fun d ρ1 S1 e => by
          cases q : pass0 ρ1 ms cs with
          | none => rw [q] at e; cases e
          | some p =>
            rw [q] at e
            cases e
            have e2 : ts ++ (some v, d) :: tz vs cs = (ts ++ [(some v, d)]) ++ tz vs cs := by simp
            rw [e2] at S1
            obtain ⟨S2, h2, h3⟩ := ih (cs' := p.1) (ρ' := p.2) hl' S1 q
            refine ⟨?_, by simp [h2], by simp [h3]⟩
            rw [tz_cons]
            have e3 : ts ++ (some v, d) :: tz vs p.1 = (ts ++ [(some v, d)]) ++ tz vs p.1 := by simp
            rw [e3]
            exact S2
        have S' : SR T mg H0 G0 Fx σ ρ (ts ++ (some v, c) :: tz vs cs) H := S
        cases m with
        | succ m => exact go c ρ S' h
        | zero =>
          have fzc : ∀ {e : (fz ρ c).bind (fun p => (pass0 p.2 ms cs).map fun q => (.fro p.1 :: q.1, q.2)) = some (cs', ρ')}, SR T mg H0 G0 Fx σ ρ' (ts ++ tz (v :: vs) cs') H ∧ cs'.length = (c :: cs).length ∧ (0 :: ms).length = (c :: cs).length := fun {e} => by
            cases q : fz ρ c with
            | none => rw [q] at e; cases e
            | some p =>
              rw [q] at e
              exact go (.fro p.1) p.2 (S'.fz q) e
          cases c with
          | bor x => exact go (.bor x) ρ S' h
          | exc n => exact go (.exc n) ρ S' h
          | fro x => exact fzc (e := h)
          | own x => exact fzc (e := h)
          | pk i => exact fzc (e := h)
          | und => exact fzc (e := h)
          | lkd x => exact fzc (e := h)
theorem pass1_fro {m : Nat} {x : Tx} : pass1 ρ m (.fro x) = some (.fro x) := by simp [pass1]
theorem pass1_bor {m : Nat} {x : Tx} : pass1 ρ m (.bor x) = some (.bor x) := by simp [pass1]
theorem pass1_exc {m n : Nat} : pass1 ρ m (.exc n) = some (.exc n) := by simp [pass1]
theorem pass1s_get : ∀ {ms : List Nat} {cs as : List C}, pass1s ρ ms cs = some as → as.length = cs.length ∧ ms.length = cs.length ∧ ∀ (j : Nat) (a : C), as[j]? = some a → ∃ m c, ms[j]? = some m ∧ cs[j]? = some c ∧ pass1 ρ m c = some a := by
  intro ms
  induction ms with
  | nil =>
    intro cs as h
    cases cs with
    | nil => cases h; exact ⟨rfl, rfl, fun j a e => by simp at e⟩
    | cons _ _ => cases h
  | cons m ms ih =>
    intro cs as h
    cases cs with
    | nil => cases h
    | cons c cs =>
      have h' : ((pass1 ρ m c).bind fun a => (pass1s ρ ms cs).map fun as => a :: as) = some as := h
      cases q : pass1 ρ m c with
      | none => rw [q] at h'; cases h'
      | some a =>
        cases q2 : pass1s ρ ms cs with
        | none => rw [q, q2] at h'; cases h'
        | some as' =>
          rw [q, q2] at h'
          cases h'
          obtain ⟨h1, h2, h3⟩ := ih q2
          refine ⟨by simp [h1], by simp [h2], fun j b e => ?_⟩
          cases j with
          | zero => simp at e; subst e; exact ⟨m, c, rfl, rfl, q⟩
          | succ j => exact h3 j b (by simpa using e)
/-- the places of the things to be changed -/
theorem muts_get : ∀ {ms : List Nat} {cs as : List C} {vs : List V}, vs.length = cs.length → pass1s ρ ms cs = some as → (∀ (n i : Nat), (muts ms cs)[n]? = some i → ∃ (j : Nat) (v : V), ms[j]? = some 2 ∧ cs[j]? = some (.pk i) ∧ vs[j]? = some v ∧ (ownVs vs as)[n]? = some v) ∧ (ownVs vs as).length = (muts ms cs).length := by
  intro ms
  induction ms with
  | nil =>
    intro cs as vs hl h
    cases cs with
    | nil => cases h; cases vs with
      | nil => exact ⟨fun n i e => by simp [muts, pks] at e, rfl⟩
      | cons _ _ => cases hl
    | cons _ _ => cases h
  | cons m ms ih =>
    intro cs as vs hl h
    cases cs with
    | nil => cases h
    | cons c cs =>
      cases vs with
      | nil => cases hl
      | cons v vs =>
        have hl' : vs.length = cs.length := by simpa using hl
        have h' : ((pass1 ρ m c).bind fun a => (pass1s ρ ms cs).map fun as => a :: as) = some as := h
        cases q : pass1 ρ m c with
        | none => rw [q] at h'; cases h'
        | some a =>
          cases q2 : pass1s ρ ms cs with
          | none => rw [q, q2] at h'; cases h'
          | some as' =>
            rw [q, q2] at h'
            cases h'
            obtain ⟨h1, h2⟩ := ih hl' q2
            have skip : (∀ y, a ≠ .own y) → isPk 2 m c = none → (∀ (n i : Nat), (muts (m :: ms) (c :: cs))[n]? = some i → ∃ (j : Nat) (w : V), (m :: ms)[j]? = some 2 ∧ (c :: cs)[j]? = some (.pk i) ∧ (v :: vs)[j]? = some w ∧ (ownVs (v :: vs) (a :: as'))[n]? = some w) ∧ (ownVs (v :: vs) (a :: as')).length = (muts (m :: ms) (c :: cs)).length := fun n1 n2 => by
              have e1 : ownVs (v :: vs) (a :: as') = ownVs vs as' := by
                cases a with
                | own y => exact absurd rfl (n1 y)
                | _ => rfl
              have e2 : muts (m :: ms) (c :: cs) = muts ms cs := by simp only [pks, n2]
              rw [e1, e2]
              refine ⟨fun n i e => ?_, h2⟩
              obtain ⟨j, w, a1, a2, a3, a4⟩ := h1 n i e
              exact ⟨j + 1, w, a1, a2, a3, a4⟩
            by_cases hm : ∃ i, m = 2 ∧ c = .pk i
            · obtain ⟨i, rfl, rfl⟩ := hm
              have q' : (match ρ[i]? with | some (.own x) => some (.own x) | _ => none) = some a := q
              cases r : ρ[i]? with
              | none => rw [r] at q'; cases q'
              | some d =>
                rw [r] at q'
                cases d with
                | own y =>
                  cases q'
                  refine ⟨fun n i' e => ?_, by show (v :: ownVs vs as').length = (i :: muts ms cs).length; simp [h2]⟩
                  cases n with
                  | zero =>
                    have e' : i = i' := Option.some.inj e
                    subst e'
                    exact ⟨0, v, rfl, rfl, rfl, rfl⟩
                  | succ n =>
                    obtain ⟨j, w, a1, a2, a3, a4⟩ := h1 n i' e
                    exact ⟨j + 1, w, a1, a2, a3, a4⟩
                | _ => cases q'
            · have hn : isPk 2 m c = none := by
                cases c with
                | pk i =>
                  show (if m = 2 then some i else none) = none
                  rw [if_neg fun z => hm ⟨i, z, rfl⟩]
                | _ => rfl
              refine skip (fun y e => ?_) hn
              subst e
              -- an own thing is passed only to be changed
              match m, c, q with
              | 2, .pk i, q => exact hm ⟨i, rfl, rfl⟩
              | 1, .pk i, q =>
                have q' : (look ρ (.pk i)).map C.bor = some (.own y) := q
                cases r : look ρ (.pk i) with
                | none => rw [r] at q'; cases q'
                | some z => rw [r] at q'; cases q'
              | 0, .pk i, q => cases q
              | m + 3, .pk i, q => cases q
              | 0, .own x, q => cases q
              | 1, .own x, q => cases q
              | m + 2, .own x, q => cases q
              | _, .fro x, q => simp [pass1] at q
              | _, .bor x, q => simp [pass1] at q
              | _, .exc x, q => simp [pass1] at q
              | 0, .und, q => cases q
              | 1, .und, q => cases q
              | m + 2, .und, q => cases q
              | 0, .lkd x, q => cases q
              | 1, .lkd x, q => cases q
              | m + 2, .lkd x, q => cases q
theorem isPk_some {k m i : Nat} {c : C} : isPk k m c = some i ↔ m = k ∧ c = .pk i := by
  cases c with
  | pk j =>
    show (if m = k then some j else none) = some i ↔ _
    by_cases h : m = k
    · rw [if_pos h]; simp [h]
    · rw [if_neg h]; simp [h]
  | _ => simp [isPk]
theorem mem_pks {k : Nat} : ∀ {ms : List Nat} {cs : List C} {j i : Nat}, ms[j]? = some k → cs[j]? = some (.pk i) → i ∈ pks k ms cs := by
  intro ms
  induction ms with
  | nil => intro cs j i h; simp at h
  | cons m ms ih =>
    intro cs j i h1 h2
    cases cs with
    | nil => simp at h2
    | cons c cs =>
      cases j with
      | zero =>
        simp at h1 h2
        have : isPk k m c = some i := isPk_some.mpr ⟨h1, h2⟩
        simp only [pks, this]
        exact List.mem_cons_self
      | succ j =>
        have := ih (cs := cs) (j := j) (i := i) (by simpa using h1) (by simpa using h2)
        unfold pks
        split
        · exact List.mem_cons_of_mem _ this
        · exact this
theorem mem_muts {ms : List Nat} {cs : List C} {j i : Nat} : ms[j]? = some 2 → cs[j]? = some (.pk i) → i ∈ muts ms cs := mem_pks
theorem mem_lent {ms : List Nat} {cs : List C} {j i : Nat} : ms[j]? = some 1 → cs[j]? = some (.pk i) → i ∈ lent ms cs := mem_pks
/-- each slot to be changed is handed on once -/
theorem muts_once : ∀ {ms : List Nat} {cs : List C} {j j' i : Nat}, (muts ms cs).Nodup → ms[j]? = some 2 → cs[j]? = some (.pk i) → ms[j']? = some 2 → cs[j']? = some (.pk i) → j = j' := by
  intro ms
  induction ms with
  | nil => intro cs j j' i _ h; simp at h
  | cons m ms ih =>
    intro cs j j' i nd h1 h2 h3 h4
    cases cs with
    | nil => simp at h2
    | cons c cs =>
      have tail : (muts ms cs).Nodup := by
        cases q : isPk 2 m c with
        | none => simp only [pks, q] at nd; exact nd
        | some k => simp only [pks, q] at nd; exact (List.nodup_cons.mp nd).2
      have head : ∀ {k : Nat}, m = 2 → c = .pk i → ms[k]? = some 2 → cs[k]? = some (.pk i) → False := fun {k} e1 e2 e3 e4 => by
        have q : isPk 2 m c = some i := isPk_some.mpr ⟨e1, e2⟩
        simp only [pks, q] at nd
        exact (List.nodup_cons.mp nd).1 (mem_muts e3 e4)
      cases j with
      | zero =>
        simp at h1 h2
        cases j' with
        | zero => rfl
        | succ j' => exact (head h1 h2 (by simpa using h3) (by simpa using h4)).elim
      | succ j =>
        cases j' with
        | zero =>
          simp at h3 h4
          exact (head h3 h4 (by simpa using h1) (by simpa using h2)).elim
        | succ j' => exact congrArg (· + 1) (ih (i := i) (cs := cs) tail (by simpa using h1) (by simpa using h2) (by simpa using h3) (by simpa using h4))
theorem backIs_ok : ∀ {is : List Nat} {outs ρ ρ' : List C}, backIs ρ is outs = some ρ' → ρ'.length = ρ.length ∧ outs.length = is.length ∧ (∀ i, i ∉ is → ρ'[i]? = ρ[i]?) ∧ (is.Nodup → ∀ (n i : Nat), is[n]? = some i → ∃ x, outs[n]? = some (.own x) ∧ (i < ρ.length → ρ'[i]? = some (.own x))) := by
  intro is
  induction is with
  | nil =>
    intro outs ρ ρ' h
    cases outs with
    | nil => cases h; exact ⟨rfl, rfl, fun _ _ => rfl, fun _ n i e => by simp at e⟩
    | cons _ _ => cases h
  | cons i is ih =>
    intro outs ρ ρ' h
    cases outs with
    | nil => cases h
    | cons o outs =>
      cases o with
      | own x =>
        have h' : backIs (ρ.set i (.own x)) is outs = some ρ' := h
        obtain ⟨h1, h2, h3, h4⟩ := ih h'
        refine ⟨by rw [h1, List.length_set], by simp [h2], fun k hk => ?_, fun nd n k e => ?_⟩
        · rw [h3 k fun z => hk (List.mem_cons_of_mem _ z), List.getElem?_set_ne (fun z => hk (List.mem_cons.mpr (.inl z.symm)))]
        · cases n with
          | zero =>
            simp at e
            subst e
            refine ⟨x, rfl, fun hl => ?_⟩
            rw [h3 i (List.nodup_cons.mp nd).1, List.getElem?_set_self hl]
          | succ n =>
            obtain ⟨y, h5, h6⟩ := h4 (List.nodup_cons.mp nd).2 n k (by simpa using e)
            exact ⟨y, by simpa using h5, fun hl => h6 (by rwa [List.length_set])⟩
      | _ => cases h
theorem lostIs_ok : ∀ {is : List Nat} {ρ : List C}, (lostIs ρ is).length = ρ.length ∧ (∀ i, i ∉ is → (lostIs ρ is)[i]? = ρ[i]?) ∧ ∀ i, i ∈ is → ∀ c, (lostIs ρ is)[i]? = some c → c = .und := by
  intro is
  induction is with
  | nil => intro ρ; exact ⟨rfl, fun _ _ => rfl, fun i h => by cases h⟩
  | cons i is ih =>
    intro ρ
    obtain ⟨h1, h2, h3⟩ := ih (ρ := ρ.set i .und)
    refine ⟨by show (lostIs (ρ.set i .und) is).length = _; rw [h1, List.length_set], fun k hk => ?_, fun k hk c e => ?_⟩
    · show (lostIs (ρ.set i .und) is)[k]? = _
      rw [h2 k fun z => hk (List.mem_cons_of_mem _ z), List.getElem?_set_ne (fun z => hk (List.mem_cons.mpr (.inl z.symm)))]
    · by_cases z : k ∈ is
      · exact h3 k z c e
      · have e' : (lostIs (ρ.set i .und) is)[k]? = some c := e
        rw [h2 k z] at e'
        rcases List.mem_cons.mp hk with r | r
        · subst r
          by_cases hl : k < ρ.length
          · rw [List.getElem?_set_self hl] at e'
            exact (Option.some.inj e').symm
          · rw [List.getElem?_eq_none (by simpa using hl)] at e'
            cases e'
        · exact absurd r z

/-- what a thing in a temp is, passed on -/
theorem SRx.view1 (S : SRx T mg H0 G0 Fx ow G B σ ρ ts H) {k : Kx} {v : V} {c : C} {x : Tx} {R : Hp} (hc : cel σ ρ ts k = some (some v, c)) (l : Gr.look ρ c = some x) (hg : Same G R) (hb : Same B R)
    (ho : ∀ a k', ow a = some k' → (∀ i, c = .pk i → k' = .inl i) → ((∀ i, c ≠ .pk i) → k' = k) → ∀ o, H a = some o → R a = some o) : RX T mg R v x := by
  have r := S.rel _ _ _ hc
  cases c with
  | und => cases l
  | exc n => cases l
  | fro y => cases l; obtain ⟨u, e, r⟩ := r; cases e; exact r.mono hg
  | bor y => cases l; obtain ⟨u, e, r⟩ := r; cases e; exact r.mono hb
  | own y => cases l; obtain ⟨a, e, o, r⟩ := r; cases e; exact (r.mono (H' := R) o (fun b ob u z => ho b _ ob (fun _ z => by cases z) (fun _ => rfl) u z) (fun _ z => z) (Same.refl _)).view hg
  | lkd y => cases l; obtain ⟨a, e, o, r⟩ := r; cases e; exact (r.mono (H' := R) o (fun b ob u z => ho b _ ob (fun _ z => by cases z) (fun _ => rfl) u z) (fun _ z => z) (Same.refl _)).view hg
  | pk i =>
    obtain ⟨u, e, r⟩ := r
    cases e
    have l' : (match ρ[i]? with | some (.own x) => some x | some (.lkd x) => some x | _ => none) = some x := l
    cases q : ρ[i]? with
    | none => rw [q] at l'; cases l'
    | some c' =>
      rw [q] at l'
      have hi : i < σ.length := by rw [S.len]; exact (List.getElem?_eq_some_iff.mp q).1
      have hs : σ[i]? = some σ[i] := List.getElem?_eq_getElem hi
      cases c' with
      | own y =>
        cases l'
        have hc : cel σ ρ ts (.inl i) = some (σ[i], .own x) := cel_inl.mpr ⟨hs, q⟩
        have e2 := r _ _ (.inl hc)
        obtain ⟨a, e3, o, r3⟩ := S.rel _ _ _ hc
        rw [e2] at e3
        cases e3
        exact (r3.mono (H' := R) o (fun b ob u z => ho b _ ob (fun j z => by cases z; rfl) (fun n => absurd rfl (n i)) u z) (fun _ z => z) (Same.refl _)).view hg
      | lkd y =>
        cases l'
        have hc : cel σ ρ ts (.inl i) = some (σ[i], .lkd x) := cel_inl.mpr ⟨hs, q⟩
        have e2 := r _ _ (.inr hc)
        obtain ⟨a, e3, o, r3⟩ := S.rel _ _ _ hc
        rw [e2] at e3
        cases e3
        exact (r3.mono (H' := R) o (fun b ob u z => ho b _ ob (fun j z => by cases z; rfl) (fun n => absurd rfl (n i)) u z) (fun _ z => z) (Same.refl _)).view hg
      | _ => cases l'
/-- the caller's heap without what is handed on to be changed -/
noncomputable def less (H : Hp) (M : Addr → Prop) : Hp := open Classical in fun b => if M b then none else H b
theorem less_in {M : Addr → Prop} {b : Addr} (h : ¬ M b) : less H M b = H b := by unfold less; rw [if_neg h]
theorem less_out {M : Addr → Prop} {b : Addr} (h : M b) : less H M b = none := by unfold less; rw [if_pos h]
theorem less_same {M : Addr → Prop} : Same (less H M) H := fun b o e => by
  by_cases h : M b
  · rw [less_out h] at e; cases e
  · rw [less_in h] at e; exact e
theorem tz_get {vs : List V} {cs : List C} {j : Nat} {w : Option V} {c : C} : (tz vs cs)[j]? = some (w, c) ↔ ∃ v, w = some v ∧ vs[j]? = some v ∧ cs[j]? = some c := by
  show ((vs.map some).zip cs)[j]? = some (w, c) ↔ _
  rw [List.getElem?_zip_eq_some, List.getElem?_map]
  constructor
  · rintro ⟨h1, h2⟩
    cases q : vs[j]? with
    | none => rw [q] at h1; cases h1
    | some v => rw [q] at h1; cases h1; exact ⟨v, rfl, rfl, h2⟩
  · rintro ⟨v, rfl, h1, h2⟩
    rw [h1]
    exact ⟨rfl, h2⟩
/-- THE CALL -/
theorem call_ok {F : Fn} {vs : List V} {cs cs' ca : List C} {ms : List Nat} {Q : VK} {E : XK} (hl : vs.length = cs.length) (S : SR T mg H0 G0 Fx σ ρ (ts ++ tz vs cs) H) (h0 : pass0 ρ ms cs = some (cs', ρ')) (h1 : pass1s ρ' ms cs' = some ca) (hp : passOk ms cs' = true)
    (hq : match F ca with
      | .ok c outs => ∃ ρ'' c', backIs ρ' (muts ms cs') outs = some ρ'' ∧ resC c = some c' ∧ ∀ v H', SR T mg H0 G0 Fx σ ρ'' (ts ++ [(some v, c')]) H' → Q v H'
      | .err n => ∀ Cx nm H', T.exs[n]? = some nm → mg nm = some (.ref Cx) → SR T mg H0 G0 Fx σ (lostIs ρ' (muts ms cs')) ts H' → E (.ref Cx) none H'
      | .stuck => False) : spOf T mg F vs H Q E := by
  obtain ⟨S1, hl2, hl3⟩ := pass0_ok hl S h0
  obtain ⟨ow, G, B, S1⟩ := S1
  obtain ⟨hal, hml, hget⟩ := pass1s_get h1
  have hlv : vs.length = cs'.length := by omega
  obtain ⟨hmut, hol⟩ := muts_get hlv h1
  unfold passOk at hp
  rw [Bool.and_eq_true, decide_eq_true_eq, List.all_eq_true] at hp
  obtain ⟨hnd, hlent⟩ := hp
  -- what is handed on to be changed
  let M : Addr → Prop := fun b => ∃ i, i ∈ muts ms cs' ∧ ow b = some (.inl i)
  have hMo : ∀ b, M b → ∃ k, ow b = some k := fun b ⟨i, _, e⟩ => ⟨_, e⟩
  have hB : Same B (less H M) := fun b o e => by
    rw [less_in fun hm => by obtain ⟨k, hk⟩ := hMo b hm; rw [S1.nb _ _ hk] at e; cases e]
    exact S1.bh _ _ e
  have hG : Same G (less H M) := S1.gb.trans hB
  have tcell : ∀ j v c, vs[j]? = some v → cs'[j]? = some c → cel σ ρ' (ts ++ tz vs cs') (.inr (ts.length + j)) = some (some v, c) := fun j v c e1 e2 => by
    show (ts ++ tz vs cs')[ts.length + j]? = _
    rw [List.getElem?_append_right (by omega), show ts.length + j - ts.length = j by omega]
    exact tz_get.mpr ⟨v, rfl, e1, e2⟩
  -- the callee's owner of an address
  have ownj : ∀ b, ∃ r : Option Kx, (∀ k, r = some k → ∃ k', ow b = some k') ∧ (r ≠ none → M b) ∧ ∀ j i, ms[j]? = some 2 → cs'[j]? = some (.pk i) → ow b = some (.inl i) → r = some (.inl j) := fun b => by
    by_cases h : ∃ (j i : Nat), ms[j]? = some 2 ∧ cs'[j]? = some (C.pk i) ∧ ow b = some (.inl i)
    · obtain ⟨j, i, e1, e2, e3⟩ := h
      refine ⟨some (.inl j), fun k _ => ⟨_, e3⟩, fun _ => ⟨i, mem_muts e1 e2, e3⟩, fun j' i' f1 f2 f3 => ?_⟩
      rw [e3] at f3
      cases f3
      rw [muts_once hnd e1 e2 f1 f2]
    · refine ⟨none, fun k e => (by cases e), fun n => absurd rfl n, ?_⟩
      intro j i f1 f2 f3
      exact absurd ⟨j, i, f1, f2, f3⟩ h
  let owc : Addr → Option Kx := fun b => (ownj b).choose
  have Sc : SRx T mg (less H M) G [] owc G (less H M) (vs.map some) ca [] H := by
    refine ⟨by rw [List.length_map, hal, hlv], Same.refl _, fun b o e => .inl e, Same.refl _, hG, less_same, fun b k e => ?_, fun b k e => ?_, fun i j e => ?_, fun k w c e => ?_, fun p hp => by cases hp⟩
    · exact less_out ((ownj b).choose_spec.2.1 (by show owc b ≠ none; rw [e]; exact fun z => by cases z))
    · obtain ⟨k', hk⟩ := (ownj b).choose_spec.1 k e
      exact S1.live _ _ hk
    · obtain ⟨m, c, _, _, q⟩ := hget i _ e
      have : argOk (C.pk j) = true := by
        unfold pass1 at q
        split at q <;> first | (cases q; done) | skip
        · cases r : look ρ' (.pk _) with
          | none => rw [r] at q; cases q
          | some z => rw [r] at q; cases q
        · split at q <;> cases q
      cases this
    · cases k with
      | inr j => have e' : ([] : List Cell)[j]? = some (w, c) := e; simp at e'
      | inl j =>
        obtain ⟨e1, e2⟩ := cel_inl.mp e
        rw [List.getElem?_map] at e1
        cases hv : vs[j]? with
        | none => rw [hv] at e1; cases e1
        | some v =>
          rw [hv] at e1
          cases e1
          obtain ⟨m, d, hm, hd, q⟩ := hget j c e2
          have tc := tcell j v d hv hd
          have inH : ∀ a k', ow a = some k' → (∀ i, d = .pk i → m = 1 → k' = .inl i) → ((∀ i, d ≠ .pk i) → ∃ n, k' = .inr n) → (∀ i, d = .pk i → m = 1) → ∀ o, H a = some o → less H M a = some o := fun a k' e f1 f2 f3 o ho => by
            rw [less_in]
            · exact ho
            · rintro ⟨i, hi, hoi⟩
              rw [e] at hoi
              cases hoi
              by_cases hd' : ∃ i2, d = C.pk i2
              · obtain ⟨i2, rfl⟩ := hd'
                have := f1 i2 rfl (f3 i2 rfl)
                cases this
                have hlen := hlent i (mem_lent (by rw [hm, f3 i rfl]) hd)
                rw [Bool.not_eq_true', List.contains_eq_mem, decide_eq_false_iff_not] at hlen
                exact hlen hi
              · obtain ⟨n, hn⟩ := f2 fun i z => hd' ⟨i, z⟩
                cases hn
          have viewB : ∀ x, look ρ' d = some x → (∀ i, d = .pk i → m = 1) → RX T mg (less H M) v x := fun x l f3 => by
            refine S1.view1 tc l hG hB fun a k' e f1 f2 o ho => ?_
            exact inH a k' e (fun i z _ => f1 i z) (fun n => ⟨_, f2 n⟩) f3 o ho
          match m, d, q with
          | _, .fro x, q =>
            rw [pass1_fro] at q
            cases q
            exact S1.rel _ _ _ tc
          | _, .bor x, q =>
            rw [pass1_bor] at q
            cases q
            exact ⟨v, rfl, viewB x rfl fun i z => by cases z⟩
          | _, .exc n, q =>
            rw [pass1_exc] at q
            cases q
            exact S1.rel _ _ _ tc
          | 1, .own x, q => cases q; exact ⟨v, rfl, viewB x rfl fun i z => by cases z⟩
          | 1, .pk i, q =>
            have q' : (look ρ' (.pk i)).map C.bor = some c := q
            cases r : look ρ' (.pk i) with
            | none => rw [r] at q'; cases q'
            | some x => rw [r] at q'; cases q'; exact ⟨v, rfl, viewB x r fun i z => rfl⟩
          | 2, .pk i, q =>
            have q' : (match ρ'[i]? with | some (.own x) => some (.own x) | _ => none) = some c := q
            cases r : ρ'[i]? with
            | none => rw [r] at q'; cases q'
            | some y =>
              rw [r] at q'
              cases y with
              | own x =>
                cases q'
                obtain ⟨a, ha, hca, hox⟩ := S1.ownAt r
                obtain ⟨u, hu, hr⟩ := S1.rel _ _ _ tc
                cases hu
                have e3 := hr _ _ (.inl hca)
                cases e3
                obtain ⟨a', e4, e5, _⟩ := S1.rel _ _ _ hca
                cases e4
                exact ⟨a, rfl, (ownj a).choose_spec.2.2 j i hm hd e5, hox.mono e5 (fun _ _ _ z => z) (fun b hb => (ownj b).choose_spec.2.2 j i hm hd hb) (Same.refl _)⟩
              | _ => cases q'
          | 0, .own x, q => cases q
          | m + 2, .own x, q => cases q
          | 0, .pk i, q => cases q
          | m + 3, .pk i, q => cases q
          | 0, .und, q => cases q
          | 1, .und, q => cases q
          | m + 2, .und, q => cases q
          | 0, .lkd x, q => cases q
          | 1, .lkd x, q => cases q
          | m + 2, .lkd x, q => cases q
  refine ⟨ca, G, less H M, owc, Sc, fun a ha => ?_, ?_⟩
  · obtain ⟨j, hj⟩ := List.getElem?_of_mem ha
    obtain ⟨m, c, _, _, q⟩ := hget j a hj
    unfold pass1 at q
    split at q <;> first | (cases q; rfl) | (cases q; done) | skip
    · cases r : look ρ' (.pk _) with
      | none => rw [r] at q; cases q
      | some z => rw [r] at q; cases q; rfl
    · split at q <;> cases q
      rfl
  · -- behind the call
    have oldIn : ∀ {a i}, ow a = some (.inl i) → i ∉ muts ms cs' → ¬ M a := fun {a i} e n hm => by
      obtain ⟨i', h, e'⟩ := hm
      rw [e] at e'
      cases e'
      exact n h
    have oldIr : ∀ {a j}, ow a = some (.inr j) → ¬ M a := fun {a j} e hm => by
      obtain ⟨i', h, e'⟩ := hm
      rw [e] at e'
      cases e'
    -- the slot of a thing handed on
    have slotAt : ∀ (n i : Nat), (muts ms cs')[n]? = some i → ∃ w x0, (ownVs vs ca)[n]? = some w ∧ cel σ ρ' (ts ++ tz vs cs') (.inl i) = some (some w, .own x0) := fun n i e => by
      obtain ⟨j, w, e1, e2, e3, e4⟩ := hmut n i e
      have hj : j < ca.length := by rw [hal, ← hlv]; exact (List.getElem?_eq_some_iff.mp e3).1
      obtain ⟨m, c, f1, f2, q⟩ := hget j ca[j] (List.getElem?_eq_getElem hj)
      rw [e1] at f1
      cases f1
      rw [e2] at f2
      cases f2
      have q' : (match ρ'[i]? with | some (.own x) => some (.own x) | _ => none) = some ca[j] := q
      cases r : ρ'[i]? with
      | none => rw [r] at q'; cases q'
      | some y =>
        rw [r] at q'
        cases y with
        | own x =>
          obtain ⟨a, ha, hca, hox⟩ := S1.ownAt r
          obtain ⟨u, hu, hr⟩ := S1.rel _ _ _ (tcell j w (.pk i) e3 e2)
          cases hu
          have e5 := hr _ _ (.inl hca)
          rw [e5] at hca
          exact ⟨w, x, e4, hca⟩
        | _ => cases q'
    have oldT : ∀ {k w d}, k ≠ .inr ts.length → cel σ ρ' (ts ++ [(w, d)]) k = cel σ ρ' ts k := fun {k w d} n => by
      cases k with
      | inl i => rfl
      | inr j =>
        show (ts ++ [(w, d)])[j]? = ts[j]?
        have : j ≠ ts.length := fun z => n (by rw [z])
        rw [getElem?_mid]
        by_cases hj : j < ts.length
        · rw [if_pos hj]
        · rw [if_neg hj, if_neg this, List.getElem?_nil, List.getElem?_eq_none (by omega)]
    have oldC : ∀ {k w d}, cel σ ρ' ts k = some (w, d) → cel σ ρ' (ts ++ tz vs cs') k = some (w, d) := fun {k w d} e => by
      cases k with
      | inl i => exact e
      | inr j =>
        have e : ts[j]? = some (w, d) := e
        show (ts ++ tz vs cs')[j]? = _
        rw [List.getElem?_append_left (List.getElem?_eq_some_iff.mp e).1]
        exact e
    split at hq
    · rename_i c outs hF
      obtain ⟨ρ'', c', hb, hr, hq⟩ := hq
      intro v H' ow' G' B' hlo S2
      obtain ⟨b1, b2, b3, b4⟩ := backIs_ok hb
      have b4 := b4 hnd
      classical
      refine hq v H' ⟨fun b => match ow' b with | some (.inr 0) => some (.inr ts.length) | some (.inr (n + 1)) => ((muts ms cs')[n]?).map .inl | some (.inl i) => none | none => if M b ∨ (G' b).isSome = true then none else ow b, G', fun b => match B b with | some o => some o | none => G' b, ?_⟩
      have lessB' : ∀ {b o}, less H M b = some o → B' b = some o := fun e => S2.h0 _ _ e
      have BB' : ∀ {b o}, B b = some o → B' b = some o := fun e => lessB' (hB _ _ e)
      have owNone : ∀ {b o}, less H M b = some o → ow' b = none := fun {b o} e => by
        cases q : ow' b with
        | none => rfl
        | some k =>
          have := S2.nb _ _ q
          rw [lessB' e] at this
          cases this
      have G'none : ∀ {b o k}, less H M b = some o → ow b = some k → G' b = none := fun {b o k} e e2 => by
        cases q : G' b with
        | none => rfl
        | some u =>
          rcases S2.new _ _ q with z | z
          · have := S1.nb _ _ e2
            rw [S1.gb _ _ z] at this
            cases this
          · rw [e] at z; cases z
      have keep : ∀ {a k}, ow a = some k → ¬ M a → (match ow' a with | some (.inr 0) => some (.inr ts.length) | some (.inr (n + 1)) => ((muts ms cs')[n]?).map .inl | some (.inl i) => none | none => if M a ∨ (G' a).isSome = true then none else ow a : Option Kx) = some k := fun {a k} e n => by
        obtain ⟨o, ho⟩ := S1.live _ _ e
        have hl : less H M a = some o := by rw [less_in n]; exact ho
        rw [owNone hl, G'none hl e]
        simp only [n, e, false_or, Option.isSome_none, Bool.false_eq_true, if_false]
      have stay : ∀ {a k o}, ow a = some k → ¬ M a → H a = some o → H' a = some o := fun {a k o} e n ho => S2.h0h _ _ (by rw [less_in n]; exact ho)
      have gB : Same G' fun b => match B b with | some o => some o | none => G' b := fun b o e => by
        show (match B b with | some o => some o | none => G' b) = some o
        cases q : B b with
        | none => exact e
        | some u =>
          have z1 := BB' q
          rw [S2.gb _ _ e] at z1
          exact z1.symm
      refine S1.step (by rw [b1, S1.len]) S1.fix S2.g0 (fun b o e => ?_) (fun b o e => by show (match B b with | some o => some o | none => G' b) = some o; rw [e]) gB (fun b o e => ?_) (fun b k e => ?_) (fun b k e => ?_) (fun i j e => ?_) fun k w d e => ?_
      · rcases S2.new _ _ e with z | z
        · exact .inl z
        · refine .inr ?_
          cases q : H0 b with
          | none => rfl
          | some u =>
            have := hB _ _ (S1.h0 _ _ q)
            rw [z] at this
            cases this
      · have e : (match B b with | some o => some o | none => G' b) = some o := e
        cases q : B b with
        | none => rw [q] at e; exact S2.gh _ _ e
        | some u => rw [q] at e; cases e; exact S2.h0h _ _ (hB _ _ q)
      · show (match B b with | some o => some o | none => G' b) = none
        cases q : ow' b with
        | none =>
          rw [q] at e
          simp only at e
          by_cases z : M b ∨ (G' b).isSome = true
          · rw [if_pos z] at e; cases e
          · rw [if_neg z] at e
            rw [S1.nb _ _ e]
            cases r : G' b with
            | none => rfl
            | some u => exact absurd (.inr (by rw [r]; rfl)) z
        | some k' =>
          have z := S2.nb _ _ q
          have zB : B b = none := by
            cases r : B b with
            | none => rfl
            | some u => rw [BB' r] at z; cases z
          rw [zB]
          exact S2.gb.free z
      · cases q : ow' b with
        | none =>
          rw [q] at e
          simp only at e
          by_cases z : M b ∨ (G' b).isSome = true
          · rw [if_pos z] at e; cases e
          · rw [if_neg z] at e
            obtain ⟨o, ho⟩ := S1.live _ _ e
            exact ⟨o, stay e (fun m => z (.inl m)) ho⟩
        | some k' => exact S2.live _ _ q
      · by_cases hi : i ∈ muts ms cs'
        · obtain ⟨n, hn⟩ := List.getElem?_of_mem hi
          obtain ⟨x, _, q⟩ := b4 n i hn
          have hlt : i < ρ'.length := by rw [← b1]; exact (List.getElem?_eq_some_iff.mp e).1
          rw [q hlt] at e
          cases e
        · rw [b3 i hi] at e
          exact S1.npk _ _ e
      · have pkOk : ∀ (i : Nat) (w : Option V) (x : Tx), (cel σ ρ'' (ts ++ [(some v, c')]) (.inl i) = some (w, .own x) ∨ cel σ ρ'' (ts ++ [(some v, c')]) (.inl i) = some (w, .lkd x)) → ∃ y, cel σ ρ' (ts ++ tz vs cs') (.inl i) = some (w, .own y) ∨ cel σ ρ' (ts ++ tz vs cs') (.inl i) = some (w, .lkd y) := fun i w x z => by
          by_cases hi : i ∈ muts ms cs'
          · obtain ⟨n, hn⟩ := List.getElem?_of_mem hi
            obtain ⟨u, x0, _, h2⟩ := slotAt n i hn
            have hw : σ[i]? = some w := by rcases z with z | z <;> exact (cel_inl.mp z).1
            rw [(cel_inl.mp h2).1] at hw
            cases hw
            exact ⟨x0, .inl h2⟩
          · rcases z with z | z
            · obtain ⟨z1, z2⟩ := cel_inl.mp z
              rw [b3 i hi] at z2
              exact ⟨x, .inl (cel_inl.mpr ⟨z1, z2⟩)⟩
            · obtain ⟨z1, z2⟩ := cel_inl.mp z
              rw [b3 i hi] at z2
              exact ⟨x, .inr (cel_inl.mpr ⟨z1, z2⟩)⟩
        have old : ∀ {k w d}, cel σ ρ' (ts ++ tz vs cs') k = some (w, d) → (∀ a, ow a = some k → ¬ M a) → Cel T mg (fun b => match ow' b with | some (.inr 0) => some (.inr ts.length) | some (.inr (n + 1)) => ((muts ms cs')[n]?).map .inl | some (.inl i) => none | none => if M b ∨ (G' b).isSome = true then none else ow b) (cel σ ρ'' (ts ++ [(some v, c')])) k G' (fun b => match B b with | some o => some o | none => G' b) H' w d := fun {k w d} e n =>
          (S1.rel k w d e).grow S2.g0 (fun b o e => by show (match B b with | some o => some o | none => G' b) = some o; rw [e]) (fun a o q _ ho => stay q (n a q) ho) (fun a q _ => keep q (n a q)) fun i _ w x z => pkOk i w x z
        cases k with
        | inl i =>
          obtain ⟨e1, e2⟩ := cel_inl.mp e
          by_cases hi : i ∈ muts ms cs'
          · obtain ⟨n, hn⟩ := List.getElem?_of_mem hi
            obtain ⟨u, x0, h1, h2⟩ := slotAt n i hn
            obtain ⟨x, h3, h4⟩ := b4 n i hn
            have hlt : i < ρ'.length := by rw [← b1]; exact (List.getElem?_eq_some_iff.mp e2).1
            rw [h4 hlt] at e2
            cases e2
            rw [(cel_inl.mp h2).1] at e1
            cases e1
            have hc : cel [] [] ((some v, c) :: tz (ownVs vs ca) outs) (.inr (n + 1)) = some (some u, .own x) := by
              show (tz (ownVs vs ca) outs)[n]? = _
              exact tz_get.mpr ⟨u, rfl, h1, h3⟩
            obtain ⟨a, z1, z2, z3⟩ := S2.rel _ _ _ hc
            refine ⟨a, z1, ?_, z3.mono z2 (fun _ _ _ z => z) (fun b hb => ?_) (Same.refl _)⟩
            · show (match ow' a with | some (.inr 0) => some (.inr ts.length) | some (.inr (n + 1)) => ((muts ms cs')[n]?).map .inl | some (.inl i) => none | none => if M a ∨ (G' a).isSome = true then none else ow a : Option Kx) = _
              rw [z2]
              show ((muts ms cs')[n]?).map Sum.inl = _
              rw [hn]
              rfl
            · show (match ow' b with | some (.inr 0) => some (.inr ts.length) | some (.inr (n + 1)) => ((muts ms cs')[n]?).map .inl | some (.inl i) => none | none => if M b ∨ (G' b).isSome = true then none else ow b : Option Kx) = _
              rw [hb]
              show ((muts ms cs')[n]?).map Sum.inl = _
              rw [hn]
              rfl
          · rw [b3 i hi] at e2
            exact old (cel_inl.mpr ⟨e1, e2⟩) fun a q => oldIn q hi
        | inr j =>
          by_cases hj : j = ts.length
          · subst hj
            have e : cel σ ρ'' (ts ++ [(some v, c')]) (.inr ts.length) = some (w, d) := e
            rw [cel_last] at e
            cases e
            have hc : cel [] [] ((some v, c) :: tz (ownVs vs ca) outs) (.inr 0) = some (some v, c) := rfl
            have z := S2.rel _ _ _ hc
            cases c with
            | fro x => cases hr; exact z
            | exc x => cases hr; exact z
            | own x =>
              cases hr
              obtain ⟨a, z1, z2, z3⟩ := z
              refine ⟨a, z1, ?_, z3.mono z2 (fun _ _ _ z => z) (fun b hb => ?_) (Same.refl _)⟩
              · show (match ow' a with | some (.inr 0) => some (.inr ts.length) | some (.inr (n + 1)) => ((muts ms cs')[n]?).map .inl | some (.inl i) => none | none => if M a ∨ (G' a).isSome = true then none else ow a : Option Kx) = _
                rw [z2]
              · show (match ow' b with | some (.inr 0) => some (.inr ts.length) | some (.inr (n + 1)) => ((muts ms cs')[n]?).map .inl | some (.inl i) => none | none => if M b ∨ (G' b).isSome = true then none else ow b : Option Kx) = _
                rw [hb]
            | _ => cases hr
          · refine old (oldC ?_) fun a q => oldIr q
            have e : (ts ++ [(some v, c')])[j]? = some (w, d) := e
            have q := oldT (k := .inr j) (w := some v) (d := c') fun z => hj (Sum.inr.inj z)
            rw [← q]
            exact e
    · rename_i n hF
      intro Cx nm H' e1 e2 sm
      obtain ⟨l1, l2, l3⟩ := lostIs_ok (is := muts ms cs') (ρ := ρ')
      classical
      refine hq Cx nm H' e1 e2 ⟨fun b => if M b then none else ow b, G, B, ?_⟩
      have gone : ∀ {i w x}, (cel σ (lostIs ρ' (muts ms cs')) ts (.inl i) = some (w, .own x) ∨ cel σ (lostIs ρ' (muts ms cs')) ts (.inl i) = some (w, .lkd x)) → i ∉ muts ms cs' := fun {i w x} z hi => by
        rcases z with z | z
        · cases l3 i hi _ (cel_inl.mp z).2
        · cases l3 i hi _ (cel_inl.mp z).2
      refine S1.step (by rw [l1, S1.len]) S1.fix (Same.refl _) (fun b o e => .inl e) (Same.refl _) S1.gb (hB.trans sm) (fun b k e => ?_) (fun b k e => ?_) (fun i j e => ?_) fun k w d e => ?_
      · by_cases z : M b
        · rw [if_pos z] at e; cases e
        · rw [if_neg z] at e; exact S1.nb _ _ e
      · by_cases z : M b
        · rw [if_pos z] at e; cases e
        · rw [if_neg z] at e
          obtain ⟨o, ho⟩ := S1.live _ _ e
          exact ⟨o, sm _ _ (by rw [less_in z]; exact ho)⟩
      · by_cases hi : i ∈ muts ms cs'
        · cases l3 i hi _ e
        · rw [l2 i hi] at e; exact S1.npk _ _ e
      · have old : cel σ ρ' (ts ++ tz vs cs') k = some (w, d) → (∀ a, ow a = some k → ¬ M a) → Cel T mg (fun b => if M b then none else ow b) (cel σ (lostIs ρ' (muts ms cs')) ts) k G B H' w d := fun e n =>
          (S1.rel k w d e).grow (Same.refl _) (Same.refl _) (fun a o q _ ho => sm _ _ (by rw [less_in (n a q)]; exact ho)) (fun a q _ => by show (if M a then none else ow a) = some k; rw [if_neg (n a q), q]) fun i _ w x z => by
            have hi := gone z
            rcases z with z | z
            · obtain ⟨z1, z2⟩ := cel_inl.mp z
              rw [l2 i hi] at z2
              exact ⟨x, .inl (cel_inl.mpr ⟨z1, z2⟩)⟩
            · obtain ⟨z1, z2⟩ := cel_inl.mp z
              rw [l2 i hi] at z2
              exact ⟨x, .inr (cel_inl.mpr ⟨z1, z2⟩)⟩
        cases k with
        | inl i =>
          obtain ⟨e1, e2⟩ := cel_inl.mp e
          by_cases hi : i ∈ muts ms cs'
          · rw [l3 i hi _ e2]
            trivial
          · rw [l2 i hi] at e2
            exact old (cel_inl.mpr ⟨e1, e2⟩) fun a q => oldIn q hi
        | inr j => exact old (oldC e) fun a q => oldIr q
    · exact hq.elim
end
end Gr

set_option Elab.async false
set_option linter.all false
set_option maxRecDepth 100000
set_option maxHeartbeats 2000000
/-! Gr G: what an expression's end leaves, by its parts' cells. -/
namespace Gr
open PySem L2
section
variable {T : Glob} {mg : Str → Option Value} {H0 G0 G B H H' : Hp} {Fx : List (Nat × V)} {ow : Addr → Option Kx} {σ : St} {ρ ρ' : List C} {ts as bs : List Cell} {v w : V} {c c' : C} {x y : Tx} {p a : Addr} {o : HO} {k : Kx} {d e : D} {ds es : List D} {vs us : List V} {Q : VK} {X : Cx}

/-- a new object that may be read for now -/
theorem SRx.allocB (S : SRx T mg H0 G0 Fx ow G B σ ρ ts H) (hp : H p = none) (hx : RX T mg (upd B p o) (.ref p) x) : SRx T mg H0 G0 Fx ow G (upd B p o) σ ρ (ts ++ [(some (.ref p), .bor x)]) (upd H p o) := by
  obtain ⟨g, b, h0, w0⟩ := S.dead hp
  refine S.step S.len S.fix (Same.refl _) (fun q u e => .inl e) (same_upd b) (S.gb.trans (same_upd b)) (same_upd2 S.bh hp) (fun q k e => ?_) (fun q k e => ?_) S.npk fun k w c' e => ?_
  · rw [upd_ne (fun z => by rw [z, w0] at e; cases e)]
    exact S.nb _ _ e
  · obtain ⟨u, r⟩ := S.live q k e
    exact ⟨u, same_upd hp _ _ r⟩
  · rcases cel_snoc e with ⟨_, z⟩ | ⟨_, z⟩
    · cases z
      exact ⟨_, rfl, hx⟩
    · exact (S.rel k w c' z).grow (Same.refl _) (same_upd b) (fun _ _ _ _ z => same_upd hp _ _ z) (fun _ z _ => z) fun i _ w x z => ⟨x, z⟩
theorem SRx.upGB (S : SRx T mg H0 G0 Fx ow G B σ ρ ts H) (hp : H p = none) : Same G (upd G p o) ∧ Same B (upd B p o) := ⟨same_upd (S.dead hp).1, same_upd (S.dead hp).2.1⟩
/-- new kept list, tuple; own list -/
theorem SRx.newT (S : SRx T mg H0 G0 Fx ow G B σ ρ ts H) (hp : H p = none) (r : RpA G vs ds) : SR T mg H0 G0 Fx σ ρ (ts ++ [(some (.ref p), .fro (.py (.tuple ds)))]) (upd H p (.tup vs)) :=
  ⟨_, _, _, S.allocF hp (x := .py (.tuple ds)) (.tup upd_same (r.mono (S.upGB hp).1))⟩
theorem SRx.newB (S : SRx T mg H0 G0 Fx ow G B σ ρ ts H) (hp : H p = none) (r : RpA B vs ds) : SR T mg H0 G0 Fx σ ρ (ts ++ [(some (.ref p), .bor (.py (.tuple ds)))]) (upd H p (.tup vs)) :=
  ⟨_, _, _, S.allocB hp (x := .py (.tuple ds)) (.tup upd_same (r.mono (S.upGB hp).2))⟩
theorem SRx.newL (S : SRx T mg H0 G0 Fx ow G B σ ρ ts H) (hp : H p = none) (r : RpA G vs ds) : SR T mg H0 G0 Fx σ ρ (ts ++ [(some (.ref p), .own (.py (.list ds)))]) (upd H p (.lst vs)) :=
  ⟨_, _, _, S.allocO hp (x := .py (.list ds)) ⟨vs, upd_same, r⟩⟩

/-- a cell that shows a thing: as RX in H, and what it holds in the region of its kind -/
def InR (G B : Hp) (c : C) (P : Hp → Prop) : Prop := P B ∧ (isBor c = false → P G)
theorem SRx.list (S : SRx T mg H0 G0 Fx ow G B σ ρ ts H) (hc : cel σ ρ ts k = some (some v, c)) (hd : see ρ c = some (.list ds)) : ∃ a vs, v = .ref a ∧ Rd H a (.lst vs) ∧ InR G B c (fun R => RpA R vs ds) := by
  have own : ∀ {k : Kx} {u : Option V} {d : C}, cel σ ρ ts k = some (u, d) → (d = .own (.py (.list ds)) ∨ d = .lkd (.py (.list ds))) → ∃ a vs, u = some (.ref a) ∧ Rd H a (.lst vs) ∧ RpA G vs ds := fun {k u d} q z => by
    have r := S.rel _ _ _ q
    rcases z with rfl | rfl
    · obtain ⟨a, e1, _, vs, h1, h2⟩ := r
      exact ⟨a, vs, e1, .inl h1, h2⟩
    · obtain ⟨a, e1, _, vs, h1, h2⟩ := r
      exact ⟨a, vs, e1, .inl h1, h2⟩
  have r := S.rel _ _ _ hc
  have lk : Gr.look ρ c = some (.py (.list ds)) := by
    unfold Gr.see at hd
    cases q : Gr.look ρ c with
    | none => rw [q] at hd; cases hd
    | some x => rw [q] at hd; cases x with
      | py d => cases hd; rfl
      | _ => cases hd
  cases c with
  | und => cases lk
  | exc n => cases lk
  | fro y =>
    cases lk
    obtain ⟨u, e1, r⟩ := r
    cases e1
    cases r with
    | lst r q => exact ⟨_, _, rfl, r.elim (fun z => .inl (S.gh _ _ z)) fun ⟨o, z⟩ => .inr ⟨o, S.gh _ _ z⟩, q.mono S.gb, fun _ => q⟩
  | bor y =>
    cases lk
    obtain ⟨u, e1, r⟩ := r
    cases e1
    cases r with
    | lst r q => exact ⟨_, _, rfl, r.elim (fun z => .inl (S.bh _ _ z)) fun ⟨o, z⟩ => .inr ⟨o, S.bh _ _ z⟩, q, fun z => by cases z⟩
  | own y =>
    cases lk
    obtain ⟨a, vs, e1, h1, h2⟩ := own hc (.inl rfl)
    cases e1
    exact ⟨a, vs, rfl, h1, h2.mono S.gb, fun _ => h2⟩
  | lkd y =>
    cases lk
    obtain ⟨a, vs, e1, h1, h2⟩ := own hc (.inr rfl)
    cases e1
    exact ⟨a, vs, rfl, h1, h2.mono S.gb, fun _ => h2⟩
  | pk i =>
    obtain ⟨u, e1, r⟩ := r
    cases e1
    have l' : (match ρ[i]? with | some (.own x) => some x | some (.lkd x) => some x | _ => none) = some (.py (.list ds)) := lk
    cases q : ρ[i]? with
    | none => rw [q] at l'; cases l'
    | some c' =>
      rw [q] at l'
      have hi : i < σ.length := by rw [S.len]; exact (List.getElem?_eq_some_iff.mp q).1
      have hs : σ[i]? = some σ[i] := List.getElem?_eq_getElem hi
      cases c' with
      | own y =>
        cases l'
        have hc2 : cel σ ρ ts (.inl i) = some (σ[i], .own (.py (.list ds))) := cel_inl.mpr ⟨hs, q⟩
        have e2 := r _ _ (.inl hc2)
        obtain ⟨a, vs, e1, h1, h2⟩ := own hc2 (.inl rfl)
        rw [e2] at e1
        cases e1
        exact ⟨a, vs, rfl, h1, h2.mono S.gb, fun _ => h2⟩
      | lkd y =>
        cases l'
        have hc2 : cel σ ρ ts (.inl i) = some (σ[i], .lkd (.py (.list ds))) := cel_inl.mpr ⟨hs, q⟩
        have e2 := r _ _ (.inr hc2)
        obtain ⟨a, vs, e1, h1, h2⟩ := own hc2 (.inr rfl)
        rw [e2] at e1
        cases e1
        exact ⟨a, vs, rfl, h1, h2.mono S.gb, fun _ => h2⟩
      | _ => cases l'
/-- data that is no list is kept or lent -/
theorem SRx.data (S : SRx T mg H0 G0 Fx ow G B σ ρ ts H) (hc : cel σ ρ ts k = some (some v, c)) (hd : see ρ c = some d) (nl : ∀ ds, d ≠ .list ds) : (c = .fro (.py d) ∨ c = .bor (.py d)) ∧ InR G B c (fun R => Rp R v d) := by
  have no : ∀ {k : Kx} {u : Option V}, ¬ cel σ ρ ts k = some (u, .own (.py d)) := fun {k u} q => by
    obtain ⟨a, e1, _, r⟩ := S.rel _ _ _ q
    cases d with
    | list ds => exact nl ds rfl
    | _ => exact r
  have no' : ∀ {k : Kx} {u : Option V}, ¬ cel σ ρ ts k = some (u, .lkd (.py d)) := fun {k u} q => by
    obtain ⟨a, e1, _, r⟩ := S.rel _ _ _ q
    cases d with
    | list ds => exact nl ds rfl
    | _ => exact r
  have r := S.rel _ _ _ hc
  have lk : Gr.look ρ c = some (.py d) := by
    unfold Gr.see at hd
    cases q : Gr.look ρ c with
    | none => rw [q] at hd; cases hd
    | some x => rw [q] at hd; cases x with
      | py d => cases hd; rfl
      | _ => cases hd
  cases c with
  | und => cases lk
  | exc n => cases lk
  | fro y => cases lk; obtain ⟨u, e1, r⟩ := r; cases e1; exact ⟨.inl rfl, Rp.mono S.gb r, fun _ => r⟩
  | bor y => cases lk; obtain ⟨u, e1, r⟩ := r; cases e1; exact ⟨.inr rfl, r, fun z => by cases z⟩
  | own y => cases lk; exact (no hc).elim
  | lkd y => cases lk; exact (no' hc).elim
  | pk i =>
    have l' : (match ρ[i]? with | some (.own x) => some x | some (.lkd x) => some x | _ => none) = some (.py d) := lk
    cases q : ρ[i]? with
    | none => rw [q] at l'; cases l'
    | some c' =>
      rw [q] at l'
      have hi : i < σ.length := by rw [S.len]; exact (List.getElem?_eq_some_iff.mp q).1
      have hs : σ[i]? = some σ[i] := List.getElem?_eq_getElem hi
      cases c' with
      | own y => cases l'; exact (no (cel_inl.mpr ⟨hs, q⟩)).elim
      | lkd y => cases l'; exact (no' (cel_inl.mpr ⟨hs, q⟩)).elim
      | _ => cases l'
theorem SRx.tuple (S : SRx T mg H0 G0 Fx ow G B σ ρ ts H) (hc : cel σ ρ ts k = some (some v, c)) (hd : see ρ c = some (.tuple ds)) : ∃ a vs, v = .ref a ∧ H a = some (.tup vs) ∧ InR G B c (fun R => R a = some (.tup vs) ∧ RpA R vs ds) := by
  obtain ⟨_, h1, h2⟩ := S.data hc hd fun _ z => by cases z
  cases h1 with
  | @tup a vs _ h r =>
    refine ⟨a, vs, rfl, S.bh _ _ h, ⟨h, r⟩, fun z => ?_⟩
    cases h2 z with
    | tup h' r' =>
      have e := S.gb _ _ h'
      rw [h] at e
      cases e
      exact ⟨h', r'⟩
/-- items of a cell that may be laid anew -/
theorem InR.clr {P : Hp → Prop} (h : InR G B c P) {ds : List D} (k : clear c ds = true) (f : ds.all isSc = true → P B → P G) : P G := by
  cases hb : isBor c with
  | false => exact h.2 hb
  | true =>
    cases c with
    | bor x => exact f k h.1
    | _ => cases hb
theorem cel_at2 {d1 d2 : Cell} : cel σ ρ (ts ++ [d1] ++ [d2]) (.inr ts.length) = some d1 := by
  show (ts ++ [d1] ++ [d2])[ts.length]? = some d1
  simp
theorem cel_at3 {d1 d2 : Cell} : cel σ ρ (ts ++ [d1] ++ [d2]) (.inr (ts.length + 1)) = some d2 := by
  show (ts ++ [d1] ++ [d2])[ts.length + 1]? = some d2
  simp
theorem SR.pop2 {d1 d2 : Cell} (S : SR T mg H0 G0 Fx σ ρ (ts ++ [d1] ++ [d2]) H) : SR T mg H0 G0 Fx σ ρ ts H := by
  rw [List.append_assoc] at S
  exact S.drop
theorem SRx.pop2 {d1 d2 : Cell} (S : SRx T mg H0 G0 Fx ow G B σ ρ (ts ++ [d1] ++ [d2]) H) : SRx T mg H0 G0 Fx ow G B σ ρ ts H := by
  rw [List.append_assoc] at S
  exact S.drop
/-- a kept or lent thing as a new temp -/
theorem SRx.pushF (S : SRx T mg H0 G0 Fx ow G B σ ρ ts H) (r : RX T mg G v x) : SR T mg H0 G0 Fx σ ρ (ts ++ [(some v, .fro x)]) H := ⟨_, _, _, S.push fun k => ⟨v, rfl, r⟩⟩
theorem SRx.pushB (S : SRx T mg H0 G0 Fx ow G B σ ρ ts H) (r : RX T mg B v x) : SR T mg H0 G0 Fx σ ρ (ts ++ [(some v, .bor x)]) H := ⟨_, _, _, S.push fun k => ⟨v, rfl, r⟩⟩

/-! ### arithmetic -/
/-- what + and the like make of it -/
def opFin (c c' : C) (r : C) : Option C := match r with
  | .own (.py (.list ds)) => if clear c ds && clear c' ds then some r else none
  | .fro (.py (.tuple ds)) => some (if isBor c || isBor c' then .bor (.py (.tuple ds)) else .fro (.py (.tuple ds)))
  | r => some r
theorem op_res {o : Op} {r r' : C} (S : SR T mg H0 G0 Fx σ ρ (ts ++ [(some v, c)] ++ [(some w, c')]) H) (h1 : see ρ c = some d) (h2 : see ρ c' = some e) (h3 : opC o d e = some r) (h4 : opFin c c' r = some r')
    (q : ∀ u H', SR T mg H0 G0 Fx σ ρ (ts ++ [(some u, r')]) H' → Q u H') : rO X.K o v w H Q := by
  have rd := S.last2D h1
  have re := S.lastD h2
  have S0 := S.pop2
  have int : ∀ {i j n : Int}, d = .int i → e = .int j → r = num n → (v = .int i ∧ w = .int j ∧ Q (.int n) H) := fun {i j n} e1 e2 e3 => by
    subst e1 e2 e3
    have e4 : r' = num n := (Option.some.inj h4).symm
    subst e4
    exact ⟨rd.intV, re.intV, q _ _ S0.num⟩
  obtain ⟨ow, G, B, S1⟩ := S
  have S10 := S1.pop2
  have line_eq : line = sizeLine := by rw [sizeLine_eq]; rfl
  cases o with
  | add =>
    cases d with
    | int i =>
      cases e with
      | int j => cases h3; obtain ⟨a, b, z⟩ := int rfl rfl rfl; exact .inl ⟨i, j, a, b, z⟩
      | _ => cases h3
    | list xs =>
      cases e with
      | list ys =>
        have h3' : (if xs.length + ys.length ≤ line then some (C.own (.py (.list (xs ++ ys)))) else none) = some r := h3
        by_cases hl : xs.length + ys.length ≤ line
        · rw [if_pos hl] at h3'
          cases h3'
          have h4' : (if clear c (xs ++ ys) && clear c' (xs ++ ys) then some (C.own (.py (.list (xs ++ ys)))) else none) = some r' := h4
          by_cases hc : (clear c (xs ++ ys) && clear c' (xs ++ ys)) = true
          · rw [if_pos hc] at h4'
            cases h4'
            rw [Bool.and_eq_true] at hc
            obtain ⟨a, vs, e1, r1, i1⟩ := S1.list cel_at2 h1
            obtain ⟨b, us, e2, r2, i2⟩ := S1.list cel_at3 h2
            have g1 : RpA G vs xs := i1.clr hc.1 fun z r => r.sc (by rw [List.all_append, Bool.and_eq_true] at z; exact z.1)
            have g2 : RpA G us ys := i2.clr hc.2 fun z r => r.sc (by rw [List.all_append, Bool.and_eq_true] at z; exact z.2)
            refine .inr (.inl ⟨a, b, vs, us, e1, e2, r1, r2, by rw [g1.length, g2.length, ← line_eq]; exact hl, fun p hp => q _ _ (S10.newL hp (g1.append g2))⟩)
          · rw [if_neg hc] at h4'; cases h4'
        · rw [if_neg hl] at h3'; cases h3'
      | _ => cases h3
    | tuple xs =>
      cases e with
      | tuple ys =>
        have h3' : (if xs.length + ys.length ≤ line then some (C.fro (.py (.tuple (xs ++ ys)))) else none) = some r := h3
        by_cases hl : xs.length + ys.length ≤ line
        · rw [if_pos hl] at h3'
          cases h3'
          have h4' : (if isBor c || isBor c' then C.bor (.py (.tuple (xs ++ ys))) else .fro (.py (.tuple (xs ++ ys)))) = r' := Option.some.inj h4
          obtain ⟨a, vs, e1, r1, i1⟩ := S1.tuple cel_at2 h1
          obtain ⟨b, us, e2, r2, i2⟩ := S1.tuple cel_at3 h2
          refine .inr (.inr (.inl ⟨a, b, vs, us, e1, e2, .inl (.inl r1), .inl (.inl r2), by rw [i1.1.2.length, i2.1.2.length, ← line_eq]; exact hl, ?_⟩))
          by_cases hb : (isBor c || isBor c') = true
          · rw [if_pos hb] at h4'
            subst h4'
            refine ⟨fun z => ?_, fun _ z => ?_, fun _ _ p hp => q _ _ (S10.newB hp (i1.1.2.append i2.1.2))⟩
            · subst z
              have : xs = [] := List.eq_nil_of_length_eq_zero (by rw [← i1.1.2.length]; rfl)
              subst this
              exact q _ _ (S10.pushB (.tup i2.1.1 i2.1.2))
            · subst z
              have : ys = [] := List.eq_nil_of_length_eq_zero (by rw [← i2.1.2.length]; rfl)
              subst this
              rw [List.append_nil] at q
              exact q _ _ (S10.pushB (.tup i1.1.1 i1.1.2))
          · rw [if_neg hb] at h4'
            subst h4'
            rw [Bool.or_eq_true, not_or, Bool.not_eq_true, Bool.not_eq_true] at hb
            obtain ⟨g1, g1'⟩ := i1.2 hb.1
            obtain ⟨g2, g2'⟩ := i2.2 hb.2
            refine ⟨fun z => ?_, fun _ z => ?_, fun _ _ p hp => q _ _ (S10.newT hp (g1'.append g2'))⟩
            · subst z
              have : xs = [] := List.eq_nil_of_length_eq_zero (by rw [← g1'.length]; rfl)
              subst this
              exact q _ _ (S10.pushF (.tup g2 g2'))
            · subst z
              have : ys = [] := List.eq_nil_of_length_eq_zero (by rw [← g2'.length]; rfl)
              subst this
              rw [List.append_nil] at q
              exact q _ _ (S10.pushF (.tup g1 g1'))
        · rw [if_neg hl] at h3'; cases h3'
      | _ => cases h3
    | str xs =>
      cases e with
      | str ys =>
        have h3' : (if xs.length + ys.length ≤ line then some (C.fro (.py (.str (xs ++ ys)))) else none) = some r := h3
        by_cases hl : xs.length + ys.length ≤ line
        · rw [if_pos hl] at h3'
          cases h3'
          cases h4
          exact .inr (.inr (.inr ⟨xs, ys, rd.strV, re.strV, by rw [← line_eq]; exact hl, q _ _ (S0.scal fun _ => .str _)⟩))
        · rw [if_neg hl] at h3'; cases h3'
      | _ => cases h3
    | _ => cases h3
  | sub =>
    cases d with
    | int i =>
      cases e with
      | int j => cases h3; obtain ⟨a, b, z⟩ := int rfl rfl rfl; exact ⟨i, j, a, b, z⟩
      | _ => cases h3
    | _ => cases h3
  | mul =>
    cases d with
    | int i =>
      cases e with
      | int j =>
        have h3' : (if (-18446744073709551616 < i ∧ i < 18446744073709551616) ∨ (-18446744073709551616 < j ∧ j < 18446744073709551616) then some (num (i * j)) else none) = some r := h3
        split at h3'
        · rename_i hcc
          cases h3'; obtain ⟨a, b, z⟩ := int rfl rfl rfl; exact ⟨i, j, a, b, hcc, z⟩
        · cases h3'
      | _ => cases h3
    | _ => cases h3
  | fdiv =>
    cases d with
    | int i =>
      cases e with
      | int j =>
        have h3' : (if 0 < j ∧ j < 1073741824 then some (num (i / j)) else none) = some r := h3
        split at h3'
        · rename_i hcc
          cases h3'; obtain ⟨a, b, z⟩ := int rfl rfl rfl; exact ⟨i, j, a, b, hcc, z⟩
        · cases h3'
      | _ => cases h3
    | _ => cases h3
  | mod =>
    cases d with
    | int i =>
      cases e with
      | int j =>
        have h3' : (if 0 < j then some (num (i % j)) else none) = some r := h3
        split at h3'
        · rename_i hcc
          cases h3'; obtain ⟨a, b, z⟩ := int rfl rfl rfl; exact ⟨i, j, a, b, hcc, z⟩
        · cases h3'
      | _ => cases h3
    | _ => cases h3
  | pow =>
    cases d with
    | int i =>
      cases e with
      | int j =>
        have h3' : (if 0 ≤ j ∧ j ≤ 1000000 ∧ i.natAbs < 18446744073709551616 then some (num (i ^ j.toNat)) else none) = some r := h3
        split at h3'
        · rename_i hcc
          cases h3'; obtain ⟨a, b, z⟩ := int rfl rfl rfl; exact ⟨i, j, a, b, hcc, z⟩
        · cases h3'
      | _ => cases h3
    | _ => cases h3
  | shl =>
    cases d with
    | int i =>
      cases e with
      | int j =>
        have h3' : (if 0 ≤ j ∧ j ≤ 1000000 ∧ i.natAbs < 18446744073709551616 then some (num (i * 2 ^ j.toNat)) else none) = some r := h3
        split at h3'
        · rename_i hcc
          cases h3'; obtain ⟨a, b, z⟩ := int rfl rfl rfl; exact ⟨i, j, a, b, hcc, z⟩
        · cases h3'
      | _ => cases h3
    | _ => cases h3
  | bor =>
    cases d with
    | int i =>
      cases e with
      | int j => cases h3; obtain ⟨a, b, z⟩ := int rfl rfl rfl; exact ⟨i, j, a, b, z⟩
      | _ => cases h3
    | _ => cases h3

/-! ### subscripts -/
/-- list, tuple, str or dict -/
def rIxA (K : PySem.W.Frag) : R2 := fun x y H Q => rIx K x y H Q ∨ ∃ a v, x = .ref a ∧ DGet H a y (some v) ∧ Q v H
theorem ixA_ok (hu : X.A.units + 1 < cLine) : IxR X (rIxA X.K) := by
  refine ix_seq.or ?_
  intro value slice pins s σ H x y v u Q I rx ry h hs
  obtain ⟨a, z, rfl, g, q⟩ := h
  obtain rfl : v = Value.ref a := rx
  refine PyProof.Rows.tail_any (ops := [.ref a, u]) (dict_typeIs I g) PySem.F.slot_dict_getitem.lookup (d_getItem hu I g ry fun w' s3 I3 rw' => ⟨z, H, I3, rw', q⟩) hs
theorem RpA.atI {R : Hp} {i : Int} (r : RpA R vs ds) (h : atI ds i = some d) : ∃ u, L2.atI vs i = some u ∧ Rp R u d := by
  unfold L2.atI at h ⊢
  rw [r.length]
  cases q : ixN ds.length i with
  | none => rw [q] at h; cases h
  | some j =>
    rw [q] at h
    exact r.get h
theorem item_push (S : SRx T mg H0 G0 Fx ow G B σ ρ ts H) (hi : InR G B c (fun R => Rp R v d)) : SR T mg H0 G0 Fx σ ρ (ts ++ [(some v, itemC c d)]) H := by
  cases c with
  | bor x =>
    show SR T mg H0 G0 Fx σ ρ (ts ++ [(some v, asB (.py d))]) H
    unfold asB
    by_cases hs : scX (.py d) = true
    · rw [if_pos hs]
      exact S.pushF (x := .py d) (Rp.sc hi.1 hs)
    · rw [if_neg hs]
      exact S.pushB (x := .py d) hi.1
  | _ => exact S.pushF (x := .py d) (hi.2 rfl)
theorem SRx.thing (S : SRx T mg H0 G0 Fx ow G B σ ρ ts H) (hc : cel σ ρ ts k = some (some v, c)) (lk : Gr.look ρ c = some x) :
    (isBor c = false ∧ RX T mg G v x) ∨ (isBor c = true ∧ RX T mg B v x) ∨ (isBor c = false ∧ ∃ a Wn, v = .ref a ∧ OX T mg Wn G H a x) := by
  have r := S.rel _ _ _ hc
  cases c with
  | und => cases lk
  | exc n => cases lk
  | fro y => cases lk; obtain ⟨u, e1, r⟩ := r; cases e1; exact .inl ⟨rfl, r⟩
  | bor y => cases lk; obtain ⟨u, e1, r⟩ := r; cases e1; exact .inr (.inl ⟨rfl, r⟩)
  | own y => cases lk; obtain ⟨a, e1, _, r⟩ := r; cases e1; exact .inr (.inr ⟨rfl, a, _, rfl, r⟩)
  | lkd y => cases lk; obtain ⟨a, e1, _, r⟩ := r; cases e1; exact .inr (.inr ⟨rfl, a, _, rfl, r⟩)
  | pk i =>
    obtain ⟨u, e1, r⟩ := r
    cases e1
    have l' : (match ρ[i]? with | some (.own x) => some x | some (.lkd x) => some x | _ => none) = some x := lk
    cases q : ρ[i]? with
    | none => rw [q] at l'; cases l'
    | some c' =>
      rw [q] at l'
      have hi : i < σ.length := by rw [S.len]; exact (List.getElem?_eq_some_iff.mp q).1
      have hs : σ[i]? = some σ[i] := List.getElem?_eq_getElem hi
      cases c' with
      | own y =>
        cases l'
        have hc2 : cel σ ρ ts (.inl i) = some (σ[i], .own x) := cel_inl.mpr ⟨hs, q⟩
        have e2 := r _ _ (.inl hc2)
        obtain ⟨a, e1, _, h1⟩ := S.rel _ _ _ hc2
        rw [e2] at e1
        cases e1
        exact .inr (.inr ⟨rfl, a, _, rfl, h1⟩)
      | lkd y =>
        cases l'
        have hc2 : cel σ ρ ts (.inl i) = some (σ[i], .lkd x) := cel_inl.mpr ⟨hs, q⟩
        have e2 := r _ _ (.inr hc2)
        obtain ⟨a, e1, _, h1⟩ := S.rel _ _ _ hc2
        rw [e2] at e1
        cases e1
        exact .inr (.inr ⟨rfl, a, _, rfl, h1⟩)
      | _ => cases l'
theorem InR.of_G {P : Hp → Prop} (m : P G → P B) (h : P G) : InR G B c P := ⟨m h, fun _ => h⟩
theorem InR.of_B {P : Hp → Prop} (hb : isBor c = true) (h : P B) : InR G B c P := ⟨h, fun z => by rw [hb] at z; cases z⟩
/-- a dict's or an instance's top in H, what it holds in R -/
def TX (T : Glob) (mg : Str → Option Value) (H R : Hp) (v : V) : Tx → Prop
  | .py _ => False
  | .dik kvs => ∃ a vs, v = .ref a ∧ Rd H a (.dK vs) ∧ RpK R vs kvs
  | .dit kvs => ∃ a vs, v = .ref a ∧ Rd H a (.dT vs) ∧ RpK R vs kvs
  | .obj c fs => ∃ a, v = .ref a ∧ ObjAt T mg H R a c fs
  | .lls _ => True
theorem SRx.top (S : SRx T mg H0 G0 Fx ow G B σ ρ ts H) (hc : cel σ ρ ts k = some (some v, c)) (lk : Gr.look ρ c = some x) (np : ∀ d, x ≠ .py d) : InR G B c (fun R => TX T mg H R v x) := by
  have up : ∀ {R : Hp}, Same R H → RX T mg R v x → TX T mg H R v x := fun {R} s h => by
    cases x with
    | py d => exact absurd rfl (np d)
    | dik kvs => obtain ⟨a, vs, e, h1, h2⟩ := h; exact ⟨a, vs, e, rd_mono s h1, h2⟩
    | dit kvs => obtain ⟨a, vs, e, h1, h2⟩ := h; exact ⟨a, vs, e, rd_mono s h1, h2⟩
    | obj c fs => obtain ⟨a, e, h1⟩ := h; exact ⟨a, e, h1.mono (s a) (Same.refl _)⟩
    | lls _ => trivial
  have mono : TX T mg H G v x → TX T mg H B v x := fun h => by
    cases x with
    | py d => exact absurd rfl (np d)
    | dik kvs => obtain ⟨a, vs, e, h1, h2⟩ := h; exact ⟨a, vs, e, h1, h2.mono S.gb⟩
    | dit kvs => obtain ⟨a, vs, e, h1, h2⟩ := h; exact ⟨a, vs, e, h1, h2.mono S.gb⟩
    | obj c fs => obtain ⟨a, e, h1⟩ := h; exact ⟨a, e, h1.mono (fun _ z => z) S.gb⟩
    | lls _ => trivial
  rcases S.thing hc lk with ⟨hb, h⟩ | ⟨hb, h⟩ | ⟨hb, a, Wn, ea, h⟩
  · exact .of_G mono (up S.gh h)
  · exact .of_B hb (up S.bh h)
  · refine .of_G mono ?_
    subst ea
    cases x with
    | py d => exact absurd rfl (np d)
    | dik kvs => obtain ⟨vs, h1, h2⟩ := h; exact ⟨a, vs, rfl, .inl h1, h2⟩
    | dit kvs => obtain ⟨vs, h1, h2⟩ := h; exact ⟨a, vs, rfl, .inl h1, h2⟩
    | obj c fs => exact ⟨a, rfl, h⟩
    | lls _ => trivial
theorem getT_ok {R : Hp} {k : D} {r : Option D} (h : TX T mg H R v x) (hk : Rp H w k) (e : getX x k = some r) :
    ∃ a o, v = .ref a ∧ DGet H a w o ∧ o.isSome = r.isSome ∧ ∀ R', TX T mg H R' v x → ∀ d, r = some d → ∃ u, o = some u ∧ Rp R' u d := by
  cases x with
  | py d => cases e
  | obj c fs => cases e
  | lls xss => cases e
  | dik kvs =>
    have e' : (keyOf k).map (fun k => valD kvs k) = some r := e
    cases q : keyOf k with
    | none => rw [q] at e'; cases e'
    | some kk =>
      rw [q] at e'
      obtain ⟨a, vs, rfl, h1, h2⟩ := h
      have g : DGet H a (kV kk) (valV vs kk) := .inl ⟨vs, kk, h1, rfl, rfl⟩
      rw [← hk.key q] at g
      have e2 : valD kvs kk = r := Option.some.inj e'
      refine ⟨a, _, rfl, g, ?_, fun R' h' d' hd => ?_⟩
      · rcases RpK.val kk h2 with ⟨v, d, h3, h4, h5⟩ | ⟨h3, h4⟩
        · rw [h3, ← e2, h4]; rfl
        · rw [h3, ← e2, h4]; rfl
      · obtain ⟨a', vs', ea, h1', h2'⟩ := h'
        cases ea
        cases rd_dK h1 h1'
        rcases RpK.val kk h2' with ⟨v, d, h3, h4, h5⟩ | ⟨h3, h4⟩
        · rw [← e2, h4] at hd; cases hd; exact ⟨v, h3, h5⟩
        · rw [← e2, h4] at hd; cases hd
  | dit kvs =>
    have e' : (tkeyOf k).map (fun k => valD kvs k) = some r := e
    cases q : tkeyOf k with
    | none => rw [q] at e'; cases e'
    | some kk =>
      rw [q] at e'
      obtain ⟨a, vs, rfl, h1, h2⟩ := h
      cases k with
      | tuple ks =>
        cases hk with
        | @tup b xs _ hb hx =>
          have hxs := hx.keys q
          subst hxs
          have g : DGet H a (.ref b) (valV vs kk) := .inr ⟨vs, kk, b, h1, rfl, hb, rfl⟩
          have e2 : valD kvs kk = r := Option.some.inj e'
          refine ⟨a, _, rfl, g, ?_, fun R' h' d' hd => ?_⟩
          · rcases RpK.val kk h2 with ⟨v, d, h3, h4, h5⟩ | ⟨h3, h4⟩
            · rw [h3, ← e2, h4]; rfl
            · rw [h3, ← e2, h4]; rfl
          · obtain ⟨a', vs', ea, h1', h2'⟩ := h'
            cases ea
            cases rd_dT h1 h1'
            rcases RpK.val kk h2' with ⟨v, d, h3, h4, h5⟩ | ⟨h3, h4⟩
            · rw [← e2, h4] at hd; cases hd; exact ⟨v, h3, h5⟩
            · rw [← e2, h4] at hd; cases hd
      | _ => cases q
/-- what is found at a key -/
theorem SRx.getAt {r : Option D} (S : SRx T mg H0 G0 Fx ow G B σ ρ ts H) (hc : cel σ ρ ts k = some (some v, c)) (lk : Gr.look ρ c = some x) (hk : Rp H w d) (e : getX x d = some r) :
    ∃ a o, v = .ref a ∧ DGet H a w o ∧ o.isSome = r.isSome ∧ ∀ d, r = some d → ∃ u, o = some u ∧ InR G B c (fun R => Rp R u d) := by
  have t := S.top hc lk fun d z => by subst z; cases e
  obtain ⟨a, o, h1, h2, h3, h4⟩ := getT_ok t.1 hk e
  refine ⟨a, o, h1, h2, h3, fun d hd => ?_⟩
  obtain ⟨u, h5, h6⟩ := h4 _ t.1 d hd
  refine ⟨u, h5, h6, fun hb => ?_⟩
  obtain ⟨u', h7, h8⟩ := h4 _ (t.2 hb) d hd
  rw [h5] at h7
  cases h7
  exact h8
theorem ix_res {r : C} (S : SR T mg H0 G0 Fx σ ρ (ts ++ [(some v, c)] ++ [(some w, c')]) H) (h : ixC ρ c c' = some r) (q : ∀ u H', SR T mg H0 G0 Fx σ ρ (ts ++ [(some u, r)]) H' → Q u H') : rIxA X.K v w H Q := by
  unfold ixC at h
  cases lk : Gr.look ρ c with
  | none => rw [lk] at h; cases h
  | some x =>
    cases sk : Gr.see ρ c' with
    | none => rw [lk, sk] at h; cases h
    | some kd =>
      rw [lk, sk] at h
      have h : ixX c x kd = some r := h
      unfold ixX at h
      have rk := S.lastD sk
      have S0 := S.pop2
      have rv := S.last2 lk
      obtain ⟨ow, G, B, S1⟩ := S
      have S10 := S1.pop2
      have gen : (getX x kd).bind (fun r => r.map (itemC c)) = some r → rIxA X.K v w H Q := fun h => by
        cases q1 : getX x kd with
        | none => rw [q1] at h; cases h
        | some r1 =>
          rw [q1] at h
          cases r1 with
          | none => cases h
          | some d1 =>
            cases h
            obtain ⟨a, o, e1, e2, e3, e4⟩ := S1.getAt cel_at2 lk rk q1
            obtain ⟨u, e5, e6⟩ := e4 d1 rfl
            subst e5
            exact .inr ⟨a, u, e1, e2, q _ _ (item_push S10 e6)⟩
      have see1 : ∀ {d : D}, x = .py d → Gr.see ρ c = some d := fun {d} e => by unfold Gr.see; rw [lk, e]; rfl
      split at h
      · rename_i ds i _
        obtain ⟨a, vs, e1, r1, i1⟩ := S1.list cel_at2 (see1 rfl)
        cases q1 : atI ds i with
        | none => rw [q1] at h; cases h
        | some d1 =>
          rw [q1] at h
          cases h
          obtain ⟨u, e2, e3⟩ := RpA.atI i1.1 q1
          refine .inl (.inl ⟨a, vs, i, u, e1, rk.intV, .inl r1, e2, q _ _ (item_push S10 ⟨e3, fun hb => ?_⟩)⟩)
          obtain ⟨u', e4, e5⟩ := RpA.atI (i1.2 hb) q1
          rw [e2] at e4
          cases e4
          exact e5
      · rename_i ds i _
        obtain ⟨a, vs, e1, r1, i1⟩ := S1.tuple cel_at2 (see1 rfl)
        cases q1 : atI ds i with
        | none => rw [q1] at h; cases h
        | some d1 =>
          rw [q1] at h
          cases h
          obtain ⟨u, e2, e3⟩ := RpA.atI i1.1.2 q1
          refine .inl (.inr (.inl ⟨a, vs, i, u, e1, rk.intV, .inl (.inl r1), e2, q _ _ (item_push S10 ⟨e3, fun hb => ?_⟩)⟩))
          obtain ⟨u', e4, e5⟩ := RpA.atI (i1.2 hb).2 q1
          rw [e2] at e4
          cases e4
          exact e5
      · rename_i s i _
        split at h
        · rename_i hl
          cases q1 : atI s.cps.toList i with
          | none => rw [q1] at h; cases h
          | some d1 =>
            rw [q1] at h
            cases h
            have rv : Rp H v (.str s) := rv
            exact .inl (.inr (.inr ⟨s, i, d1, rv.strV, rk.intV, by rw [sizeLine_eq]; exact hl, q1, q _ _ (S0.scal fun _ => .str _)⟩))
        · cases h
      · exact gen h
/-- a slice of a list or a tuple -/
theorem RpA.cut {R : Hp} {lo hi : Option Int} (r : RpA R vs ds) : RpA R (cutV vs lo hi) (cutD ds lo hi) := by
  unfold cutV cutD
  rw [r.length]
  exact (r.drop _).take _
def rSlG (K : PySem.W.Frag) : V → Option Int → Option Int → Hp → VK → Prop := fun x lo hi H Q => rSlL K x lo hi H Q ∨ rSlA K x lo hi H Q
theorem slG_ok : SlR X (rSlG X.K) := sl_list.or sl_tupA
theorem cut_whole {α : Type} {xs : List α} {lo hi : Option Int} (h : HT.sIx xs.length 0 lo = 0 ∧ HT.sIx xs.length xs.length hi = xs.length) : (xs.drop (HT.sIx xs.length 0 lo)).take (HT.sIx xs.length xs.length hi - HT.sIx xs.length 0 lo) = xs := by
  rw [h.1, h.2]
  simp
theorem sl_res {r : C} {lo hi : Option Int} (S : SR T mg H0 G0 Fx σ ρ (ts ++ [(some v, c)]) H) (h : slC ρ c lo hi = some r) (q : ∀ u H', SR T mg H0 G0 Fx σ ρ (ts ++ [(some u, r)]) H' → Q u H') : rSlG X.K v lo hi H Q := by
  unfold slC at h
  cases lk : Gr.look ρ c with
  | none => rw [lk] at h; cases h
  | some x =>
    rw [lk] at h
    obtain ⟨ow, G, B, S1⟩ := S
    have S10 := S1.drop
    have lst : ∀ {ds : List D}, x = .py (.list ds) → (isBor c = true → ds.all isSc = true) → (∀ u H', SR T mg H0 G0 Fx σ ρ (ts ++ [(some u, .own (.py (.list (cutD ds lo hi))))]) H' → Q u H') → rSlG X.K v lo hi H Q := fun {ds} e hs q => by
      subst e
      obtain ⟨a, vs, e1, r1, i1⟩ := S1.list cel_last (by unfold Gr.see; rw [lk]; rfl)
      have g : RpA G vs ds := by
        cases hb : isBor c with
        | false => exact i1.2 hb
        | true => exact i1.1.sc (hs hb)
      exact .inl ⟨a, vs, e1, .inl r1, fun p hp => q _ _ (S10.newL hp g.cut)⟩
    have tup : ∀ {ds : List D}, x = .py (.tuple ds) → (∀ u H', SR T mg H0 G0 Fx σ ρ (ts ++ [(some u, if isBor c then .bor (.py (.tuple (cutD ds lo hi))) else .fro (.py (.tuple (cutD ds lo hi))))]) H' → Q u H') → rSlG X.K v lo hi H Q := fun {ds} e q => by
      subst e
      obtain ⟨a, vs, e1, r1, i1⟩ := S1.tuple cel_last (by unfold Gr.see; rw [lk]; rfl)
      refine .inr ⟨a, vs, e1, .inl (.inl r1), fun z => ?_, fun _ p hp => ?_⟩
      · rw [i1.1.2.length] at z
        have e2 : cutD ds lo hi = ds := cut_whole z
        rw [e2] at q
        cases hb : isBor c with
        | true => rw [hb] at q; exact q _ _ (S10.pushB (.tup i1.1.1 i1.1.2))
        | false => rw [hb] at q; exact q _ _ (S10.pushF (.tup (i1.2 hb).1 (i1.2 hb).2))
      · cases hb : isBor c with
        | true => rw [hb] at q; exact q _ _ (S10.newB hp i1.1.2.cut)
        | false => rw [hb] at q; exact q _ _ (S10.newT hp (i1.2 hb).2.cut)
    cases c with
    | bor y =>
      cases x with
      | py d =>
        cases d with
        | list ds =>
          have h' : (if ds.all isSc then some (C.own (.py (.list (cutD ds lo hi)))) else none) = some r := h
          split at h'
          · rename_i hs
            cases h'
            exact lst rfl (fun _ => hs) q
          · cases h'
        | tuple ds => cases h; exact tup rfl q
        | _ => cases h
      | _ => cases h
    | _ =>
      cases x with
      | py d =>
        cases d with
        | list ds => cases h; exact lst rfl (fun z => by cases z) q
        | tuple ds => cases h; exact tup rfl q
        | _ => cases h
      | _ => cases h

/-! ### slices with a step -/
theorem RpA.pick {R : Hp} (r : RpA R vs ds) : ∀ is : List Nat, RpA R (is.filterMap (vs[·]?)) (is.filterMap (ds[·]?))
  | [] => .nil
  | i :: is => by
    rw [List.filterMap_cons, List.filterMap_cons]
    cases q : ds[i]? with
    | none =>
      have q2 : vs[i]? = none := by rw [List.getElem?_eq_none_iff] at q ⊢; rw [r.length]; exact q
      rw [q2]
      exact RpA.pick r is
    | some d =>
      obtain ⟨v, hv, rv⟩ := r.get q
      rw [hv]
      exact .cons rv (RpA.pick r is)
theorem RpA.step {R : Hp} {lo hi st : Option Int} (r : RpA R vs ds) : RpA R (stepD vs lo hi st) (stepD ds lo hi st) := by
  unfold stepD
  rw [r.length]
  exact r.pick _
theorem vals_pick {us : List Value} (r : Vals vs us) : ∀ is : List Nat, Vals (is.filterMap (vs[·]?)) (is.filterMap (us[·]?))
  | [] => .nil
  | i :: is => by
    rw [List.filterMap_cons, List.filterMap_cons]
    cases q : vs[i]? with
    | none =>
      have q2 : us[i]? = none := by rw [List.getElem?_eq_none_iff] at q ⊢; rw [← r.length]; exact q
      rw [q2]
      exact vals_pick r is
    | some d =>
      obtain ⟨v, hv, rv⟩ := r.get q
      rw [hv]
      exact .cons rv (vals_pick r is)
theorem vals_step {us : List Value} {lo hi st : Option Int} (r : Vals vs us) : Vals (stepD vs lo hi st) (stepD us lo hi st) := by
  unfold stepD
  rw [r.length]
  exact vals_pick r _
theorem slicePick_step (its : List Value) (lo hi st : Option Int) : slicePick its.toArray lo hi st = (stepD its lo hi st).toArray := by
  unfold slicePick stepD
  rw [List.size_toArray]
  congr 1
  refine congrArg (fun f => List.filterMap f _) (funext fun i => ?_)
  rw [List.getElem?_toArray]
theorem stepD_len (its : List Value) (lo hi st : Option Int) : (stepD its lo hi st).length ≤ its.length := by
  have := slicePick_size_le its.toArray lo hi st
  rwa [slicePick_step, List.size_toArray, List.size_toArray] at this
def rSl3 (K : PySem.W.Frag) : V → Option Int → Option Int → Option Int → Hp → VK → Prop := fun x lo hi st H Q => ∃ a xs, x = .ref a ∧ SqL K H a xs ∧ st ≠ some 0 ∧ ∀ p, H p = none → Q (.ref p) (upd H p (.lst (stepD xs lo hi st)))
def tSl3 (K : PySem.W.Frag) (te : TE) (tl th tk : TO) : TE := fun σ H Q => te σ H fun x H1 => tl σ H1 fun l H2 => th σ H2 fun u H3 => tk σ H3 fun k H4 => rSl3 K x l u k H4 Q
open PyProof.Rows in
theorem pe_slice3 {e : Expr} {lo hi : Option Expr} {st : Expr} {te : TE} {tl th tk : TO} {p2 pos : Pos} (he : PE X e te) (hl : PO X lo tl) (hu : PO X hi th) (hk : PO X (some st) tk) : PE X (.Subscript e (.Slice lo hi (some st) p2) pos) (tSl3 X.K te tl th tk) := by
  refine ⟨fun pins s σ H Q I h => ?_⟩
  refine Subscript_ (thn (he.run pins s σ H _ I h) fun v s1 ⟨x, H1, I1, r1, q1⟩ => ?_)
  refine wpAny_Slice (thn (hl.run pins s1 σ H1 _ I1 q1) fun vl s2 ⟨l, H2, I2, pl, q2⟩ => thn (hu.run pins s2 σ H2 _ I2 q2) fun vu s3 ⟨u, H3, I3, pu, q3⟩ => thn (hk.run pins s3 σ H3 _ I3 q3) fun vk s4 ⟨k, H4, I4, pk, q4⟩ => ?_)
  have I5 : Inv X pins σ H4 { s4 with heap := s4.heap.push { cls := .type "slice", data := .fields #[vl, vu, vk] } } := I4.kept (t' := s4.toks) fun b ob q => Heap.get?_push_of_some _ q
  obtain ⟨a, xs, rfl, hx, h0, q⟩ := q4
  cases r1
  obtain ⟨its, r, ht, hz⟩ := I5.list hx
  have hlen := r.length
  show wpAny (model X.prog X.w) X.A (subscriptTail e (.Slice lo hi (some st) p2) (.ref a) (.ref s4.heap.objs.size)) (EP X pins σ Q) X.xe { s4 with heap := s4.heap.push { cls := .type "slice", data := .fields #[vl, vu, vk] } }
  refine tail_any (ops := [.ref a, .ref s4.heap.objs.size]) ht.isList.typeIs slot_list_getitem.lookup ?_ (by with_unfolding_all rfl)
  refine wpAny_getItem_list_slice ht.isList (Heap.IsSliceOf.new ..) pl pu pk h0 ?_ (by rw [List.size_toArray] <;> omega)
  rw [slicePick_step]
  refine ⟨.ref _, _, I5.laid (t' := s4.toks) (o := .lst (stepD xs l u k)) (fun b ob q => Heap.get?_push_of_some _ q) (Nat.le_refl _) ?_, rfl, q _ (I5.hok.fresh (Nat.le_refl _))⟩
  have hsl := (vals_step (lo := l) (hi := u) (st := k) r).length
  exact ⟨by rw [hsl]; exact Nat.le_trans (stepD_len its l u k) (by rw [← hlen]; exact hz), _, 0, vals_step r, Heap.get?_push_size _ rfl⟩
theorem sls_res {r : C} {lo hi st : Option Int} (S : SR T mg H0 G0 Fx σ ρ (ts ++ [(some v, c)]) H) (h : slS ρ c lo hi st = some r) (q : ∀ u H', SR T mg H0 G0 Fx σ ρ (ts ++ [(some u, r)]) H' → Q u H') : rSl3 X.K v lo hi st H Q := by
  unfold slS at h
  cases lk : Gr.look ρ c with
  | none => rw [lk] at h; cases h
  | some x =>
    rw [lk] at h
    obtain ⟨ow, G, B, S1⟩ := S
    have S10 := S1.drop
    cases x with
    | py d =>
      cases d with
      | list ds =>
        have h' : (if clear c ds && !decide (st = some 0) then some (C.own (.py (.list (stepD ds lo hi st)))) else none) = some r := h
        split at h'
        · rename_i hs
          rw [Bool.and_eq_true] at hs
          obtain ⟨h1, h2⟩ := hs
          cases h'
          obtain ⟨a, vs, e1, r1, i1⟩ := S1.list cel_last (by unfold Gr.see; rw [lk]; rfl)
          have g : RpA G vs ds := by
            cases hb : isBor c with
            | false => exact i1.2 hb
            | true =>
              cases c with
              | bor y => exact i1.1.sc h1
              | _ => cases hb
          refine ⟨a, vs, e1, .inl r1, fun z => ?_, fun p hp => q _ _ (S10.newL hp g.step)⟩
          rw [Bool.not_eq_true', decide_eq_false_iff_not] at h2
          exact h2 z
        · cases h'
      | _ => cases h
    | _ => cases h
/-! ### displays -/
theorem fzDs_sr : ∀ {vs : List V} {cs : List C} {ds : List D} {ρ ρ' : List C} {ts : List Cell}, vs.length = cs.length → SR T mg H0 G0 Fx σ ρ (ts ++ tz vs cs) H → fzDs ρ cs = some (ds, ρ') → SR T mg H0 G0 Fx σ ρ' (ts ++ tz vs (ds.map fun d => .fro (.py d))) H ∧ ds.length = cs.length := by
  intro vs
  induction vs with
  | nil =>
    intro cs ds ρ ρ' ts hl S h
    cases cs with
    | cons _ _ => cases hl
    | nil => cases h; exact ⟨S, rfl⟩
  | cons v vs ih =>
    intro cs ds ρ ρ' ts hl S h
    cases cs with
    | nil => cases hl
    | cons c cs =>
      have h' : ((fzD ρ c).bind fun p => (fzDs p.2 cs).map fun q => (p.1 :: q.1, q.2)) = some (ds, ρ') := h
      have S' : SR T mg H0 G0 Fx σ ρ (ts ++ (some v, c) :: tz vs cs) H := S
      cases q : fzD ρ c with
      | none => rw [q] at h'; cases h'
      | some p =>
        obtain ⟨d, ρ1⟩ := p
        rw [q] at h'
        have q' : ((Gr.fz ρ c).bind fun p => p.1.see.map fun d => (d, p.2)) = some (d, ρ1) := q
        cases q2 : Gr.fz ρ c with
        | none => rw [q2] at q'; cases q'
        | some p2 =>
          obtain ⟨x, ρ2⟩ := p2
          rw [q2] at q'
          cases x with
          | py d' =>
            cases q'
            have S1 := S'.fz q2
            have e2 : ts ++ (some v, .fro (.py d)) :: tz vs cs = (ts ++ [(some v, .fro (.py d))]) ++ tz vs cs := by simp
            rw [e2] at S1
            cases q3 : fzDs ρ2 cs with
            | none =>
              have h' : (fzDs ρ2 cs).map (fun q => (d :: q.1, q.2)) = some (ds, ρ') := h'
              rw [q3] at h'; cases h'
            | some p3 =>
              obtain ⟨es, ρ3⟩ := p3
              have h' : (fzDs ρ2 cs).map (fun q => (d :: q.1, q.2)) = some (ds, ρ') := h'
              rw [q3] at h'
              cases h'
              obtain ⟨S2, hl2⟩ := ih (by simpa using hl) S1 q3
              refine ⟨?_, by simp [hl2]⟩
              rw [List.map_cons, tz_cons]
              have e3 : ts ++ (some v, C.fro (.py d)) :: tz vs (es.map fun d => C.fro (.py d)) = (ts ++ [(some v, .fro (.py d))]) ++ tz vs (es.map fun d => .fro (.py d)) := by simp
              rw [e3]
              exact S2
          | _ => cases q'
theorem fro_all : ∀ {vs : List V} {ds : List D} {ts : List Cell}, vs.length = ds.length → SRx T mg H0 G0 Fx ow G B σ ρ (ts ++ tz vs (ds.map fun d => .fro (.py d))) H → RpA G vs ds := by
  intro vs
  induction vs with
  | nil =>
    intro ds ts hl S
    cases ds with
    | nil => exact .nil
    | cons _ _ => cases hl
  | cons v vs ih =>
    intro ds ts hl S
    cases ds with
    | nil => cases hl
    | cons d ds =>
      rw [List.map_cons, tz_cons] at S
      have e3 : ts ++ (some v, C.fro (.py d)) :: tz vs (ds.map fun d => C.fro (.py d)) = (ts ++ [(some v, .fro (.py d))]) ++ tz vs (ds.map fun d => .fro (.py d)) := by simp
      rw [e3] at S
      refine .cons ?_ (ih (by simpa using hl) S)
      obtain ⟨u, e, r⟩ := S.drop.rel _ _ _ cel_last
      cases e
      exact r
theorem fzDs_ok {cs : List C} (hl : vs.length = cs.length) (S : SR T mg H0 G0 Fx σ ρ (ts ++ tz vs cs) H) (h : fzDs ρ cs = some (ds, ρ')) : ∃ ow G B, SRx T mg H0 G0 Fx ow G B σ ρ' ts H ∧ RpA G vs ds := by
  obtain ⟨⟨ow, G, B, S1⟩, hl2⟩ := fzDs_sr hl S h
  exact ⟨ow, G, B, S1.drop, fro_all (by omega) S1⟩

/-! ### built-ins -/
theorem see_list {ds : List D} (h : (Gr.see ρ c).bind items = some ds) : Gr.see ρ c = some (.list ds) ∨ Gr.see ρ c = some (.tuple ds) := by
  cases q : Gr.see ρ c with
  | none => rw [q] at h; cases h
  | some d =>
    rw [q] at h
    cases d with
    | list xs => cases h; exact .inl rfl
    | tuple xs => cases h; exact .inr rfl
    | _ => cases h
/-- a list or a tuple seen -/
theorem SRx.sq (S : SRx T mg H0 G0 Fx ow G B σ ρ ts H) (hc : cel σ ρ ts k = some (some v, c)) (h : (Gr.see ρ c).bind items = some ds) : ∃ a vs, v = .ref a ∧ Sq H a vs ∧ InR G B c (fun R => RpA R vs ds) := by
  rcases see_list h with h | h
  · obtain ⟨a, vs, e, r, i⟩ := S.list hc h
    exact ⟨a, vs, e, .inl r, i⟩
  · obtain ⟨a, vs, e, r, i⟩ := S.tuple hc h
    exact ⟨a, vs, e, .inr r, i.1.2, fun z => (i.2 z).2⟩
theorem RpA.mapInt : ∀ {ds : List D} {ns : List Int} {vs : List V}, RpA H vs ds → intsD ds = some ns → vs = ns.map V.int := fun r e => r.ints e
theorem keysI_rp {R : Hp} : ∀ {vs : List (Key × V)} {kvs : List (Key × D)} {ns : List Int}, RpK R vs kvs → keysI kvs = some ns → vs.map (·.1) = ns.map Sum.inl
  | [], _, _, h, e => by cases h; cases e; rfl
  | _ :: _, _, _, h, e => by
    cases h with
    | @cons p q _ kvs a t =>
      obtain ⟨k, d⟩ := q
      cases k with
      | inr s => cases e
      | inl n =>
        have e : (keysI kvs).map (n :: ·) = some _ := e
        cases q1 : keysI kvs with
        | none => rw [q1] at e; cases e
        | some ms =>
          rw [q1] at e
          cases e
          rw [List.map_cons, List.map_cons, keysI_rp t q1, a.1]
theorem ints_rp {R : Hp} : ∀ ns : List Int, RpA R (ns.map V.int) (ns.map .int)
  | [] => .nil
  | n :: ns => .cons (.int n) (ints_rp ns)
theorem sortD_of {ys ns : List Int} (p : ys.Perm ns) (h : ys.Pairwise (· ≤ ·)) : sortD (ns.map .int) = ys.map .int := by
  unfold sortD
  have e1 : (ns.map PyData.int).mergeSort (PySem.W.dataLe false id) = (ns.mergeSort fun a b => PySem.W.dataLe false id (.int a) (.int b)).map .int := (List.map_mergeSort (f := PyData.int) (r := fun a b : Int => PySem.W.dataLe false id (.int a) (.int b)) (s := PySem.W.dataLe false id) fun _ _ _ _ => rfl).symm
  rw [e1]
  congr 1
  have le : ∀ a b : Int, PySem.W.dataLe false id (.int a) (.int b) = decide (a ≤ b) := fun a b => by
    exact (congrFun (congrFun (PySem.W.dataLe_int (fun p : Int => p)) a) b)
  refine List.Perm.eq_of_pairwise (le := (· ≤ ·)) (fun a b _ _ h1 h2 => Int.le_antisymm h1 h2) ?_ h ((List.mergeSort_perm _ _).trans p.symm)
  have := List.pairwise_mergeSort (le := fun a b : Int => PySem.W.dataLe false id (.int a) (.int b)) (fun a b c => by simp only [le, decide_eq_true_eq]; omega) (fun a b => by simp only [le, Bool.or_eq_true, decide_eq_true_eq]; omega) ns
  exact this.imp fun {a b} z => by rw [le] at z; exact of_decide_eq_true z
theorem bi1_res {b : Bi} {r : C} (S : SR T mg H0 G0 Fx σ ρ (ts ++ [(some v, c)]) H) (h : biC ρ b [c] = some r) (q : ∀ u H', SR T mg H0 G0 Fx σ ρ (ts ++ [(some u, r)]) H' → Q u H') : rBi X.K b [v] H Q := by
  have S0 := S.pop
  have S9 := S
  obtain ⟨ow, G, B, S1⟩ := S
  have S10 := S1.drop
  have line_eq : line = sizeLine := by rw [sizeLine_eq]; rfl
  cases b with
  | len =>
    have h' : ((Gr.look ρ c).bind fun x => match x with
      | .py (.list ds) => some (num ds.length)
      | .py (.tuple ds) => some (num ds.length)
      | .py (.str s) => if s.length ≤ line then some (num s.length) else none
      | .dik kvs => some (num kvs.length)
      | _ => none) = some r := h
    cases lk : Gr.look ρ c with
    | none => rw [lk] at h'; cases h'
    | some x =>
      rw [lk] at h'
      cases x with
      | py d =>
        have sk : Gr.see ρ c = some d := by unfold Gr.see; rw [lk]; rfl
        cases d with
        | list ds =>
          cases h'
          obtain ⟨a, vs, e, r, i⟩ := S1.sq cel_last (by rw [sk]; rfl)
          exact .inl ⟨a, vs, by rw [e], r, by rw [i.1.length]; exact q _ _ S0.num⟩
        | tuple ds =>
          cases h'
          obtain ⟨a, vs, e, r, i⟩ := S1.sq cel_last (by rw [sk]; rfl)
          exact .inl ⟨a, vs, by rw [e], r, by rw [i.1.length]; exact q _ _ S0.num⟩
        | str z =>
          have h' : (if z.length ≤ line then some (num z.length) else none) = some r := h'
          split at h'
          · rename_i hl
            cases h'
            have e := S9.lastD sk
            exact .inr (.inl ⟨z, by rw [e.strV], by rw [← line_eq]; exact hl, q _ _ S0.num⟩)
          · cases h'
        | _ => cases h'
      | dik kvs =>
        cases h'
        obtain ⟨a, vs, e, h1, h2⟩ := (S1.top cel_last lk fun d z => by cases z).1
        exact .inr (.inr ⟨a, vs, by rw [e], h1, by rw [h2.length]; exact q _ _ S0.num⟩)
      | _ => cases h'
  | lenT =>
    have h' : (match Gr.look ρ c with
      | some (.dit kvs) => some (num kvs.length)
      | _ => none) = some r := h
    cases lk : Gr.look ρ c with
    | none => rw [lk] at h'; cases h'
    | some x =>
      rw [lk] at h'
      cases x with
      | dit kvs =>
        cases h'
        obtain ⟨a, vs, e, h1, h2⟩ := (S1.top cel_last lk fun d z => by cases z).1
        exact ⟨a, vs, by rw [e], h1, by rw [h2.length]; exact q _ _ S0.num⟩
      | _ => cases h'
  | sortedK =>
    have h' : (match Gr.look ρ c with
      | some (.dik kvs) => (keysI kvs).bind fun ns => if ns.length < 64 then some (.own (.py (.list (sortD (ns.map .int))))) else none
      | _ => none) = some r := h
    cases lk : Gr.look ρ c with
    | none => rw [lk] at h'; cases h'
    | some x =>
      rw [lk] at h'
      cases x with
      | dik kvs =>
        have h' : ((keysI kvs).bind fun ns => if ns.length < 64 then some (C.own (.py (.list (sortD (ns.map .int))))) else none) = some r := h'
        cases q1 : keysI kvs with
        | none => rw [q1] at h'; cases h'
        | some ns =>
          rw [q1] at h'
          have h' : (if ns.length < 64 then some (C.own (.py (.list (sortD (ns.map .int))))) else none) = some r := h'
          split at h'
          · rename_i hl
            cases h'
            obtain ⟨a, vs, e, h1, h2⟩ := (S1.top cel_last lk fun d z => by cases z).1
            refine ⟨a, vs, ns, by rw [e], h1, keysI_rp h2 q1, hl, fun ys p hp1 hp2 hp => q _ _ ?_⟩
            rw [sortD_of hp1 hp2]
            exact S10.newL hp (ints_rp _)
          · cases h'
      | _ => cases h'
  | abs =>
    have h' : (match Gr.see ρ c with
      | some (.int i) => some (num (if i < 0 then -i else i))
      | _ => none) = some r := h
    cases sk : Gr.see ρ c with
    | none => rw [sk] at h'; cases h'
    | some d =>
      rw [sk] at h'
      cases d with
      | int i => cases h'; exact ⟨i, by rw [(S9.lastD sk).intV], q _ _ S0.num⟩
      | _ => cases h'
  | sum =>
    have h' : ((Gr.see ρ c).bind fun d => match d with
      | .list ds => (intsD ds).map fun ns => num ns.sum
      | _ => none) = some r := h
    cases sk : Gr.see ρ c with
    | none => rw [sk] at h'; cases h'
    | some d =>
      rw [sk] at h'
      cases d with
      | list ds =>
        have h' : (intsD ds).map (fun ns => num ns.sum) = some r := h'
        cases q1 : intsD ds with
        | none => rw [q1] at h'; cases h'
        | some ns =>
          rw [q1] at h'
          cases h'
          obtain ⟨a, vs, e, r, i⟩ := S1.list cel_last sk
          rw [i.1.ints q1] at r
          exact ⟨a, ns, by rw [e], .inl r, q _ _ S0.num⟩
      | _ => cases h'
  | all =>
    have h' : ((Gr.see ρ c).bind fun d => match d with
      | .list ds => (boolsD ds).map fun bs => bool (bs.all id)
      | _ => none) = some r := h
    cases sk : Gr.see ρ c with
    | none => rw [sk] at h'; cases h'
    | some d =>
      rw [sk] at h'
      cases d with
      | list ds =>
        have h' : (boolsD ds).map (fun bs => bool (bs.all id)) = some r := h'
        cases q1 : boolsD ds with
        | none => rw [q1] at h'; cases h'
        | some ns =>
          rw [q1] at h'
          cases h'
          obtain ⟨a, vs, e, r, i⟩ := S1.list cel_last sk
          rw [i.1.bls q1] at r
          exact ⟨a, ns, by rw [e], .inl r, q _ _ S0.bool⟩
      | _ => cases h'
  | any =>
    have h' : ((Gr.see ρ c).bind fun d => match d with
      | .list ds => (boolsD ds).map fun bs => bool (bs.any id)
      | _ => none) = some r := h
    cases sk : Gr.see ρ c with
    | none => rw [sk] at h'; cases h'
    | some d =>
      rw [sk] at h'
      cases d with
      | list ds =>
        have h' : (boolsD ds).map (fun bs => bool (bs.any id)) = some r := h'
        cases q1 : boolsD ds with
        | none => rw [q1] at h'; cases h'
        | some ns =>
          rw [q1] at h'
          cases h'
          obtain ⟨a, vs, e, r, i⟩ := S1.list cel_last sk
          rw [i.1.bls q1] at r
          exact ⟨a, ns, by rw [e], .inl r, q _ _ S0.bool⟩
      | _ => cases h'
  | sorted =>
    have h' : ((Gr.see ρ c).bind fun d => (items d).bind fun ds => if sortable ds && clear c ds && (ds.all dp) then some (C.own (.py (.list (sortD ds)))) else none) = some r := h
    have h2 : ∃ ds, (Gr.see ρ c).bind items = some ds ∧ (if sortable ds && clear c ds && (ds.all dp) then some (C.own (.py (.list (sortD ds)))) else none) = some r := by
      cases sk : Gr.see ρ c with
      | none => rw [sk] at h'; cases h'
      | some d =>
        rw [sk] at h'
        have h' : (items d).bind (fun ds => if sortable ds && clear c ds && (ds.all dp) then some (C.own (.py (.list (sortD ds)))) else none) = some r := h'
        cases q1 : items d with
        | none => rw [q1] at h'; cases h'
        | some ds => rw [q1] at h'; exact ⟨ds, q1, h'⟩
    obtain ⟨ds, sk, h3⟩ := h2
    split at h3
    · rename_i hk
      cases h3
      rw [Bool.and_eq_true, Bool.and_eq_true] at hk
      obtain ⟨a, vs, e, r, i⟩ := S1.sq cel_last sk
      have g : RpA G vs ds := i.clr hk.1.2 fun z r => r.sc z
      refine ⟨a, vs, ds, by rw [e], r, g.mono S1.gh, hk.1.1, hk.2, fun p vs' hp hl hR => q _ _ (S10.newL hp (faI_rpA.mp (hR _ (faI_rpA.mpr g))))⟩
    · cases h3
  | list =>
    have h' : ((Gr.see ρ c).bind fun d => (items d).bind fun ds => if clear c ds then some (C.own (.py (.list ds))) else none) = some r := h
    have h2 : ∃ ds, (Gr.see ρ c).bind items = some ds ∧ (if clear c ds then some (C.own (.py (.list ds))) else none) = some r := by
      cases sk : Gr.see ρ c with
      | none => rw [sk] at h'; cases h'
      | some d =>
        rw [sk] at h'
        have h' : (items d).bind (fun ds => if clear c ds then some (C.own (.py (.list ds))) else none) = some r := h'
        cases q1 : items d with
        | none => rw [q1] at h'; cases h'
        | some ds => rw [q1] at h'; exact ⟨ds, q1, h'⟩
    obtain ⟨ds, sk, h3⟩ := h2
    split at h3
    · rename_i hk
      cases h3
      obtain ⟨a, vs, e, r, i⟩ := S1.sq cel_last sk
      have g : RpA G vs ds := i.clr hk fun z r => r.sc z
      exact ⟨a, vs, by rw [e], r, fun p hp => q _ _ (S10.newL hp g)⟩
    · cases h3
  | tuple =>
    have h' : ((Gr.see ρ c).bind fun d => match d with
      | .list ds => if clear c ds then some (C.fro (.py (.tuple ds))) else none
      | .tuple ds => some (if isBor c then C.bor (.py (.tuple ds)) else .fro (.py (.tuple ds)))
      | _ => none) = some r := h
    cases sk : Gr.see ρ c with
    | none => rw [sk] at h'; cases h'
    | some d =>
      rw [sk] at h'
      cases d with
      | list ds =>
        have h' : (if clear c ds then some (C.fro (.py (.tuple ds))) else none) = some r := h'
        split at h'
        · rename_i hk
          cases h'
          obtain ⟨a, vs, e, r, i⟩ := S1.list cel_last sk
          have g : RpA G vs ds := i.clr hk fun z r => r.sc z
          exact ⟨a, vs, by rw [e], .inl ⟨r, fun p hp => q _ _ (S10.newT hp g)⟩⟩
        · cases h'
      | tuple ds =>
        obtain ⟨hcc, _⟩ := S1.data cel_last sk fun ds z => by cases z
        obtain ⟨a, vs, e, r, i⟩ := S1.tuple cel_last sk
        refine ⟨a, vs, by rw [e], .inr ⟨r, ?_⟩⟩
        rcases hcc with hcc | hcc
        · subst hcc
          cases h'
          exact q _ _ (S10.pushF (.tup (i.2 rfl).1 (i.2 rfl).2))
        · subst hcc
          cases h'
          exact q _ _ (S10.pushB (.tup i.1.1 i.1.2))
      | _ => cases h'
  | min1 =>
    have h' : (match (Gr.see ρ c).bind items with
      | some ds => match intsD ds with
        | some (n :: ns) => some (num (ns.foldl (fun a y => if y < a then y else a) n))
        | _ => none
      | none => none) = some r := h
    cases sk : (Gr.see ρ c).bind items with
    | none => rw [sk] at h'; cases h'
    | some ds =>
      rw [sk] at h'
      have h' : (match intsD ds with
        | some (n :: ns) => some (num (ns.foldl (fun a y => if y < a then y else a) n))
        | _ => none) = some r := h'
      cases q1 : intsD ds with
      | none => rw [q1] at h'; cases h'
      | some nn =>
        rw [q1] at h'
        cases nn with
        | nil => cases h'
        | cons n ns =>
          cases h'
          obtain ⟨a, vs, e, r, i⟩ := S1.sq cel_last sk
          rw [i.1.ints q1] at r
          exact ⟨a, n, ns, by rw [e], r, q _ _ S0.num⟩
  | max1 =>
    have h' : (match (Gr.see ρ c).bind items with
      | some ds => match intsD ds with
        | some (n :: ns) => some (num (ns.foldl (fun a y => if a < y then y else a) n))
        | _ => none
      | none => none) = some r := h
    cases sk : (Gr.see ρ c).bind items with
    | none => rw [sk] at h'; cases h'
    | some ds =>
      rw [sk] at h'
      have h' : (match intsD ds with
        | some (n :: ns) => some (num (ns.foldl (fun a y => if a < y then y else a) n))
        | _ => none) = some r := h'
      cases q1 : intsD ds with
      | none => rw [q1] at h'; cases h'
      | some nn =>
        rw [q1] at h'
        cases nn with
        | nil => cases h'
        | cons n ns =>
          cases h'
          obtain ⟨a, vs, e, r, i⟩ := S1.sq cel_last sk
          rw [i.1.ints q1] at r
          exact ⟨a, n, ns, by rw [e], r, q _ _ S0.num⟩
  | min2 => cases h
  | max2 => cases h
  | int =>
    have h' : (match Gr.see ρ c with
      | some (.int i) => some (num i)
      | some (.bool k) => some (num (if k then 1 else 0))
      | _ => none) = some r := h
    cases sk : Gr.see ρ c with
    | none => rw [sk] at h'; cases h'
    | some d =>
      have rd := S9.lastD sk
      rw [sk] at h'
      cases d with
      | int i => cases h'; exact .inl ⟨i, by rw [rd.intV], q _ _ S0.num⟩
      | bool i => cases h'; exact .inr ⟨i, by rw [rd.blV], q _ _ S0.num⟩
      | _ => cases h'
  | str =>
    have h' : (match Gr.see ρ c with
      | some (.int i) => if i.natAbs.log2 < 1920 then some (C.fro (.py (.str (toString i)))) else none
      | _ => none) = some r := h
    cases sk : Gr.see ρ c with
    | none => rw [sk] at h'; cases h'
    | some d =>
      have rd := S9.lastD sk
      rw [sk] at h'
      cases d with
      | int i =>
        have h' : (if i.natAbs.log2 < 1920 then some (C.fro (.py (.str (toString i)))) else none) = some r := h'
        split at h'
        · rename_i hl
          cases h'
          exact ⟨i, by rw [rd.intV], hl, q _ _ (S0.scal fun _ => .str _)⟩
        · cases h'
      | _ => cases h'
theorem bi2_res {b : Bi} {r : C} (S : SR T mg H0 G0 Fx σ ρ (ts ++ [(some v, c)] ++ [(some w, c')]) H) (h : biC ρ b [c, c'] = some r) (q : ∀ u H', SR T mg H0 G0 Fx σ ρ (ts ++ [(some u, r)]) H' → Q u H') : rBi X.K b [v, w] H Q := by
  have S0 := S.pop2
  have go : ∀ {f : Int → Int → Int}, (match Gr.see ρ c, Gr.see ρ c' with
    | some (.int i), some (.int j) => some (num (f i j))
    | _, _ => none) = some r → ∃ i j, v = .int i ∧ w = .int j ∧ Q (.int (f i j)) H := fun {f} h => by
    cases s1 : Gr.see ρ c with
    | none => rw [s1] at h; cases h
    | some d =>
      cases s2 : Gr.see ρ c' with
      | none => rw [s1, s2] at h; cases d <;> cases h
      | some e =>
        rw [s1, s2] at h
        cases d with
        | int i =>
          cases e with
          | int j => cases h; exact ⟨i, j, (S.last2D s1).intV, (S.lastD s2).intV, q _ _ S0.num⟩
          | _ => cases h
        | _ => cases e <;> cases h
  cases b with
  | min2 => obtain ⟨i, j, e1, e2, z⟩ := go (f := fun i j => if j < i then j else i) h; exact ⟨i, j, by rw [e1, e2], z⟩
  | max2 => obtain ⟨i, j, e1, e2, z⟩ := go (f := fun i j => if j > i then j else i) h; exact ⟨i, j, by rw [e1, e2], z⟩
  | _ => cases h
theorem bi_res {b : Bi} {cs : List C} {r : C} (hl : vs.length = cs.length) (S : SR T mg H0 G0 Fx σ ρ (ts ++ tz vs cs) H) (h : biC ρ b cs = some r) (q : ∀ u H', SR T mg H0 G0 Fx σ ρ (ts ++ [(some u, r)]) H' → Q u H') : rBi X.K b vs H Q := by
  match cs, vs, hl with
  | [c], [v], _ => exact bi1_res S h q
  | [c, c'], [v, w], _ =>
    refine bi2_res (c := c) (c' := c') ?_ h q
    rw [List.append_assoc]
    exact S
  | [], _, _ => cases b <;> cases h
  | _ :: _ :: _ :: _, _, _ => cases b <;> cases h
end
end Gr

set_option Elab.async false
set_option linter.all false
set_option maxRecDepth 100000
set_option maxHeartbeats 2000000
/-! Gr H: an instance made; calls whose wish has slots; walks; isinstance. -/
namespace Gr
open PySem L2
section
variable {T : Glob} {mg : Str → Option Value} {H0 G0 G B H H' : Hp} {Fx : List (Nat × V)} {ow : Addr → Option Kx} {σ : St} {ρ ρ' : List C} {ts as bs : List Cell} {v w : V} {c c' : C} {x y : Tx} {p a : Addr} {o : HO} {k : Kx}
theorem get_app {α : Type} {l z : List α} {y : α} {i : Nat} (h : l[i]? = some y) : (l ++ z)[i]? = some y := by rw [List.getElem?_append_left (List.getElem?_eq_some_iff.mp h).1]; exact h
theorem fz_app {o : List C} (h : Gr.fz ρ c = some (x, ρ')) : Gr.fz (ρ ++ o) c = some (x, ρ' ++ o) := by
  cases c with
  | fro y => cases h; rfl
  | own y => cases h; rfl
  | pk i =>
    have h' : (match ρ[i]? with | some (.own x) => some (x, ρ.set i (.fro x)) | _ => none) = some (x, ρ') := h
    cases q : ρ[i]? with
    | none => rw [q] at h'; cases h'
    | some d =>
      rw [q] at h'
      cases d with
      | own y =>
        cases h'
        show (match (ρ ++ o)[i]? with | some (.own x) => some (x, (ρ ++ o).set i (.fro x)) | _ => none) = _
        rw [get_app q]
        show some (x, (ρ ++ o).set i (.fro x)) = _
        rw [List.set_append_left _ _ (List.getElem?_eq_some_iff.mp q).1]
      | _ => cases h'
  | _ => cases h
theorem pass0_app {o : List C} : ∀ {ms : List Nat} {cs cs' ρ ρ' : List C}, pass0 ρ ms cs = some (cs', ρ') → pass0 (ρ ++ o) ms cs = some (cs', ρ' ++ o) := by
  intro ms
  induction ms with
  | nil =>
    intro cs cs' ρ ρ' h
    cases cs with
    | nil => cases h; rfl
    | cons _ _ => cases h
  | cons m ms ih =>
    intro cs cs' ρ ρ' h
    cases cs with
    | nil => cases h
    | cons c cs =>
      have go : ∀ (d : C) (ρ1 : List C), (pass0 ρ1 ms cs).map (fun q => (d :: q.1, q.2)) = some (cs', ρ') → (pass0 (ρ1 ++ o) ms cs).map (fun q => (d :: q.1, q.2)) = some (cs', ρ' ++ o) := fun d ρ1 e => by
        cases q : pass0 ρ1 ms cs with
        | none => rw [q] at e; cases e
        | some p =>
          rw [q] at e
          cases e
          rw [ih (cs' := p.1) (ρ' := p.2) q]
          rfl
      cases m with
      | succ m => exact go c ρ h
      | zero =>
        have fzc : ∀ (c : C), (Gr.fz ρ c).bind (fun p => (pass0 p.2 ms cs).map fun q => (C.fro p.1 :: q.1, q.2)) = some (cs', ρ') → (Gr.fz (ρ ++ o) c).bind (fun p => (pass0 p.2 ms cs).map fun q => (C.fro p.1 :: q.1, q.2)) = some (cs', ρ' ++ o) := fun c e => by
          cases q : Gr.fz ρ c with
          | none => rw [q] at e; cases e
          | some p =>
            rw [q] at e
            rw [fz_app (x := p.1) (ρ' := p.2) q]
            exact go (.fro p.1) p.2 e
        cases c with
        | bor x => exact go (.bor x) ρ h
        | exc n => exact go (.exc n) ρ h
        | fro x => exact fzc (.fro x) h
        | own x => exact fzc (.own x) h
        | pk i => exact fzc (.pk i) h
        | und => exact fzc .und h
        | lkd x => exact fzc (.lkd x) h
theorem pass1_app {o : List C} {a : C} {m : Nat} (h : pass1 ρ m c = some a) : pass1 (ρ ++ o) m c = some a := by
  cases c with
  | fro x => rw [pass1_fro] at h ⊢; exact h
  | bor x => rw [pass1_bor] at h ⊢; exact h
  | exc n => rw [pass1_exc] at h ⊢; exact h
  | und => match m, h with | 0, h => cases h | 1, h => cases h | m + 2, h => cases h
  | lkd x => match m, h with | 0, h => cases h | 1, h => cases h | m + 2, h => cases h
  | own x => match m, h with | 0, h => cases h | 1, h => exact h | m + 2, h => cases h
  | pk i =>
    match m, h with
    | 0, h => cases h
    | m + 3, h => cases h
    | 1, h =>
      have h' : (look ρ (.pk i)).map C.bor = some a := h
      show (look (ρ ++ o) (.pk i)).map C.bor = some a
      have e : ∀ y, look ρ (.pk i) = some y → look (ρ ++ o) (.pk i) = some y := fun y e => by
        have e' : (match ρ[i]? with | some (.own x) => some x | some (.lkd x) => some x | _ => none) = some y := e
        show (match (ρ ++ o)[i]? with | some (.own x) => some x | some (.lkd x) => some x | _ => none) = some y
        cases q : ρ[i]? with
        | none => rw [q] at e'; cases e'
        | some d => rw [get_app q]; rw [q] at e'; exact e'
      cases r : look ρ (.pk i) with
      | none => rw [r] at h'; cases h'
      | some y => rw [e y r]; rw [r] at h'; exact h'
    | 2, h =>
      have h' : (match ρ[i]? with | some (.own x) => some (.own x) | _ => none) = some a := h
      show (match (ρ ++ o)[i]? with | some (.own x) => some (.own x) | _ => none) = some a
      cases q : ρ[i]? with
      | none => rw [q] at h'; cases h'
      | some d => rw [get_app q]; rw [q] at h'; exact h'
theorem pass1s_app {o : List C} : ∀ {ms : List Nat} {cs as : List C}, pass1s ρ ms cs = some as → pass1s (ρ ++ o) ms cs = some as := by
  intro ms
  induction ms with
  | nil => intro cs as h; cases cs with
    | nil => exact h
    | cons _ _ => cases h
  | cons m ms ih =>
    intro cs as h
    cases cs with
    | nil => cases h
    | cons c cs =>
      have h' : ((pass1 ρ m c).bind fun a => (pass1s ρ ms cs).map fun as => a :: as) = some as := h
      show ((pass1 (ρ ++ o) m c).bind fun a => (pass1s (ρ ++ o) ms cs).map fun as => a :: as) = some as
      cases q : pass1 ρ m c with
      | none => rw [q] at h'; cases h'
      | some a =>
        rw [q] at h'
        rw [pass1_app q]
        cases q2 : pass1s ρ ms cs with
        | none =>
          have h' : (pass1s ρ ms cs).map (fun as => a :: as) = some as := h'
          rw [q2] at h'; cases h'
        | some bs =>
          have h' : (pass1s ρ ms cs).map (fun as => a :: as) = some as := h'
          rw [q2] at h'
          show (pass1s (ρ ++ o) ms cs).map (fun as => a :: as) = some as
          rw [ih q2]
          exact h'
theorem no_pk : ∀ (ts : List Cell), ∃ M0, ∀ M, M0 ≤ M → ∀ t ∈ ts, t.2 ≠ .pk M
  | [] => ⟨0, fun _ _ _ h => by cases h⟩
  | t :: ts => by
    obtain ⟨M0, h⟩ := no_pk ts
    refine ⟨M0 + (match t.2 with | .pk j => j + 1 | _ => 0), fun M hM u hu e => ?_⟩
    rcases List.mem_cons.mp hu with r | r
    · subst r
      rw [e] at hM
      have hM : M0 + (M + 1) ≤ M := hM
      omega
    · exact h M (by omega) u r e
/-- more slots, with nothing -/
theorem SR.pad (m : Nat) (S : SR T mg H0 G0 [] σ ρ ts H) : SR T mg H0 G0 [] (σ ++ List.replicate m none) (ρ ++ List.replicate m .und) ts H := by
  obtain ⟨ow, G, B, S⟩ := S
  have hl := S.len
  have at_ : ∀ {i : Nat} {w : Option V} {d : C}, cel (σ ++ List.replicate m none) (ρ ++ List.replicate m .und) ts (.inl i) = some (w, d) → d = .und ∨ cel σ ρ ts (.inl i) = some (w, d) := fun {i w d} e => by
    obtain ⟨z1, z2⟩ := cel_inl.mp e
    by_cases hi : i < ρ.length
    · rw [List.getElem?_append_left (by omega)] at z1
      rw [List.getElem?_append_left hi] at z2
      exact .inr (cel_inl.mpr ⟨z1, z2⟩)
    · rw [List.getElem?_append_right (by omega), List.getElem?_replicate] at z2
      split at z2
      · cases z2; exact .inl rfl
      · cases z2
  obtain ⟨ow', S'⟩ := S.re (σ' := σ ++ List.replicate m none) (ρ' := ρ ++ List.replicate m .und) (as := ts) id (by simp [hl]) (fun p hp => by cases hp) (fun i j e => by
      by_cases hi : i < ρ.length
      · rw [List.getElem?_append_left hi] at e; exact S.npk _ _ e
      · rw [List.getElem?_append_right (by omega), List.getElem?_replicate] at e
        split at e <;> cases e) (fun k w c e => by
      cases k with
      | inr j => exact .inr ⟨e, fun k2 _ _ h _ _ => h⟩
      | inl i =>
        rcases at_ e with z | z
        · exact .inl z
        · exact .inr ⟨z, fun k2 _ _ h _ _ => h⟩) (fun k w j e w2 x2 e2 => by
      refine ⟨x2, ?_⟩
      rcases e2 with e2 | e2
      · rcases at_ e2 with z | z
        · cases z
        · exact .inl z
      · rcases at_ e2 with z | z
        · cases z
        · exact .inr z)
  exact ⟨ow', G, B, S'⟩
/-- a temp's own thing as a slot more -/
theorem SR.toSlot (S : SR T mg H0 G0 [] σ ρ (ts ++ [(some v, .own x)]) H) (hn : ∀ t ∈ ts, t.2 ≠ .pk ρ.length) : SR T mg H0 G0 [] (σ ++ [some v]) (ρ ++ [.own x]) ts H := by
  obtain ⟨ow, G, B, S⟩ := S
  have hl := S.len
  have low : ∀ {i : Nat} {w : Option V} {d : C}, i ≠ ρ.length → cel (σ ++ [some v]) (ρ ++ [.own x]) ts (.inl i) = some (w, d) → cel σ ρ (ts ++ [(some v, .own x)]) (.inl i) = some (w, d) := fun {i w d} hi e => by
    obtain ⟨z1, z2⟩ := cel_inl.mp e
    have hi : i < ρ.length := by
      have := (List.getElem?_eq_some_iff.mp z2).1
      simp at this
      omega
    rw [List.getElem?_append_left (by omega)] at z1
    rw [List.getElem?_append_left hi] at z2
    exact cel_inl.mpr ⟨z1, z2⟩
  have top : ∀ {w : Option V} {d : C}, cel (σ ++ [some v]) (ρ ++ [.own x]) ts (.inl ρ.length) = some (w, d) → w = some v ∧ d = .own x := fun {w d} e => by
    obtain ⟨z1, z2⟩ := cel_inl.mp e
    rw [← hl, List.getElem?_append_right (Nat.le_refl _)] at z1
    rw [List.getElem?_append_right (Nat.le_refl _)] at z2
    simp at z1 z2
    exact ⟨z1.symm, z2.symm⟩
  have lt : ∀ {j : Nat} {w c'}, cel (σ ++ [some v]) (ρ ++ [.own x]) ts (.inr j) = some (w, c') → j < ts.length := fun {j w c'} e => (List.getElem?_eq_some_iff.mp (show ts[j]? = some (w, c') from e)).1
  obtain ⟨ow', S'⟩ := S.re (σ' := σ ++ [some v]) (ρ' := ρ ++ [.own x]) (as := ts) (fun k => if k = .inl ρ.length then .inr ts.length else k) (by simp [hl]) (fun p hp => by cases hp) (fun i j e => by
      by_cases hi : i < ρ.length
      · rw [List.getElem?_append_left hi] at e; exact S.npk _ _ e
      · rw [List.getElem?_append_right (by omega)] at e
        cases q : i - ρ.length with
        | zero => rw [q] at e; cases e
        | succ n => rw [q] at e; simp at e) (fun k w c e => by
      right
      by_cases z : k = .inl ρ.length
      · subst z
        obtain ⟨rfl, rfl⟩ := top e
        refine ⟨by rw [if_pos rfl]; exact cel_last, fun k2 w2 c2 h2 e2 _ => ?_⟩
        rw [if_pos rfl] at h2
        by_cases q : k2 = .inl ρ.length
        · exact q
        · rw [if_neg q] at h2
          subst h2
          exact absurd (lt e2) (Nat.lt_irrefl _)
      · refine ⟨?_, fun k2 w2 c2 h2 e2 _ => ?_⟩
        · rw [if_neg z]
          cases k with
          | inr j =>
            have := lt e
            show (ts ++ [(some v, C.own x)])[j]? = _
            rw [List.getElem?_append_left this]
            exact e
          | inl i => exact low (fun q => z (by rw [q])) e
        · rw [if_neg z] at h2
          by_cases q : k2 = .inl ρ.length
          · rw [if_pos q] at h2
            subst h2
            exact absurd (lt e) (Nat.lt_irrefl _)
          · rw [if_neg q] at h2
            exact h2) (fun k w j e w2 x2 e2 => by
      by_cases q : j = ρ.length
      · exfalso
        subst q
        cases k with
        | inl i =>
          by_cases hi : i = ρ.length
          · subst hi
            cases (top e).2
          · exact S.npk _ _ (cel_inl.mp (low hi e)).2
        | inr m => exact hn _ (List.mem_of_getElem? (show ts[m]? = some (w, .pk ρ.length) from e)) rfl
      · exact ⟨x2, e2.elim (fun z => .inl (low q z)) fun z => .inr (low q z)⟩)
  exact ⟨ow', G, B, S'⟩
/-- a last slot's own thing as a temp -/
theorem SR.toTemp {σe : St} {ρe : List C} (hs : σ.length = ρ.length) (S : SR T mg H0 G0 [] (σ ++ σe ++ [some v]) (ρ ++ ρe ++ [.own x]) (ts ++ as) H) : SR T mg H0 G0 [] σ ρ (ts ++ [(some v, .own x)]) H := by
  obtain ⟨ow, G, B, S⟩ := S
  have hl : (σ ++ σe).length = (ρ ++ ρe).length := by have := S.len; simp at this; simp; omega
  have top : cel (σ ++ σe ++ [some v]) (ρ ++ ρe ++ [.own x]) (ts ++ as) (.inl (ρ ++ ρe).length) = some (some v, .own x) := by
    refine cel_inl.mpr ⟨?_, ?_⟩
    · rw [← hl, List.getElem?_append_right (Nat.le_refl _)]; simp
    · rw [List.getElem?_append_right (Nat.le_refl _)]; simp
  have low : ∀ {i : Nat} {w : Option V} {d : C} {us : List Cell}, cel σ ρ us (.inl i) = some (w, d) → i < ρ.length ∧ cel (σ ++ σe ++ [some v]) (ρ ++ ρe ++ [.own x]) (ts ++ as) (.inl i) = some (w, d) := fun {i w d us} e => by
    obtain ⟨z1, z2⟩ := cel_inl.mp e
    refine ⟨(List.getElem?_eq_some_iff.mp z2).1, cel_inl.mpr ⟨?_, ?_⟩⟩
    · rw [List.append_assoc]; exact get_app z1
    · rw [List.append_assoc]; exact get_app z2
  have lt : ∀ {j : Nat} {w c'}, cel σ ρ ts (.inr j) = some (w, c') → j < ts.length := fun {j w c'} e => (List.getElem?_eq_some_iff.mp (show ts[j]? = some (w, c') from e)).1
  obtain ⟨ow', S'⟩ := S.re (σ' := σ) (ρ' := ρ) (as := ts ++ [(some v, .own x)]) (fun k => if k = .inr ts.length then .inl (ρ ++ ρe).length else k) hs (fun p hp => by cases hp) (fun i j e => S.npk i j (by rw [List.append_assoc]; exact get_app e)) (fun k w c e => by
      right
      rcases cel_snoc e with ⟨z, q⟩ | ⟨z, q⟩
      · subst z
        cases q
        refine ⟨by rw [if_pos rfl]; exact top, fun k2 w2 c2 h2 e2 _ => ?_⟩
        rw [if_pos rfl] at h2
        by_cases q : k2 = .inr ts.length
        · exact q
        · rw [if_neg q] at h2
          subst h2
          have := (low e2).1
          rw [List.length_append] at this
          omega
      · refine ⟨?_, fun k2 w2 c2 h2 e2 _ => ?_⟩
        · rw [if_neg z]
          cases k with
          | inr j =>
            show (ts ++ as)[j]? = _
            rw [List.getElem?_append_left (lt q)]
            exact q
          | inl i => exact (low q).2
        · rw [if_neg z] at h2
          by_cases r : k2 = .inr ts.length
          · rw [if_pos r] at h2
            subst h2
            have := (low q).1
            rw [List.length_append] at this
            omega
          · rw [if_neg r] at h2
            exact h2) (fun k w j e w2 x2 e2 => ⟨x2, e2.elim (fun z => .inl (low z).2) fun z => .inr (low z).2⟩)
  exact ⟨ow', G, B, S'⟩
/-- fewer slots -/
theorem SR.short {σe : St} {ρe : List C} (hs : σ.length = ρ.length) (S : SR T mg H0 G0 [] (σ ++ σe) (ρ ++ ρe) ts H) : SR T mg H0 G0 [] σ ρ ts H := by
  obtain ⟨ow, G, B, S⟩ := S
  have low : ∀ {k : Kx} {w : Option V} {d : C}, cel σ ρ ts k = some (w, d) → cel (σ ++ σe) (ρ ++ ρe) ts k = some (w, d) := fun {k w d} e => by
    cases k with
    | inr j => exact e
    | inl i =>
      obtain ⟨z1, z2⟩ := cel_inl.mp e
      exact cel_inl.mpr ⟨get_app z1, get_app z2⟩
  obtain ⟨ow', S'⟩ := S.re (σ' := σ) (ρ' := ρ) (as := ts) id hs (fun p hp => by cases hp) (fun i j e => S.npk i j (get_app e)) (fun k w c e => .inr ⟨low e, fun k2 _ _ h _ _ => h⟩) (fun k w j e w2 x2 e2 => ⟨x2, e2.elim (fun z => .inl (low z)) fun z => .inr (low z)⟩)
  exact ⟨ow', G, B, S'⟩
/-- temps in another order, by an injective f -/
theorem SR.perm {us : List Cell} (f : Nat → Nat) (hf : ∀ (j : Nat) (t : Cell), us[j]? = some t → ts[f j]? = some t) (hi : ∀ (j j' : Nat), j < us.length → j' < us.length → f j = f j' → j = j') (S : SR T mg H0 G0 Fx σ ρ ts H) : SR T mg H0 G0 Fx σ ρ us H := by
  obtain ⟨ow, G, B, S⟩ := S
  obtain ⟨ow', S'⟩ := S.re (σ' := σ) (ρ' := ρ) (as := us) (fun k => match k with | .inl i => .inl i | .inr j => .inr (f j)) S.len S.fix S.npk (fun k w c e => by
      right
      cases k with
      | inl i =>
        refine ⟨e, fun k2 w2 c2 h2 _ _ => ?_⟩
        cases k2 with
        | inl i2 => exact h2
        | inr j2 => cases h2
      | inr j =>
        refine ⟨hf _ _ e, fun k2 w2 c2 h2 e2 _ => ?_⟩
        cases k2 with
        | inl i2 => cases h2
        | inr j2 => exact congrArg _ (hi _ _ (List.getElem?_eq_some_iff.mp (show us[j2]? = some _ from e2)).1 (List.getElem?_eq_some_iff.mp (show us[j]? = some _ from e)).1 (Sum.inr.inj h2))) (fun k w j e w2 x2 e2 => ⟨x2, e2⟩)
  exact ⟨ow', G, B, S'⟩
/-- the last temp ahead of some -/
theorem SR.rot {t : Cell} (S : SR T mg H0 G0 Fx σ ρ (ts ++ as ++ [t]) H) : SR T mg H0 G0 Fx σ ρ (ts ++ t :: as) H := by
  refine S.perm (fun j => if j < ts.length then j else if j = ts.length then (ts ++ as).length else j - 1) (fun j u e => ?_) (fun j j' h h' e => ?_)
  · rw [getElem?_mid] at e
    by_cases h1 : j < ts.length
    · rw [if_pos h1] at e
      rw [if_pos h1, List.append_assoc, List.getElem?_append_left h1]
      exact e
    · rw [if_neg h1] at e
      rw [if_neg h1]
      by_cases h2 : j = ts.length
      · rw [if_pos h2] at e ⊢
        rw [List.getElem?_append_right (Nat.le_refl _)]
        simpa using e
      · rw [if_neg h2] at e ⊢
        have hj := (List.getElem?_eq_some_iff.mp e).1
        rw [List.getElem?_append_left (by rw [List.length_append]; omega), List.getElem?_append_right (by omega)]
        rw [← e]
        congr 1
        omega
  · simp only [List.length_append, List.length_cons] at h h'
    by_cases h1 : j < ts.length <;> by_cases h2 : j' < ts.length <;> by_cases h3 : j = ts.length <;> by_cases h4 : j' = ts.length <;> simp [h1, h2, h3, h4] at e <;> omega
theorem muts_nil {ms : List Nat} {cs : List C} {n : Nat} (h : (muts ms cs).isEmpty = true) : muts (2 :: ms) (.pk n :: cs) = [n] := by
  show n :: muts ms cs = [n]
  rw [List.isEmpty_iff.mp h]
/-- THE MAKING -/
theorem mk_ok {F : Fn} {vs : List V} {cs cs' ca : List C} {ms : List Nat} {Q : VK} {E : XK} {k : Nat} {Cx q dx : Addr} {nm : Str} {fl : List Str} (hl : vs.length = cs.length) (S : SR T mg H0 G0 [] σ ρ (ts ++ tz vs cs) H) (h0 : pass0 ρ ms cs = some (cs', ρ')) (h1 : pass1s ρ' ms cs' = some ca) (hp : (muts ms cs').isEmpty = true)
    (hT : T.cls[k]? = some (nm, fl)) (hm : mg nm = some (.ref Cx)) (hq : H q = none) (hdx : H dx = none) (hne : dx ≠ q)
    (hF : match F (.own (.obj k []) :: ca) with
      | .ok (.fro (.py .none)) [.own y] => ∀ H', SR T mg H0 G0 [] σ ρ' (ts ++ [(some (.ref q), .own y)]) H' → Q (.ref q) H'
      | .ok _ _ => False
      | .err n => ∀ Cx nm H', T.exs[n]? = some nm → mg nm = some (.ref Cx) → SR T mg H0 G0 [] σ ρ' ts H' → E (.ref Cx) none H'
      | .stuck => False) : spOf T mg F (.ref q :: vs) (upd (upd H dx (.own q)) q (.ins Cx dx [])) (fun v H2 => v = .non ∧ Q (.ref q) H2) E := by
  have hl2 := (pass0_ok hl S h0).1.len
  have hl1 := S.len
  have Sa := S.growH (same_upd (p := dx) (o := .own q) hdx)
  have hq2 : upd H dx (.own q) q = none := by rw [upd_ne (Ne.symm hne)]; exact hq
  have Sb : SR T mg H0 G0 [] σ ρ (ts ++ tz vs cs ++ [(some (.ref q), .own (.obj k []))]) (upd (upd H dx (.own q)) q (.ins Cx dx [])) := by
    obtain ⟨ow, G, B, Sa⟩ := Sa
    exact ⟨_, _, _, Sa.allocO hq2 (x := .obj k []) ⟨Cx, dx, [], nm, fl, hT, hm, upd_same, rfl, .nil⟩⟩
  obtain ⟨M0, hM⟩ := no_pk (ts ++ tz vs cs)
  have Sc := Sb.pad M0
  have Sd := Sc.toSlot (hM _ (by simp))
  have Se : SR T mg H0 G0 [] (σ ++ List.replicate M0 none ++ [some (.ref q)]) (ρ ++ List.replicate M0 C.und ++ [C.own (.obj k [])]) (ts ++ tz vs cs ++ [(some (.ref q), C.pk (ρ ++ List.replicate M0 C.und).length)]) (upd (upd H dx (.own q)) q (.ins Cx dx [])) := by
    obtain ⟨ow, G, B, Sd⟩ := Sd
    refine ⟨ow, G, B, Sd.push fun k' => ⟨_, rfl, fun w x e => ?_⟩⟩
    have hl : (σ ++ List.replicate M0 none).length = (ρ ++ List.replicate M0 C.und).length := by simp [hl1]
    have e1 : (σ ++ List.replicate M0 none ++ [some (V.ref q)])[(ρ ++ List.replicate M0 C.und).length]? = some w := by
      rcases e with e | e <;> exact (cel_inl.mp e).1
    rw [← hl, List.getElem?_append_right (Nat.le_refl _)] at e1
    simp at e1
    exact e1.symm
  have Sf := Se.rot
  have h0' : pass0 (ρ ++ List.replicate M0 C.und ++ [C.own (.obj k [])]) (2 :: ms) (C.pk (ρ ++ List.replicate M0 C.und).length :: cs) = some (C.pk (ρ ++ List.replicate M0 C.und).length :: cs', ρ' ++ List.replicate M0 C.und ++ [C.own (.obj k [])]) := by
    show (pass0 (ρ ++ List.replicate M0 C.und ++ [C.own (.obj k [])]) ms cs).map _ = _
    rw [List.append_assoc, pass0_app h0, List.append_assoc]
    rfl
  have hlr : ρ'.length = ρ.length := by rw [← hl2, hl1]
  have gx : (ρ' ++ List.replicate M0 C.und ++ [C.own (.obj k [])])[(ρ ++ List.replicate M0 C.und).length]? = some (.own (.obj k [])) := by
    have : (ρ ++ List.replicate M0 C.und).length = (ρ' ++ List.replicate M0 C.und).length := by simp [hlr]
    rw [this, List.getElem?_append_right (Nat.le_refl _)]
    simp
  have h1' : pass1s (ρ' ++ List.replicate M0 C.und ++ [C.own (.obj k [])]) (2 :: ms) (C.pk (ρ ++ List.replicate M0 C.und).length :: cs') = some (C.own (.obj k []) :: ca) := by
    show ((match (ρ' ++ List.replicate M0 C.und ++ [C.own (.obj k [])])[(ρ ++ List.replicate M0 C.und).length]? with | some (.own x) => some (C.own x) | _ => none).bind fun a => (pass1s (ρ' ++ List.replicate M0 C.und ++ [C.own (.obj k [])]) ms cs').map fun as => a :: as) = _
    rw [gx, List.append_assoc, pass1s_app h1]
    rfl
  have hm2 := muts_nil (n := (ρ ++ List.replicate M0 C.und).length) hp
  refine call_ok (by simp [hl]) Sf h0' h1' ?_ ?_
  · unfold passOk
    rw [hm2, Bool.and_eq_true, decide_eq_true_eq, List.all_eq_true]
    refine ⟨by simp, fun i hi => ?_⟩
    rw [Bool.not_eq_true', List.contains_eq_mem, decide_eq_false_iff_not]
    intro z
    have z : i = (ρ ++ List.replicate M0 C.und).length := by simpa using z
    -- a slot lent is one of the old ones
    have hi : i ∈ lent ms cs' := hi
    obtain ⟨_, _, hg⟩ := pass1s_get h1
    have lo : ∀ {ms : List Nat} {cs : List C}, i ∈ lent ms cs → ∃ (j : Nat), ms[j]? = some 1 ∧ cs[j]? = some (C.pk i) := by
      intro ms
      induction ms with
      | nil => intro cs h; simp [pks] at h
      | cons m ms ih =>
        intro cs h
        cases cs with
        | nil => simp [pks] at h
        | cons c cs =>
          unfold pks at h
          split at h
          · rename_i i2 e2
            rcases List.mem_cons.mp h with r | r
            · subst r
              obtain ⟨z1, z2⟩ := isPk_some.mp e2
              exact ⟨0, by rw [z1]; rfl, by rw [z2]; rfl⟩
            · obtain ⟨j, h1, h2⟩ := ih r
              exact ⟨j + 1, h1, h2⟩
          · obtain ⟨j, h1, h2⟩ := ih h
            exact ⟨j + 1, h1, h2⟩
    obtain ⟨j, j1, j2⟩ := lo hi
    have hjl : j < ca.length := by
      have := (pass1s_get h1).1
      have := (List.getElem?_eq_some_iff.mp j2).1
      omega
    obtain ⟨m, c, f1, f2, f3⟩ := hg j ca[j] (List.getElem?_eq_getElem hjl)
    rw [j1] at f1
    cases f1
    rw [j2] at f2
    cases f2
    have f3' : (look ρ' (.pk i)).map C.bor = some ca[j] := f3
    have f4 : look ρ' (.pk i) = none := by
      show (match ρ'[i]? with | some (.own x) => some x | some (.lkd x) => some x | _ => none) = none
      rw [List.getElem?_eq_none (by rw [z]; simp; omega)]
    rw [f4] at f3'
    cases f3'
  · rw [hm2]
    cases hFF : F (C.own (.obj k []) :: ca) with
    | ok c outs =>
      rw [hFF] at hF
      have good : ∀ y, c = .fro (.py .none) → outs = [.own y] → (∀ H', SR T mg H0 G0 [] σ ρ' (ts ++ [(some (.ref q), .own y)]) H' → Q (.ref q) H') → ∃ ρ'' c', backIs (ρ' ++ List.replicate M0 C.und ++ [C.own (.obj k [])]) [(ρ ++ List.replicate M0 C.und).length] outs = some ρ'' ∧ resC c = some c' ∧ ∀ v H', SR T mg H0 G0 [] (σ ++ List.replicate M0 none ++ [some (.ref q)]) ρ'' (ts ++ [(some v, c')]) H' → v = .non ∧ Q (.ref q) H' := fun y e1 e2 hF => by
        subst e1 e2
        refine ⟨ρ' ++ List.replicate M0 C.und ++ [C.own y], nonC, ?_, rfl, fun v H' Sg => ?_⟩
        · show some ((ρ' ++ List.replicate M0 C.und ++ [C.own (.obj k [])]).set (ρ ++ List.replicate M0 C.und).length (.own y)) = _
          have : (ρ ++ List.replicate M0 C.und).length = (ρ' ++ List.replicate M0 C.und).length := by simp [hlr]
          rw [this, List.set_append_right _ _ (Nat.le_refl _)]
          simp
        · have r := Sg.last (x := .py .none) rfl
          have r : Rp H' v .none := r
          exact ⟨r.nonV, hF _ (SR.toTemp (by omega) Sg)⟩
      cases c with
      | fro x =>
        cases x with
        | py d =>
          cases d with
          | none =>
            cases outs with
            | nil => exact hF.elim
            | cons o os =>
              cases os with
              | cons _ _ => cases o <;> exact hF.elim
              | nil =>
                cases o with
                | own y => exact good y rfl rfl hF
                | _ => exact hF.elim
          | _ => exact hF.elim
        | _ => exact hF.elim
      | _ => exact hF.elim
    | err n =>
      rw [hFF] at hF
      intro Cx nm H' e1 e2 Sg
      refine hF Cx nm H' e1 e2 ?_
      have e3 : lostIs (ρ' ++ List.replicate M0 C.und ++ [C.own (.obj k [])]) [(ρ ++ List.replicate M0 C.und).length] = ρ' ++ (List.replicate M0 C.und ++ [C.und]) := by
        show (ρ' ++ List.replicate M0 C.und ++ [C.own (.obj k [])]).set (ρ ++ List.replicate M0 C.und).length .und = _
        have : (ρ ++ List.replicate M0 C.und).length = (ρ' ++ List.replicate M0 C.und).length := by simp [hlr]
        rw [this, List.set_append_right _ _ (Nat.le_refl _)]
        simp
      rw [e3, List.append_assoc] at Sg
      exact Sg.short (by omega)
    | stuck => rw [hFF] at hF; exact hF.elim
end
end Gr

set_option Elab.async false
set_option linter.all false
set_option maxRecDepth 100000
set_option maxHeartbeats 2000000
/-! Gr I: the forms of the text that a term stands for; what is known around a def. -/
namespace Gr
open PySem L2
/-! ### forms -/
def notStar : Expr → Bool
  | .Starred _ _ => false
  | _ => true
def notSl : Expr → Bool
  | .Slice _ _ _ _ => false
  | _ => true
/-- an expression whose truth is asked of its value -/
def plainT : Expr → Bool
  | .UnaryOp .Not _ _ => false
  | .BoolOp _ _ _ => false
  | .IfExp _ _ _ _ => false
  | .Compare _ _ _ _ => false
  | _ => true
def baseOk : Expr → Bool
  | .Call (.Name _ _) [] [] _ => false
  | _ => true
def noSet : Expr → Bool
  | .Set _ _ _ => false
  | _ => true
def noComp : Expr → Bool
  | .ListComp _ _ _ _ => false
  | .SetComp _ _ _ _ => false
  | .DictComp _ _ _ _ _ => false
  | _ => true
theorem star_ok {e : Expr} {es : List Expr} {env : Env} (h : notStar e = true) : starEach (e :: es) env = (false, eval e env) :: starEach es env := by
  cases e <;> first | rfl | cases h
theorem stars_ok {pos : Pos} {env : Env} : ∀ {es : List Expr}, es.all notStar = true → (backTo pos (starEach es env)).any (·.1) = false
  | [], _ => rfl
  | e :: es, h => by
    rw [List.all_cons, Bool.and_eq_true] at h
    rw [star_ok h.1]
    show (false || (backTo pos (starEach es env)).any (·.1)) = false
    rw [stars_ok h.2]
    rfl
theorem true_ok {e : Expr} {env : Env} (h : plainT e = true) : ∀ whole, isTrue e env whole = (do let v ← whole; standAt e.pos; holding [v] (truthy v)) := by
  intro whole
  cases e with
  | UnaryOp op x p => cases op <;> first | rfl | cases h
  | BoolOp _ _ _ => cases h
  | IfExp _ _ _ _ => cases h
  | Compare _ _ _ _ => cases h
  | _ => rfl
theorem base_ok {e : Expr} {f : Str} {env : Env} {whole : Sem Value} (h : baseOk e = true) : attributeBase e f env whole = whole := by
  cases e with
  | Call fn args kws p =>
    cases fn with
    | Name x q =>
      cases args with
      | nil =>
        cases kws with
        | nil => cases h
        | cons _ _ => rfl
      | cons _ _ => cases kws <;> rfl
    | _ => rfl
  | _ => rfl
theorem plainIx_ok {b : Expr} (h : notSl b = true) : PlainIx b := fun o i => by
  cases b with
  | Slice _ _ _ _ => cases h
  | _ => rfl
theorem fold_ok {e : Expr} {env : Env} (h : noSet e = true) : ∀ x, foldedSetIterable e env x = pure x := fun x => by
  cases e with
  | Set _ _ _ => cases h
  | _ => rfl
theorem swap_ok {e : Expr} {t : Option Expr} {l : Nat} {env : Env} (h : noComp e = true) : swapsWith e t l env = pure false := by
  cases e with
  | ListComp _ _ _ _ => cases h
  | SetComp _ _ _ _ => cases h
  | DictComp _ _ _ _ _ => cases h
  | _ => rfl
/-! ### names -/
def visB (sc : Scope) (x : Str) : Bool := match sc.names.lookup x with
  | some .local => true
  | some .cell => true
  | some .free => true
  | _ => false
def locB (sc : Scope) (x : Str) : Bool := match sc.names.lookup x with
  | some .local => true
  | _ => false
def gloB (sc : Scope) (x : Str) : Bool := match sc.names.lookup x with
  | some .globalImplicit => true
  | _ => false
def eqB {α : Type} [DecidableEq α] (a b : α) : Bool := decide (a = b)
def freeN (x : Str) : Bool := !(x == ("__debug__" : Str)) && !(x == ("__classdict__" : Str))
def nameB (N : List Str) (sc : Scope) (i : Nat) (x : Str) : Bool := eqB N[i]? (some x) && (visB sc x && freeN x)
theorem visB_ok {sc : Scope} {x : Str} (h : visB sc x = true) : Vis sc x := by
  unfold visB at h
  split at h <;> first | exact .inl (by assumption) | exact .inr (.inl (by assumption)) | exact .inr (.inr (by assumption)) | cases h
theorem locB_ok {sc : Scope} {x : Str} (h : locB sc x = true) : sc.names.lookup x = some .local := by
  unfold locB at h
  split at h
  · assumption
  · cases h
theorem gloB_ok {sc : Scope} {x : Str} (h : gloB sc x = true) : sc.names.lookup x = some .globalImplicit := by
  unfold gloB at h
  split at h
  · assumption
  · cases h
theorem eqB_ok {α : Type} [DecidableEq α] {a b : α} (h : eqB a b = true) : a = b := of_decide_eq_true h
theorem freeN_ok {x : Str} (h : freeN x = true) : (x == ("__debug__" : Str)) = false ∧ (x == ("__classdict__" : Str)) = false := by
  unfold freeN at h
  rw [Bool.and_eq_true, Bool.not_eq_true', Bool.not_eq_true'] at h
  exact h
/-! ### the forms' tests, by the tests of their parts -/
section
variable {f g : Expr → Bool} {fs : List Expr → Bool} {e : Expr}
def cName (p : Str → Bool) : Expr → Bool
  | .Name x _ => p x
  | _ => false
def cUn (op : UnaryOp) (f : Expr → Bool) : Expr → Bool
  | .UnaryOp o x _ => eqB o op && f x
  | _ => false
def cBin (op : Operator) (f g : Expr → Bool) : Expr → Bool
  | .BinOp x o y _ => eqB o op && (f x && g y)
  | _ => false
def cCmp (op : CmpOp) (f g : Expr → Bool) : Expr → Bool
  | .Compare x [o] [y] _ => (eqB o op && !behindInMarks o y) && (f x && g y)
  | _ => false
def cIs (op : CmpOp) (f : Expr → Bool) : Expr → Bool
  | .Compare x [o] [.Constant .none _ _] _ => eqB o op && f x
  | _ => false
def cChn (op op' : CmpOp) (f g h : Expr → Bool) : Expr → Bool
  | .Compare x [o, o'] [y, z] _ => (eqB o op && eqB o' op') && (!lastMarks [o, o'] [y, z] && (f x && (g y && h z)))
  | _ => false
def cBool (op : BoolOp) (f g : Expr → Bool) : Expr → Bool
  | .BoolOp o (x :: y :: r) p => eqB o op && (f x && (match r with | [] => g y | _ => g (.BoolOp o (y :: r) p)))
  | _ => false
def cSub (f g : Expr → Bool) : Expr → Bool
  | .Subscript x y _ => notSl y && (f x && g y)
  | _ => false
def cSl (f : Expr → Bool) (g h : Option Expr → Bool) : Expr → Bool
  | .Subscript x (.Slice lo hi none _) _ => f x && (g lo && h hi)
  | _ => false
def cSl3 (f : Expr → Bool) (g h k : Option Expr → Bool) : Expr → Bool
  | .Subscript x (.Slice lo hi (some st) _) _ => f x && (g lo && (h hi && k (some st)))
  | _ => false
def cTup (fs : List Expr → Bool) : Expr → Bool
  | .Tuple xs _ _ => fs xs
  | _ => false
def cLst (fs : List Expr → Bool) : Expr → Bool
  | .List xs _ => fs xs
  | _ => false
def cCall (x : Str) (fs : List Expr → Bool) : Expr → Bool
  | .Call (.Name y _) xs [] _ => eqB y x && (xs.all notStar && fs xs)
  | _ => false
def cDict0 : Expr → Bool
  | .Dict [] [] _ => true
  | _ => false
def cAttr (n : Option Str) (f : Expr → Bool) : Expr → Bool
  | .Attribute x y _ => eqB (some y) n && (baseOk x && f x)
  | _ => false
theorem cName_ok {p : Str → Bool} (h : cName p e = true) : ∃ x pos, e = .Name x pos ∧ p x = true := by
  unfold cName at h
  split at h
  · exact ⟨_, _, rfl, h⟩
  · cases h
theorem cUn_ok {op : UnaryOp} (h : cUn op f e = true) : ∃ x pos, e = .UnaryOp op x pos ∧ f x = true := by
  unfold cUn at h
  split at h
  · rw [Bool.and_eq_true] at h; obtain ⟨a, b⟩ := h; cases eqB_ok a; exact ⟨_, _, rfl, b⟩
  · cases h
theorem cBin_ok {op : Operator} (h : cBin op f g e = true) : ∃ x y pos, e = .BinOp x op y pos ∧ f x = true ∧ g y = true := by
  unfold cBin at h
  split at h
  · rw [Bool.and_eq_true, Bool.and_eq_true] at h; obtain ⟨a, b⟩ := h; cases eqB_ok a; exact ⟨_, _, _, rfl, b⟩
  · cases h
theorem cCmp_ok {op : CmpOp} (h : cCmp op f g e = true) : ∃ x y pos, e = .Compare x [op] [y] pos ∧ behindInMarks op y = false ∧ f x = true ∧ g y = true := by
  unfold cCmp at h
  split at h
  · rw [Bool.and_eq_true, Bool.and_eq_true, Bool.and_eq_true, Bool.not_eq_true'] at h
    obtain ⟨⟨a, b⟩, c⟩ := h
    cases eqB_ok a
    exact ⟨_, _, _, rfl, b, c⟩
  · cases h
theorem cIs_ok {op : CmpOp} (h : cIs op f e = true) : ∃ x k p pos, e = .Compare x [op] [.Constant .none k p] pos ∧ f x = true := by
  unfold cIs at h
  split at h
  · rw [Bool.and_eq_true] at h; obtain ⟨a, b⟩ := h; cases eqB_ok a; exact ⟨_, _, _, _, rfl, b⟩
  · cases h
theorem cChn_ok {op op' : CmpOp} {h' : Expr → Bool} (h : cChn op op' f g h' e = true) : ∃ x y z pos, e = .Compare x [op, op'] [y, z] pos ∧ lastMarks [op, op'] [y, z] = false ∧ f x = true ∧ g y = true ∧ h' z = true := by
  unfold cChn at h
  split at h
  · rw [Bool.and_eq_true, Bool.and_eq_true, Bool.and_eq_true, Bool.and_eq_true, Bool.and_eq_true, Bool.not_eq_true'] at h
    obtain ⟨⟨a, a'⟩, b, c⟩ := h
    cases eqB_ok a
    cases eqB_ok a'
    exact ⟨_, _, _, _, rfl, b, c⟩
  · cases h
theorem cBool_ok {op : BoolOp} (h : cBool op f g e = true) : (∃ x y pos, e = .BoolOp op [x, y] pos ∧ f x = true ∧ g y = true) ∨ ∃ x y z r pos, e = .BoolOp op (x :: y :: z :: r) pos ∧ f x = true ∧ g (.BoolOp op (y :: z :: r) pos) = true := by
  unfold cBool at h
  split at h
  · rename_i o x y r p
    rw [Bool.and_eq_true, Bool.and_eq_true] at h
    obtain ⟨a, b, c⟩ := h
    cases eqB_ok a
    cases r with
    | nil => exact .inl ⟨_, _, _, rfl, b, c⟩
    | cons z r => exact .inr ⟨_, _, _, _, _, rfl, b, c⟩
  · cases h
theorem cSub_ok (h : cSub f g e = true) : ∃ x y pos, e = .Subscript x y pos ∧ notSl y = true ∧ f x = true ∧ g y = true := by
  unfold cSub at h
  split at h
  · rw [Bool.and_eq_true, Bool.and_eq_true] at h; exact ⟨_, _, _, rfl, h⟩
  · cases h
theorem cSl_ok {g h' : Option Expr → Bool} (h : cSl f g h' e = true) : ∃ x lo hi p pos, e = .Subscript x (.Slice lo hi none p) pos ∧ f x = true ∧ g lo = true ∧ h' hi = true := by
  unfold cSl at h
  split at h
  · rw [Bool.and_eq_true, Bool.and_eq_true] at h; exact ⟨_, _, _, _, _, rfl, h⟩
  · cases h
theorem cSl3_ok {g h' k : Option Expr → Bool} (h : cSl3 f g h' k e = true) : ∃ x lo hi st p pos, e = .Subscript x (.Slice lo hi (some st) p) pos ∧ f x = true ∧ g lo = true ∧ h' hi = true ∧ k (some st) = true := by
  unfold cSl3 at h
  split at h
  · rw [Bool.and_eq_true, Bool.and_eq_true, Bool.and_eq_true] at h; exact ⟨_, _, _, _, _, _, rfl, h⟩
  · cases h
theorem cTup_ok (h : cTup fs e = true) : ∃ xs k pos, e = .Tuple xs k pos ∧ fs xs = true := by
  unfold cTup at h
  split at h
  · exact ⟨_, _, _, rfl, h⟩
  · cases h
theorem cLst_ok (h : cLst fs e = true) : ∃ xs pos, e = .List xs pos ∧ fs xs = true := by
  unfold cLst at h
  split at h
  · exact ⟨_, _, rfl, h⟩
  · cases h
theorem cCall_ok {x : Str} (h : cCall x fs e = true) : ∃ xs p pos, e = .Call (.Name x p) xs [] pos ∧ xs.all notStar = true ∧ fs xs = true := by
  unfold cCall at h
  split at h
  · rw [Bool.and_eq_true, Bool.and_eq_true] at h; obtain ⟨a, b⟩ := h; cases eqB_ok a; exact ⟨_, _, _, rfl, b⟩
  · cases h
theorem cDict0_ok (h : cDict0 e = true) : ∃ pos, e = .Dict [] [] pos := by
  unfold cDict0 at h
  split at h
  · exact ⟨_, rfl⟩
  · cases h
theorem cAttr_ok {n : Option Str} (h : cAttr n f e = true) : ∃ x y pos, e = .Attribute x y pos ∧ n = some y ∧ baseOk x = true ∧ f x = true := by
  unfold cAttr at h
  split at h
  · rw [Bool.and_eq_true, Bool.and_eq_true] at h; exact ⟨_, _, _, rfl, (eqB_ok h.1).symm, h.2⟩
  · cases h
end
/-- the classes isinstance is asked of -/
def clN (T : Glob) : Cl → Option Str
  | .ty n => some (Str.ofString n)
  | .own c => (T.cls[c]?).map (·.1)
  | .exc n => T.exs[n]?
def tyL : List String := ["int", "bool", "str", "list", "tuple", "dict", "ValueError"]
def clB (T : Kit) (sc : Scope) (c : Cl) (x : Str) : Bool := eqB (clN T.g c) (some x) && (gloB sc x && (freeN x && match c with | .ty n => decide (n ∈ tyL) && decide (x ∈ T.bl) | .own _ => false | _ => true))
def cCls (T : Kit) (sc : Scope) : List Cl → List Expr → Bool
  | [], [] => true
  | c :: cs, e :: es => cName (clB T sc c) e && cCls T sc cs es
  | _, _ => false
def Es.len : Es → Nat
  | .nil => 0
  | .cons _ es => es.len + 1
/-- no default is taken here; a target -/
def locC (sc : Scope) (x : Str) : Bool := match sc.names.lookup x with
  | some .local => true
  | some .cell => true
  | _ => false
def cTg (N : List Str) (sc : Scope) : Tg → Expr → Bool
  | .nm i, e => cName (fun x => eqB N[i]? (some x) && locC sc x) e
  | .tup is, .Tuple es _ _ => is.length == es.length && (is.zip es).all fun p => cName (fun x => eqB N[p.1]? (some x) && locC sc x) p.2
  | _, _ => false
def isDisp (f g : Expr → Bool) : Expr → Bool
  | .Dict [some a] [b] _ => f a && g b
  | _ => false
theorem isDisp_ok {f g : Expr → Bool} {e : Expr} (h : isDisp f g e = true) : ∃ a b pos, e = .Dict [some a] [b] pos ∧ f a = true ∧ g b = true := by
  unfold isDisp at h
  split at h
  · rw [Bool.and_eq_true] at h; exact ⟨_, _, _, rfl, h⟩
  · cases h
def isTup : Expr → Bool
  | .Tuple _ _ _ => true
  | _ => false
def isEnum : It → Bool
  | .enum _ => true
  | .zip _ _ => true
  | _ => false
def tgIx : Tg → List Nat
  | .nm i => [i]
  | .tup is => is
mutual
def chk (T : Kit) (N : List Str) (sc : Scope) : E → Expr → Bool
  | .v i => cName (nameB N sc i)
  | .int n => fun e => match e with | .Constant (.int m) _ _ => eqB m n | _ => false
  | .bl b => fun e => match e with | .Constant (.bool c) _ _ => c == b | _ => false
  | .non => fun e => match e with | .Constant .none _ _ => true | _ => false
  | .str s => fun e => match e with | .Constant (.str x) _ _ => eqB x s | _ => false
  | .gint x n => cName fun y => eqB y x && (gloB sc x && (freeN x && decide ((x, n) ∈ T.gi)))
  | .neg a => cUn .USub (chk T N sc a)
  | .op o a b => cBin (opA o) (chk T N sc a) (chk T N sc b)
  | .cm o a b => cCmp (cmA o) (chk T N sc a) (chk T N sc b)
  | .isn neg a => cIs (if neg then .IsNot else .Is) (chk T N sc a)
  | .chn o p a b c => cChn (cmA o) (cmA p) (chk T N sc a) (chk T N sc b) (chk T N sc c)
  | .and a b => cBool .And (chk T N sc a) (chk T N sc b)
  | .or a b => cBool .Or (chk T N sc a) (chk T N sc b)
  | .not a => cUn .Not (chk T N sc a)
  | .ix a b => cSub (chk T N sc a) (chk T N sc b)
  | .sl a lo hi => cSl (chk T N sc a) (chko T N sc lo) (chko T N sc hi)
  | .sls a lo hi st => cSl3 (chk T N sc a) (chko T N sc lo) (chko T N sc hi) (chko T N sc st)
  | .tup es => fun e => decide (es.len ≤ 16777216) && cTup (chks T N sc es) e
  | .lst es => fun e => decide (es.len ≤ 16777216) && cLst (chks T N sc es) e
  | .bi b es => fun e => (gloB sc (biN b) && (decide (biN b ∈ T.bl) && decide (0 < es.len))) && cCall (biN b) (chks T N sc es) e
  | .rng tu r => fun e => (gloB sc (if tu then "tuple" else "list") && (decide ((if tu then "tuple" else "list" : Str) ∈ T.bl) && (gloB sc "range" && decide (("range" : Str) ∈ T.bl)))) &&
      cCall (if tu then "tuple" else "list") (fun xs => match xs with | [x] => cCall "range" (chkr T N sc r) x | _ => false) e
  | .trev a => fun e => (gloB sc "tuple" && (decide (("tuple" : Str) ∈ T.bl) && (gloB sc "reversed" && decide (("reversed" : Str) ∈ T.bl)))) &&
      cCall "tuple" (fun xs => match xs with | [x] => cCall "reversed" (fun ys => match ys with | [y] => chk T N sc a y | _ => false) x | _ => false) e
  | .dnew _ => cDict0
  | .call g _ es => fun e => match T.fns[g]? with
    | some (x, _) => (gloB sc x && freeN x) && cCall x (chks T N sc es) e
    | none => false
  | .mk k _ es => fun e => match T.g.cls[k]? with
    | some (x, _) => ((gloB sc x && freeN x) && T.ini[k]?.isSome) && cCall x (chks T N sc es) e
    | none => false
  | .fld a k j => cAttr ((T.g.cls[k]?).bind fun p => p.2[j]?) (chk T N sc a)
  | .isi one a cs => fun e => (gloB sc "isinstance" && decide (("isinstance" : Str) ∈ T.bl)) && cCall "isinstance" (fun xs => match xs with
    | [x, y] => decide (0 < cs.length) && chk T N sc a x && (if one then cCls T sc cs [y] && decide (cs.length = 1) else decide (cs.length ≤ 16777216) && cTup (cCls T sc cs) y)
    | _ => false) e
  | .lc own tg it cond elt => fun e => match e with
    | .ListComp el [⟨t, i, ifs, 0⟩] scope _ => (blkC N sc scope (own.map fun j => (N[j]?.getD ("" : Str), j)) && ((tgIx tg).all (fun j => decide (j ∈ own)) && own.all fun j => decide (j < N.length))) && ((noSet i && (isTup t || !isEnum it)) &&
        (cTg N scope tg t && (chki T N sc it i && (chkc T N (relS scope sc) cond ifs && chk T N (relS scope sc) elt el))))
    | _ => false
  | .frz a => fun e => (noComp e && plainT e) && chk T N sc a e
  | .lens a => fun e => (gloB sc "len" && (decide (("len" : Str) ∈ T.bl) && (gloB sc "set" && decide (("set" : Str) ∈ T.bl)))) &&
      cCall "len" (fun xs => match xs with | [x] => cCall "set" (fun ys => match ys with | [y] => chk T N sc a y | _ => false) x | _ => false) e
  | .disp a b => isDisp (chk T N sc a) (chk T N sc b)
def chks (T : Kit) (N : List Str) (sc : Scope) : Es → List Expr → Bool
  | .nil => fun es => match es with | [] => true | _ => false
  | .cons m ms => fun es => match es with | e :: es => notStar e && (chk T N sc m e && chks T N sc ms es) | _ => false
def chko (T : Kit) (N : List Str) (sc : Scope) : Oe → Option Expr → Bool
  | .no => fun e => match e with | none => true | _ => false
  | .yes m => fun e => match e with | some e => chk T N sc m e | _ => false
def chkr (T : Kit) (N : List Str) (sc : Scope) : Rg → List Expr → Bool
  | .one b => fun es => match es with | [e] => chk T N sc b e | _ => false
  | .two a b => fun es => match es with | [d, e] => chk T N sc a d && chk T N sc b e | _ => false
def chkc (T : Kit) (N : List Str) (sc : Scope) : Oe → List Expr → Bool
  | .no => fun es => match es with | [] => true | _ => false
  | .yes m => fun es => match es with | [e] => chk T N sc m e | _ => false
def chki (T : Kit) (N : List Str) (sc : Scope) : It → Expr → Bool
  | .of m => chk T N sc m
  | .rng r => fun e => (gloB sc "range" && decide (("range" : Str) ∈ T.bl)) && cCall "range" (chkr T N sc r) e
  | .enum m => fun e => (gloB sc "enumerate" && decide (("enumerate" : Str) ∈ T.bl)) && cCall "enumerate" (fun xs => match xs with | [x] => chk T N sc m x | _ => false) e
  | .rev m => fun e => (gloB sc "reversed" && decide (("reversed" : Str) ∈ T.bl)) && cCall "reversed" (fun xs => match xs with | [x] => chk T N sc m x | _ => false) e
  | .zip a b => fun e => (gloB sc "zip" && decide (("zip" : Str) ∈ T.bl)) && cCall "zip" (fun xs => match xs with | [x, y] => chk T N sc a x && chk T N sc b y | _ => false) e
end
/-! ### what is known around a def -/
/-- an own class whose instances are made here -/
structure ClsF (K : PySem.W.Frag) (mg : Str → Option Value) (nm : Str) (fl : List Str) (C : Addr) : Prop where
  at_ : mg nm = some (.ref C)
  cls : Cls K C
  no : ∀ f ∈ fl, NoAttr K C f
  nd : fl.Nodup
/-- an exception's class -/
structure ExcF (K : PySem.W.Frag) (mg : Str → Option Value) (nm : Str) (C : Addr) : Prop where
  at_ : mg nm = some (.ref C)
  exc : ExcC K C
/-- isinstance, by the classes' tables -/
structure IsF (T : Glob) (K : PySem.W.Frag) (mg : Str → Option Value) : Prop where
  ex : ∀ (e c : Nat) nm nm' C C', T.exs[e]? = some nm → mg nm = some (.ref C) → T.exs[c]? = some nm' → mg nm' = some (.ref C') → PySem.W.kitOne K (.ref C) (.ref C') = some (T.sup e c)
  ty : ∀ (e : Nat) n b nm C, T.exs[e]? = some nm → mg nm = some (.ref C) → T.excTy n = some b → PySem.W.kitOne K (.ref C) (.type n) = some b
  no : ∀ (c : Nat) nm C, T.exs[c]? = some nm → mg nm = some (.ref C) → ∀ t ∈ ("NoneType" :: "bool" :: "int" :: "str" :: "list" :: "tuple" :: []), PySem.W.kitOne K (.type t) (.ref C) = some false
structure Sx (T : Kit) (k : Nat) (X : Cx) (W : WX) : Prop where
  calm : X.calm = true
  nd : X.N.Nodup
  room : Room k X.A
  tk : Takes X W
  bl : ∀ x ∈ T.bl, X.mg x = none
  gi : ∀ p ∈ T.gi, ∃ u, X.mg p.1 = some u ∧ RelV (.int p.2) u
  fns : ∀ (g : Nat) x F, T.fns[g]? = some (x, F) → ∃ (f : Addr) (fd : FuncData) (ps : List Str), X.mg x = some (.ref f) ∧ PySem.W.keepIn X.K (.ref f) = true ∧ Binds X.K fd ps [] ∧ FnOk X.prog X.w X.K X.mg X.base (L2.CX X.prog X.w) k f fd ps (spOf T.g X.mg F)
  ini : ∀ (c : Nat) F, T.ini[c]? = some F → ∃ (nm : Str) (fl : List Str) (C f : Addr) (fd : FuncData) (ps : List Str) (j : Nat), T.g.cls[c]? = some (nm, fl) ∧ X.mg nm = some (.ref C) ∧ j + 1 ≤ k ∧ Mk X.K C f ∧ Binds X.K fd ps [] ∧ FnOk X.prog X.w X.K X.mg X.base (L2.CX X.prog X.w) j f fd ps (spOf T.g X.mg F)
  cls : ∀ (c : Nat) nm fl, T.g.cls[c]? = some (nm, fl) → ∃ C, ClsF X.K X.mg nm fl C
  exs : ∀ (e : Nat) nm, T.g.exs[e]? = some nm → ∃ C, ExcF X.K X.mg nm C
  isf : IsF T.g X.K X.mg
/-- .. of it what needs no calm -/
structure Sh (T : Kit) (X : Cx) : Prop where
  bl : ∀ x ∈ T.bl, X.mg x = none
  exs : ∀ (e : Nat) nm, T.g.exs[e]? = some nm → ∃ C, ExcF X.K X.mg nm C
  isf : IsF T.g X.K X.mg
theorem Sx.sh {T : Kit} {k : Nat} {X : Cx} {W : WX} (S : Sx T k X W) : Sh T X := ⟨S.bl, S.exs, S.isf⟩
theorem takesN {X : Cx} : Takes X (fun _ _ _ _ => False) := fun _ _ ⟨_, _, _, _, _, _, _, _, _, _, _, _, _, _, _, _, w⟩ => w.elim
/-- what is known, in a comprehension's block -/
theorem Sx.blk {T : Kit} {k : Nat} {X : Cx} {W : WX} (S : Sx T k X W) (s : Shared) (H : Hp) (scope : Scope) (cl : List (Str × Addr)) (C : Addr) (fp : List Addr) : Sx T k (X.blk s H scope (compEnvC scope cl C X.env) fp) (fun _ _ _ _ => False) :=
  ⟨S.calm, S.nd, S.room, takesN, S.bl, S.gi, S.fns, S.ini, S.cls, S.exs, S.isf⟩
theorem Sx.units {T : Kit} {k : Nat} {X : Cx} {W : WX} (S : Sx T k X W) : X.A.units + 65 < cLine := by have := S.room.un; omega
/-! ### the readings -/
section
variable (T : Kit) (mg : Str → Option Value) (H0 G0 : Hp) (W : WX)
abbrev S0 (σ : St) (ρ : List C) (ts : List Cell) (H : Hp) : Prop := SR T.g mg H0 G0 [] σ ρ ts H
/-- an exception's end -/
def endX (σ : St) (ts : List Cell) (n : Nat) (ρ : List C) : Prop := ∀ Cx nm H, T.g.exs[n]? = some nm → mg nm = some (.ref Cx) → S0 T mg H0 G0 σ ρ ts H → W (.ref Cx) none σ H
def endE (σ : St) (ts : List Cell) (Q : VK) : RE → Prop
  | .ok c ρ => ∀ v H, S0 T mg H0 G0 σ ρ (ts ++ [(some v, c)]) H → Q v H
  | .err n ρ => endX T mg H0 G0 W σ ts n ρ
  | .stuck => False
def endL (σ : St) (ts : List Cell) (Q : List V → Hp → Prop) : RL → Prop
  | .ok cs ρ => ∀ vs H, vs.length = cs.length → S0 T mg H0 G0 σ ρ (ts ++ tz vs cs) H → Q vs H
  | .err n ρ => endX T mg H0 G0 W σ ts n ρ
  | .stuck => False
def endT (σ : St) (ts : List Cell) (Q : Bool → Hp → Prop) : RE → Prop
  | .ok c ρ => ∃ b, c = bool b ∧ ∀ H, S0 T mg H0 G0 σ ρ ts H → Q b H
  | .err n ρ => endX T mg H0 G0 W σ ts n ρ
  | .stuck => False
def rdE (m : E) : TE := fun σ H Q => ∃ ρ ts, S0 T mg H0 G0 σ ρ ts H ∧ endE T mg H0 G0 W σ ts Q (ev T m ρ)
def rdL (m : Es) : TA := fun σ H Q => ∃ ρ ts, S0 T mg H0 G0 σ ρ ts H ∧ endL T mg H0 G0 W σ ts Q (evs T m ρ)
def rdT (m : E) : TT := fun σ H Q => ∃ ρ ts, S0 T mg H0 G0 σ ρ ts H ∧ endT T mg H0 G0 W σ ts Q (ev T m ρ)
end
section
variable {T : Kit} {mg : Str → Option Value} {H0 G0 H : Hp} {W : WX} {σ : St} {ρ ρ' : List C} {ts as : List Cell} {Q R : VK} {m : E} {v w : V} {c : C}
theorem endX.drop {n : Nat} (h : endX T mg H0 G0 W σ ts n ρ) : endX T mg H0 G0 W σ (ts ++ as) n ρ := fun Cx nm H e1 e2 S => h Cx nm H e1 e2 S.drop
/-- a part, then the rest -/
theorem rdE.bind {k : C → List C → RE} (S : S0 T mg H0 G0 σ ρ (ts ++ as) H) (h : endE T mg H0 G0 W σ ts Q ((ev T m ρ).bind k)) (hk : ∀ c ρ' v H', S0 T mg H0 G0 σ ρ' (ts ++ as ++ [(some v, c)]) H' → endE T mg H0 G0 W σ ts Q (k c ρ') → R v H') : rdE T mg H0 G0 W m σ H R := by
  refine ⟨ρ, ts ++ as, S, ?_⟩
  cases q : ev T m ρ with
  | ok c ρ' => rw [q] at h; exact fun v H' S' => hk c ρ' v H' S' h
  | err n ρ' => rw [q] at h; exact endX.drop h
  | stuck => rw [q] at h; exact h.elim
theorem rdE.bind0 {k : C → List C → RE} (S : S0 T mg H0 G0 σ ρ ts H) (h : endE T mg H0 G0 W σ ts Q ((ev T m ρ).bind k)) (hk : ∀ c ρ' v H', S0 T mg H0 G0 σ ρ' (ts ++ [(some v, c)]) H' → endE T mg H0 G0 W σ ts Q (k c ρ') → R v H') : rdE T mg H0 G0 W m σ H R := by
  refine rdE.bind (as := []) (by rw [List.append_nil]; exact S) h fun c ρ' v H' S' => ?_
  rw [List.append_nil] at S'
  exact hk c ρ' v H' S'
theorem rdL.bind {m : Es} {R : List V → Hp → Prop} {k : List C → List C → RE} (S : S0 T mg H0 G0 σ ρ ts H) (h : endE T mg H0 G0 W σ ts Q ((evs T m ρ).bind k)) (hk : ∀ cs ρ' vs H', vs.length = cs.length → S0 T mg H0 G0 σ ρ' (ts ++ tz vs cs) H' → endE T mg H0 G0 W σ ts Q (k cs ρ') → R vs H') : rdL T mg H0 G0 W m σ H R := by
  refine ⟨ρ, ts, S, ?_⟩
  cases q : evs T m ρ with
  | ok c ρ' => rw [q] at h; exact fun v H' hl S' => hk c ρ' v H' hl S' h
  | err n ρ' => rw [q] at h; exact h
  | stuck => rw [q] at h; exact h.elim
end
theorem PE.imp {X : Cx} {e : Expr} {t t' : TE} (h : PE X e t) (f : ∀ σ H Q, t' σ H Q → t σ H Q) : PE X e t' := ⟨fun pins s σ H Q I hw => h.run pins s σ H Q I (f σ H Q hw)⟩
theorem PT.imp {X : Cx} {e : Expr} {t t' : TT} (h : PT X e t) (f : ∀ σ H Q, t' σ H Q → t σ H Q) : PT X e t' := ⟨fun pins s σ H Q I hw => h.run pins s σ H Q I (f σ H Q hw)⟩
theorem PA.imp {X : Cx} {e : List Expr} {t t' : TA} (h : PA X e t) (f : ∀ σ H Q, t' σ H Q → t σ H Q) : PA X e t' := ⟨fun pos pins s σ H Q I hw => h.run pos pins s σ H Q I (f σ H Q hw)⟩
theorem PW.imp {X : Cx} {e : Expr} {t t' : TT} (h : PW X e t) (f : ∀ σ H Q, t' σ H Q → t σ H Q) : PW X e t' := ⟨fun whole pins s σ H Q I hw => h.run whole pins s σ H Q I (f σ H Q hw)⟩
end Gr

set_option Elab.async false
set_option linter.all false
set_option maxRecDepth 100000
set_option maxHeartbeats 2000000
/-! Gr J: targets, walks, a comprehension's block. -/
namespace Gr
open PySem L2
section
variable {T : Kit} {mg : Str → Option Value} {H0 G0 H H' : Hp} {W : WX} {σ : St} {ρ ρ' ρ1 : List C} {ts as : List Cell} {Q R : VK} {v w : V} {c c' : C} {G B : Hp} {ow : Addr → Option Kx}
/-! ### targets -/
def gNames : List Nat → TGs
  | [] => gNil
  | i :: is => gCons (gName i) (gNames is)
def tgG (K : PySem.W.Frag) : Tg → TG
  | .nm i => gName i
  | .tup is => gTup K is.length (gNames is)
theorem setN_ok {fx : List Nat} {i : Nat} (h : setN fx ρ i c = some ρ') : ρ' = ρ.set i c ∧ i < ρ.length ∧ i ∉ fx ∧ ∀ x, ρ[i]? ≠ some (.lkd x) := by
  have h' : (if free fx ρ i then some (ρ.set i c) else none) = some ρ' := h
  by_cases hf : free fx ρ i = true
  · rw [if_pos hf] at h'
    unfold free at hf
    rw [Bool.and_eq_true, Bool.not_eq_true', List.contains_eq_mem, decide_eq_false_iff_not] at hf
    obtain ⟨h1, h2⟩ := hf
    refine ⟨(Option.some.inj h').symm, ?_, h1, fun x e => ?_⟩
    · cases q : ρ[i]? with
      | none => rw [q] at h2; cases h2
      | some _ => exact (List.getElem?_eq_some_iff.mp q).1
    · rw [e] at h2; cases h2
  · rw [if_neg hf] at h'; cases h'
/-- a name is stored to -/
theorem setN_sr {fx : List Nat} {i : Nat} (S : S0 T mg H0 G0 σ ρ (ts ++ [(some v, c)]) H) (h : setN fx ρ i c = some ρ') (hc : (∃ x, c = .fro x) ∨ (∃ x, c = .bor x) ∨ (∃ n, c = .exc n) ∨ ((∃ x, c = .own x) ∧ ∀ t ∈ ts, ∀ j, t.2 = .pk j → j ∈ fx)) : S0 T mg H0 G0 (σ.set i (some v)) ρ' ts H := by
  obtain ⟨rfl, hl, hx, hn⟩ := setN_ok h
  refine S.set (fun p hp => by cases hp) ?_ ?_
  · rcases hc with ⟨x, rfl⟩ | ⟨x, rfl⟩ | ⟨x, rfl⟩ | ⟨⟨x, rfl⟩, _⟩ <;> exact ⟨fun j z => (by cases z), fun y z => (by cases z)⟩
  · rcases hc with ⟨x, rfl⟩ | ⟨x, rfl⟩ | ⟨x, rfl⟩ | ⟨⟨x, rfl⟩, hp⟩
    · exact .inr fun y z => by cases z
    · exact .inr fun y z => by cases z
    · exact .inr fun y z => by cases z
    · exact .inl fun t ht e => hx (hp t ht i e)
/-- several items as temps, the first the last -/
theorem push_items : ∀ {vs : List V} {ds : List D}, SRx T.g mg H0 G0 [] ow G B σ ρ ts H → (isBor c = false → RpA G vs ds) → RpA B vs ds → SRx T.g mg H0 G0 [] ow G B σ ρ (ts ++ (tz vs (ds.map (itemC c))).reverse) H := by
  intro vs
  induction vs with
  | nil =>
    intro ds S h1 h2
    cases h2
    simpa using S
  | cons v vs ih =>
    intro ds S h1 h2
    cases h2 with
    | @cons _ _ d ds r t =>
      have S1 := ih S (fun z => by cases h1 z with | cons _ t => exact t) t
      rw [List.map_cons, tz_cons, List.reverse_cons, ← List.append_assoc]
      cases hb : isBor c with
      | false =>
        have e : itemC c d = .fro (.py d) := by cases c <;> first | rfl | cases hb
        rw [e]
        refine S1.push fun k => ⟨v, rfl, ?_⟩
        cases h1 hb with | cons r _ => exact r
      | true =>
        have e : itemC c d = asB (.py d) := by cases c <;> first | rfl | cases hb
        rw [e]
        unfold asB
        by_cases hs : scX (.py d) = true
        · rw [if_pos hs]
          exact S1.push fun k => ⟨v, rfl, Rp.sc r hs⟩
        · rw [if_neg hs]
          exact S1.push fun k => ⟨v, rfl, r⟩
theorem setNs_ok {fx : List Nat} : ∀ {is : List Nat} {vs : List V} {cs ρ ρ' : List C} {σ : St} {Q : St → Hp → Prop}, vs.length = cs.length → (∀ c ∈ cs, (∃ x, c = .fro x) ∨ ∃ x, c = .bor x) → S0 T mg H0 G0 σ ρ (ts ++ (tz vs cs).reverse) H → setNs fx ρ is cs = some ρ' →
    (∀ σ', σ'.length = σ.length → (∀ i, i ∉ is → σ'[i]? = σ[i]?) → S0 T mg H0 G0 σ' ρ' ts H → Q σ' H) → gNames is vs σ H Q ∧ is.length = cs.length := by
  intro is
  induction is with
  | nil =>
    intro vs cs ρ ρ' σ Q hl hc S h q
    cases cs with
    | nil =>
      cases vs with
      | nil => cases h; exact ⟨⟨rfl, q σ rfl (fun _ _ => rfl) (by simpa using S)⟩, rfl⟩
      | cons _ _ => cases hl
    | cons _ _ => cases h
  | cons i is ih =>
    intro vs cs ρ ρ' σ Q hl hc S h q
    cases cs with
    | nil => cases h
    | cons c cs =>
      cases vs with
      | nil => cases hl
      | cons v vs =>
        rw [tz_cons, List.reverse_cons, ← List.append_assoc] at S
        have h' : (setN fx ρ i c).bind (fun ρ => setNs fx ρ is cs) = some ρ' := h
        cases q1 : setN fx ρ i c with
        | none => rw [q1] at h'; cases h'
        | some ρ1 =>
          rw [q1] at h'
          have S1 := setN_sr S q1 ((hc c List.mem_cons_self).elim .inl fun z => .inr (.inl z))
          obtain ⟨r, hl2⟩ := ih (by simpa using hl) (fun c h => hc c (List.mem_cons_of_mem _ h)) S1 h' (Q := Q) fun σ' e1 e2 S' => q σ' (by rw [e1, List.length_set]) (fun j hj => by
            rw [e2 j fun z => hj (List.mem_cons_of_mem _ z), List.getElem?_set_ne (fun z => hj (List.mem_cons.mpr (.inl z.symm)))]) S'
          exact ⟨⟨v, vs, rfl, r⟩, by simp [hl2]⟩
theorem item_kind {d : D} : (∃ x, itemC c d = .fro x) ∨ ∃ x, itemC c d = .bor x := by
  cases c with
  | bor x =>
    show (∃ x, asB (.py d) = .fro x) ∨ ∃ x, asB (.py d) = .bor x
    unfold asB
    split
    · exact .inl ⟨_, rfl⟩
    · exact .inr ⟨_, rfl⟩
  | _ => exact .inl ⟨_, rfl⟩
/-- a target takes an item (or a tuple that is unpacked) -/
theorem setTg_ok {K : PySem.W.Frag} {fx : List Nat} {tg : Tg} {Q : St → Hp → Prop} (S : S0 T mg H0 G0 σ ρ (ts ++ [(some v, c)]) H) (hc : (∃ x, c = .fro x) ∨ (∃ x, c = .bor x)) (h : setTg fx ρ tg c = some ρ')
    (q : ∀ σ', σ'.length = σ.length → (∀ i, i ∉ tgIx tg → σ'[i]? = σ[i]?) → S0 T mg H0 G0 σ' ρ' ts H → Q σ' H) : tgG K tg v σ H Q := by
  cases tg with
  | nm i =>
    exact q _ (List.length_set ..) (fun j hj => List.getElem?_set_ne (fun z => hj (by rw [z]; exact List.mem_singleton.mpr rfl))) (setN_sr S h (hc.elim .inl fun z => .inr (.inl z)))
  | tup is =>
    have go : ∀ {ds : List D} {b : C}, Gr.see ρ c = some (.tuple ds) → setNs fx ρ is (ds.map (itemC c)) = some ρ' → tgG K (.tup is) v σ H Q := fun {ds b} sk h => by
      obtain ⟨ow, G, B, S⟩ := S
      obtain ⟨a, vs, e, r, i⟩ := S.tuple cel_last sk
      have S1 : S0 T mg H0 G0 σ ρ (ts ++ (tz vs (ds.map (itemC c))).reverse) H := ⟨ow, G, B, push_items S.drop (fun z => (i.2 z).2) i.1.2⟩
      have hl : vs.length = (ds.map (itemC c)).length := by rw [List.length_map]; exact i.1.2.length
      obtain ⟨z1, z2⟩ := setNs_ok hl (fun c hc => by obtain ⟨d, _, rfl⟩ := List.mem_map.mp hc; exact item_kind) S1 h q
      exact ⟨a, vs, e, .inl (.inl r), by rw [hl, z2], z1⟩
    rcases hc with ⟨x, rfl⟩ | ⟨x, rfl⟩
    · cases x with
      | py d =>
        cases d with
        | tuple ds => exact go (b := .und) rfl h
        | _ => cases h
      | _ => cases h
    · cases x with
      | py d =>
        cases d with
        | tuple ds => exact go (b := .und) rfl h
        | _ => cases h
      | _ => cases h
/-! ### walks -/
/-- J gives these items, as long as what is walked is held; the temps as are behind the walked one -/
def WalkJ (T : Kit) (mg : Str → Option Value) (H0 G0 : Hp) (J : L2.It) (ok : List C → Prop) (tw : List Cell) (cs : List C) : Prop :=
  ∀ (σ : St) (ρ : List C) (as : List Cell) (H : Hp), S0 T mg H0 G0 σ ρ (tw ++ as) H → ok ρ → ∀ (i : Nat), (∀ c, cs[i]? = some c → J.go i H ∧ ∀ x H', J.yld i H x H' → S0 T mg H0 G0 σ ρ (tw ++ as ++ [(some x, c)]) H') ∧ (cs.length ≤ i → J.stop i H)
def RI.fin (T : Kit) (mg : Str → Option Value) (H0 G0 : Hp) (W : WX) (σ : St) (ts : List Cell) (R : L2.It → Hp → Prop) : RI → Prop
  | .ok cs lk ρ => ∀ J H as, WalkJ T mg H0 G0 J (fun ρ => lkIs ρ lk) (ts ++ as) cs → S0 T mg H0 G0 σ ρ (ts ++ as) H → (∀ t ∈ as, ∀ j, t.2 = .pk j → j ∈ lk.fx) → (∀ c ∈ cs, (∃ x, c = .fro x) ∨ ∃ x, c = .bor x) → R J H
  | .err n ρ => endX T mg H0 G0 W σ ts n ρ
  | .stuck => False
def rdI (T : Kit) (mg : Str → Option Value) (H0 G0 : Hp) (W : WX) (m : It) : TI := fun σ H R => ∃ ρ ts, S0 T mg H0 G0 σ ρ ts H ∧ RI.fin T mg H0 G0 W σ ts R (evI T m ρ)
/-- a slot let go -/
theorem unlock_ok {lk : Lk} (S : S0 T mg H0 G0 σ ρ ts H) (h : lkIs ρ lk) : S0 T mg H0 G0 σ (unlock ρ lk) ts H := by
  cases lk with
  | no => exact S
  | «at» i x n =>
    cases n with
    | true => exact S.tag h (.inr ⟨rfl, rfl⟩)
    | false => exact S
/-- what is walked, as seen now -/
theorem lockC_ok {ds : List D} {lk : Lk} (S : S0 T mg H0 G0 σ ρ (ts ++ [(some v, c)]) H) (h : lockC ρ c = some (ds, lk, ρ')) : ∃ d, (d = .list ds ∨ d = .tuple ds) ∧ S0 T mg H0 G0 σ ρ' (ts ++ [(some v, c)]) H ∧ (∀ ρ2, lkIs ρ2 lk → Gr.see ρ2 c = some d) ∧ lkIs ρ' lk ∧ (∀ j, c = .pk j → j ∈ lk.fx) := by
  unfold lockC at h
  cases lc : Gr.look ρ c with
  | none => rw [lc] at h; cases h
  | some x =>
    rw [lc] at h
    have plain : ∀ {d : D}, x = .py d → (∀ j, c ≠ .pk j) → lk = .no → ρ' = ρ → (d = .list ds ∨ d = .tuple ds) → ∃ d, (d = .list ds ∨ d = .tuple ds) ∧ S0 T mg H0 G0 σ ρ' (ts ++ [(some v, c)]) H ∧ (∀ ρ2, lkIs ρ2 lk → Gr.see ρ2 c = some d) ∧ lkIs ρ' lk ∧ (∀ j, c = .pk j → j ∈ lk.fx) := fun {d} e1 e2 e3 e4 e5 => by
      subst e1 e3 e4
      refine ⟨d, e5, S, fun ρ2 _ => ?_, trivial, fun j z => absurd z (e2 j)⟩
      have : Gr.look ρ2 c = Gr.look ρ' c := by
        cases c with
        | pk j => exact absurd rfl (e2 j)
        | _ => rfl
      unfold Gr.see
      rw [this, lc]
      rfl
    cases x with
    | py d =>
      cases d with
      | tuple es =>
        cases c with
        | pk i =>
          exfalso
          -- a slot's own thing is no tuple
          have l' : (match ρ[i]? with | some (.own x) => some x | some (.lkd x) => some x | _ => none) = some (Tx.py (.tuple es)) := lc
          obtain ⟨ow, G, B, S1⟩ := S
          cases q : ρ[i]? with
          | none => rw [q] at l'; cases l'
          | some c' =>
            rw [q] at l'
            have hi : i < σ.length := by rw [S1.len]; exact (List.getElem?_eq_some_iff.mp q).1
            have hs : σ[i]? = some σ[i] := List.getElem?_eq_getElem hi
            cases c' with
            | own y => cases l'; obtain ⟨_, _, _, z⟩ := S1.rel _ _ _ (cel_inl.mpr ⟨hs, q⟩); exact z
            | lkd y => cases l'; obtain ⟨_, _, _, z⟩ := S1.rel _ _ _ (cel_inl.mpr ⟨hs, q⟩); exact z
            | _ => cases l'
        | _ => cases h; exact plain rfl (fun j z => by cases z) rfl rfl (.inr rfl)
      | list es =>
        cases c with
        | pk i =>
          have h' : (match ρ[i]? with
            | some (.own _) => some (es, Lk.at i (.py (.list es)) true, ρ.set i (.lkd (.py (.list es))))
            | some (.lkd _) => some (es, .at i (.py (.list es)) false, ρ)
            | _ => none) = some (ds, lk, ρ') := h
          have l' : (match ρ[i]? with | some (.own x) => some x | some (.lkd x) => some x | _ => none) = some (Tx.py (.list es)) := lc
          cases q : ρ[i]? with
          | none => rw [q] at h'; cases h'
          | some c' =>
            have hl : i < ρ.length := (List.getElem?_eq_some_iff.mp q).1
            rw [q] at h' l'
            cases c' with
            | own y =>
              cases h'
              cases l'
              refine ⟨.list ds, .inl rfl, S.tag q (.inl ⟨rfl, rfl⟩), fun ρ2 e => ?_, List.getElem?_set_self hl, fun j z => by cases z; exact List.mem_singleton.mpr rfl⟩
              have e : ρ2[i]? = some (.lkd (.py (.list ds))) := e
              show ((match ρ2[i]? with | some (.own x) => some x | some (.lkd x) => some x | _ => none : Option Tx)).bind Tx.see = _
              rw [e]; rfl
            | lkd y =>
              cases h'
              cases l'
              refine ⟨.list ds, .inl rfl, S, fun ρ2 e => ?_, q, fun j z => by cases z; exact List.mem_singleton.mpr rfl⟩
              have e : ρ2[i]? = some (.lkd (.py (.list ds))) := e
              show ((match ρ2[i]? with | some (.own x) => some x | some (.lkd x) => some x | _ => none : Option Tx)).bind Tx.see = _
              rw [e]; rfl
            | _ => cases h'
        | _ => cases h; exact plain rfl (fun j z => by cases z) rfl rfl (.inl rfl)
      | _ => cases c <;> cases h
    | _ => cases c <;> cases h
theorem cel_tw {d : Cell} : cel σ ρ (ts ++ [d] ++ as) (.inr ts.length) = some d := by
  show (ts ++ [d] ++ as)[ts.length]? = some d
  simp
theorem item_in {vs : List V} {ds : List D} {i : Nat} (S : SRx T.g mg H0 G0 [] ow G B σ ρ ts H) (hi : InR G B c (fun R => RpA R vs ds)) (hc : (ds.map (itemC c))[i]? = some c') : ∃ d x, ds[i]? = some d ∧ c' = itemC c d ∧ vs[i]? = some x ∧ S0 T mg H0 G0 σ ρ (ts ++ [(some x, c')]) H := by
  rw [List.getElem?_map] at hc
  cases q : ds[i]? with
  | none => rw [q] at hc; cases hc
  | some d =>
    rw [q] at hc
    cases hc
    obtain ⟨x, h1, h2⟩ := hi.1.get q
    refine ⟨d, x, rfl, rfl, h1, item_push S ⟨h2, fun hb => ?_⟩⟩
    obtain ⟨x', h3, h4⟩ := (hi.2 hb).get q
    rw [h1] at h3
    cases h3
    exact h4
/-- a list that is walked -/
theorem walk_list {K : PySem.W.Frag} {a : Addr} {ds : List D} {ok : List C → Prop} (hs : ∀ ρ, ok ρ → Gr.see ρ c = some (.list ds)) : WalkJ T mg H0 G0 (Itl K a) ok (ts ++ [(some (.ref a), c)]) (ds.map (itemC c)) := fun σ ρ as H S k i => by
  obtain ⟨ow, G, B, S⟩ := S
  obtain ⟨a', vs, e, r, hi⟩ := S.list cel_tw (hs ρ k)
  cases e
  have one : SqL K H a vs := .inl r
  refine ⟨fun c' hc => ?_, fun hl => ⟨vs, one, by rw [hi.1.length]; rw [List.length_map] at hl; exact hl⟩⟩
  obtain ⟨d, x, h1, h2, h3, h4⟩ := item_in S hi hc
  refine ⟨⟨vs, x, one, h3⟩, fun y H' hy => ?_⟩
  obtain ⟨e1, e2⟩ := hy
  subst e1
  have := e2 vs one
  rw [h3] at this
  cases this
  exact h4
theorem walk_tup {K : PySem.W.Frag} {a : Addr} {ds : List D} {ok : List C → Prop} (hs : ∀ ρ, ok ρ → Gr.see ρ c = some (.tuple ds)) : WalkJ T mg H0 G0 (Itt K a) ok (ts ++ [(some (.ref a), c)]) (ds.map (itemC c)) := fun σ ρ as H S k i => by
  obtain ⟨ow, G, B, S⟩ := S
  obtain ⟨a', vs, e, r, hi⟩ := S.tuple cel_tw (hs ρ k)
  cases e
  have one : SqT K H a vs := .inl (.inl r)
  refine ⟨fun c' hc => ?_, fun hl => ⟨vs, one, by rw [hi.1.2.length]; rw [List.length_map] at hl; exact hl⟩⟩
  obtain ⟨d, x, h1, h2, h3, h4⟩ := item_in S ⟨hi.1.2, fun z => (hi.2 z).2⟩ hc
  refine ⟨⟨vs, x, one, h3⟩, fun y H' hy => ?_⟩
  obtain ⟨e1, e2⟩ := hy
  subst e1
  have := e2 vs one
  rw [h3] at this
  cases this
  exact h4
theorem rev_get {α : Type} {xs : List α} {i : Nat} {x : α} (h : xs.reverse[i]? = some x) : xs[xs.length - 1 - i]? = some x ∧ i < xs.length := by
  have hi : i < xs.length := by
    have := (List.getElem?_eq_some_iff.mp h).1
    simpa using this
  rw [List.getElem?_reverse hi] at h
  exact ⟨h, hi⟩
theorem walk_revL {K : PySem.W.Frag} {a : Addr} {ds : List D} {ok : List C → Prop} (hs : ∀ ρ, ok ρ → Gr.see ρ c = some (.list ds)) : WalkJ T mg H0 G0 (Itv K a ds.length) ok (ts ++ [(some (.ref a), c)]) (ds.reverse.map (itemC c)) := fun σ ρ as H S k i => by
  obtain ⟨ow, G, B, S⟩ := S
  obtain ⟨a', vs, e, r, hi⟩ := S.list cel_tw (hs ρ k)
  cases e
  have one : SqL K H a vs := .inl r
  refine ⟨fun c' hc => ?_, fun hl => by rw [List.length_map, List.length_reverse] at hl; exact hl⟩
  obtain ⟨d, x, h1, h2, h3, h4⟩ := item_in S (vs := vs.reverse) ⟨hi.1.reverse, fun z => (hi.2 z).reverse⟩ hc
  obtain ⟨h5, h6⟩ := rev_get h3
  rw [hi.1.length] at h5 h6
  refine ⟨⟨h6, vs, x, one, h5⟩, fun y H' hy => ?_⟩
  obtain ⟨e1, e2⟩ := hy
  subst e1
  have := e2 vs one
  rw [h5] at this
  cases this
  exact h4
theorem walk_revT {K : PySem.W.Frag} {a : Addr} {ds : List D} {ok : List C → Prop} (hs : ∀ ρ, ok ρ → Gr.see ρ c = some (.tuple ds)) : WalkJ T mg H0 G0 (RT.ItvT K a ds.length) ok (ts ++ [(some (.ref a), c)]) (ds.reverse.map (itemC c)) := fun σ ρ as H S k i => by
  obtain ⟨ow, G, B, S⟩ := S
  obtain ⟨a', vs, e, r, hi⟩ := S.tuple cel_tw (hs ρ k)
  cases e
  have one : SqT K H a vs := .inl (.inl r)
  refine ⟨fun c' hc => ?_, fun hl => by rw [List.length_map, List.length_reverse] at hl; exact hl⟩
  obtain ⟨d, x, h1, h2, h3, h4⟩ := item_in S (vs := vs.reverse) ⟨hi.1.2.reverse, fun z => (hi.2 z).2.reverse⟩ hc
  obtain ⟨h5, h6⟩ := rev_get h3
  rw [hi.1.2.length] at h5 h6
  refine ⟨⟨h6, vs, x, one, h5⟩, fun y H' hy => ?_⟩
  obtain ⟨e1, e2⟩ := hy
  subst e1
  have := e2 vs one
  rw [h5] at this
  cases this
  exact h4
theorem walk_enum {K : PySem.W.Frag} {a : Addr} {ds : List D} {ok : List C → Prop} (hb : isBor c = false) (hs : ∀ ρ, ok ρ → Gr.see ρ c = some (.list ds)) : WalkJ T mg H0 G0 (Ite K a) ok (ts ++ [(some (.ref a), c)]) (ds.zipIdx.map fun p => .fro (.py (.tuple [.int (p.2 : Nat), p.1]))) := fun σ ρ as H S k i => by
  obtain ⟨ow, G, B, S⟩ := S
  obtain ⟨a', vs, e, r, hi⟩ := S.list cel_tw (hs ρ k)
  cases e
  have one : SqL K H a vs := .inl r
  refine ⟨fun c' hc => ?_, fun hl => ⟨vs, one, by rw [hi.1.length]; rw [List.length_map, List.length_zipIdx] at hl; exact hl⟩⟩
  rw [List.getElem?_map, List.getElem?_zipIdx] at hc
  cases q : ds[i]? with
  | none => rw [q] at hc; cases hc
  | some d =>
    rw [q] at hc
    cases hc
    obtain ⟨x, h1, h2⟩ := (hi.2 hb).get q
    refine ⟨⟨vs, x, one, h1⟩, fun y H' hy => ?_⟩
    obtain ⟨t, x', e1, e2, e3, e4⟩ := hy
    subst e1 e3
    have := e4 vs one
    rw [h1] at this
    cases this
    refine S.newT e2 (.cons ?_ (.one h2))
    rw [Nat.zero_add]
    exact .int _
theorem walk_zip {K : PySem.W.Frag} {p q : Addr} {xs ys : List D} {ok : List C → Prop} : WalkJ T mg H0 G0 (RZ.ItzT K p q) ok (ts ++ [(some (.ref p), .fro (.py (.tuple xs))), (some (.ref q), .fro (.py (.tuple ys)))]) ((List.zipWith (fun x y => PyData.tuple [x, y]) xs ys).map fun d => .fro (.py d)) := fun σ ρ as H S k i => by
  obtain ⟨ow, G, B, S⟩ := S
  have c1 : cel σ ρ ((ts ++ [(some (.ref p), .fro (.py (.tuple xs))), (some (.ref q), .fro (.py (.tuple ys)))]) ++ as) (.inr ts.length) = some (some (.ref p), .fro (.py (.tuple xs))) := by
    show ((ts ++ [_, _]) ++ as)[ts.length]? = _
    simp
  have c2 : cel σ ρ ((ts ++ [(some (.ref p), .fro (.py (.tuple xs))), (some (.ref q), .fro (.py (.tuple ys)))]) ++ as) (.inr (ts.length + 1)) = some (some (.ref q), .fro (.py (.tuple ys))) := by
    show ((ts ++ [_, _]) ++ as)[ts.length + 1]? = _
    simp
  obtain ⟨p', vs, e, r, hi⟩ := S.tuple c1 rfl
  cases e
  obtain ⟨q', ws, e, r2, hi2⟩ := S.tuple c2 rfl
  cases e
  have one : SqT K H p vs := .inl (.inl r)
  have two : SqT K H q ws := .inl (.inl r2)
  have a1 := (hi.2 rfl).2
  have a2 := (hi2.2 rfl).2
  refine ⟨fun c' hc => ?_, fun hl => ⟨vs, ws, one, two, by rw [a1.length, a2.length]; rw [List.length_map, List.length_zipWith] at hl; omega⟩⟩
  rw [List.getElem?_map, List.getElem?_zipWith] at hc
  cases h1 : xs[i]? with
  | none => rw [h1] at hc; cases hc
  | some d1 =>
    cases h2 : ys[i]? with
    | none => rw [h1, h2] at hc; cases hc
    | some d2 =>
      rw [h1, h2] at hc
      cases hc
      obtain ⟨x, hx, rx⟩ := a1.get h1
      obtain ⟨y, hy, ry⟩ := a2.get h2
      refine ⟨⟨vs, ws, x, y, one, two, hx, hy⟩, fun z H' hz => ?_⟩
      obtain ⟨t, x', y', e1, e2, e3, e4, e5⟩ := hz
      subst e1 e3
      have w1 := e4 vs one
      rw [hx] at w1
      cases w1
      have w2 := e5 ws two
      rw [hy] at w2
      cases w2
      exact S.newT e2 (.cons rx (.one ry))
theorem walk_rng {lo hi : Int} : WalkJ T mg H0 G0 (Itr lo (hi - lo).toNat) (fun _ => True) ts ((rgD lo hi).map fun d => .fro (.py d)) := fun σ ρ as H S _ i => by
  have hl : (rgD lo hi).length = (hi - lo).toNat := by unfold rgD; simp
  refine ⟨fun c' hc => ?_, fun h => by rw [List.length_map, hl] at h; exact h⟩
  have hi' : i < (hi - lo).toNat := by
    have := (List.getElem?_eq_some_iff.mp hc).1
    rw [List.length_map, hl] at this
    exact this
  refine ⟨hi', fun x H' hy => ?_⟩
  obtain ⟨e1, e2⟩ := hy
  subst e1 e2
  have : c' = .fro (.py (.int (lo + (i : Nat)))) := by
    unfold rgD at hc
    rw [List.map_map, List.getElem?_map, List.getElem?_range hi'] at hc
    exact (Option.some.inj hc).symm
  subst this
  exact S.num
end
end Gr

set_option Elab.async false
set_option linter.all false
set_option maxRecDepth 100000
set_option maxHeartbeats 2000000
/-! Gr K: a comprehension. -/
namespace Gr
open PySem L2
section
variable {T : Kit} {mg : Str → Option Value} {H0 G0 H H' : Hp} {W : WX} {σ : St} {ρ ρ' ρ1 : List C} {ts as : List Cell} {Q : VK} {v w : V} {c c' : C} {G B : Hp} {ow : Addr → Option Kx} {own : List Nat}
theorem wipeC_length : ∀ {own : List Nat}, (wipeC ρ own).length = ρ.length
  | [] => rfl
  | i :: is => by show ((wipeC ρ is).set i .und).length = _; rw [List.length_set, wipeC_length]
theorem wipeC_out {i : Nat} : ∀ {own : List Nat}, i ∉ own → (wipeC ρ own)[i]? = ρ[i]?
  | [], _ => rfl
  | k :: is, h => by
    show ((wipeC ρ is).set k .und)[i]? = _
    rw [List.getElem?_set_ne (fun z => h (List.mem_cons.mpr (.inl z.symm))), wipeC_out fun z => h (List.mem_cons_of_mem _ z)]
theorem wipeC_in {i : Nat} {c : C} : ∀ {own : List Nat}, i ∈ own → (wipeC ρ own)[i]? = some c → c = .und
  | k :: is, h, e => by
    have e : ((wipeC ρ is).set k .und)[i]? = some c := e
    by_cases q : k = i
    · subst q
      have hl := (List.getElem?_eq_some_iff.mp e).1
      rw [List.length_set] at hl
      rw [List.getElem?_set_self hl] at e
      exact (Option.some.inj e).symm
    · rw [List.getElem?_set_ne q] at e
      exact wipeC_in ((List.mem_cons.mp h).resolve_left fun z => q z.symm) e
theorem backC_length : ∀ {own : List Nat}, (backC ρ1 ρ own).length = ρ.length
  | [] => rfl
  | i :: is => by show ((backC ρ1 ρ is).set i (ρ1[i]?.getD .und)).length = _; rw [List.length_set, backC_length]
theorem backC_out {i : Nat} : ∀ {own : List Nat}, i ∉ own → (backC ρ1 ρ own)[i]? = ρ[i]?
  | [], _ => rfl
  | k :: is, h => by
    show ((backC ρ1 ρ is).set k (ρ1[k]?.getD .und))[i]? = _
    rw [List.getElem?_set_ne (fun z => h (List.mem_cons.mpr (.inl z.symm))), backC_out fun z => h (List.mem_cons_of_mem _ z)]
theorem backC_in {i : Nat} {c : C} : ∀ {own : List Nat}, i ∈ own → (backC ρ1 ρ own)[i]? = some c → c = ρ1[i]?.getD .und
  | k :: is, h, e => by
    have e : ((backC ρ1 ρ is).set k (ρ1[k]?.getD .und))[i]? = some c := e
    by_cases q : k = i
    · subst q
      have hl := (List.getElem?_eq_some_iff.mp e).1
      rw [List.length_set] at hl
      rw [List.getElem?_set_self hl] at e
      exact (Option.some.inj e).symm
    · rw [List.getElem?_set_ne q] at e
      exact backC_in ((List.mem_cons.mp h).resolve_left fun z => q z.symm) e
theorem wipe_in {i : Nat} {u : Option V} : ∀ {own : List Nat}, i ∈ own → (wipe σ own)[i]? = some u → u = none
  | k :: is, h, e => by
    have e : ((wipe σ is).set k none)[i]? = some u := e
    by_cases q : k = i
    · subst q
      have hl := (List.getElem?_eq_some_iff.mp e).1
      rw [List.length_set] at hl
      rw [List.getElem?_set_self hl] at e
      exact (Option.some.inj e).symm
    · rw [List.getElem?_set_ne q] at e
      exact wipe_in ((List.mem_cons.mp h).resolve_left fun z => q z.symm) e
theorem wipe_same {σ' : St} (hl : σ'.length = σ.length) (h : ∀ i, i ∉ own → σ'[i]? = σ[i]?) : wipe σ' own = wipe σ own := by
  refine List.ext_getElem? fun i => ?_
  by_cases hi : i ∈ own
  · cases q : (wipe σ own)[i]? with
    | none =>
      have := List.getElem?_eq_none_iff.mp q
      rw [wipe_length] at this
      exact List.getElem?_eq_none_iff.mpr (by rw [wipe_length]; omega)
    | some u =>
      have hu := wipe_in hi q
      subst hu
      have : i < (wipe σ' own).length := by
        have := (List.getElem?_eq_some_iff.mp q).1
        rw [wipe_length] at this ⊢
        omega
      rw [List.getElem?_eq_getElem this]
      have e := List.getElem?_eq_getElem this
      rw [wipe_in hi e]
  · rw [wipe_out hi, wipe_out hi]
    exact h i hi
/-- the block's own names forgotten -/
theorem wipe_sr (S : S0 T mg H0 G0 σ ρ ts H) : S0 T mg H0 G0 (wipe σ own) (wipeC ρ own) ts H := by
  obtain ⟨ow, G, B, S⟩ := S
  have low : ∀ {k : Kx} {w : Option V} {d : C}, cel (wipe σ own) (wipeC ρ own) ts k = some (w, d) → d = .und ∨ cel σ ρ ts k = some (w, d) := fun {k w d} e => by
    cases k with
    | inr j => exact .inr e
    | inl i =>
      obtain ⟨z1, z2⟩ := cel_inl.mp e
      by_cases hi : i ∈ own
      · exact .inl (wipeC_in hi z2)
      · rw [wipe_out hi] at z1
        rw [wipeC_out hi] at z2
        exact .inr (cel_inl.mpr ⟨z1, z2⟩)
  obtain ⟨ow', S'⟩ := S.re (σ' := wipe σ own) (ρ' := wipeC ρ own) (as := ts) id (by rw [wipe_length, wipeC_length, S.len]) (fun p hp => by cases hp) (fun i j e => by
      by_cases hi : i ∈ own
      · cases wipeC_in hi e
      · rw [wipeC_out hi] at e; exact S.npk _ _ e) (fun k w c e => by
      rcases low e with z | z
      · exact .inl z
      · exact .inr ⟨z, fun k2 _ _ h _ _ => h⟩) (fun k w j e w2 x2 e2 => by
      refine ⟨x2, ?_⟩
      rcases e2 with e2 | e2
      · rcases low e2 with z | z
        · cases z
        · exact .inl z
      · rcases low e2 with z | z
        · cases z
        · exact .inr z)
  exact ⟨ow', G, B, S'⟩
/-- the cells of the block's own names -/
def svC (σ : St) (ρ : List C) (own : List Nat) : List Cell := own.map fun i => (σ[i]?.getD none, ρ[i]?.getD .und)
theorem own_kind (h : ownOk ρ own = true) {i : Nat} (hi : i ∈ own) : ρ[i]? = some .und ∨ (∃ x, ρ[i]? = some (.fro x)) ∨ ∃ x, ρ[i]? = some (.bor x) := by
  have h := List.all_eq_true.mp h i hi
  cases q : ρ[i]? with
  | none => rw [q] at h; cases h
  | some c =>
    rw [q] at h
    cases c with
    | und => exact .inl rfl
    | fro x => exact .inr (.inl ⟨x, rfl⟩)
    | bor x => exact .inr (.inr ⟨x, rfl⟩)
    | _ => cases h
theorem sv_get {m : Nat} {d : Cell} (h : (svC σ ρ own)[m]? = some d) : ∃ i, own[m]? = some i ∧ i ∈ own ∧ d = (σ[i]?.getD none, ρ[i]?.getD .und) := by
  unfold svC at h
  rw [List.getElem?_map] at h
  cases q : own[m]? with
  | none => rw [q] at h; cases h
  | some i => rw [q] at h; exact ⟨i, rfl, List.mem_of_getElem? q, (Option.some.inj h).symm⟩
def svF (n : Nat) (own : List Nat) : Kx → Kx
  | .inl i => .inl i
  | .inr j => if j < n then .inr j else .inl (own[j - n]?.getD 0)
theorem svF_l {n i : Nat} : svF n own (.inl i) = .inl i := rfl
theorem svF_lt {n j : Nat} (h : j < n) : svF n own (.inr j) = .inr j := if_pos h
theorem svF_ge {n j : Nat} (h : ¬ j < n) : svF n own (.inr j) = .inl (own[j - n]?.getD 0) := if_neg h
def bkF (n m : Nat) (own : List Nat) : Kx → Kx
  | .inl i => if i ∈ own then .inr (m + own.idxOf i) else .inl i
  | .inr j => if j < n then .inr j else .inr (m + own.length)
theorem bkF_in {n m i : Nat} (h : i ∈ own) : bkF n m own (.inl i) = .inr (m + own.idxOf i) := if_pos h
theorem bkF_out {n m i : Nat} (h : i ∉ own) : bkF n m own (.inl i) = .inl i := if_neg h
theorem bkF_lt {n m j : Nat} (h : j < n) : bkF n m own (.inr j) = .inr j := if_pos h
theorem bkF_ge {n m j : Nat} (h : ¬ j < n) : bkF n m own (.inr j) = .inr (m + own.length) := if_neg h
/-- .. kept as temps -/
theorem save_sr (h : ownOk ρ own = true) (S : S0 T mg H0 G0 σ ρ ts H) : S0 T mg H0 G0 σ ρ (ts ++ svC σ ρ own) H := by
  obtain ⟨ow, G, B, S⟩ := S
  have hl := S.len
  have hi : ∀ {j : Nat} {w d}, cel σ ρ (ts ++ svC σ ρ own) (.inr j) = some (w, d) → ¬ j < ts.length → ∃ i, own[j - ts.length]? = some i ∧ i ∈ own ∧ cel σ ρ ts (.inl i) = some (w, d) ∧ (∀ x, d ≠ .own x) ∧ (∀ x, d ≠ .lkd x) ∧ ∀ j, d ≠ .pk j := fun {j w d} e hj => by
    have e : (ts ++ svC σ ρ own)[j]? = some (w, d) := e
    rw [List.getElem?_append_right (by omega)] at e
    obtain ⟨i, h1, h2, h3⟩ := sv_get e
    have k := own_kind h h2
    have hlt : i < ρ.length := by
      rcases k with k | ⟨x, k⟩ | ⟨x, k⟩ <;> exact (List.getElem?_eq_some_iff.mp k).1
    have hs : σ[i]? = some σ[i] := List.getElem?_eq_getElem (by omega)
    cases h3
    refine ⟨i, h1, h2, ?_, ?_⟩
    · rw [hs]
      rcases k with k | ⟨x, k⟩ | ⟨x, k⟩ <;> rw [k] <;> exact cel_inl.mpr ⟨hs, k⟩
    · rcases k with k | ⟨x, k⟩ | ⟨x, k⟩ <;> rw [k] <;> exact ⟨fun x z => (by cases z), fun x z => (by cases z), fun x z => (by cases z)⟩
  obtain ⟨ow', S'⟩ := S.re (σ' := σ) (ρ' := ρ) (as := ts ++ svC σ ρ own) (svF ts.length own) hl (fun p hp => by cases hp) S.npk (fun k w c e => by
      right
      cases k with
      | inl i =>
        refine ⟨e, fun k2 w2 c2 h2 e2 h3 => ?_⟩
        rw [svF_l] at h2
        cases k2 with
        | inl i2 => rw [svF_l] at h2; exact h2
        | inr j2 =>
          by_cases hj : j2 < ts.length
          · rw [svF_lt hj] at h2; cases h2
          · obtain ⟨_, _, _, _, n1, n2, _⟩ := hi e2 hj
            obtain ⟨x, h3 | h3⟩ := h3
            · exact absurd h3 (n1 x)
            · exact absurd h3 (n2 x)
      | inr j =>
        by_cases hj : j < ts.length
        · refine ⟨?_, fun k2 w2 c2 h2 e2 h3 => ?_⟩
          · rw [svF_lt hj]
            have e : (ts ++ svC σ ρ own)[j]? = some (w, c) := e
            rw [List.getElem?_append_left hj] at e
            exact e
          · rw [svF_lt hj] at h2
            cases k2 with
            | inl i2 => rw [svF_l] at h2; cases h2
            | inr j2 =>
              by_cases hj2 : j2 < ts.length
              · rw [svF_lt hj2] at h2; exact h2
              · rw [svF_ge hj2] at h2; cases h2
        · obtain ⟨i, h1, h2, h3, n1, n2, _⟩ := hi e hj
          refine ⟨?_, fun k2 w2 c2 h4 e2 h5 => ?_⟩
          · rw [svF_ge hj, h1]; exact h3
          · rw [svF_ge hj, h1] at h4
            cases k2 with
            | inl i2 =>
              rw [svF_l] at h4
              cases h4
              have e2 : cel σ ρ ts (.inl i) = some (w2, c2) := e2
              rw [h3] at e2
              cases e2
              obtain ⟨x, h5 | h5⟩ := h5
              · exact absurd h5 (n1 x)
              · exact absurd h5 (n2 x)
            | inr j2 =>
              by_cases hj2 : j2 < ts.length
              · rw [svF_lt hj2] at h4; cases h4
              · obtain ⟨_, _, _, _, n1, n2, _⟩ := hi e2 hj2
                obtain ⟨x, h5 | h5⟩ := h5
                · exact absurd h5 (n1 x)
                · exact absurd h5 (n2 x)) (fun k w j e w2 x2 e2 => ⟨x2, e2⟩)
  exact ⟨ow', G, B, S'⟩
/-- .. and put back -/
theorem back_sr {d : Cell} (h : ownOk ρ1 own = true) (hlen : σ.length = ρ1.length) (S : S0 T mg H0 G0 (wipe σ own) ρ (ts ++ as ++ (svC σ ρ1 own ++ [d])) H) : S0 T mg H0 G0 σ (backC ρ1 ρ own) (ts ++ [d]) H := by
  obtain ⟨ow, G, B, S⟩ := S
  have hl : σ.length = ρ.length := by rw [← S.len, wipe_length]
  have hsv : (svC σ ρ1 own).length = own.length := by unfold svC; rw [List.length_map]
  have quiet : ∀ {i : Nat} {w : Option V} {c : C}, i ∈ own → cel σ (backC ρ1 ρ own) (ts ++ [d]) (.inl i) = some (w, c) → cel (wipe σ own) ρ (ts ++ as ++ (svC σ ρ1 own ++ [d])) (.inr ((ts ++ as).length + own.idxOf i)) = some (w, c) ∧ (∀ x, c ≠ .own x) ∧ (∀ x, c ≠ .lkd x) ∧ ∀ j, c ≠ .pk j := fun {i w c} hi e => by
    obtain ⟨z1, z2⟩ := cel_inl.mp e
    have ec := backC_in hi z2
    have k := own_kind h hi
    have hx : own.idxOf i < own.length := List.idxOf_lt_length_of_mem hi
    refine ⟨?_, ?_⟩
    · show (ts ++ as ++ (svC σ ρ1 own ++ [d]))[(ts ++ as).length + own.idxOf i]? = _
      rw [List.getElem?_append_right (Nat.le_add_right _ _), Nat.add_sub_cancel_left, List.getElem?_append_left (by rw [hsv]; exact hx)]
      unfold svC
      rw [List.getElem?_map, List.getElem?_eq_getElem hx]
      show some _ = _
      have : own[own.idxOf i] = i := List.getElem_idxOf hx
      rw [this]
      show some (σ[i]?.getD none, ρ1[i]?.getD .und) = _
      rw [z1, ← ec]
      rfl
    · rw [ec]
      rcases k with k | ⟨x, k⟩ | ⟨x, k⟩ <;> rw [k] <;> exact ⟨fun x z => (by cases z), fun x z => (by cases z), fun x z => (by cases z)⟩
  have out : ∀ {i : Nat} {w : Option V} {c : C}, i ∉ own → cel σ (backC ρ1 ρ own) (ts ++ [d]) (.inl i) = some (w, c) → cel (wipe σ own) ρ (ts ++ as ++ (svC σ ρ1 own ++ [d])) (.inl i) = some (w, c) := fun {i w c} hi e => by
    obtain ⟨z1, z2⟩ := cel_inl.mp e
    rw [backC_out hi] at z2
    exact cel_inl.mpr ⟨by rw [wipe_out hi]; exact z1, z2⟩
  have tm : ∀ {j : Nat} {w : Option V} {c : C}, cel σ (backC ρ1 ρ own) (ts ++ [d]) (.inr j) = some (w, c) → (j < ts.length ∧ cel (wipe σ own) ρ (ts ++ as ++ (svC σ ρ1 own ++ [d])) (.inr j) = some (w, c)) ∨ (j = ts.length ∧ cel (wipe σ own) ρ (ts ++ as ++ (svC σ ρ1 own ++ [d])) (.inr ((ts ++ as).length + own.length)) = some (w, c)) := fun {j w c} e => by
    rcases cel_snoc e with ⟨z, q⟩ | ⟨z, q⟩
    · refine .inr ⟨Sum.inr.inj z, ?_⟩
      show (ts ++ as ++ (svC σ ρ1 own ++ [d]))[(ts ++ as).length + own.length]? = _
      rw [List.getElem?_append_right (Nat.le_add_right _ _), Nat.add_sub_cancel_left, List.getElem?_append_right (by omega), hsv, Nat.sub_self, q]
      rfl
    · have q : ts[j]? = some (w, c) := q
      have hj := (List.getElem?_eq_some_iff.mp q).1
      refine .inl ⟨hj, ?_⟩
      show (ts ++ as ++ (svC σ ρ1 own ++ [d]))[j]? = _
      rw [List.append_assoc, List.getElem?_append_left hj]
      exact q
  have lt : ∀ {i}, i ∈ own → own.idxOf i < own.length := fun hi => List.idxOf_lt_length_of_mem hi
  have hta : ts.length ≤ (ts ++ as).length := by rw [List.length_append]; omega
  obtain ⟨ow', S'⟩ := S.re (σ' := σ) (ρ' := backC ρ1 ρ own) (as := ts ++ [d]) (bkF ts.length (ts ++ as).length own) (by rw [backC_length]; exact hl) (fun p hp => by cases hp) (fun i j e => by
      by_cases hi : i ∈ own
      · have ec := backC_in hi e
        have k := own_kind h hi
        rcases k with k | ⟨x, k⟩ | ⟨x, k⟩ <;> rw [k] at ec <;> cases ec
      · rw [backC_out hi] at e; exact S.npk _ _ e) (fun k w c e => by
      right
      cases k with
      | inl i =>
        by_cases hi : i ∈ own
        · obtain ⟨q1, n1, n2, _⟩ := quiet hi e
          refine ⟨by rw [bkF_in hi]; exact q1, fun k2 w2 c2 h2 e2 h3 => ?_⟩
          rw [bkF_in hi] at h2
          exfalso
          cases k2 with
          | inl i2 =>
            by_cases hi2 : i2 ∈ own
            · obtain ⟨_, m1, m2, _⟩ := quiet hi2 e2
              obtain ⟨x, h3 | h3⟩ := h3
              · exact m1 x h3
              · exact m2 x h3
            · rw [bkF_out hi2] at h2; cases h2
          | inr j2 =>
            have := lt hi
            by_cases hj : j2 < ts.length
            · rw [bkF_lt hj] at h2
              have := Sum.inr.inj h2
              omega
            · rw [bkF_ge hj] at h2
              have := Sum.inr.inj h2
              omega
        · refine ⟨by rw [bkF_out hi]; exact out hi e, fun k2 w2 c2 h2 e2 h3 => ?_⟩
          rw [bkF_out hi] at h2
          cases k2 with
          | inl i2 =>
            by_cases hi2 : i2 ∈ own
            · rw [bkF_in hi2] at h2; cases h2
            · rw [bkF_out hi2] at h2; exact h2
          | inr j2 =>
            by_cases hj : j2 < ts.length
            · rw [bkF_lt hj] at h2; cases h2
            · rw [bkF_ge hj] at h2; cases h2
      | inr j =>
        have nq : ∀ {k2 : Kx} {w2 c2}, cel σ (backC ρ1 ρ own) (ts ++ [d]) k2 = some (w2, c2) → (∃ x, c2 = .own x ∨ c2 = .lkd x) → ∀ i, k2 = .inl i → i ∉ own := fun {k2 w2 c2} e2 h3 i ei hi => by
          subst ei
          obtain ⟨_, m1, m2, _⟩ := quiet hi e2
          obtain ⟨x, h3 | h3⟩ := h3
          · exact m1 x h3
          · exact m2 x h3
        rcases tm e with ⟨hj, q⟩ | ⟨hj, q⟩
        · refine ⟨by rw [bkF_lt hj]; exact q, fun k2 w2 c2 h2 e2 h3 => ?_⟩
          rw [bkF_lt hj] at h2
          cases k2 with
          | inl i2 => rw [bkF_out (nq e2 h3 i2 rfl)] at h2; cases h2
          | inr j2 =>
            by_cases hj2 : j2 < ts.length
            · rw [bkF_lt hj2] at h2; exact h2
            · rw [bkF_ge hj2] at h2
              have := Sum.inr.inj h2
              omega
        · subst hj
          refine ⟨by rw [bkF_ge (Nat.lt_irrefl _)]; exact q, fun k2 w2 c2 h2 e2 h3 => ?_⟩
          rw [bkF_ge (Nat.lt_irrefl _)] at h2
          cases k2 with
          | inl i2 => rw [bkF_out (nq e2 h3 i2 rfl)] at h2; cases h2
          | inr j2 =>
            rcases tm e2 with ⟨hj2, _⟩ | ⟨hj2, _⟩
            · rw [bkF_lt hj2] at h2
              have := Sum.inr.inj h2
              omega
            · rw [hj2]) (fun k w j e w2 x2 e2 => by
      refine ⟨x2, ?_⟩
      have hj : j ∉ own := fun hj => by
        rcases e2 with e2 | e2
        · exact (quiet hj e2).2.1 _ rfl
        · exact (quiet hj e2).2.2.1 _ rfl
      exact e2.elim (fun z => .inl (out hj z)) fun z => .inr (out hj z))
  exact ⟨ow', G, B, S'⟩
/-- an item is added to the new list -/
theorem app_sr {D : Addr} {acc : List PyData} {d : PyData} {y : V} (S : S0 T mg H0 G0 σ ρ (ts ++ [(some (.ref D), .own (.py (.list acc)))] ++ [(some y, .fro (.py d))]) H) : ∃ vs, H D = some (.lst vs) ∧ vs.length = acc.length ∧ S0 T mg H0 G0 σ ρ (ts ++ [(some (.ref D), .own (.py (.list (acc ++ [d]))))]) (upd H D (.lst (vs ++ [y]))) := by
  obtain ⟨ow, G, B, S⟩ := S
  have hk : cel σ ρ (ts ++ [(some (.ref D), .own (.py (.list acc)))] ++ [(some y, .fro (.py d))]) (.inr ts.length) = some (some (.ref D), .own (.py (.list acc))) := cel_at2
  obtain ⟨a, e1, e2, vs, h1, h2⟩ := S.rel _ _ _ hk
  cases e1
  obtain ⟨u, e3, r⟩ := S.rel _ _ _ (cel_last (d := (some y, C.fro (.py d))))
  cases e3
  have r : Rp G y d := r
  refine ⟨vs, h1, h2.length, ⟨ow, G, B, S.mut (y := .py (.list (acc ++ [d]))) hk S.len S.npk ⟨_, upd_same, h2.append (.one r)⟩ fun k' w c' e => ?_⟩⟩
  rcases cel_snoc e with ⟨z, q⟩ | ⟨z, q⟩
  · subst z
    cases q
    exact .inr ⟨rfl, rfl, rfl⟩
  · exact .inl ⟨z, cel_snoc_lt (cel_snoc_lt q)⟩
def rdC (T : Kit) (mg : Str → Option Value) (H0 G0 : Hp) : Oe → TT
  | .no => tYes
  | .yes m => rdT T mg H0 G0 (fun _ _ _ _ => False) m
theorem lcGo_ok {lk : Lk} {tg : Tg} {cond elt : List C → RE} : ∀ {cs : List C} {acc : List D} {ρ : List C} {r : C} {ρ' : List C}, lcGo lk own tg cond elt cs acc ρ = .ok r ρ' → lkIs ρ lk
  | [], acc, ρ, r, ρ', h => by
    unfold lcGo at h
    split at h
    · assumption
    · cases h
  | c :: cs, acc, ρ, r, ρ', h => by
    unfold lcGo at h
    split at h
    · assumption
    · cases h
theorem wipe_idem : wipe (wipe σ own) own = wipe σ own := by
  refine wipe_same (wipe_length _ _) fun i hi => by rw [wipe_out hi]
/-- THE COMPREHENSION, as HandS reads one -/
theorem lc_read {K : PySem.W.Frag} {tg : Tg} {it : It} {cond : Oe} {elt : E} (ht : ∀ i ∈ tgIx tg, i ∈ own) (h : rdE T mg H0 G0 W (.lc own tg it cond elt) σ H Q) :
    tLc (rdI T mg H0 G0 W it) (tgG K tg) (rdC T mg H0 G0 cond) (rdE T mg H0 G0 (fun _ _ _ _ => False) elt) own σ H Q := by
  obtain ⟨ρ, ts, S, h⟩ := h
  refine ⟨ρ, ts, S, ?_⟩
  have h : endE T mg H0 G0 W σ ts Q ((evI T it ρ).go fun cs lk ρ => if ownOk ρ own then
      (match lcGo lk own tg (fun ρ => evC T cond ρ) (fun ρ => ev T elt ρ) cs [] (wipeC ρ own) with
      | .ok c ρ' => .ok c (backC ρ ρ' own)
      | r => .stuck)
    else .stuck) := by
    have h2 := h
    unfold ev at h2
    exact h2
  cases hI : evI T it ρ with
  | err n ρ' => rw [hI] at h; exact h
  | stuck => rw [hI] at h; exact h.elim
  | ok cs lk ρ1 =>
    rw [hI] at h
    intro J H1 as hW S1 hpk hk D hD
    unfold RI.go at h
    by_cases ho : ownOk ρ1 own = true
    · cases hG : lcGo lk own tg (fun ρ => evC T cond ρ) (fun ρ => ev T elt ρ) cs [] (wipeC ρ1 own) with
      | ok r ρf =>
        have h : endE T mg H0 G0 W σ ts Q (open Classical in if lkIs (backC ρ1 ρf own) lk then .ok r (unlock (backC ρ1 ρf own) lk) else .stuck) := by
          simp only [ho, if_true, hG] at h
          exact h
        by_cases hlk : lkIs (backC ρ1 ρf own) lk
        · rw [if_pos hlk] at h
          have hlen := S1.len
          have A := wipe_sr (own := own) (save_sr ho S1)
          have A2 : S0 T mg H0 G0 (wipe σ own) (wipeC ρ1 own) (ts ++ as ++ (svC σ ρ1 own ++ [(some (.ref D), .own (.py (.list [])))])) (upd H1 D (.lst [])) := by
            rw [← List.append_assoc]
            obtain ⟨ow, G, B, A⟩ := A
            exact A.newL hD .nil
          refine ⟨fun i m H => ∃ ρ acc, m = cs.length - i ∧ i ≤ cs.length ∧ S0 T mg H0 G0 (wipe σ own) ρ (ts ++ as ++ (svC σ ρ1 own ++ [(some (.ref D), .own (.py (.list acc)))])) H ∧ lcGo lk own tg (fun ρ => evC T cond ρ) (fun ρ => ev T elt ρ) (cs.drop i) acc ρ = .ok r ρf, ⟨cs.length, _, [], by simp, Nat.zero_le _, A2, by rw [List.drop_zero]; exact hG⟩, ?_⟩
          rintro i m H2 ⟨ρ2, acc, rfl, hi, S2, hgo⟩
          have hlk2 := lcGo_ok hgo
          have hw := hW _ _ _ _ S2 hlk2 i
          by_cases hlt : i < cs.length
          · obtain ⟨hgo1, hyl⟩ := hw.1 cs[i] (List.getElem?_eq_getElem hlt)
            rw [List.drop_eq_getElem_cons hlt] at hgo
            unfold lcGo at hgo
            rw [if_pos hlk2] at hgo
            cases hs : setTg [] ρ2 tg cs[i] with
            | none => rw [hs] at hgo; cases hgo
            | some ρ3 =>
              rw [hs] at hgo
              have hgo : (match evC T cond ρ3 with
                | .ok (.fro (.py (.bool false))) ρ2 => lcGo lk own tg (fun ρ => evC T cond ρ) (fun ρ => ev T elt ρ) (cs.drop (i + 1)) acc (wipeC ρ2 own)
                | .ok (.fro (.py (.bool true))) ρ2 => match ev T elt ρ2 with
                  | .ok c ρ3 => match fzD ρ3 c with
                    | some (d, ρ4) => if acc.length < line then lcGo lk own tg (fun ρ => evC T cond ρ) (fun ρ => ev T elt ρ) (cs.drop (i + 1)) (acc ++ [d]) (wipeC ρ4 own) else .stuck
                    | none => .stuck
                  | _ => .stuck
                | _ => .stuck) = RE.ok r ρf := hgo
              refine .inr ⟨hgo1, fun H => ∃ ρ acc, S0 T mg H0 G0 (wipe σ own) ρ (ts ++ as ++ (svC σ ρ1 own ++ [(some (.ref D), .own (.py (.list acc)))])) H ∧ lcGo lk own tg (fun ρ => evC T cond ρ) (fun ρ => ev T elt ρ) (cs.drop (i + 1)) acc ρ = .ok r ρf, ?_, ?_⟩
              · rintro H' ⟨ρ', acc', a1, a2⟩
                exact ⟨cs.length - (i + 1), by omega, ρ', acc', rfl, hlt, a1, a2⟩
              · intro x H3 hy
                have S3 := hyl x H3 hy
                refine setTg_ok S3 (hk _ (List.getElem_mem hlt)) hs fun σ' e1 e2 S4 => ?_
                have hw2 : wipe σ' own = wipe σ own := by
                  rw [wipe_same (σ := wipe σ own) e1 fun j hj => e2 j fun z => hj (ht j z), wipe_idem]
                refine ⟨hw2, ?_⟩
                have body : ∀ {b : Bool} {ρ5 : List C} {H5 : Hp}, evC T cond ρ3 = .ok (bool b) ρ5 → S0 T mg H0 G0 σ' ρ5 (ts ++ as ++ (svC σ ρ1 own ++ [(some (.ref D), .own (.py (.list acc)))])) H5 →
                    (if b = true then rdE T mg H0 G0 (fun _ _ _ _ => False) elt σ' H5 (fun y H4 => ∃ acc, H4 D = some (.lst acc) ∧ acc.length < sizeLine ∧ (fun H => ∃ ρ acc, S0 T mg H0 G0 (wipe σ own) ρ (ts ++ as ++ (svC σ ρ1 own ++ [(some (.ref D), .own (.py (.list acc)))])) H ∧ lcGo lk own tg (fun ρ => evC T cond ρ) (fun ρ => ev T elt ρ) (cs.drop (i + 1)) acc ρ = .ok r ρf) (upd H4 D (.lst (acc ++ [y]))))
                      else (fun H => ∃ ρ acc, S0 T mg H0 G0 (wipe σ own) ρ (ts ++ as ++ (svC σ ρ1 own ++ [(some (.ref D), .own (.py (.list acc)))])) H ∧ lcGo lk own tg (fun ρ => evC T cond ρ) (fun ρ => ev T elt ρ) (cs.drop (i + 1)) acc ρ = .ok r ρf) H5) := fun {b ρ5 H5} ec S5 => by
                  rw [ec] at hgo
                  cases b with
                  | false =>
                    rw [if_neg (by decide)]
                    refine ⟨wipeC ρ5 own, acc, ?_, hgo⟩
                    have := wipe_sr (own := own) S5
                    rw [hw2] at this
                    exact this
                  | true =>
                    rw [if_pos rfl]
                    have hgo : (match ev T elt ρ5 with
                      | .ok c ρ3 => match fzD ρ3 c with
                        | some (d, ρ4) => if acc.length < line then lcGo lk own tg (fun ρ => evC T cond ρ) (fun ρ => ev T elt ρ) (cs.drop (i + 1)) (acc ++ [d]) (wipeC ρ4 own) else .stuck
                        | none => .stuck
                      | _ => .stuck) = RE.ok r ρf := hgo
                    refine ⟨ρ5, _, S5, ?_⟩
                    cases ee : ev T elt ρ5 with
                    | err n _ => rw [ee] at hgo; cases hgo
                    | stuck => rw [ee] at hgo; cases hgo
                    | ok c6 ρ6 =>
                      rw [ee] at hgo
                      have hgo : (match fzD ρ6 c6 with
                        | some (d, ρ4) => if acc.length < line then lcGo lk own tg (fun ρ => evC T cond ρ) (fun ρ => ev T elt ρ) (cs.drop (i + 1)) (acc ++ [d]) (wipeC ρ4 own) else .stuck
                        | none => .stuck) = RE.ok r ρf := hgo
                      intro y H6 S6
                      cases ef : fzD ρ6 c6 with
                      | none => rw [ef] at hgo; cases hgo
                      | some p =>
                        obtain ⟨d, ρ7⟩ := p
                        rw [ef] at hgo
                        have hgo : (if acc.length < line then lcGo lk own tg (fun ρ => evC T cond ρ) (fun ρ => ev T elt ρ) (cs.drop (i + 1)) (acc ++ [d]) (wipeC ρ7 own) else .stuck) = RE.ok r ρf := hgo
                        by_cases hz : acc.length < line
                        · rw [if_pos hz] at hgo
                          have ef' : ((Gr.fz ρ6 c6).bind fun p => p.1.see.map fun d => (d, p.2)) = some (d, ρ7) := ef
                          cases eg : Gr.fz ρ6 c6 with
                          | none => rw [eg] at ef'; cases ef'
                          | some p2 =>
                            obtain ⟨x2, ρ8⟩ := p2
                            rw [eg] at ef'
                            cases x2 with
                            | py d' =>
                              cases ef'
                              have S7 := SR.fz (as := []) S6 eg
                              rw [← List.append_assoc] at S7
                              obtain ⟨vs, q1, q2, q3⟩ := app_sr S7
                              refine ⟨vs, q1, by rw [q2, sizeLine_eq]; exact hz, wipeC _ own, acc ++ [d], ?_, hgo⟩
                              have := wipe_sr (own := own) q3
                              rw [hw2, List.append_assoc] at this
                              exact this
                            | _ => cases ef'
                        · rw [if_neg hz] at hgo; cases hgo
                cases cond with
                | no => exact body (b := true) rfl S4
                | yes mc =>
                  refine ⟨ρ3, _, S4, ?_⟩
                  have hev : ∀ {z}, ev T mc ρ3 = z → evC T (.yes mc) ρ3 = z := fun {z} e => by unfold evC; exact e
                  cases ec : ev T mc ρ3 with
                  | err n _ => rw [hev ec] at hgo; cases hgo
                  | stuck => rw [hev ec] at hgo; cases hgo
                  | ok c5 ρ5 =>
                    have ec2 := hev ec
                    rw [ec2] at hgo
                    have : ∃ b, c5 = bool b := by
                      cases c5 with
                      | fro x =>
                        cases x with
                        | py d =>
                          cases d with
                          | bool b => exact ⟨b, rfl⟩
                          | _ => cases hgo
                        | _ => cases hgo
                      | _ => cases hgo
                    obtain ⟨b, rfl⟩ := this
                    exact ⟨b, rfl, fun H5 S5 => body ec2 S5⟩
          · have hie : i = cs.length := by omega
            subst hie
            rw [List.drop_length] at hgo
            unfold lcGo at hgo
            rw [if_pos hlk2] at hgo
            cases hgo
            exact .inl ⟨hw.2 (Nat.le_refl _), h _ _ (unlock_ok (back_sr ho hlen S2) hlk)⟩
        · rw [if_neg hlk] at h; exact h.elim
      | err n _ => exfalso; simp only [ho, if_true, hG] at h; exact h
      | stuck => exfalso; simp only [ho, if_true, hG] at h; exact h
    · exfalso; simp only [ho] at h; exact h
end
end Gr

set_option Elab.async false
set_option linter.all false
set_option maxRecDepth 100000
set_option maxHeartbeats 2000000
/-! Gr L: what a term's reading asks of its parts. -/
namespace Gr
open PySem L2
section
variable {T : Kit} {mg : Str → Option Value} {H0 G0 H H' : Hp} {W : WX} {σ : St} {ρ ρ' ρ1 : List C} {ts as : List Cell} {Q : VK} {v w : V} {c c' : C} {G B : Hp} {ow : Addr → Option Kx} {own : List Nat}
variable {a b d : E} {X : Cx}
theorem rd_v {i : Nat} (h : rdE T mg H0 G0 W (.v i) σ H Q) : tVar i σ H Q := by
  obtain ⟨ρ, ts, S, h⟩ := h
  have h : endE T mg H0 G0 W σ ts Q (match ρ[i]? with
    | some (.fro x) => .ok (.fro x) ρ
    | some (.bor x) => .ok (.bor x) ρ
    | some (.own _) => .ok (.pk i) ρ
    | some (.lkd _) => .ok (.pk i) ρ
    | some (.exc n) => .ok (.exc n) ρ
    | _ => .stuck) := by unfold ev at h; exact h
  cases q : ρ[i]? with
  | none => rw [q] at h; exact h.elim
  | some c =>
    rw [q] at h
    cases c with
    | fro x => obtain ⟨v, e, S'⟩ := S.var q rfl; exact ⟨v, e, h v H S'⟩
    | bor x => obtain ⟨v, e, S'⟩ := S.var q rfl; exact ⟨v, e, h v H S'⟩
    | own x => obtain ⟨v, e, S'⟩ := S.var q rfl; exact ⟨v, e, h v H S'⟩
    | lkd x => obtain ⟨v, e, S'⟩ := S.var q rfl; exact ⟨v, e, h v H S'⟩
    | exc n => obtain ⟨v, e, S'⟩ := S.var q rfl; exact ⟨v, e, h v H S'⟩
    | _ => exact h.elim
theorem rd_int {n : Int} (h : rdE T mg H0 G0 W (.int n) σ H Q) : tC (.int n) σ H Q := by
  obtain ⟨ρ, ts, S, h⟩ := h
  unfold ev at h
  exact h _ _ S.num
theorem rd_gint {x : Str} {n : Int} (h : rdE T mg H0 G0 W (.gint x n) σ H Q) : tC (.int n) σ H Q := by
  obtain ⟨ρ, ts, S, h⟩ := h
  unfold ev at h
  exact h _ _ S.num
theorem rd_bl {n : Bool} (h : rdE T mg H0 G0 W (.bl n) σ H Q) : tC (.bl n) σ H Q := by
  obtain ⟨ρ, ts, S, h⟩ := h
  unfold ev at h
  exact h _ _ S.bool
theorem rd_non (h : rdE T mg H0 G0 W .non σ H Q) : tC .non σ H Q := by
  obtain ⟨ρ, ts, S, h⟩ := h
  unfold ev at h
  exact h _ _ (S.scal fun _ => .non)
theorem rd_str {x : Str} (h : rdE T mg H0 G0 W (.str x) σ H Q) : tC (.str x) σ H Q := by
  obtain ⟨ρ, ts, S, h⟩ := h
  unfold ev at h
  exact h _ _ (S.scal fun _ => .str x)
theorem rd_frz (h : rdE T mg H0 G0 W (.frz a) σ H Q) : rdE T mg H0 G0 W a σ H Q := by
  obtain ⟨ρ, ts, S, h⟩ := h
  unfold ev at h
  refine rdE.bind0 S h fun c ρ' v H' S' h => ?_
  cases q : fz ρ' c with
  | none => rw [q] at h; exact h.elim
  | some p =>
    obtain ⟨x, ρ2⟩ := p
    rw [q] at h
    exact h v H' (SR.fz (as := []) S' q)
theorem rd_neg (h : rdE T mg H0 G0 W (.neg a) σ H Q) : tUn (rU fun i => .int (-i)) (rdE T mg H0 G0 W a) σ H Q := by
  obtain ⟨ρ, ts, S, h⟩ := h
  unfold ev at h
  refine rdE.bind0 S h fun c ρ' v H' S' h => ?_
  cases q : see ρ' c with
  | none => rw [q] at h; exact h.elim
  | some d =>
    rw [q] at h
    cases d with
    | int i => exact ⟨i, (S'.lastD q).intV, h _ _ S'.pop.num⟩
    | _ => exact h.elim
theorem rd_op {o : Op} (h : rdE T mg H0 G0 W (.op o a b) σ H Q) : tOp (rO X.K o) (rdE T mg H0 G0 W a) (rdE T mg H0 G0 W b) σ H Q := by
  obtain ⟨ρ, ts, S, h⟩ := h
  unfold ev at h
  refine rdE.bind0 S h fun c ρ' v H' S' h => rdE.bind S' h fun c' ρ'' w H'' S'' h => ?_
  cases q1 : see ρ'' c with
  | none => rw [q1] at h; exact h.elim
  | some d1 =>
    cases q2 : see ρ'' c' with
    | none => rw [q1, q2] at h; exact h.elim
    | some d2 =>
      rw [q1, q2] at h
      have h : endE T mg H0 G0 W σ ts Q (match opC o d1 d2 with
        | some r => match r with
          | .own (.py (.list ds)) => if clear c ds && clear c' ds then .ok r ρ'' else .stuck
          | .fro (.py (.tuple ds)) => .ok (if isBor c || isBor c' then .bor (.py (.tuple ds)) else .fro (.py (.tuple ds))) ρ''
          | r => .ok r ρ''
        | none => .stuck) := h
      cases q3 : opC o d1 d2 with
      | none => rw [q3] at h; exact h.elim
      | some r =>
        rw [q3] at h
        have go : ∀ r', opFin c c' r = some r' → endE T mg H0 G0 W σ ts Q (.ok r' ρ'') → rO X.K o v w H'' Q := fun r' e h => op_res S'' q1 q2 q3 e h
        cases r with
        | own x =>
          cases x with
          | py d =>
            cases d with
            | list ds =>
              have h : endE T mg H0 G0 W σ ts Q (if clear c ds && clear c' ds then .ok (.own (.py (.list ds))) ρ'' else .stuck) := h
              by_cases hc : (clear c ds && clear c' ds) = true
              · rw [if_pos hc] at h
                exact go _ (if_pos hc) h
              · rw [if_neg hc] at h; exact h.elim
            | _ => exact go _ rfl h
          | _ => exact go _ rfl h
        | fro x =>
          cases x with
          | py d =>
            cases d with
            | tuple ds => exact go _ rfl h
            | _ => exact go _ rfl h
          | _ => exact go _ rfl h
        | _ => exact go _ rfl h
theorem cm_fin {o : Cm} {r : Option Bool} {x y : Tx} (S : S0 T mg H0 G0 σ ρ (ts ++ [(some v, c)] ++ [(some w, c')]) H) {b : Bool} (h : cmR ρ o c c' = some b) (q : Q (.bl b) H) : rCm o v w H Q := by
  unfold cmR at h
  cases q1 : look ρ c with
  | none => rw [q1] at h; cases h
  | some x =>
    cases q2 : look ρ c' with
    | none => rw [q1, q2] at h; cases h
    | some y =>
      rw [q1, q2] at h
      exact cmX_ok (S.last2 q1) (S.last q2) h q
theorem rd_cm {o : Cm} (h : rdE T mg H0 G0 W (.cm o a b) σ H Q) : tOp (rCm o) (rdE T mg H0 G0 W a) (rdE T mg H0 G0 W b) σ H Q := by
  obtain ⟨ρ, ts, S, h⟩ := h
  unfold ev at h
  refine rdE.bind0 S h fun c ρ' v H' S' h => rdE.bind S' h fun c' ρ'' w H'' S'' h => ?_
  cases q1 : cmR ρ'' o c c' with
  | none => rw [q1] at h; exact h.elim
  | some b =>
    rw [q1] at h
    exact cm_fin (r := none) (x := .py .none) (y := .py .none) S'' q1 (h _ _ S''.pop2.bool)
theorem rx_non {x : Tx} (h : RX T.g mg H v x) (n : x ≠ .py .none) : v ≠ .non := fun e => by
  subst e
  cases x with
  | py d => cases h; exact n rfl
  | dik _ => obtain ⟨_, _, e, _⟩ := h; cases e
  | dit _ => obtain ⟨_, _, e, _⟩ := h; cases e
  | obj _ _ => obtain ⟨_, e, _⟩ := h; cases e
  | lls _ => cases h
theorem isn_fin {ng : Bool} {H1 : Hp} (S : S0 T mg H0 G0 σ ρ (ts ++ [(some v, c)]) H1) (h : endE T mg H0 G0 W σ ts Q (match isnC ng ρ c with
    | some b => .ok (bool b) ρ
    | none => .stuck)) : Q (.bl (if ng then !decide (v = .non) else decide (v = .non))) H1 := by
  have yes : v = .non → isnC ng ρ c = some (!ng) → Q (.bl (if ng then !decide (v = .non) else decide (v = .non))) H1 := fun e e2 => by
    rw [e2] at h
    have := h _ _ S.pop.bool
    rw [decide_eq_true e]
    cases ng <;> exact this
  have no : v ≠ .non → isnC ng ρ c = some ng → Q (.bl (if ng then !decide (v = .non) else decide (v = .non))) H1 := fun e e2 => by
    rw [e2] at h
    have := h _ _ S.pop.bool
    rw [decide_eq_false e]
    cases ng <;> exact this
  have gen : isnC ng ρ c = (look ρ c).map (fun x => match x with | .py .none => !ng | _ => ng) → Q (.bl (if ng then !decide (v = .non) else decide (v = .non))) H1 := fun e => by
    cases q : look ρ c with
    | none => rw [e, q] at h; exact h.elim
    | some x =>
      have r := S.last q
      rw [q] at e
      cases x with
      | py d =>
        cases d with
        | none =>
          have r : Rp H1 v .none := r
          exact yes r.nonV e
        | _ => exact no (rx_non r fun z => by cases z) e
      | _ => exact no (rx_non r fun z => by cases z) e
  cases c with
  | exc n =>
    obtain ⟨ow, G, B, S1⟩ := id S
    obtain ⟨u, e, a, Cx, nm, e2, _⟩ := S1.rel _ _ _ (cel_last (d := (some v, C.exc n)))
    cases e
    exact no (by rw [e2]; exact fun z => by cases z) rfl
  | _ => exact gen rfl
theorem rd_isF (h : rdE T mg H0 G0 W (.isn false a) σ H Q) : tIsN (rdE T mg H0 G0 W a) σ H Q := by
  obtain ⟨ρ, ts, S, h⟩ := h
  unfold ev at h
  exact rdE.bind0 S h fun c ρ' v H' S' h => isn_fin (ng := false) S' h
theorem rd_isT (h : rdE T mg H0 G0 W (.isn true a) σ H Q) : tNotN (rdE T mg H0 G0 W a) σ H Q := by
  obtain ⟨ρ, ts, S, h⟩ := h
  unfold ev at h
  exact rdE.bind0 S h fun c ρ' v H' S' h => isn_fin (ng := true) S' h
theorem rd_chn {o p : Cm} (h : rdE T mg H0 G0 W (.chn o p a b d) σ H Q) : tChain (rCm o) (rCm p) (rdE T mg H0 G0 W a) (rdE T mg H0 G0 W b) (rdE T mg H0 G0 W d) σ H Q := by
  obtain ⟨ρ, ts, S, h⟩ := h
  unfold ev at h
  refine rdE.bind0 S h fun c ρ' v H' S' h => rdE.bind S' h fun c' ρ'' w H'' S'' h => ?_
  cases q1 : cmR ρ'' o c c' with
  | none => rw [q1] at h; exact h.elim
  | some k =>
    rw [q1] at h
    refine cm_fin (r := none) (x := .py .none) (y := .py .none) S'' q1 ⟨k, rfl, ?_⟩
    cases k with
    | false => rw [if_neg (by decide)]; exact h _ _ S''.pop2.bool
    | true =>
      rw [if_pos rfl]
      rw [List.append_assoc] at S''
      refine rdE.bind S'' h fun c2 ρ3 u H3 S3 h => ?_
      rw [← List.append_assoc] at S3
      cases q2 : cmR ρ3 p c' c2 with
      | none => rw [q2] at h; exact h.elim
      | some k2 =>
        rw [q2] at h
        refine cm_fin (r := none) (x := .py .none) (y := .py .none) S3 q2 (h _ _ ?_)
        exact S3.pop2.pop.bool
theorem rd_and (h : rdE T mg H0 G0 W (.and a b) σ H Q) : tAndV (rdE T mg H0 G0 W a) (rdE T mg H0 G0 W b) σ H Q := by
  obtain ⟨ρ, ts, S, h⟩ := h
  unfold ev at h
  refine rdE.bind0 S h fun c ρ' v H' S' h => ?_
  cases c with
  | fro x =>
    cases x with
    | py d =>
      cases d with
      | bool k =>
        have r : Rp H' v (.bool k) := S'.last rfl
        refine ⟨k, r.blV, ?_⟩
        cases k with
        | true => rw [if_pos rfl]; exact ⟨ρ', ts, S'.pop, h⟩
        | false => rw [if_neg (by decide)]; exact h _ _ S'.pop.bool
      | _ => exact h.elim
    | _ => exact h.elim
  | _ => exact h.elim
theorem rd_or (h : rdE T mg H0 G0 W (.or a b) σ H Q) : tOrV (rdE T mg H0 G0 W a) (rdE T mg H0 G0 W b) σ H Q := by
  obtain ⟨ρ, ts, S, h⟩ := h
  unfold ev at h
  refine rdE.bind0 S h fun c ρ' v H' S' h => ?_
  cases c with
  | fro x =>
    cases x with
    | py d =>
      cases d with
      | bool k =>
        have r : Rp H' v (.bool k) := S'.last rfl
        refine ⟨k, r.blV, ?_⟩
        cases k with
        | true => rw [if_pos rfl]; exact h _ _ S'.pop.bool
        | false => rw [if_neg (by decide)]; exact ⟨ρ', ts, S'.pop, h⟩
      | _ => exact h.elim
    | _ => exact h.elim
  | _ => exact h.elim
theorem rd_not (h : rdE T mg H0 G0 W (.not a) σ H Q) : tNotV (rdE T mg H0 G0 W a) σ H Q := by
  obtain ⟨ρ, ts, S, h⟩ := h
  unfold ev at h
  refine rdE.bind0 S h fun c ρ' v H' S' h => ?_
  cases c with
  | fro x =>
    cases x with
    | py d =>
      cases d with
      | bool k =>
        have r : Rp H' v (.bool k) := S'.last rfl
        exact ⟨k, r.blV, h _ _ S'.pop.bool⟩
      | _ => exact h.elim
    | _ => exact h.elim
  | _ => exact h.elim
/-- a test's reading, by its value -/
theorem rdT_E {m : E} {Q : Bool → Hp → Prop} (h : rdT T mg H0 G0 W m σ H Q) : rdE T mg H0 G0 W m σ H (fun x H1 => ∃ k, x = .bl k ∧ Q k H1) := by
  obtain ⟨ρ, ts, S, h⟩ := h
  refine ⟨ρ, ts, S, ?_⟩
  cases q : ev T m ρ with
  | ok c ρ' =>
    rw [q] at h
    obtain ⟨k, e, h⟩ := h
    subst e
    intro v H' S'
    have r : Rp H' v (.bool k) := S'.last rfl
    exact ⟨k, r.blV, h _ S'.pop⟩
  | err n ρ' => rw [q] at h; exact h
  | stuck => rw [q] at h; exact h.elim
theorem boolC_of {c : C} {f g : RE} (h : endT T mg H0 G0 W σ ts R (match c with
    | .fro (.py (.bool true)) => f
    | .fro (.py (.bool false)) => g
    | _ => .stuck)) : ∃ k, c = bool k ∧ endT T mg H0 G0 W σ ts R (if k = true then f else g) := by
  cases c with
  | fro x =>
    cases x with
    | py d =>
      cases d with
      | bool k => cases k <;> exact ⟨_, rfl, h⟩
      | _ => exact h.elim
    | _ => exact h.elim
  | _ => exact h.elim
theorem rdT.bind {m : E} {Q : Bool → Hp → Prop} {R : Bool → Hp → Prop} {k : C → List C → RE} (S : S0 T mg H0 G0 σ ρ ts H) (h : endT T mg H0 G0 W σ ts Q ((ev T m ρ).bind k)) (hk : ∀ c ρ', endT T mg H0 G0 W σ ts Q (k c ρ') → ∃ b, c = bool b ∧ ∀ H', S0 T mg H0 G0 σ ρ' ts H' → R b H') : rdT T mg H0 G0 W m σ H R := by
  refine ⟨ρ, ts, S, ?_⟩
  cases q : ev T m ρ with
  | ok c ρ' => rw [q] at h; exact hk c ρ' h
  | err n ρ' => rw [q] at h; exact h
  | stuck => rw [q] at h; exact h.elim
theorem rdT_and {Q : Bool → Hp → Prop} (h : rdT T mg H0 G0 W (.and a b) σ H Q) : tAnd (rdT T mg H0 G0 W a) (rdT T mg H0 G0 W b) σ H Q := by
  obtain ⟨ρ, ts, S, h⟩ := h
  unfold ev at h
  refine rdT.bind S h fun c ρ' h => ?_
  obtain ⟨k, e, h⟩ := boolC_of h
  refine ⟨k, e, fun H' S' => ?_⟩
  cases k with
  | true => rw [if_pos rfl] at h ⊢; exact ⟨ρ', ts, S', h⟩
  | false =>
    rw [if_neg (by decide)] at h ⊢
    obtain ⟨k2, e2, h⟩ := h
    cases e2
    exact h _ S'
theorem rdT_or {Q : Bool → Hp → Prop} (h : rdT T mg H0 G0 W (.or a b) σ H Q) : tOr (rdT T mg H0 G0 W a) (rdT T mg H0 G0 W b) σ H Q := by
  obtain ⟨ρ, ts, S, h⟩ := h
  unfold ev at h
  refine rdT.bind S h fun c ρ' h => ?_
  obtain ⟨k, e, h⟩ := boolC_of h
  refine ⟨k, e, fun H' S' => ?_⟩
  cases k with
  | true =>
    rw [if_pos rfl] at h ⊢
    obtain ⟨k2, e2, h⟩ := h
    cases e2
    exact h _ S'
  | false => rw [if_neg (by decide)] at h ⊢; exact ⟨ρ', ts, S', h⟩
theorem rdT_not {Q : Bool → Hp → Prop} (h : rdT T mg H0 G0 W (.not a) σ H Q) : tNot (rdT T mg H0 G0 W a) σ H Q := by
  obtain ⟨ρ, ts, S, h⟩ := h
  unfold ev at h
  refine rdT.bind S h fun c ρ' h => ?_
  cases c with
  | fro x =>
    cases x with
    | py d =>
      cases d with
      | bool k =>
        obtain ⟨k2, e2, h⟩ := h
        cases e2
        exact ⟨k, rfl, fun H' S' => h _ S'⟩
      | _ => exact h.elim
    | _ => exact h.elim
  | _ => exact h.elim
theorem rd_ix (h : rdE T mg H0 G0 W (.ix a b) σ H Q) : tOp (rIxA X.K) (rdE T mg H0 G0 W a) (rdE T mg H0 G0 W b) σ H Q := by
  obtain ⟨ρ, ts, S, h⟩ := h
  unfold ev at h
  refine rdE.bind0 S h fun c ρ' v H' S' h => rdE.bind S' h fun c' ρ'' w H'' S'' h => ?_
  cases q1 : ixC ρ'' c c' with
  | none => rw [q1] at h; exact h.elim
  | some r => rw [q1] at h; exact ix_res S'' q1 h
/-- a slice's part -/
def rdP (T : Kit) (mg : Str → Option Value) (H0 G0 : Hp) (W : WX) : Oe → TO
  | .no => tNoPart
  | .yes m => tPart (rdE T mg H0 G0 W m)
theorem rdP_of {o : Oe} {R : Option Int → Hp → Prop} {k : Option Int → List C → RE} (S : S0 T mg H0 G0 σ ρ (ts ++ as) H) (h : endE T mg H0 G0 W σ ts Q (evP T o ρ k)) (hk : ∀ r ρ' H', S0 T mg H0 G0 σ ρ' (ts ++ as) H' → endE T mg H0 G0 W σ ts Q (k r ρ') → R r H') : rdP T mg H0 G0 W o σ H R := by
  cases o with
  | no => unfold evP at h; exact hk none ρ H S h
  | yes m =>
    unfold evP at h
    refine rdE.bind S h fun c ρ' v H' S' h => ?_
    cases q : see ρ' c with
    | none => rw [q] at h; exact h.elim
    | some d =>
      rw [q] at h
      cases d with
      | int i => exact ⟨i, (S'.lastD q).intV, hk _ _ _ S'.pop h⟩
      | _ => exact h.elim
theorem rd_sl {lo hi : Oe} (h : rdE T mg H0 G0 W (.sl a lo hi) σ H Q) : tSl (rSlG X.K) (rdE T mg H0 G0 W a) (rdP T mg H0 G0 W lo) (rdP T mg H0 G0 W hi) σ H Q := by
  obtain ⟨ρ, ts, S, h⟩ := h
  unfold ev at h
  refine rdE.bind0 S h fun c ρ' v H' S' h => rdP_of S' h fun l ρ2 H2 S2 h => rdP_of S2 h fun u ρ3 H3 S3 h => ?_
  cases q1 : slC ρ3 c l u with
  | none => rw [q1] at h; exact h.elim
  | some r => rw [q1] at h; exact sl_res S3 q1 h
theorem rd_sls {lo hi st : Oe} (h : rdE T mg H0 G0 W (.sls a lo hi st) σ H Q) : tSl3 X.K (rdE T mg H0 G0 W a) (rdP T mg H0 G0 W lo) (rdP T mg H0 G0 W hi) (rdP T mg H0 G0 W st) σ H Q := by
  obtain ⟨ρ, ts, S, h⟩ := h
  unfold ev at h
  refine rdE.bind0 S h fun c ρ' v H' S' h => rdP_of S' h fun l ρ2 H2 S2 h => rdP_of S2 h fun u ρ3 H3 S3 h => rdP_of S3 h fun k ρ4 H4 S4 h => ?_
  cases q1 : slS ρ4 c l u k with
  | none => rw [q1] at h; exact h.elim
  | some r => rw [q1] at h; exact sls_res S4 q1 h
theorem evs_len : ∀ {es : Es} {ρ ρ' : List C} {cs : List C}, evs T es ρ = .ok cs ρ' → cs.length = es.len
  | .nil, ρ, ρ', cs, h => by unfold evs at h; cases h; rfl
  | .cons e es, ρ, ρ', cs, h => by
    unfold evs at h
    cases q : ev T e ρ with
    | ok c ρ1 =>
      rw [q] at h
      have h : (match evs T es ρ1 with
        | .ok cs ρ => .ok (c :: cs) ρ
        | r => r) = RL.ok cs ρ' := h
      cases q2 : evs T es ρ1 with
      | ok ds ρ2 =>
        rw [q2] at h
        cases h
        show ds.length + 1 = _
        rw [evs_len q2]
        rfl
      | err n _ => rw [q2] at h; cases h
      | stuck => rw [q2] at h; cases h
    | err n _ => rw [q] at h; cases h
    | stuck => rw [q] at h; cases h
theorem rdL.bind2 {es : Es} {R : List V → Hp → Prop} {k : List C → List C → RE} (S : S0 T mg H0 G0 σ ρ ts H) (h : endE T mg H0 G0 W σ ts Q ((evs T es ρ).bind k)) (hk : ∀ cs ρ' vs H', cs.length = es.len → vs.length = cs.length → S0 T mg H0 G0 σ ρ' (ts ++ tz vs cs) H' → endE T mg H0 G0 W σ ts Q (k cs ρ') → R vs H') : rdL T mg H0 G0 W es σ H R := by
  refine ⟨ρ, ts, S, ?_⟩
  cases q : evs T es ρ with
  | ok c ρ' => rw [q] at h; exact fun v H' hl S' => hk c ρ' v H' (evs_len q) hl S' h
  | err n ρ' => rw [q] at h; exact h
  | stuck => rw [q] at h; exact h.elim
theorem rd_tup {es : Es} (hl : es.len ≤ 16777216) (h : rdE T mg H0 G0 W (.tup es) σ H Q) : tTup (rdL T mg H0 G0 W es) σ H Q := by
  obtain ⟨ρ, ts, S, h⟩ := h
  unfold ev at h
  refine rdL.bind2 S h fun cs ρ' vs H' hn hv S' h => ?_
  cases q1 : fzDs ρ' cs with
  | none => rw [q1] at h; exact h.elim
  | some p =>
    obtain ⟨ds, ρ2⟩ := p
    rw [q1] at h
    obtain ⟨ow, G, B, S2, r⟩ := fzDs_ok hv S' q1
    exact ⟨by rw [hv, hn, sizeLine_eq]; exact hl, fun p hp => h _ _ (S2.newT hp r)⟩
theorem rd_lst {es : Es} (hl : es.len ≤ 16777216) (h : rdE T mg H0 G0 W (.lst es) σ H Q) : tLst (rdL T mg H0 G0 W es) σ H Q := by
  obtain ⟨ρ, ts, S, h⟩ := h
  unfold ev at h
  refine rdL.bind2 S h fun cs ρ' vs H' hn hv S' h => ?_
  cases q1 : fzDs ρ' cs with
  | none => rw [q1] at h; exact h.elim
  | some p =>
    obtain ⟨ds, ρ2⟩ := p
    rw [q1] at h
    obtain ⟨ow, G, B, S2, r⟩ := fzDs_ok hv S' q1
    exact ⟨by rw [hv, hn, sizeLine_eq]; exact hl, fun p hp => h _ _ (S2.newL hp r)⟩
theorem rd_bi {k : Bi} {es : Es} (h : rdE T mg H0 G0 W (.bi k es) σ H Q) : tCB (rBi X.K k) (rdL T mg H0 G0 W es) σ H Q := by
  obtain ⟨ρ, ts, S, h⟩ := h
  unfold ev at h
  refine rdL.bind2 S h fun cs ρ' vs H' hn hv S' h => ?_
  cases q1 : biC ρ' k cs with
  | none => rw [q1] at h; exact h.elim
  | some r => rw [q1] at h; exact bi_res hv S' q1 h
theorem rd_trev (h : rdE T mg H0 G0 W (.trev a) σ H Q) : RT.tTupRev X.K (rdE T mg H0 G0 W a) σ H Q := by
  obtain ⟨ρ, ts, S, h⟩ := h
  unfold ev at h
  refine rdE.bind0 S h fun c ρ' v H' S' h => ?_
  cases q1 : see ρ' c with
  | none => rw [q1] at h; exact h.elim
  | some d =>
    rw [q1] at h
    cases d with
    | list ds =>
      have h : endE T mg H0 G0 W σ ts Q (if clear c ds then .ok (.fro (.py (.tuple ds.reverse))) ρ' else .stuck) := h
      by_cases hc : clear c ds = true
      · rw [if_pos hc] at h
        obtain ⟨ow, G, B, S1⟩ := S'
        obtain ⟨a, vs, e, r, i⟩ := S1.list cel_last q1
        have g : RpA G vs ds := i.clr hc fun z r => r.sc z
        exact ⟨a, vs, e, .inl r, fun p hp => h _ _ (S1.drop.newT hp g.reverse)⟩
      · rw [if_neg hc] at h; exact h.elim
    | _ => exact h.elim
/-- len(set(t)) of a tuple of ints -/
def tLenSetT (K : PySem.W.Frag) (ta : TE) : TE := fun σ H Q => ta σ H fun x H1 => ∃ (p : Addr) (ns : List Int), x = .ref p ∧ SqT K H1 p (ns.map V.int) ∧ ns.length ≤ 1000 ∧ Q (.int (ndist ns : Nat)) H1
theorem ndist_of : ∀ (ns : List Int) (l : List Int), l.Nodup → (∀ k, k ∈ l ↔ k ∈ ns) → l.length = ndist ns
  | [], l, _, h => by
    cases l with
    | nil => rfl
    | cons a r => exact absurd ((h a).1 List.mem_cons_self) (by simp)
  | n :: ns, l, nd, h => by
    unfold ndist
    by_cases m : n ∈ ns
    · rw [if_pos m]
      refine ndist_of ns l nd fun k => ?_
      rw [h k, List.mem_cons]
      exact ⟨fun z => z.elim (fun e => e ▸ m) id, .inr⟩
    · rw [if_neg m]
      have hl : n ∈ l := (h n).2 List.mem_cons_self
      rw [← ndist_of ns (l.erase n) (nd.erase n) fun k => ?_, List.length_erase_of_mem hl]
      · have := List.length_pos_of_mem hl
        omega
      · rw [nd.mem_erase_iff, h k, List.mem_cons]
        exact ⟨fun z => z.2.resolve_left z.1, fun z => ⟨fun e => m (e ▸ z), .inr z⟩⟩
section
open PyProof.Rows PySem.Spec
theorem pe_lenSetT {X : Cx} {a : Expr} {ta : TE} {p p2 q pos : Pos} (hc : X.calm = true) (hg : Gl X "len") (hm : X.mg "len" = none) (hg2 : Gl X "set") (hm2 : X.mg "set" = none) (ha : PE X a ta)
    (na : starEach [a] X.env = (false, eval a X.env) :: starEach [] X.env) (nb : starEach [.Call (.Name "set" p2) [a] [] q] X.env = (false, eval (.Call (.Name "set" p2) [a] [] q) X.env) :: starEach [] X.env) : PE X (.Call (.Name "len" p) [.Call (.Name "set" p2) [a] [] q] [] pos) (tLenSetT X.K ta) := by
  refine ⟨fun pins s σ H Q I h => ?_⟩
  refine Call_ (ld_blt I hg hm boot_len ?_)
  refine PyProof.Rows.callWith_builtin1 (PyProof.Rows.args_cons ?_ nb) nb rfl
  refine Call_ (ld_blt I hg2 hm2 boot_set ?_)
  refine PyProof.Rows.callWith_type1 (PyProof.Rows.args_cons (thn (ha.run pins s σ H _ I h) fun v s1 ⟨x, H1, I1, r1, q1⟩ => PyProof.Rows.args_nil ?_) na) na rfl
  obtain ⟨l, ns, rfl, hq, hl, q1⟩ := q1
  cases r1
  obtain ⟨its, rv, pt, hz⟩ := I1.tuple hq
  have hi : IntsAre its.toArray.toList ns := ints_of_vals rv
  refine call_set_tupI ns (I1.ok.hd hc) (show s1.heap.IsTuple l its.toArray from pt) hi (by unfold scanBound; omega) fun h' tk c R1 hcn hk => ?_
  refine PyProof.Rows.args_nil ?_
  obtain ⟨o, es, ep, t, ho, hex, hd, _, nd, mm, hb, hf, hn, _, _⟩ := R1
  have I2 : Inv X pins σ H1 { s1 with heap := h', toks := tk } := I1.kept fun b o e => hk b o e
  have hsz : es.size = ndist ns := by
    have e := ndist_of ns (es.toList.map L2.keyOf) nd fun k => by rw [← mm k, decide_eq_true_eq]
    rw [List.length_map, Array.length_toList] at e
    exact e
  exact call_len_set ho hex hd hf (by rw [hn] <;> omega) ⟨.int (ndist ns : Nat), H1, I2.tok _, ⟨_, by rw [hsz]⟩, q1⟩
end
theorem rd_lens (h : rdE T mg H0 G0 W (.lens a) σ H Q) : tLenSetT X.K (rdE T mg H0 G0 W a) σ H Q := by
  obtain ⟨ρ, ts, S, h⟩ := h
  unfold ev at h
  refine rdE.bind0 S h fun c ρ' v H' S' h => ?_
  cases q1 : lensC ρ' c with
  | none => rw [q1] at h; exact h.elim
  | some r =>
    rw [q1] at h
    unfold lensC at q1
    split at q1
    · rename_i ds q2
      split at q1
      · rename_i ns q3
        split at q1
        · rename_i hn
          cases q1
          obtain ⟨ow, G, B, S1⟩ := id S'
          obtain ⟨p, vs, e, r, i⟩ := S1.tuple cel_last q2
          refine ⟨p, ns, e, .inl (.inl ?_), hn, h _ _ (S'.pop.num)⟩
          rw [← i.1.2.ints q3]
          exact r
        · cases q1
      · cases q1
    · cases q1
theorem rd_disp (h : rdE T mg H0 G0 W (.disp a b) σ H Q) : tDisp [(rdE T mg H0 G0 W a, rdE T mg H0 G0 W b)] σ H Q := by
  obtain ⟨ρ, ts, S, h⟩ := h
  unfold ev at h
  intro p hp
  obtain ⟨ow, G, B, S⟩ := S
  have S1 : S0 T mg H0 G0 σ ρ (ts ++ [(some (.ref p), .own (.dik []))]) (upd H p (.dK [])) := ⟨_, _, _, S.allocO hp (x := .dik []) ⟨[], upd_same, .nil⟩⟩
  refine rdE.bind (as := [_]) S1 h fun c ρ' v H' S' h => ?_
  have S' : S0 T mg H0 G0 σ ρ' (ts ++ [(some (.ref p), .own (.dik [])), (some v, c)]) H' := by
    rw [List.append_assoc] at S'; exact S'
  refine rdE.bind (as := [_, _]) S' h fun c' ρ2 w H2 S2 h => ?_
  cases q1 : dispC ρ2 c c' with
  | none => rw [q1] at h; exact h.elim
  | some kvs =>
    rw [q1] at h
    have S2 : S0 T mg H0 G0 σ ρ2 ((ts ++ [(some (.ref p), .own (.dik []))]) ++ [(some v, c), (some w, c')]) H2 := by
      rw [List.append_assoc] at S2; rw [List.append_assoc]; exact S2
    unfold dispC at q1
    cases s1 : see ρ2 c with
    | none => rw [s1] at q1; cases q1
    | some k =>
      cases s2 : see ρ2 c' with
      | none => rw [s1, s2] at q1; cases q1
      | some d =>
        rw [s1, s2] at q1
        have q1 : (match keyOf k with
          | some k => if isSc d then some [(k, d)] else none
          | none => none) = some kvs := q1
        cases q2 : keyOf k with
        | none => rw [q2] at q1; cases q1
        | some kk =>
          rw [q2] at q1
          have q1 : (if isSc d then some [(kk, d)] else none) = some kvs := q1
          by_cases hd : isSc d = true
          · rw [if_pos hd] at q1
            cases q1
            have S5 : S0 T mg H0 G0 σ ρ2 ((ts ++ [(some (.ref p), .own (.dik []))]) ++ [(some v, c)] ++ [(some w, c')]) H2 := by
              rw [List.append_assoc]; exact S2
            have r1 := S5.last2D s1
            have r2 := S5.lastD s2
            have S3 : S0 T mg H0 G0 σ ρ2 (ts ++ [(some (.ref p), .own (.dik []))]) H2 := S2.drop
            obtain ⟨ow3, G3, B3, S3⟩ := S3
            obtain ⟨a', ea, _, vs, hk, hr⟩ := S3.rel _ _ _ cel_last
            cases ea
            cases hr
            refine ⟨hk, [(kk, w)], by rw [r1.key q2]; rfl, by simp, h _ _ ⟨_, _, _, S3.mut cel_last S3.len S3.npk (y := .dik [(kk, d)]) ⟨[(kk, w)], upd_same, .cons ⟨rfl, r2.sc hd⟩ .nil⟩ fun k' w' c2' e => ?_⟩⟩
            rcases cel_snoc e with ⟨ek, z⟩ | ⟨nk, z⟩
            · cases z
              exact .inr ⟨ek, rfl, rfl⟩
            · exact .inl ⟨nk, cel_snoc_lt z⟩
          · rw [if_neg hd] at q1; cases q1
theorem rd_dnewK (h : rdE T mg H0 G0 W (.dnew false) σ H Q) : tDNewK σ H Q := by
  obtain ⟨ρ, ts, S, h⟩ := h
  unfold ev at h
  obtain ⟨ow, G, B, S⟩ := S
  exact fun p hp => h _ _ ⟨_, _, _, S.allocO hp (x := .dik []) ⟨[], upd_same, .nil⟩⟩
theorem rd_dnewT (h : rdE T mg H0 G0 W (.dnew true) σ H Q) : tDNewT σ H Q := by
  obtain ⟨ρ, ts, S, h⟩ := h
  unfold ev at h
  obtain ⟨ow, G, B, S⟩ := S
  exact fun p hp => h _ _ ⟨_, _, _, S.allocO hp (x := .dit []) ⟨[], upd_same, .nil⟩⟩
theorem rd_call {g : Nat} {ms : List Nat} {es : Es} {x : Str} {F : Fn} (hF : T.fns[g]? = some (x, F)) (h : rdE T mg H0 G0 W (.call g ms es) σ H Q) : tCallS (spOf T.g mg F) (WE W) (rdL T mg H0 G0 W es) σ H Q := by
  obtain ⟨ρ, ts, S, h⟩ := h
  unfold ev at h
  rw [hF] at h
  refine rdL.bind2 S h fun cs ρ' vs H' hn hv S' h => ?_
  have h : endE T mg H0 G0 W σ ts Q (callR F ms cs ρ') := h
  unfold callR at h
  cases q0 : pass0 ρ' ms cs with
  | none => rw [q0] at h; exact h.elim
  | some p =>
    obtain ⟨cs', ρ2⟩ := p
    rw [q0] at h
    cases q1 : pass1s ρ2 ms cs' with
    | none => simp only [q1] at h; exact h.elim
    | some ca =>
      simp only [q1] at h
      by_cases hp : passOk ms cs' = true
      · rw [if_pos hp] at h
        refine call_ok hv S' q0 q1 hp ?_
        cases hFF : F ca with
        | ok c outs =>
          rw [hFF] at h
          have h : endE T mg H0 G0 W σ ts Q (match backIs ρ2 (muts ms cs') outs, resC c with
            | some ρ'', some c => .ok c ρ''
            | _, _ => .stuck) := h
          cases q2 : backIs ρ2 (muts ms cs') outs with
          | none => rw [q2] at h; exact h.elim
          | some ρ3 =>
            cases q3 : resC c with
            | none => rw [q2, q3] at h; exact h.elim
            | some c' =>
              rw [q2, q3] at h
              exact ⟨ρ3, c', q2, q3, h⟩
        | err n => rw [hFF] at h; exact h
        | stuck => rw [hFF] at h; exact h.elim
      · rw [if_neg hp] at h; exact h.elim
/-- a new instance, a wish with slots -/
def tMakeS (Cx : Addr) (sp : Sp) (E : St → XK) (t : TA) : TE := fun σ H Q => t σ H fun vs H1 => ∀ x dx, H1 x = none → H1 dx = none → dx ≠ x → sp (.ref x :: vs) (upd (upd H1 dx (.own x)) x (.ins Cx dx [])) (fun v H2 => v = .non ∧ Q (.ref x) H2) (E σ)
theorem rd_mk {k : Nat} {ms : List Nat} {es : Es} {nm : Str} {fl : List Str} {F : Fn} {Cx : Addr} (hF : T.ini[k]? = some F) (hT : T.g.cls[k]? = some (nm, fl)) (hm : mg nm = some (.ref Cx)) (h : rdE T mg H0 G0 W (.mk k ms es) σ H Q) : tMakeS Cx (spOf T.g mg F) (WE W) (rdL T mg H0 G0 W es) σ H Q := by
  obtain ⟨ρ, ts, S, h⟩ := h
  unfold ev at h
  rw [hF] at h
  refine rdL.bind2 S h fun cs ρ' vs H' hn hv S' h => ?_
  have h : endE T mg H0 G0 W σ ts Q (mkR F k ms cs ρ') := h
  unfold mkR at h
  cases q0 : pass0 ρ' ms cs with
  | none => rw [q0] at h; exact h.elim
  | some p =>
    obtain ⟨cs', ρ2⟩ := p
    rw [q0] at h
    cases q1 : pass1s ρ2 ms cs' with
    | none => simp only [q1] at h; exact h.elim
    | some ca =>
      simp only [q1] at h
      by_cases hp : (muts ms cs').isEmpty = true
      · rw [if_pos hp] at h
        intro x dx hx hdx hne
        refine mk_ok hv S' q0 q1 hp hT hm hx hdx hne ?_
        cases hFF : F (C.own (.obj k []) :: ca) with
        | err n => rw [hFF] at h; exact h
        | stuck => rw [hFF] at h; exact h.elim
        | ok c outs =>
          rw [hFF] at h
          cases c with
          | fro y =>
            cases y with
            | py d =>
              cases d with
              | none =>
                cases outs with
                | nil => exact h.elim
                | cons o os =>
                  cases os with
                  | cons _ _ => cases o <;> exact h.elim
                  | nil =>
                    cases o with
                    | own y => exact fun H'' S'' => h _ _ S''
                    | _ => exact h.elim
              | _ => exact h.elim
            | _ => exact h.elim
          | _ => exact h.elim
      · rw [if_neg hp] at h; exact h.elim
theorem lookup_nd : ∀ {gs : List (Str × V)} {fl : List Str} {n j : Nat} {f : Str} {u : V}, gs.map (·.1) = fl.take n → fl.Nodup → fl[j]? = some f → gs[j]?.map (·.2) = some u → gs.lookup f = some u
  | [], fl, n, j, f, u, _, _, _, h => by simp at h
  | (x, y) :: gs, [], n, j, f, u, h, _, _, _ => by simp at h
  | (x, y) :: gs, z :: fl, 0, j, f, u, h, _, _, _ => by simp at h
  | (x, y) :: gs, z :: fl, n + 1, 0, f, u, h, nd, hf, hu => by
    simp at h hf hu
    obtain ⟨e, _⟩ := h
    subst e hf hu
    simp [List.lookup_cons]
  | (x, y) :: gs, z :: fl, n + 1, j + 1, f, u, h, nd, hf, hu => by
    simp at h
    obtain ⟨e, h⟩ := h
    subst e
    rw [List.getElem?_cons_succ] at hf hu
    obtain ⟨n1, n2⟩ := List.nodup_cons.mp nd
    have ne : (f == x) = false := by
      rw [beq_eq_false_iff_ne]
      intro q
      subst q
      exact n1 (List.mem_of_getElem? hf)
    rw [List.lookup_cons, ne]
    exact lookup_nd h n2 hf hu
theorem rd_fld {k j : Nat} {nm f : Str} {fl : List Str} {K : PySem.W.Frag} {Cx : Addr} (hT : T.g.cls[k]? = some (nm, fl)) (hC : ClsF K mg nm fl Cx) (hf : fl[j]? = some f) (h : rdE T mg H0 G0 W (.fld a k j) σ H Q) : tFld K (rdE T mg H0 G0 W a) f σ H Q := by
  obtain ⟨ρ, ts, S, h⟩ := h
  unfold ev at h
  refine rdE.bind0 S h fun c ρ' v H' S' h => ?_
  cases q1 : look ρ' c with
  | none => rw [q1] at h; exact h.elim
  | some x =>
    rw [q1] at h
    cases x with
    | obj k' fs =>
      have h2 : endE T mg H0 G0 W σ ts Q (if k' = k then match fs[j]? with
        | some d => .ok (itemC c d) ρ'
        | none => .stuck else .stuck) := h
      clear h
      by_cases hk : k' = k
      · rw [if_pos hk] at h2
        subst hk
        cases q2 : fs[j]? with
        | none => rw [q2] at h2; exact h2.elim
        | some d =>
          rw [q2] at h2
          obtain ⟨ow, G, B, S1⟩ := S'
          have t := S1.top cel_last q1 fun d z => by cases z
          obtain ⟨ad, e, Cx', dx, gs, nm', fl', h1, hm2, h3, h4, h5⟩ := t.1
          subst e
          rw [hT] at h1
          cases h1
          rw [hC.at_] at hm2
          cases hm2
          obtain ⟨u, h6, h7⟩ := h5.get q2
          have h6' : gs[j]?.map (·.2) = some u := by rw [← List.getElem?_map]; exact h6
          refine ⟨ad, Cx, dx, gs, u, rfl, h3, hC.cls, hC.no f (List.mem_of_getElem? hf), lookup_nd h4 hC.nd hf h6', h2 _ _ (item_push S1.drop ⟨h7, fun hb => ?_⟩)⟩
          obtain ⟨ad', e', Cx', dx', gs', nm', fl', g1, g2, g3, g4, g5⟩ := t.2 hb
          cases e'
          rw [h3] at g3
          cases g3
          obtain ⟨u', g6, g7⟩ := g5.get q2
          rw [h6] at g6
          cases g6
          exact g7
      · rw [if_neg hk] at h2; exact h2.elim
    | _ => exact h.elim
end
end Gr

set_option Elab.async false
set_option linter.all false
set_option maxRecDepth 100000
set_option maxHeartbeats 4000000
/-! Gr M: every term is read as its evaluator says. -/
namespace Gr
open PySem L2
/-! ### calls without arguments; makings whose wish has slots -/
section
variable {X : Cx} {CX : CXT} {k : Nat} {f C : Addr} {fd : FuncData} {ps : List Str} {sp : Sp} {E : St → XK} {x m : Str} {p pos apos : Pos} {e o : Expr} {es : List Expr} {ta : TE} {t : TA}
theorem pe_callS0 (F : FnOk X.prog X.w X.K X.mg X.base CX k f fd ps sp) (hr : Room k X.A) (hg : Gl X x) (hm : X.mg x = some (.ref f)) (hk : PySem.W.keepIn X.K (.ref f) = true) (hb : Binds X.K fd ps []) (hx : ∀ σ, PassesAt CX X σ (E σ))
    (hdb : (x == ("__debug__" : Str)) = false := by decide) : PE X (.Call (.Name x p) [] [] pos) (tCallS sp E tNil) := by
  refine ⟨fun pins s σ H Q I h => ?_⟩
  refine PySem.wpAny_Call_Name_kw (ld_glob I hg hm ?_ hdb)
  exact PySem.W.callWith_K0 I.kIn hk (run_fnS (us := []) F hr hb (hx σ) I .nil h)
theorem run_makeS {pins : List (Addr × Obj)} {σ : St} {H : Hp} {s : Shared} {Q : VK} {us : List Value} {vs : List V} (M : Mk X.K C f) (F : FnOk X.prog X.w X.K X.mg X.base CX k f fd ps sp) (hr : Room (k + 1) X.A) (hb : Binds X.K fd ps [])
    (hx : PassesAt CX X σ (E σ)) (I : Inv X pins σ H s) (r : Vals vs us)
    (h : ∀ x dx, H x = none → H dx = none → dx ≠ x → sp (.ref x :: vs) (upd (upd H dx (.own x)) x (.ins C dx [])) (fun v H2 => v = .non ∧ Q (.ref x) H2) (E σ)) :
    wpAny (model X.prog X.w) X.A (call (.ref C) us) (EP X pins σ Q) X.xe s := by
  have hq := h (s.heap.objs.size + 1) s.heap.objs.size (I.hok.fresh (Nat.le_succ _)) (I.hok.fresh (Nat.le_refl _)) (Nat.ne_of_lt (Nat.lt_succ_self _))
  have I2 := Inv.made (C := C) I
  have r2 : Vals (V.ref (s.heap.objs.size + 1) :: vs) (Value.ref (s.heap.objs.size + 1) :: us) := .cons rfl r
  have hl : (Value.ref (s.heap.objs.size + 1) :: us ++ []).length = ps.length := by
    have e := r2.length
    rw [F.len _ _ _ _ hq] at e
    rw [List.append_nil]
    exact e.symm
  have b := hb _ (Value.ref (s.heap.objs.size + 1) :: us) I2.kIn hl
  rw [List.append_nil] at b
  refine PySem.wpAny_call (make_map (f := f) I.kIn M.makes M.init (beq_iff_eq.mp M.fn) (codeAny_mono (F.run _ X.stack _ _ ⟨Value.ref (s.heap.objs.size + 1) :: us, []⟩ (Value.ref (s.heap.objs.size + 1) :: us) _ _ (E σ) (hr.make C us [])
    (I2.env0.make C us []) b r2 hq) fun r s' hq' => ?_))
  cases r with
  | error e => exact hx pins _ _ e s' I2 hq'
  | ok fl =>
    cases fl with
    | ret u =>
      obtain ⟨v, H', I3, rv, ev, q3⟩ := I2.after hq'
      subst ev
      exact ⟨rv, ⟨V.ref (s.heap.objs.size + 1), H', I3, rfl, q3⟩⟩
    | next => exact False.elim hq'
    | brk => exact False.elim hq'
    | cont => exact False.elim hq'
theorem pe_makeS (M : Mk X.K C f) (F : FnOk X.prog X.w X.K X.mg X.base CX k f fd ps sp) (hr : Room (k + 1) X.A) (hg : Gl X x) (hm : X.mg x = some (.ref C)) (hb : Binds X.K fd ps []) (hx : ∀ σ, PassesAt CX X σ (E σ))
    (ha : PA X (e :: es) t) (hdb : (x == ("__debug__" : Str)) = false := by decide) (he : starEach (e :: es) X.env = (false, eval e X.env) :: starEach es X.env := by rfl) (hpl : (backTo pos (starEach es X.env)).any (·.1) = false := by rfl) :
    PE X (.Call (.Name x p) (e :: es) [] pos) (tMakeS C sp E t) := by
  refine ⟨fun pins s σ H Q I h => ?_⟩
  refine PySem.wpAny_Call_Name_kw (ld_glob I hg hm ?_ hdb)
  refine PySem.W.callWith_K (h₀ := X.base) I.ok.mod.kin M.kp (thn (ha.run pos pins s σ H _ I h) fun us s1 ⟨vs, H1, I1, r, q⟩ => ⟨I1.kIn, ?_⟩) he hpl
  exact run_makeS M F hr hb (hx σ) I1 r q
theorem pe_makeS0 (M : Mk X.K C f) (F : FnOk X.prog X.w X.K X.mg X.base CX k f fd ps sp) (hr : Room (k + 1) X.A) (hg : Gl X x) (hm : X.mg x = some (.ref C)) (hb : Binds X.K fd ps []) (hx : ∀ σ, PassesAt CX X σ (E σ))
    (hdb : (x == ("__debug__" : Str)) = false := by decide) : PE X (.Call (.Name x p) [] [] pos) (tMakeS C sp E tNil) := by
  refine ⟨fun pins s σ H Q I h => ?_⟩
  refine PySem.wpAny_Call_Name_kw (ld_glob I hg hm ?_ hdb)
  exact PySem.W.callWith_K0 I.kIn M.kp (run_makeS (us := []) M F hr hb (hx σ) I .nil h)
end
/-! ### isinstance -/
/-- what a thing is, for isinstance -/
def TyG (K : PySem.W.Frag) (H : Hp) (x : V) (t : Value) : Prop := TyX K H x t ∨ ∃ a D, x = .ref a ∧ H a = some (ExV (.ref D) a) ∧ ExcC K D ∧ t = .ref D
def rIsG (K : PySem.W.Frag) : List V → Hp → VK → Prop := fun xs H Q => ∃ (x c : V) (t : Value) (b : Bool), xs = [x, c] ∧ TyG K H x t ∧
  ((∃ u, ClsV c u ∧ PySem.W.kitOne K t u = some b) ∨ ∃ tp cs us, c = .ref tp ∧ H tp = some (.tup cs) ∧ Paired ClsV cs us ∧ PySem.W.kitAny K t us = some b) ∧ Q (.bl b) H
section
variable {X : Cx}
theorem tyG_kit {pins : List (Addr × Obj)} {σ : St} {H : Hp} {s : Shared} {x : V} {u t : Value} (I : Inv X pins σ H s) (rx : RelV x u) (ty : TyG X.K H x t) : ∃ P : Heap → Prop, PySem.W.KitX X.K u t P ∧ P s.heap ∧ u ≠ .builtin "__main__.__loader__#opaque" := by
  rcases ty with ty | ⟨a, D, rfl, hH, C, rfl⟩
  · exact kit_of I rx ty
  · cases (show u = Value.ref a from rx)
    obtain ⟨⟨oe, vs, hget, hz, hv⟩, _, _⟩ := (show ObjOk X.prog X.w H s.heap a (ExV (.ref D) a) from I.hok a _ hH)
    have J : PySem.W.InstAt s.heap a oe D none := by
      obtain ⟨oc, od, oda, osl⟩ := oe
      obtain ⟨h1, h2⟩ := hz
      dsimp only at h1 h2 hv
      subst h1 h2 hv
      exact ⟨hget, rfl, rfl, trivial⟩
    exact ⟨_, PySem.W.handS_kitx_exc C.hg C.hk C.hs C.hd C.ha C.hn C.ht C.hm, J, fun z => nomatch z⟩
theorem isG_ok : CallR X (.builtin "isinstance") (rIsG X.K) := by
  intro pins s σ H xs us Q I r h
  obtain ⟨x, c, t, b, rfl, ty, hc, q⟩ := h
  obtain ⟨u1, u2, rfl, r1, r2⟩ := vals2 r
  obtain ⟨P, Z, p, hx⟩ := tyG_kit I r1 ty
  rcases hc with ⟨u, k, e⟩ | ⟨tp, cs, ws, rfl, hT, k, e⟩
  · have e2 := k.eq r2
    subst e2
    exact PySem.W.kia_one Z I.kIn p e hx fun tk => ⟨.bl b, H, I.tok tk, rfl, q⟩
  · cases (show u2 = Value.ref tp from r2)
    obtain ⟨_, its, rv, o, h1, h2, n, h3⟩ := (show ObjOk X.prog X.w H s.heap tp (.tup cs) from I.hok tp _ hT)
    have e3 := ClsV.all k rv
    subst e3
    obtain ⟨oc, od, dt, sl⟩ := o
    simp only at h2 h3
    subst h2 h3
    exact PySem.W.kia_tup Z I.kIn p h1 e hx fun tk => ⟨.bl b, H, I.tok tk, rfl, q⟩
end
section
variable {T : Kit} {mg : Str → Option Value} {H0 G0 H H' : Hp} {W : WX} {σ : St} {ρ ρ' : List C} {ts as : List Cell} {Q : VK} {v w : V} {c c' : C} {X : Cx} {k : Nat}
/-- the classes as values -/
def clV (T : Glob) (mg : Str → Option Value) : Cl → V → Value → Prop
  | .ty n, v, u => v = .ty n ∧ u = .type n
  | .own c, v, u => False
  | .exc e, v, u => ∃ nm C, T.exs[e]? = some nm ∧ mg nm = some (.ref C) ∧ v = .ref C ∧ u = .ref C
theorem clV_is {c : Cl} {v : V} {u : Value} (h : clV T.g mg c v u) : ClsV v u := by
  cases c with
  | ty n => obtain ⟨rfl, rfl⟩ := h; exact .ty n
  | own c => exact h.elim
  | exc e => obtain ⟨nm, C, _, _, rfl, rfl⟩ := h; exact .own C
/-- what a cell is, for isinstance: data or an exception -/
theorem ty_of {b : Bool} {cs : List Cl} {K : PySem.W.Frag} (F : IsF T.g K mg) (hn : cs ≠ []) (hX : ∀ (e : Nat) nm, T.g.exs[e]? = some nm → ∃ C, ExcF K mg nm C) (S : S0 T mg H0 G0 σ ρ (ts ++ [(some v, c)]) H) (h : isiC T.g ρ c cs = some b) : ∃ t, TyG K H v t ∧
    ∃ x : Tx ⊕ Nat, isiAll T.g x cs = some b ∧ ∀ cl b v' u, isiOne T.g x cl = some b → clV T.g mg cl v' u → PySem.W.kitOne K t u = some b := by
  have data : ∀ {x : Tx}, look ρ c = some x → isiAll T.g (.inl x) cs = some b → cs ≠ [] → ∃ t, TyG K H v t ∧ ∃ x : Tx ⊕ Nat, isiAll T.g x cs = some b ∧ ∀ cl b v' u, isiOne T.g x cl = some b → clV T.g mg cl v' u → PySem.W.kitOne K t u = some b := fun {x} lk h hn => by
    have r := S.last lk
    cases x with
    | py d =>
      have r : Rp H v d := r
      have go : ∀ {t : String}, tyOf d = some t → TyX K H v (.type t) → ∃ t, TyG K H v t ∧ ∃ x : Tx ⊕ Nat, isiAll T.g x cs = some b ∧ ∀ cl b v' u, isiOne T.g x cl = some b → clV T.g mg cl v' u → PySem.W.kitOne K t u = some b := fun {t} ht ty => by
        refine ⟨_, .inl ty, .inl (.py d), h, fun cl b' v' u e hv => ?_⟩
        cases cl with
        | ty n =>
          obtain ⟨_, rfl⟩ := hv
          have e : (tyOf d).bind (fun t => kitB t n) = some b' := e
          rw [ht] at e
          exact kit_ty e
        | own c => exact hv.elim
        | exc e' =>
          obtain ⟨nm, C, h1, h2, _, rfl⟩ := hv
          cases e
          exact F.no _ _ _ h1 h2 t (by cases d <;> cases ht <;> simp)
      cases r with
      | non => exact go rfl (.base .non)
      | bl b => exact go rfl (.base (.bl b))
      | int i => exact go rfl (.base (.int i))
      | str x => exact go rfl (.base (.str x))
      | lst hr _ =>
        rcases hr with hr | ⟨o, hr⟩
        · exact go rfl (.base (.lst hr))
        · exact go rfl (.base (.frz hr))
      | tup hr _ => exact go rfl (.base (.tup hr))
    | dik kvs =>
      exfalso
      cases cs with
      | nil => exact hn rfl
      | cons cl cs =>
        have h : (isiOne T.g (.inl (.dik kvs)) cl).bind (fun b => if b then some true else isiAll T.g (.inl (.dik kvs)) cs) = some b := h
        cases cl <;> cases h
    | dit kvs =>
      exfalso
      cases cs with
      | nil => exact hn rfl
      | cons cl cs =>
        have h : (isiOne T.g (.inl (.dit kvs)) cl).bind (fun b => if b then some true else isiAll T.g (.inl (.dit kvs)) cs) = some b := h
        cases cl <;> cases h
    | obj k fs =>
      exfalso
      cases cs with
      | nil => exact hn rfl
      | cons cl cs =>
        have h : (isiOne T.g (.inl (.obj k fs)) cl).bind (fun b => if b then some true else isiAll T.g (.inl (.obj k fs)) cs) = some b := h
        cases cl <;> cases h
    | lls xss =>
      exfalso
      cases cs with
      | nil => exact hn rfl
      | cons cl cs =>
        have h : (isiOne T.g (.inl (.lls xss)) cl).bind (fun b => if b then some true else isiAll T.g (.inl (.lls xss)) cs) = some b := h
        cases cl <;> cases h
  have gen : isiC T.g ρ c cs = (look ρ c).bind (fun x => isiAll T.g (.inl x) cs) → ∃ t, TyG K H v t ∧ ∃ x : Tx ⊕ Nat, isiAll T.g x cs = some b ∧ ∀ cl b v' u, isiOne T.g x cl = some b → clV T.g mg cl v' u → PySem.W.kitOne K t u = some b := fun e => by
    rw [e] at h
    cases q : look ρ c with
    | none => rw [q] at h; cases h
    | some x => rw [q] at h; exact data q h hn
  cases c with
  | exc n =>
    obtain ⟨ow, G, B, S1⟩ := id S
    obtain ⟨u, e, a, Cx, nm, e2, h1, h2, h3⟩ := S1.rel _ _ _ (cel_last (d := (some v, C.exc n)))
    cases e
    obtain ⟨C, hC⟩ := hX _ _ h1
    have := hC.at_
    rw [h2] at this
    cases this
    refine ⟨_, .inr ⟨a, _, e2, S1.gh _ _ h3, hC.exc, rfl⟩, .inr n, h, fun cl b' v' u e hv => ?_⟩
    cases cl with
    | ty m => obtain ⟨_, rfl⟩ := hv; exact F.ty _ _ _ _ _ h1 h2 e
    | own c => exact hv.elim
    | exc e' =>
      obtain ⟨nm', C', g1, g2, _, rfl⟩ := hv
      cases e
      exact F.ex _ _ _ _ _ _ h1 h2 g1 g2
  | _ => exact gen rfl
theorem kitAny_of {K : PySem.W.Frag} {t : Value} {x : Tx ⊕ Nat} (hk : ∀ cl b v' u, isiOne T.g x cl = some b → clV T.g mg cl v' u → PySem.W.kitOne K t u = some b) : ∀ {cs : List Cl} {vs : List V} {us : List Value} {b : Bool}, isiAll T.g x cs = some b → FaI (fun (c : Cl) (p : V × Value) => clV T.g mg c p.1 p.2) cs (vs.zip us) → vs.length = us.length → PySem.W.kitAny K t us = some b
  | [], vs, us, b, h, f, hl => by
    have : vs.length = 0 := by have := f.1; simp at this; omega
    have : us = [] := List.eq_nil_of_length_eq_zero (by omega)
    subst this
    cases h
    rfl
  | c :: cs, v :: vs, u :: us, b, h, f, hl => by
    have h : (isiOne T.g x c).bind (fun b => if b then some true else isiAll T.g x cs) = some b := h
    have f0 : clV T.g mg c v u := f.2 0 c (v, u) rfl rfl
    cases q : isiOne T.g x c with
    | none => rw [q] at h; cases h
    | some b1 =>
      rw [q] at h
      have k1 := hk c b1 v u q f0
      refine kitAny_cons k1 (fun e => ?_) (fun e => ?_)
      · subst e
        exact kitAny_of hk (vs := vs) h ⟨by have := f.1; simpa using this, fun i y p a b => f.2 (i + 1) y p (by simpa using a) (by simpa using b)⟩ (by simpa using hl)
      · subst e
        exact (Option.some.inj h).symm
  | c :: cs, [], us, b, h, f, hl => by have := f.1; simp at this
  | c :: cs, v :: vs, [], b, h, f, hl => by have := f.1; simp at this
/-- one class, several -/
def tCls (vs : List V) : TA := fun _ H Q => Q vs H
theorem rd_isi1 {a : E} {cs : List Cl} {cl : Cl} {vc : V} {uc : Value} {one : Bool} (F : IsF T.g X.K mg) (hX : ∀ (e : Nat) nm, T.g.exs[e]? = some nm → ∃ C, ExcF X.K mg nm C) (hcs : cs = [cl]) (hv : clV T.g mg cl vc uc) (h : rdE T mg H0 G0 W (.isi one a cs) σ H Q) :
    tCB (rIsG X.K) (tCons (rdE T mg H0 G0 W a) (tCons (tC vc) tNil)) σ H Q := by
  subst hcs
  obtain ⟨ρ, ts, S, h⟩ := h
  unfold ev at h
  refine rdE.bind0 S h fun c ρ' v H' S' h => ?_
  cases q : isiC T.g ρ' c [cl] with
  | none => rw [q] at h; exact h.elim
  | some b =>
    rw [q] at h
    obtain ⟨t, ty, x, hx, hk⟩ := ty_of F (by simp) hX S' q
    refine ⟨v, vc, t, b, rfl, ty, .inl ⟨uc, clV_is hv, ?_⟩, h _ _ S'.pop.bool⟩
    have hx : (isiOne T.g x cl).bind (fun b => if b then some true else some false) = some b := hx
    cases q2 : isiOne T.g x cl with
    | none => rw [q2] at hx; cases hx
    | some b1 =>
      rw [q2] at hx
      have : b1 = b := by cases b1 <;> exact Option.some.inj hx
      subst this
      exact hk _ _ _ _ q2 hv
theorem rd_isiT {a : E} {cs : List Cl} {vs : List V} {us : List Value} {one : Bool} (F : IsF T.g X.K mg) (hX : ∀ (e : Nat) nm, T.g.exs[e]? = some nm → ∃ C, ExcF X.K mg nm C) (hcs : cs ≠ []) (hl : vs.length = us.length) (hv : FaI (fun (c : Cl) (p : V × Value) => clV T.g mg c p.1 p.2) cs (vs.zip us)) (hz : cs.length ≤ 16777216) (h : rdE T mg H0 G0 W (.isi one a cs) σ H Q) :
    tCB (rIsG X.K) (tCons (rdE T mg H0 G0 W a) (tCons (tTup (tCls vs)) tNil)) σ H Q := by
  obtain ⟨ρ, ts, S, h⟩ := h
  unfold ev at h
  refine rdE.bind0 S h fun c ρ' v H' S' h => ?_
  cases q : isiC T.g ρ' c cs with
  | none => rw [q] at h; exact h.elim
  | some b =>
    rw [q] at h
    have hlc : vs.length = cs.length := by have := hv.1; rw [List.length_zip] at this; omega
    refine ⟨by rw [hlc, sizeLine_eq]; exact hz, fun p hp => ?_⟩
    have S2 : S0 T mg H0 G0 σ ρ' (ts ++ [(some v, c)]) (upd H' p (.tup vs)) := S'.growH (same_upd hp)
    obtain ⟨t, ty, x, hx, hk⟩ := ty_of F hcs hX S2 q
    refine ⟨v, .ref p, t, b, rfl, ty, .inr ⟨p, vs, us, rfl, upd_same, ?_, kitAny_of hk hx hv hl⟩, h _ _ S2.pop.bool⟩
    -- the classes, pair by pair
    have go : ∀ {cs : List Cl} {vs : List V} {us : List Value}, FaI (fun (c : Cl) (p : V × Value) => clV T.g mg c p.1 p.2) cs (vs.zip us) → vs.length = us.length → Paired ClsV vs us := by
      intro cs
      induction cs with
      | nil =>
        intro vs us f hl
        have : vs.length = 0 := by have := f.1; simp at this; omega
        have e1 : vs = [] := List.eq_nil_of_length_eq_zero this
        have e2 : us = [] := List.eq_nil_of_length_eq_zero (by omega)
        subst e1 e2
        exact .nil
      | cons c cs ih =>
        intro vs us f hl
        cases vs with
        | nil => have := f.1; simp at this
        | cons v vs =>
          cases us with
          | nil => have := f.1; simp at this
          | cons u us =>
            refine .cons (clV_is (f.2 0 c (v, u) rfl rfl)) (ih ⟨by have := f.1; simpa using this, fun i y p a b => f.2 (i + 1) y p (by simpa using a) (by simpa using b)⟩ (by simpa using hl))
    exact go hv hl
/-- a class's name -/
theorem boot_ty : ∀ n ∈ tyL, bootBuiltins (Str.ofString n) = some (.type n) ∧ Str.ofString n ≠ "__name__" := by
  intro n hn
  have hn : n = "int" ∨ n = "bool" ∨ n = "str" ∨ n = "list" ∨ n = "tuple" ∨ n = "dict" ∨ n = "ValueError" := by simpa [tyL] using hn
  rcases hn with rfl | rfl | rfl | rfl | rfl | rfl | rfl
  · exact ⟨PyProof.Rows.boot_int, by decide⟩
  · exact ⟨PyProof.Rows.boot_bool, by decide⟩
  · exact ⟨PyProof.Rows.boot_str, by decide⟩
  · exact ⟨PyProof.Rows.boot_list, by decide⟩
  · exact ⟨PyProof.Rows.boot_tuple, by decide⟩
  · exact ⟨PyProof.Rows.boot_dict, by decide⟩
  · exact ⟨by decide +kernel, by decide⟩
theorem pe_cl {cl : Cl} {e : Expr} (S : Sh T X) (h : cName (clB T X.env.scope cl) e = true) : ∃ v u, clV T.g X.mg cl v u ∧ PE X e (tC v) ∧ notStar e = true := by
  obtain ⟨x, pos, rfl, hq⟩ := cName_ok h
  clear h
  unfold clB at hq
  rw [Bool.and_eq_true, Bool.and_eq_true, Bool.and_eq_true] at hq
  obtain ⟨h1, h2, h3, h4⟩ := hq
  have h1 := eqB_ok h1
  have hg : Gl X x := gloB_ok h2
  obtain ⟨hd, _⟩ := freeN_ok h3
  cases cl with
  | ty n =>
    cases h1
    have h4 : (decide (n ∈ tyL) && decide (Str.ofString n ∈ T.bl)) = true := h4
    rw [Bool.and_eq_true, decide_eq_true_eq, decide_eq_true_eq] at h4
    obtain ⟨b1, b2⟩ := boot_ty n h4.1
    exact ⟨.ty n, .type n, ⟨rfl, rfl⟩, pe_bltn hg (S.bl _ h4.2) b1 rfl b2 hd, rfl⟩
  | own c => cases h4
  | exc e' =>
    have h1 : T.g.exs[e']? = some x := h1
    obtain ⟨C, hC⟩ := S.exs _ _ h1
    exact ⟨.ref C, .ref C, ⟨x, C, h1, hC.at_, rfl, rfl⟩, pe_glob hg hC.at_ rfl hd, rfl⟩
theorem pa_cls : ∀ {cs : List Cl} {es : List Expr}, Sh T X → cCls T X.env.scope cs es = true → ∃ vs us, FaI (fun (c : Cl) (p : V × Value) => clV T.g X.mg c p.1 p.2) cs (vs.zip us) ∧ vs.length = us.length ∧ PA X es (tCls vs)
  | [], [], S, h => ⟨[], [], ⟨rfl, fun i x y a => by simp at a⟩, rfl, PA.imp pa_nil fun _ _ _ h => h⟩
  | c :: cs, e :: es, S, h => by
    have h : (cName (clB T X.env.scope c) e && cCls T X.env.scope cs es) = true := h
    rw [Bool.and_eq_true] at h
    obtain ⟨v, u, hv, he, hs⟩ := pe_cl S h.1
    obtain ⟨vs, us, hf, hl, ha⟩ := pa_cls S h.2
    refine ⟨v :: vs, u :: us, ⟨by have := hf.1; simpa using this, fun i x y a b => ?_⟩, by simp [hl], PA.imp (pa_cons he ha (star_ok hs)) fun _ _ _ h => h⟩
    cases i with
    | zero => simp at a b; subst a b; exact hv
    | succ i => exact hf.2 i x y (by simpa using a) (by simpa using b)
end
end Gr

set_option Elab.async false
set_option linter.all false
set_option maxRecDepth 100000
set_option maxHeartbeats 4000000
/-! Gr N: every term is read as its evaluator says. -/
namespace Gr
open PySem L2
section
variable {X : Cx} {tg : Expr}
def iSeq (K : PySem.W.Frag) (tl : TE) : TI := fun σ H R => tl σ H fun x H1 => ∃ a, x = .ref a ∧ (((∃ xs, SqL K H1 a xs) ∧ R (Itl K a) H1) ∨ ((∃ xs, SqT K H1 a xs) ∧ R (Itt K a) H1))
theorem pi_seq {l : Expr} {tl : TE} (hl : PE X l tl) : PI X tg l (iSeq X.K tl) := by
  refine ⟨fun pins s σ H R I h => ?_⟩
  refine thn (hl.run pins s σ H _ I h) fun v s1 ⟨x, H1, I1, r1, q1⟩ => ?_
  obtain ⟨a, e, q1⟩ := q1
  subst e
  cases r1
  rcases q1 with ⟨⟨xs, hq⟩, q⟩ | ⟨⟨xs, hq⟩, q⟩
  · obtain ⟨its, rv, p, hz⟩ := I1.list hq
    refine PySem.wpAny_pyIter_list p.isList ?_
    refine ⟨s1.heap.objs.size, [s1.heap.objs.size], _, _, H1, rfl, I1.kept (t' := s1.toks) fun b o e => Heap.get?_push_of_some _ e, turn_list a _, ⟨_, Heap.get?_push_size _ rfl, rfl, rfl⟩, fun b hb => ?_, q⟩
    have e : b = s1.heap.objs.size := by simpa using hb
    subst e
    exact I1.fpOk (Nat.le_refl _) (I1.hok.fresh (Nat.le_refl _))
  · obtain ⟨its, rv, p, hz⟩ := I1.tuple hq
    refine PySem.wpAny_pyIter_tuple (show s1.heap.IsTuple a its.toArray from p) ?_
    refine ⟨s1.heap.objs.size, [s1.heap.objs.size], _, _, H1, rfl, I1.kept (t' := s1.toks) fun b o e => Heap.get?_push_of_some _ e, turn_tuple a _, ⟨_, Heap.get?_push_size _ rfl, rfl, rfl⟩, fun b hb => ?_, q⟩
    have e : b = s1.heap.objs.size := by simpa using hb
    subst e
    exact I1.fpOk (Nat.le_refl _) (I1.hok.fresh (Nat.le_refl _))
end
section
variable {T : Kit} {mg : Str → Option Value} {H0 G0 H : Hp} {W : WX} {σ : St} {ρ : List C} {ts as : List Cell} {v : V} {c : C} {X : Cx} {k : Nat} {K : PySem.W.Frag}
theorem PI.imp {tg e : Expr} {t t' : TI} (h : PI X tg e t) (f : ∀ σ H R, t' σ H R → t σ H R) : PI X tg e t' := ⟨fun pins s σ H R I hw => h.run pins s σ H R I (f σ H R hw)⟩
/-- the part that is walked, then the walk -/
theorem walk_of {m : E} {k : C → List C → RI} {R : L2.It → Hp → Prop} {Q : VK} (S : S0 T mg H0 G0 σ ρ ts H) (h : RI.fin T mg H0 G0 W σ ts R ((ev T m ρ).toRI k)) (hk : ∀ c ρ' v H', S0 T mg H0 G0 σ ρ' (ts ++ [(some v, c)]) H' → RI.fin T mg H0 G0 W σ ts R (k c ρ') → Q v H') : rdE T mg H0 G0 W m σ H Q := by
  refine ⟨ρ, ts, S, ?_⟩
  cases q : ev T m ρ with
  | ok c ρ' => rw [q] at h; exact fun v H' S' => hk c ρ' v H' S' h
  | err n ρ' => rw [q] at h; exact h
  | stuck => rw [q] at h; exact h.elim
theorem items_kind {c : C} {ds : List D} : ∀ c' ∈ ds.map (itemC c), (∃ x, c' = .fro x) ∨ ∃ x, c' = .bor x := fun c' h => by
  obtain ⟨d, _, rfl⟩ := List.mem_map.mp h
  exact item_kind
theorem rdI_of {m : E} {R : L2.It → Hp → Prop} (h : rdI T mg H0 G0 W (.of m) σ H R) : iSeq K (rdE T mg H0 G0 W m) σ H R := by
  obtain ⟨ρ, ts, S, h⟩ := h
  unfold evI at h
  refine walk_of S h fun c ρ' v H' S' h => ?_
  cases q : lockC ρ' c with
  | none => rw [q] at h; exact h.elim
  | some p =>
    obtain ⟨ds, lk, ρ2⟩ := p
    rw [q] at h
    obtain ⟨d, hd, S2, hs, hlk, hpk⟩ := lockC_ok S' q
    obtain ⟨ow, G, B, S3⟩ := id S2
    have pk : ∀ t ∈ [(some v, c)], ∀ j, t.2 = .pk j → j ∈ lk.fx := fun t ht j e => by
      have := List.mem_singleton.mp ht
      subst this
      exact hpk j e
    rcases hd with rfl | rfl
    · obtain ⟨a, vs, e, r, _⟩ := S3.list cel_last (hs _ hlk)
      subst e
      exact ⟨a, rfl, .inl ⟨⟨vs, .inl r⟩, h _ _ _ (walk_list hs) S2 pk items_kind⟩⟩
    · obtain ⟨a, vs, e, r, _⟩ := S3.tuple cel_last (hs _ hlk)
      subst e
      exact ⟨a, rfl, .inr ⟨⟨vs, .inl (.inl r)⟩, h _ _ _ (walk_tup hs) S2 pk items_kind⟩⟩
theorem rdI_rev {m : E} {R : L2.It → Hp → Prop} (h : rdI T mg H0 G0 W (.rev m) σ H R) : RT.iRevA K (rdE T mg H0 G0 W m) σ H R := by
  obtain ⟨ρ, ts, S, h⟩ := h
  unfold evI at h
  refine walk_of S h fun c ρ' v H' S' h => ?_
  cases q : lockC ρ' c with
  | none => rw [q] at h; exact h.elim
  | some p =>
    obtain ⟨ds, lk, ρ2⟩ := p
    rw [q] at h
    obtain ⟨d, hd, S2, hs, hlk, hpk⟩ := lockC_ok S' q
    obtain ⟨ow, G, B, S3⟩ := id S2
    have pk : ∀ t ∈ [(some v, c)], ∀ j, t.2 = .pk j → j ∈ lk.fx := fun t ht j e => by
      have := List.mem_singleton.mp ht
      subst this
      exact hpk j e
    rcases hd with rfl | rfl
    · obtain ⟨a, vs, e, r, i⟩ := S3.list cel_last (hs _ hlk)
      subst e
      have := h _ _ _ (walk_revL (K := K) hs) S2 pk items_kind
      rw [← i.1.length] at this
      exact ⟨a, vs, rfl, .inl ⟨.inl r, this⟩⟩
    · obtain ⟨a, vs, e, r, i⟩ := S3.tuple cel_last (hs _ hlk)
      subst e
      have := h _ _ _ (walk_revT (K := K) hs) S2 pk items_kind
      rw [← i.1.2.length] at this
      exact ⟨a, vs, rfl, .inr ⟨.inl (.inl r), this⟩⟩
theorem rdI_enum {m : E} {R : L2.It → Hp → Prop} (h : rdI T mg H0 G0 W (.enum m) σ H R) : iEnum K (tCons (rdE T mg H0 G0 W m) tNil) σ H R := by
  obtain ⟨ρ, ts, S, h⟩ := h
  unfold evI at h
  refine walk_of S h fun c ρ' v H' S' h => ?_
  have h : RI.fin T mg H0 G0 W σ ts R (match enumC ρ' c with
    | some (ds, lk, ρ) => .ok (ds.zipIdx.map fun p => .fro (.py (.tuple [.int (p.2 : Nat), p.1]))) lk ρ
    | none => .stuck) := h
  unfold enumC at h
  by_cases hb : isBor c = true
  · rw [if_pos hb] at h; exact h.elim
  · rw [if_neg hb] at h
    cases q : lockC ρ' c with
    | none => rw [q] at h; exact h.elim
    | some p =>
      obtain ⟨ds, lk, ρ2⟩ := p
      rw [q] at h
      have h : RI.fin T mg H0 G0 W σ ts R (match (if isLst ρ2 c then some (ds, lk, ρ2) else none) with
        | some (ds, lk, ρ) => .ok (ds.zipIdx.map fun p => .fro (.py (.tuple [.int (p.2 : Nat), p.1]))) lk ρ
        | none => .stuck) := h
      obtain ⟨d, hd, S2, hs, hlk, hpk⟩ := lockC_ok S' q
      obtain ⟨ow, G, B, S3⟩ := id S2
      have pk : ∀ t ∈ [(some v, c)], ∀ j, t.2 = .pk j → j ∈ lk.fx := fun t ht j e => by
        have := List.mem_singleton.mp ht
        subst this
        exact hpk j e
      by_cases hl : isLst ρ2 c = true
      · rw [if_pos hl] at h
        unfold isLst at hl
        rw [hs _ hlk] at hl
        rcases hd with rfl | rfl
        · obtain ⟨a, vs, e, r, _⟩ := S3.list cel_last (hs _ hlk)
          subst e
          refine ⟨a, vs, rfl, .inl r, h _ _ _ (walk_enum (by simpa using hb) hs) S2 pk fun c' hc => ?_⟩
          obtain ⟨p, _, rfl⟩ := List.mem_map.mp hc
          exact .inl ⟨_, rfl⟩
        · cases hl
      · rw [if_neg hl] at h; exact h.elim
theorem rdI_zip {a b : E} {R : L2.It → Hp → Prop} (h : rdI T mg H0 G0 W (.zip a b) σ H R) : RZ.iZipA K (tCons (rdE T mg H0 G0 W a) (tCons (rdE T mg H0 G0 W b) tNil)) σ H R := by
  obtain ⟨ρ, ts, S, h⟩ := h
  unfold evI at h
  refine walk_of S h fun c ρ' v H' S' h => ?_
  refine ⟨ρ', ts ++ [(some v, c)], S', ?_⟩
  cases q : ev T b ρ' with
  | err n ρ2 => rw [q] at h; exact endX.drop h
  | stuck => rw [q] at h; exact h.elim
  | ok c' ρ2 =>
    rw [q] at h
    intro w H2 S2
    have h : RI.fin T mg H0 G0 W σ ts R (match zipC c c' with
      | some ds => .ok (ds.map fun d => .fro (.py d)) .no ρ2
      | none => .stuck) := h
    cases q2 : zipC c c' with
    | none => rw [q2] at h; exact h.elim
    | some ds =>
      rw [q2] at h
      unfold zipC at q2
      split at q2
      · rename_i xs ys
        cases q2
        have S3 : S0 T mg H0 G0 σ ρ2 (ts ++ [(some v, .fro (.py (.tuple xs))), (some w, .fro (.py (.tuple ys)))]) H2 := by
          rw [List.append_assoc] at S2
          exact S2
        obtain ⟨ow, G, B, S4⟩ := id S3
        have c1 : cel σ ρ2 (ts ++ [(some v, .fro (.py (.tuple xs))), (some w, .fro (.py (.tuple ys)))]) (.inr ts.length) = some (some v, .fro (.py (.tuple xs))) := by
          show (ts ++ [_, _])[ts.length]? = _
          simp
        have c2 : cel σ ρ2 (ts ++ [(some v, .fro (.py (.tuple xs))), (some w, .fro (.py (.tuple ys)))]) (.inr (ts.length + 1)) = some (some w, .fro (.py (.tuple ys))) := by
          show (ts ++ [_, _])[ts.length + 1]? = _
          simp
        obtain ⟨p, vs, e, r, _⟩ := S4.tuple c1 rfl
        obtain ⟨p2, ws, e2, r2, _⟩ := S4.tuple c2 rfl
        subst e e2
        refine ⟨p, p2, vs, ws, rfl, .inr ⟨.inl (.inl r), .inl (.inl r2), h _ _ _ walk_zip S3 (fun t ht j e => ?_) fun c' hc => ?_⟩⟩
        · rcases List.mem_cons.mp ht with rfl | ht
          · cases e
          · rw [List.mem_singleton.mp ht] at e
            cases e
        · obtain ⟨d, _, rfl⟩ := List.mem_map.mp hc
          exact .inl ⟨_, rfl⟩
      · cases q2
/-- a range's ends -/
def rdR (T : Kit) (mg : Str → Option Value) (H0 G0 : Hp) (W : WX) : Rg → St → Hp → (Int → Int → Hp → Prop) → Prop
  | .one b => tRg1 (rdE T mg H0 G0 W b)
  | .two a b => tRg2 (rdE T mg H0 G0 W a) (rdE T mg H0 G0 W b)
theorem rdR_of {r : Rg} {Q : VK} {R : Int → Int → Hp → Prop} {kk : Int → Int → List C → RE} (S : S0 T mg H0 G0 σ ρ ts H) (h : endE T mg H0 G0 W σ ts Q (evR T r ρ kk)) (hk : ∀ i j ρ' H', S0 T mg H0 G0 σ ρ' ts H' → endE T mg H0 G0 W σ ts Q (kk i j ρ') → R i j H') : rdR T mg H0 G0 W r σ H R := by
  cases r with
  | one b =>
    unfold evR at h
    refine rdE.bind0 S h fun c ρ' v H' S' h => ?_
    cases q : see ρ' c with
    | none => rw [q] at h; exact h.elim
    | some d =>
      rw [q] at h
      cases d with
      | int j => exact ⟨j, (S'.lastD q).intV, hk _ _ _ _ S'.pop h⟩
      | _ => exact h.elim
  | two a b =>
    unfold evR at h
    refine rdE.bind0 S h fun c ρ' v H' S' h => rdE.bind S' h fun c' ρ2 w H2 S2 h => ?_
    cases q1 : see ρ2 c with
    | none => rw [q1] at h; exact h.elim
    | some d =>
      cases q2 : see ρ2 c' with
      | none => rw [q1, q2] at h; cases d <;> exact h.elim
      | some d2 =>
        rw [q1, q2] at h
        cases d with
        | int i =>
          cases d2 with
          | int j => exact ⟨i, j, (S2.last2D q1).intV, (S2.lastD q2).intV, hk _ _ _ _ S2.pop2 h⟩
          | _ => exact h.elim
        | _ => cases d2 <;> exact h.elim
theorem rgOk_of {i j : Int} (h : rgOk i j = true) : (-(2 ^ 62) ≤ i ∧ i < 2 ^ 62) ∧ -(2 ^ 62) ≤ j ∧ j < 2 ^ 62 := by
  unfold rgOk at h
  have h := of_decide_eq_true h
  omega
theorem rgV_rp {i j : Int} {G : Hp} : RpA G (rgV i j) (rgD i j) := by
  unfold rgV rgD
  generalize (j - i).toNat = n
  have : ∀ l : List Nat, RpA G (l.map fun k => V.int (i + (k : Nat))) (l.map fun k => .int (i + (k : Nat))) := fun l => by
    induction l with
    | nil => exact .nil
    | cons x l ih => exact .cons (.int _) ih
  exact this _
theorem rd_rngL {r : Rg} {Q : VK} (h : rdE T mg H0 G0 W (.rng false r) σ H Q) : tLstRg (rdR T mg H0 G0 W r) σ H Q := by
  obtain ⟨ρ, ts, S, h⟩ := h
  unfold ev at h
  refine rdR_of S h fun i j ρ' H' S' h => ?_
  by_cases hr : (rgOk i j && decide ((j - i).toNat ≤ line)) = true
  · rw [if_pos hr] at h
    rw [Bool.and_eq_true, decide_eq_true_eq] at hr
    obtain ⟨⟨a1, a2⟩, a3, a4⟩ := rgOk_of hr.1
    obtain ⟨ow, G, B, S1⟩ := S'
    exact ⟨⟨a1, a2, a3, a4, by have := hr.2; unfold line at this; omega⟩, fun p hp => h _ _ (S1.newL hp rgV_rp)⟩
  · rw [if_neg hr] at h; exact h.elim
theorem rd_rngT {r : Rg} {Q : VK} (h : rdE T mg H0 G0 W (.rng true r) σ H Q) : tTupRg (rdR T mg H0 G0 W r) σ H Q := by
  obtain ⟨ρ, ts, S, h⟩ := h
  unfold ev at h
  refine rdR_of S h fun i j ρ' H' S' h => ?_
  by_cases hr : (rgOk i j && decide ((j - i).toNat ≤ line)) = true
  · rw [if_pos hr] at h
    rw [Bool.and_eq_true, decide_eq_true_eq] at hr
    obtain ⟨⟨a1, a2⟩, a3, a4⟩ := rgOk_of hr.1
    obtain ⟨ow, G, B, S1⟩ := S'
    exact ⟨⟨a1, a2, a3, a4, by have := hr.2; unfold line at this; omega⟩, fun p hp => h _ _ (S1.newT hp rgV_rp)⟩
  · rw [if_neg hr] at h; exact h.elim
/-- a range that is walked: its ends read, then the walk -/
theorem rdI_rng {r : Rg} {R : L2.It → Hp → Prop} (h : rdI T mg H0 G0 W (.rng r) σ H R) : rdR T mg H0 G0 W r σ H (fun i j H1 => ((-(2 ^ 62) ≤ i ∧ i < 2 ^ 62) ∧ -(2 ^ 62) ≤ j ∧ j < 2 ^ 62) ∧ R (Itr i (j - i).toNat) H1) := by
  obtain ⟨ρ, ts, S, h⟩ := h
  unfold evI at h
  -- its ends as an expression's
  have h2 : endE T mg H0 G0 W σ ts (fun _ _ => True) (evR T r ρ fun i j ρ => if rgOk i j then .ok (.fro (.py (.list (rgD i j)))) ρ else .stuck) := by
    cases q : evR T r ρ (fun i j ρ => if rgOk i j then .ok (.fro (.py (.list (rgD i j)))) ρ else .stuck) with
    | ok c ρ' => exact fun _ _ _ => trivial
    | err n ρ' => rw [q] at h; exact h
    | stuck => rw [q] at h; exact h.elim
  have h3 : ∀ (i j : Int) (ρ' : List C) (H' : Hp), evR T r ρ (fun i j ρ => if rgOk i j then .ok (.fro (.py (.list (rgD i j)))) ρ else .stuck) = (if rgOk i j then .ok (.fro (.py (.list (rgD i j)))) ρ' else .stuck) → S0 T mg H0 G0 σ ρ' ts H' → ((-(2 ^ 62) ≤ i ∧ i < 2 ^ 62) ∧ -(2 ^ 62) ≤ j ∧ j < 2 ^ 62) ∧ R (Itr i (j - i).toNat) H' := fun i j ρ' H' e S' => by
    rw [e] at h
    by_cases hr : rgOk i j = true
    · rw [if_pos hr] at h
      refine ⟨rgOk_of hr, h (Itr i (j - i).toNat) H' [] ?_ (by rw [List.append_nil]; exact S') (fun t ht => by cases ht) fun c' hc => ?_⟩
      · rw [List.append_nil]
        exact fun σ ρ as H S ok n => walk_rng σ ρ as H S trivial n
      · obtain ⟨d, _, rfl⟩ := List.mem_map.mp hc
        exact .inl ⟨_, rfl⟩
    · rw [if_neg hr] at h; exact h.elim
  cases r with
  | one b =>
    refine ⟨ρ, ts, S, ?_⟩
    have e : ∀ {kk : Int → Int → List C → RE}, evR T (.one b) ρ kk = (ev T b ρ).bind fun c ρ => match see ρ c with
      | some (.int j) => kk 0 j ρ
      | _ => .stuck := fun {kk} => by unfold evR; rfl
    cases q : ev T b ρ with
    | err n ρ' => rw [e, q] at h2; exact h2
    | stuck => rw [e, q] at h2; exact h2
    | ok c ρ' =>
      intro v H' S'
      rw [e, q] at h2
      rw [e, q] at h3
      have h2 : endE T mg H0 G0 W σ ts (fun _ _ => True) (match see ρ' c with
        | some (.int j) => if rgOk 0 j then .ok (.fro (.py (.list (rgD 0 j)))) ρ' else .stuck
        | _ => .stuck) := h2
      have h3 : ∀ (i j : Int) (ρ'' : List C) (H' : Hp), (match see ρ' c with
        | some (.int j) => if rgOk 0 j then .ok (.fro (.py (.list (rgD 0 j)))) ρ' else .stuck
        | _ => .stuck) = (if rgOk i j then RE.ok (.fro (.py (.list (rgD i j)))) ρ'' else .stuck) → _ := h3
      cases q2 : see ρ' c with
      | none => rw [q2] at h2; exact h2.elim
      | some d =>
        rw [q2] at h2
        cases d with
        | int j => exact ⟨j, (S'.lastD q2).intV, h3 0 j ρ' H' (by rw [q2]) S'.pop⟩
        | _ => exact h2.elim
  | two a b =>
    refine ⟨ρ, ts, S, ?_⟩
    have e : ∀ {kk : Int → Int → List C → RE}, evR T (.two a b) ρ kk = (ev T a ρ).bind fun c ρ => (ev T b ρ).bind fun c' ρ => match see ρ c, see ρ c' with
      | some (.int i), some (.int j) => kk i j ρ
      | _, _ => .stuck := fun {kk} => by unfold evR; rfl
    cases q : ev T a ρ with
    | err n ρ' => rw [e, q] at h2; exact h2
    | stuck => rw [e, q] at h2; exact h2
    | ok c ρ' =>
      intro v H' S'
      rw [e, q] at h2
      rw [e, q] at h3
      refine ⟨ρ', _, S', ?_⟩
      have h2 : endE T mg H0 G0 W σ ts (fun _ _ => True) ((ev T b ρ').bind fun c' ρ => match see ρ c, see ρ c' with
        | some (.int i), some (.int j) => if rgOk i j then .ok (.fro (.py (.list (rgD i j)))) ρ else .stuck
        | _, _ => .stuck) := h2
      have h3 : ∀ (i j : Int) (ρ'' : List C) (H' : Hp), ((ev T b ρ').bind fun c' ρ => match see ρ c, see ρ c' with
        | some (.int i), some (.int j) => if rgOk i j then .ok (.fro (.py (.list (rgD i j)))) ρ else .stuck
        | _, _ => .stuck) = (if rgOk i j then RE.ok (.fro (.py (.list (rgD i j)))) ρ'' else .stuck) → _ := h3
      cases q1 : ev T b ρ' with
      | err n ρ2 => rw [q1] at h2; exact endX.drop h2
      | stuck => rw [q1] at h2; exact h2
      | ok c' ρ2 =>
        intro w H2 S2
        rw [q1] at h2 h3
        have h2 : endE T mg H0 G0 W σ ts (fun _ _ => True) (match see ρ2 c, see ρ2 c' with
          | some (.int i), some (.int j) => if rgOk i j then .ok (.fro (.py (.list (rgD i j)))) ρ2 else .stuck
          | _, _ => .stuck) := h2
        have h3 : ∀ (i j : Int) (ρ'' : List C) (H' : Hp), (match see ρ2 c, see ρ2 c' with
          | some (.int i), some (.int j) => if rgOk i j then .ok (.fro (.py (.list (rgD i j)))) ρ2 else .stuck
          | _, _ => .stuck) = (if rgOk i j then RE.ok (.fro (.py (.list (rgD i j)))) ρ'' else .stuck) → _ := h3
        cases q2 : see ρ2 c with
        | none => rw [q2] at h2; exact h2.elim
        | some d =>
          cases q3 : see ρ2 c' with
          | none => rw [q2, q3] at h2; cases d <;> exact h2.elim
          | some d2 =>
            rw [q2, q3] at h2
            cases d with
            | int i =>
              cases d2 with
              | int j => exact ⟨i, j, (S2.last2D q2).intV, (S2.lastD q3).intV, h3 i j ρ2 H2 (by rw [q2, q3]) S2.pop2⟩
              | _ => exact h2.elim
            | _ => cases d2 <;> exact h2.elim
end
end Gr

set_option Elab.async false
set_option linter.all false
set_option maxRecDepth 100000
set_option maxHeartbeats 4000000
/-! Gr O: a checked text is read as its term's evaluator says: expressions. -/
namespace Gr
open PySem L2
section
variable {T : Kit} {H0 G0 : Hp} {W : WX} {X : Cx} {k : Nat}
/-- as a value, as a test -/
def Both (T : Kit) (H0 G0 : Hp) (X : Cx) (W : WX) (m : E) (e : Expr) : Prop :=
  PE X e (rdE T X.mg H0 G0 W m) ∧ PT X e (rdT T X.mg H0 G0 W m) ∧ ∀ op es pos, e = .BoolOp op es pos → PW X e (rdT T X.mg H0 G0 W m)
theorem Both.plain {m : E} {e : Expr} (h : PE X e (rdE T X.mg H0 G0 W m)) (p : plainT e = true) : Both T H0 G0 X W m e :=
  ⟨h, PT.imp (pt_val h (true_ok p)) fun σ H Q q => rdT_E q, fun op es pos e' => by subst e'; cases p⟩
theorem and2 {a b : Bool} (h : (a && b) = true) : a = true ∧ b = true := by rwa [Bool.and_eq_true] at h
theorem gl_ok {x : Str} (h : gloB X.env.scope x = true) : Gl X x := gloB_ok h
theorem stars_tail {e : Expr} {es : List Expr} (h : (e :: es).all notStar = true) : notStar e = true ∧ es.all notStar = true := and2 (by rwa [List.all_cons] at h)
theorem opt1 {α β : Type} {o : Option α} {f : α → Option β} {b : β} (h : o.bind f = some b) : ∃ a, o = some a ∧ f a = some b := by
  cases o with
  | none => cases h
  | some a => exact ⟨a, rfl, h⟩
theorem locC_ok {sc : Scope} {x : Str} (h : locC sc x = true) : sc.names.lookup x = some .local ∨ sc.names.lookup x = some .cell := by
  unfold locC at h
  split at h <;> first | exact .inl (by assumption) | exact .inr (by assumption) | cases h
/-- the names that may be stored to -/
def Sto (X : Cx) (sc : Scope) : Prop := ∀ x, locC sc x = true → Loc X.env.scope x ∧ (X.fn x = true ∨ X.env.scope.names.lookup x = some .local)
theorem pg_names {sc : Scope} (hs : Sto X sc) : ∀ {is : List Nat} {es : List Expr}, Sx T k X W → is.length = es.length → ((is.zip es).all fun p => cName (fun x => eqB X.N[p.1]? (some x) && locC sc x) p.2) = true → PGs X es (gNames is) ∧ (assignEach es X.env).length = es.length ∧ (assignEach es X.env).findIdx? (·.1) = none
  | [], [], S, _, _ => ⟨pgs_nil, rfl, rfl⟩
  | i :: is, e :: es, S, hl, h => by
    have h : (cName (fun x => eqB X.N[i]? (some x) && locC sc x) e && (is.zip es).all fun p => cName (fun x => eqB X.N[p.1]? (some x) && locC sc x) p.2) = true := h
    obtain ⟨h1, h2⟩ := and2 h
    obtain ⟨x, pos, rfl, h3⟩ := cName_ok h1
    obtain ⟨h4, h5⟩ := and2 h3
    obtain ⟨h6, h7⟩ := hs x h5
    obtain ⟨r1, r2, r3⟩ := pg_names hs S (by simpa using hl) h2
    refine ⟨pgs_cons (pg_name S.nd (eqB_ok h4) h6 h7) r1, ?_, ?_⟩
    · show (assignEach es X.env).length + 1 = _
      rw [r2]; rfl
    · show List.findIdx? (·.1) ((false, assign (.Name x pos) X.env) :: assignEach es X.env) = none
      rw [List.findIdx?_cons]
      simp [r3]
theorem pg_of {tg : Tg} {t : Expr} {sc : Scope} (hs : Sto X sc) (S : Sx T k X W) (h : cTg X.N sc tg t = true) : PG X t (tgG X.K tg) := by
  cases tg with
  | nm i =>
    obtain ⟨x, pos, rfl, h3⟩ := cName_ok h
    obtain ⟨h4, h5⟩ := and2 h3
    obtain ⟨h6, h7⟩ := hs x h5
    exact pg_name S.nd (eqB_ok h4) h6 h7
  | tup is =>
    cases t with
    | Tuple es kk pos =>
      have h : (is.length == es.length && (is.zip es).all fun p => cName (fun x => eqB X.N[p.1]? (some x) && locC sc x) p.2) = true := h
      obtain ⟨h1, h2⟩ := and2 h
      have hl : is.length = es.length := eq_of_beq h1
      obtain ⟨r1, r2, r3⟩ := pg_names hs S hl h2
      exact pg_tup S.calm r1 (by rw [r2, hl]) r3
    | _ => cases h
theorem sto_blk (s : Shared) (H : Hp) (scope : Scope) (cl : List (Str × Addr)) (C : Addr) (fp : List Addr) : Sto (X.blk s H scope (compEnvC scope cl C X.env) fp) scope := fun x h => by
  rcases locC_ok h with h | h
  · have r : (relS scope X.env.scope).names.lookup x = some .local := lookup_relS_keep (sc := X.env.scope) (by decide) h
    exact ⟨.inl r, .inr r⟩
  · have r : (relS scope X.env.scope).names.lookup x = some .cell := lookup_relS_keep (sc := X.env.scope) (by decide) h
    exact ⟨.inr r, .inl (by show (scope.names.lookup x == some .cell) = true; rw [h]; rfl)⟩
theorem chki_enum {N : List Str} {sc : Scope} {it : It} {i : Expr} (h : isEnum it = true) : (∃ m, it = .enum m) ∨ ∃ a b, it = .zip a b := by
  cases it with
  | enum m => exact .inl ⟨m, rfl⟩
  | zip a b => exact .inr ⟨a, b, rfl⟩
  | _ => cases h
/-- a comprehension's parts -/
structure LcP (T : Kit) (H0 G0 : Hp) (X : Cx) (W : WX) (own : List Nat) (tg : Tg) (it : It) (cond : Oe) (elt : E) (el t i : Expr) (ifs : List Expr) (scope : Scope) : Prop where
  blk : BlkOk X.N X.env.scope scope (own.map fun j => (X.N[j]?.getD ("" : Str), j))
  sub : ∀ j ∈ tgIx tg, j ∈ own
  fold : noSet i = true
  pi : PI X t i (rdI T X.mg H0 G0 W it)
  pg : ∀ (s : Shared) (H : Hp) (C : Addr) (cl : List (Str × Addr)) (fp : List Addr), PG (X.blk s H scope (compEnvC scope cl C X.env) fp) t (tgG X.K tg)
  pt : ∀ (s : Shared) (H : Hp) (C : Addr) (cl : List (Str × Addr)) (fp : List Addr), PTs (X.blk s H scope (compEnvC scope cl C X.env) fp) ifs (rdC T X.mg H0 G0 cond)
  pe : ∀ (s : Shared) (H : Hp) (C : Addr) (cl : List (Str × Addr)) (fp : List Addr), PE (X.blk s H scope (compEnvC scope cl C X.env) fp) el (rdE T X.mg H0 G0 (fun _ _ _ _ => False) elt)
theorem LcP.own {own : List Nat} {tg : Tg} {it : It} {cond : Oe} {elt : E} {el t i : Expr} {ifs : List Expr} {scope : Scope} (P : LcP T H0 G0 X W own tg it cond elt el t i ifs scope) : (own.map fun j => (X.N[j]?.getD ("" : Str), j)).map (·.2) = own := by
  rw [List.map_map]
  exact List.map_id' own
theorem rdL_nil {mg : Str → Option Value} {σ : St} {H : Hp} {Q : List V → Hp → Prop} (h : rdL T mg H0 G0 W .nil σ H Q) : Q [] H := by
  obtain ⟨ρ, ts, S, h⟩ := h
  unfold evs at h
  exact h [] H rfl (by show S0 T mg H0 G0 σ ρ (ts ++ []) H; rw [List.append_nil]; exact S)
theorem rdL_cons {mg : Str → Option Value} {σ : St} {H : Hp} {Q : List V → Hp → Prop} {m : E} {ms : Es} (h : rdL T mg H0 G0 W (.cons m ms) σ H Q) : tCons (rdE T mg H0 G0 W m) (rdL T mg H0 G0 W ms) σ H Q := by
  obtain ⟨ρ, ts, S, h⟩ := h
  unfold evs at h
  refine ⟨ρ, ts, S, ?_⟩
  cases q : ev T m ρ with
  | err n ρ' => rw [q] at h; exact h
  | stuck => rw [q] at h; exact h.elim
  | ok c ρ' =>
    rw [q] at h
    intro v H' S'
    refine ⟨ρ', _, S', ?_⟩
    have h : endL T mg H0 G0 W σ ts Q (match evs T ms ρ' with
      | .ok cs ρ => .ok (c :: cs) ρ
      | r => r) := h
    cases q2 : evs T ms ρ' with
    | err n ρ2 => rw [q2] at h; exact endX.drop h
    | stuck => rw [q2] at h; exact h.elim
    | ok cs ρ2 =>
      rw [q2] at h
      intro vs H2 hl S2
      refine h (v :: vs) H2 (by simp [hl]) ?_
      rw [tz_cons]
      have e : ts ++ (some v, c) :: tz vs cs = (ts ++ [(some v, c)]) ++ tz vs cs := by simp
      rw [e]
      exact S2
theorem rdE.mono {mg : Str → Option Value} {σ : St} {H : Hp} {Q Q' : VK} {m : E} (h : rdE T mg H0 G0 W m σ H Q) (f : ∀ v H, Q v H → Q' v H) : rdE T mg H0 G0 W m σ H Q' := by
  obtain ⟨ρ, ts, S, h⟩ := h
  refine ⟨ρ, ts, S, ?_⟩
  cases q : ev T m ρ with
  | ok c ρ' => rw [q] at h; exact fun v H' S' => f _ _ (h v H' S')
  | err n ρ' => rw [q] at h; exact h
  | stuck => rw [q] at h; exact h.elim
mutual
theorem e_of : ∀ (m : E) {X : Cx} {W : WX} {e : Expr}, Sx T k X W → chk T X.N X.env.scope m e = true → Both T H0 G0 X W m e
  | .v i, X, W, e, S, h => by
    obtain ⟨x, pos, rfl, h⟩ := cName_ok h
    obtain ⟨h1, h2⟩ := and2 h
    obtain ⟨h2, h3⟩ := and2 h2
    obtain ⟨h4, h5⟩ := freeN_ok h3
    exact .plain (PE.imp (pe_var (eqB_ok h1) (visB_ok h2) h4 h5) fun _ _ _ => rd_v) rfl
  | .int n, X, W, e, S, h => by
    cases e with
    | Constant c j pos =>
      cases c with
      | int m => cases eqB_ok h; exact .plain (PE.imp pe_int fun _ _ _ => rd_int) rfl
      | _ => cases h
    | _ => cases h
  | .bl b, X, W, e, S, h => by
    cases e with
    | Constant c j pos =>
      cases c with
      | bool m => cases (eq_of_beq h : m = b); exact .plain (PE.imp pe_bl fun _ _ _ => rd_bl) rfl
      | _ => cases h
    | _ => cases h
  | .non, X, W, e, S, h => by
    cases e with
    | Constant c j pos =>
      cases c with
      | none => exact .plain (PE.imp pe_non fun _ _ _ => rd_non) rfl
      | _ => cases h
    | _ => cases h
  | .str s, X, W, e, S, h => by
    cases e with
    | Constant c j pos =>
      cases c with
      | str m => cases eqB_ok h; exact .plain (PE.imp pe_str fun _ _ _ => rd_str) rfl
      | _ => cases h
    | _ => cases h
  | .gint x n, X, W, e, S, h => by
    obtain ⟨y, pos, rfl, h⟩ := cName_ok h
    obtain ⟨h1, h2⟩ := and2 h
    obtain ⟨h2, h3⟩ := and2 h2
    obtain ⟨h3, h4⟩ := and2 h3
    cases eqB_ok h1
    obtain ⟨u, g1, g2⟩ := S.gi _ (of_decide_eq_true h4)
    exact .plain (PE.imp (pe_glob (gl_ok h2) g1 g2 (freeN_ok h3).1) fun _ _ _ => rd_gint) rfl
  | .neg a, X, W, e, S, h => by
    obtain ⟨x, pos, rfl, h⟩ := cUn_ok h
    exact .plain (PE.imp (pe_un un_neg (e_of a S h).1) fun _ _ _ => rd_neg) rfl
  | .op o a b, X, W, e, S, h => by
    obtain ⟨x, y, pos, rfl, h1, h2⟩ := cBin_ok h
    exact .plain (PE.imp (pe_op (op_ok o) (e_of a S h1).1 (e_of b S h2).1) fun _ _ _ => rd_op) rfl
  | .cm o a b, X, W, e, S, h => by
    obtain ⟨x, y, pos, rfl, hm, h1, h2⟩ := cCmp_ok h
    refine ⟨PE.imp (pe_cmpR (cm_ok S.units o) (e_of a S h1).1 (e_of b S h2).1 hm) fun _ _ _ => rd_cm, PT.imp (pt_cmpR (cm_ok S.units o) (e_of a S h1).1 (e_of b S h2).1 hm) fun _ _ _ q => rd_cm (rdT_E q), fun op es pos e => by cases e⟩
  | .isn ng a, X, W, e, S, h => by
    obtain ⟨x, kk, p, pos, rfl, h⟩ := cIs_ok h
    cases ng with
    | false =>
      refine ⟨PE.imp (pe_cmp (pc_isN (e_of a S h).1) rfl) fun _ _ _ => rd_isF, PT.imp (pt_cmp (pc_isN (e_of a S h).1) rfl) fun _ _ _ q => rd_isF (rdT_E q), fun op es pos e => by cases e⟩
    | true =>
      refine ⟨PE.imp (pe_cmp (pc_notN (e_of a S h).1) rfl) fun _ _ _ => rd_isT, PT.imp (pt_cmp (pc_notN (e_of a S h).1) rfl) fun _ _ _ q => rd_isT (rdT_E q), fun op es pos e => by cases e⟩
  | .chn o p a b d, X, W, e, S, h => by
    obtain ⟨x, y, z, pos, rfl, hm, h1, h2, h3⟩ := cChn_ok h
    refine ⟨PE.imp (pe_chain (cm_ok S.units o) (cm_ok S.units p) (e_of a S h1).1 (e_of b S h2).1 (e_of d S h3).1 hm) fun _ _ _ => rd_chn, PT.imp (pt_chain (cm_ok S.units o) (cm_ok S.units p) (e_of a S h1).1 (e_of b S h2).1 (e_of d S h3).1 hm) fun _ _ _ q => rd_chn (rdT_E q), fun op es pos e => by cases e⟩
  | .and a b, X, W, e, S, h => by
    rcases cBool_ok h with ⟨x, y, pos, rfl, h1, h2⟩ | ⟨x, y, z, r, pos, rfl, h1, h2⟩
    · have w : PW X (.BoolOp .And [x, y] pos) (rdT T X.mg H0 G0 W (.and a b)) := PW.imp (pw_and (e_of a S h1).2.1 (pw_and1 (e_of b S h2).2.1)) fun _ _ _ => rdT_and
      exact ⟨PE.imp (pe_and (e_of a S h1).1 (pe_one (e_of b S h2).1)) fun _ _ _ => rd_and, w.pt, fun _ _ _ e => w⟩
    · have w : PW X (.BoolOp .And (x :: y :: z :: r) pos) (rdT T X.mg H0 G0 W (.and a b)) := PW.imp (pw_and (e_of a S h1).2.1 ((e_of b S h2).2.2 _ _ _ rfl)) fun _ _ _ => rdT_and
      exact ⟨PE.imp (pe_and (e_of a S h1).1 (e_of b S h2).1) fun _ _ _ => rd_and, w.pt, fun _ _ _ e => w⟩
  | .or a b, X, W, e, S, h => by
    rcases cBool_ok h with ⟨x, y, pos, rfl, h1, h2⟩ | ⟨x, y, z, r, pos, rfl, h1, h2⟩
    · have w : PW X (.BoolOp .Or [x, y] pos) (rdT T X.mg H0 G0 W (.or a b)) := PW.imp (pw_or (e_of a S h1).2.1 (pw_or1 (e_of b S h2).2.1)) fun _ _ _ => rdT_or
      exact ⟨PE.imp (pe_or (e_of a S h1).1 (pe_one (e_of b S h2).1)) fun _ _ _ => rd_or, w.pt, fun _ _ _ e => w⟩
    · have w : PW X (.BoolOp .Or (x :: y :: z :: r) pos) (rdT T X.mg H0 G0 W (.or a b)) := PW.imp (pw_or (e_of a S h1).2.1 ((e_of b S h2).2.2 _ _ _ rfl)) fun _ _ _ => rdT_or
      exact ⟨PE.imp (pe_or (e_of a S h1).1 (e_of b S h2).1) fun _ _ _ => rd_or, w.pt, fun _ _ _ e => w⟩
  | .not a, X, W, e, S, h => by
    obtain ⟨x, pos, rfl, h⟩ := cUn_ok h
    exact ⟨PE.imp (pe_not (e_of a S h).1) fun _ _ _ => rd_not, PT.imp (pt_not (e_of a S h).2.1) fun _ _ _ => rdT_not, fun _ _ _ e => by cases e⟩
  | .ix a b, X, W, e, S, h => by
    obtain ⟨x, y, pos, rfl, hs, h1, h2⟩ := cSub_ok h
    exact .plain (PE.imp (pe_ix (ixA_ok (by have := S.units; omega)) (e_of a S h1).1 (e_of b S h2).1 (plainIx_ok hs)) fun _ _ _ => rd_ix) rfl
  | .sl a lo hi, X, W, e, S, h => by
    obtain ⟨x, l, u, p, pos, rfl, h1, h2, h3⟩ := cSl_ok h
    exact .plain (PE.imp (pe_slice slG_ok (e_of a S h1).1 (o_of lo S h2) (o_of hi S h3)) fun _ _ _ => rd_sl) rfl
  | .sls a lo hi st, X, W, e, S, h => by
    obtain ⟨x, l, u, k, p, pos, rfl, h1, h2, h3, h4⟩ := cSl3_ok h
    exact .plain (PE.imp (pe_slice3 (e_of a S h1).1 (o_of lo S h2) (o_of hi S h3) (o_of st S h4)) fun _ _ _ => rd_sls) rfl
  | .tup es, X, W, e, S, h => by
    obtain ⟨hl, h⟩ := and2 h
    obtain ⟨xs, kk, pos, rfl, h⟩ := cTup_ok h
    exact .plain (PE.imp (pe_tup (es_of es S h)) fun _ _ _ => rd_tup (of_decide_eq_true hl)) rfl
  | .lst es, X, W, e, S, h => by
    obtain ⟨hl, h⟩ := and2 h
    obtain ⟨xs, pos, rfl, h⟩ := cLst_ok h
    exact .plain (PE.imp (pe_lst (es_of es S h)) fun _ _ _ => rd_lst (of_decide_eq_true hl)) rfl
  | .bi b es, X, W, e, S, h => by
    obtain ⟨h1, h⟩ := and2 h
    obtain ⟨h1, h2⟩ := and2 h1
    obtain ⟨h2, h3⟩ := and2 h2
    obtain ⟨xs, p, pos, rfl, hs, h⟩ := cCall_ok h
    cases xs with
    | nil =>
      cases es with
      | nil => exact absurd (of_decide_eq_true h3) (Nat.lt_irrefl _)
      | cons _ _ => cases h
    | cons x xs =>
      obtain ⟨s1, s2⟩ := stars_tail hs
      exact .plain (PE.imp (bi_pe b S.calm (by have := S.units; omega) (gl_ok h1) (S.bl _ (of_decide_eq_true h2)) (es_of es S h) (star_ok s1) (stars_ok s2)) fun _ _ _ => rd_bi) rfl
  | .rng tu r, X, W, e, S, h => by
    obtain ⟨h1, h⟩ := and2 h
    obtain ⟨h1, h2⟩ := and2 h1
    obtain ⟨h2, h3⟩ := and2 h2
    obtain ⟨h3, h4⟩ := and2 h3
    have h2 := S.bl _ (of_decide_eq_true h2)
    have h4 := S.bl _ (of_decide_eq_true h4)
    obtain ⟨xs, p, pos, rfl, hs, h⟩ := cCall_ok h
    match xs, hs, h with
    | [x], hs, h =>
      obtain ⟨s1, _⟩ := stars_tail hs
      obtain ⟨ys, p2, pos2, rfl, hs2, h⟩ := cCall_ok h
      have rg := (r_of r S h hs2 (gl_ok h3) h4 (p := p2) (pos := pos2) (tg := .Constant .none 0 pos)).1
      cases tu with
      | false => exact .plain (PE.imp (pe_listRg S.calm (gl_ok h1) h2 rg (star_ok s1)) fun _ _ _ => rd_rngL) rfl
      | true => exact .plain (PE.imp (pe_tupRg S.calm (gl_ok h1) h2 rg (star_ok s1)) fun _ _ _ => rd_rngT) rfl
    | [], _, h => cases h
    | _ :: _ :: _, _, h => cases h
  | .trev a, X, W, e, S, h => by
    obtain ⟨h1, h⟩ := and2 h
    obtain ⟨h1, h2⟩ := and2 h1
    obtain ⟨h2, h3⟩ := and2 h2
    obtain ⟨h3, h4⟩ := and2 h3
    have h2 := S.bl _ (of_decide_eq_true h2)
    have h4 := S.bl _ (of_decide_eq_true h4)
    obtain ⟨xs, p, pos, rfl, hs, h⟩ := cCall_ok h
    match xs, hs, h with
    | [x], hs, h =>
      obtain ⟨s1, _⟩ := stars_tail hs
      obtain ⟨ys, p2, pos2, rfl, hs2, h⟩ := cCall_ok h
      match ys, hs2, h with
      | [y], hs2, h =>
        obtain ⟨s2, _⟩ := stars_tail hs2
        exact .plain (PE.imp (RT.pe_tupRev S.calm (gl_ok h1) h2 (gl_ok h3) h4 (e_of a S h).1 (star_ok s2) (star_ok s1)) fun _ _ _ => rd_trev) rfl
      | [], _, h => cases h
      | _ :: _ :: _, _, h => cases h
    | [], _, h => cases h
    | _ :: _ :: _, _, h => cases h
  | .dnew t, X, W, e, S, h => by
    obtain ⟨pos, rfl⟩ := cDict0_ok h
    cases t with
    | false => exact .plain (PE.imp pe_dnewK fun _ _ _ => rd_dnewK) rfl
    | true => exact .plain (PE.imp pe_dnewT fun _ _ _ => rd_dnewT) rfl
  | .call g ms es, X, W, e, S, h => by
    have h : (match T.fns[g]? with
      | some (x, _) => (gloB X.env.scope x && freeN x) && cCall x (chks T X.N X.env.scope es) e
      | none => false) = true := h
    cases hF : T.fns[g]? with
    | none => rw [hF] at h; cases h
    | some xF =>
      obtain ⟨x, F⟩ := xF
      rw [hF] at h
      obtain ⟨h1, h⟩ := and2 h
      obtain ⟨h1, h2⟩ := and2 h1
      obtain ⟨xs, p, pos, rfl, hs, h⟩ := cCall_ok h
      obtain ⟨f, fd, ps, g1, g2, g3, g4⟩ := S.fns g x F hF
      cases xs with
      | nil =>
        cases es with
        | cons _ _ => cases h
        | nil => exact .plain (PE.imp (pe_callS0 (E := WE W) g4 S.room (gl_ok h1) g1 g2 g3 (fun σ => passAt S.tk σ) (freeN_ok h2).1) fun σ H Q q => rdL_nil (rd_call hF q)) rfl
      | cons x' xs =>
        obtain ⟨s1, s2⟩ := stars_tail hs
        exact .plain (PE.imp (pe_callS (E := WE W) g4 S.room (gl_ok h1) g1 g2 g3 (fun σ => passAt S.tk σ) (es_of es S h) (freeN_ok h2).1 (star_ok s1) (stars_ok s2)) fun _ _ _ => rd_call hF) rfl
  | .mk c ms es, X, W, e, S, h => by
    have h : (match T.g.cls[c]? with
      | some (x, _) => ((gloB X.env.scope x && freeN x) && T.ini[c]?.isSome) && cCall x (chks T X.N X.env.scope es) e
      | none => false) = true := h
    cases hT : T.g.cls[c]? with
    | none => rw [hT] at h; cases h
    | some xF =>
      obtain ⟨x, fl⟩ := xF
      rw [hT] at h
      obtain ⟨h1, h⟩ := and2 h
      obtain ⟨h1, h3⟩ := and2 h1
      obtain ⟨h1, h2⟩ := and2 h1
      obtain ⟨F, hF⟩ := Option.isSome_iff_exists.mp h3
      obtain ⟨xs, p, pos, rfl, hs, h⟩ := cCall_ok h
      obtain ⟨nm, fl', C, f, fd, ps, j, g0, g1, g2, g3, g4, g5⟩ := S.ini c F hF
      rw [hT] at g0
      cases g0
      have hr := S.room.mono g2
      cases xs with
      | nil =>
        cases es with
        | cons _ _ => cases h
        | nil => exact .plain (PE.imp (pe_makeS0 (E := WE W) g3 g5 hr (gl_ok h1) g1 g4 (fun σ => passAt S.tk σ) (freeN_ok h2).1) fun σ H Q q => rdL_nil (rd_mk hF hT g1 q)) rfl
      | cons x' xs =>
        obtain ⟨s1, s2⟩ := stars_tail hs
        exact .plain (PE.imp (pe_makeS (E := WE W) g3 g5 hr (gl_ok h1) g1 g4 (fun σ => passAt S.tk σ) (es_of es S h) (freeN_ok h2).1 (star_ok s1) (stars_ok s2)) fun _ _ _ => rd_mk hF hT g1) rfl
  | .fld a c j, X, W, e, S, h => by
    obtain ⟨x, y, pos, rfl, hn, hb, h⟩ := cAttr_ok h
    obtain ⟨⟨nm, fl⟩, h1, h2⟩ := opt1 hn
    obtain ⟨C, hC⟩ := S.cls _ _ _ h1
    exact .plain (PE.imp (pe_fld (e_of a S h).1 (base_ok hb)) fun _ _ _ => rd_fld h1 hC h2) rfl
  | .isi one a cs, X, W, e, S, h => by
    obtain ⟨h1, h⟩ := and2 h
    obtain ⟨h1, h2⟩ := and2 h1
    have h2 := S.bl _ (of_decide_eq_true h2)
    obtain ⟨xs, p, pos, rfl, hs, h⟩ := cCall_ok h
    match xs, hs, h with
    | [x, y], hs, h =>
      obtain ⟨s1, s2⟩ := stars_tail hs
      obtain ⟨s3, _⟩ := stars_tail s2
      obtain ⟨h3, h5⟩ := and2 h
      obtain ⟨h3, h4⟩ := and2 h3
      have hn : cs ≠ [] := fun z => by subst z; cases h3
      cases one with
      | true =>
        have h5 : (cCls T X.env.scope cs [y] && decide (cs.length = 1)) = true := h5
        obtain ⟨h5, h6⟩ := and2 h5
        obtain ⟨cl, rfl⟩ := List.length_eq_one_iff.mp (of_decide_eq_true h6)
        obtain ⟨vc, uc, hv, hp, _⟩ := pe_cl S.sh (and2 h5).1
        exact .plain (PE.imp (pe_callB isG_ok (gl_ok h1) h2 PyProof.Rows.boot_isinstance (pa_cons (e_of a S h4).1 (pa_cons hp pa_nil (star_ok s3)) (star_ok s1)) (by decide) (by decide) (star_ok s1) (stars_ok s2)) fun _ _ _ => rd_isi1 S.isf S.exs rfl hv) rfl
      | false =>
        have h5 : (decide (cs.length ≤ 16777216) && cTup (cCls T X.env.scope cs) y) = true := h5
        obtain ⟨h7, h6⟩ := and2 h5
        obtain ⟨ys, kk, p2, rfl, h6⟩ := cTup_ok h6
        obtain ⟨vs, us, hf, hl, ha⟩ := pa_cls S.sh h6
        exact .plain (PE.imp (pe_callB isG_ok (gl_ok h1) h2 PyProof.Rows.boot_isinstance (pa_cons (e_of a S h4).1 (pa_cons (pe_tup ha) pa_nil (star_ok s3)) (star_ok s1)) (by decide) (by decide) (star_ok s1) (stars_ok s2)) fun _ _ _ => rd_isiT S.isf S.exs hn hl hf (of_decide_eq_true h7)) rfl
    | [], _, h => cases h
    | [_], _, h => cases h
    | _ :: _ :: _ :: _, _, h => cases h
  | .lc own tg it cond elt, X, W, e, S, h => by
    cases e with
    | ListComp el gs scope pos =>
      match gs, h with
      | [⟨t, i, ifs, 0⟩], h =>
        obtain ⟨h1, h⟩ := and2 h
        obtain ⟨h1, h2⟩ := and2 h1
        obtain ⟨h2, h3⟩ := and2 h2
        obtain ⟨h4, h⟩ := and2 h
        obtain ⟨h4, h5⟩ := and2 h4
        obtain ⟨h6, h⟩ := and2 h
        obtain ⟨h7, h⟩ := and2 h
        obtain ⟨h8, h9⟩ := and2 h
        have hsub : ∀ j ∈ tgIx tg, j ∈ own := fun j hj => of_decide_eq_true (List.all_eq_true.mp h2 j hj)
        have hown : (own.map fun j => (X.N[j]?.getD ("" : Str), j)).map (·.2) = own := by
          rw [List.map_map]
          exact List.map_id' own
        have hlc := pe_lc (elt := el) (te := rdE T X.mg H0 G0 (fun _ _ _ _ => False) elt) (tt := rdC T X.mg H0 G0 cond) (g := tgG X.K tg) (scope := scope) (pos := pos) (own := own.map fun j => (X.N[j]?.getD ("" : Str), j)) S.calm S.nd (i_of it S h7 h5) (blkOk_by h1)
          (fun s H C cl fp => pg_of (sto_blk s H scope cl C fp) (S.blk s H scope cl C fp) h6) (fun s H C cl fp => c_of cond (S.blk s H scope cl C fp) h8) (fun s H C cl fp => (e_of elt (S.blk s H scope cl C fp) h9).1) (fold_ok h4)
        rw [hown] at hlc
        exact .plain (PE.imp hlc fun _ _ _ => lc_read hsub) rfl
    | _ => cases h
  | .frz a, X, W, e, S, h => .plain (PE.imp (e_of a S (and2 h).2).1 fun _ _ _ => rd_frz) (and2 (and2 h).1).2
  | .lens a, X, W, e, S, h => by
    obtain ⟨h1, h⟩ := and2 h
    obtain ⟨h1, h2⟩ := and2 h1
    obtain ⟨h2, h3⟩ := and2 h2
    obtain ⟨h3, h4⟩ := and2 h3
    have h2 := S.bl _ (of_decide_eq_true h2)
    have h4 := S.bl _ (of_decide_eq_true h4)
    obtain ⟨xs, p, pos, rfl, hs, h⟩ := cCall_ok h
    match xs, hs, h with
    | [x], hs, h =>
      obtain ⟨s1, _⟩ := stars_tail hs
      obtain ⟨ys, p2, pos2, rfl, hs2, h⟩ := cCall_ok h
      match ys, hs2, h with
      | [y], hs2, h =>
        obtain ⟨s2, _⟩ := stars_tail hs2
        exact .plain (PE.imp (pe_lenSetT S.calm (gl_ok h1) h2 (gl_ok h3) h4 (e_of a S h).1 (star_ok s2) (star_ok s1)) fun _ _ _ => rd_lens) rfl
      | [], _, h => cases h
      | _ :: _ :: _, _, h => cases h
    | [], _, h => cases h
    | _ :: _ :: _, _, h => cases h
  | .disp a b, X, W, e, S, h => by
    obtain ⟨x, y, pos, rfl, h1, h2⟩ := isDisp_ok h
    exact .plain (PE.imp (pe_disp (pps_cons (e_of a S h1).1 (e_of b S h2).1 pps_nil) rfl rfl (by simp) (by simp)) fun _ _ _ => rd_disp) rfl
theorem es_of : ∀ (m : Es) {X : Cx} {W : WX} {es : List Expr}, Sx T k X W → chks T X.N X.env.scope m es = true → PA X es (rdL T X.mg H0 G0 W m)
  | .nil, X, W, es, S, h => by
    cases es with
    | nil => exact PA.imp pa_nil fun _ _ _ => rdL_nil
    | cons _ _ => cases h
  | .cons m ms, X, W, es, S, h => by
    cases es with
    | nil => cases h
    | cons e es =>
      obtain ⟨h1, h⟩ := and2 h
      obtain ⟨h2, h3⟩ := and2 h
      exact PA.imp (pa_cons (e_of m S h2).1 (es_of ms S h3) (star_ok h1)) fun _ _ _ => rdL_cons
theorem o_of : ∀ (m : Oe) {X : Cx} {W : WX} {e : Option Expr}, Sx T k X W → chko T X.N X.env.scope m e = true → PO X e (rdP T X.mg H0 G0 W m)
  | .no, X, W, e, S, h => by
    cases e with
    | none => exact po_none
    | some _ => cases h
  | .yes m, X, W, e, S, h => by
    cases e with
    | none => cases h
    | some e => exact po_some (e_of m S h).1
theorem c_of : ∀ (m : Oe) {X : Cx} {es : List Expr}, Sx T k X (fun _ _ _ _ => False) → chkc T X.N X.env.scope m es = true → PTs X es (rdC T X.mg H0 G0 m)
  | .no, X, es, S, h => by
    cases es with
    | nil => exact pts_nil
    | cons _ _ => cases h
  | .yes m, X, es, S, h => by
    match es, h with
    | [e], h => exact pts_one (e_of m S h).2.1
    | [], h => cases h
    | _ :: _ :: _, h => cases h
theorem r_of : ∀ (r : Rg) {X : Cx} {W : WX} {es : List Expr} {p pos : Pos} {tg : Expr}, Sx T k X W → chkr T X.N X.env.scope r es = true → es.all notStar = true → Gl X "range" → X.mg "range" = none → PRg X (.Call (.Name "range" p) es [] pos) (rdR T X.mg H0 G0 W r) ∧ PI X tg (.Call (.Name "range" p) es [] pos) (rdI T X.mg H0 G0 W (.rng r))
  | .one b, X, W, es, p, pos, tg, S, h, hs, hg, hm => by
    match es, hs, h with
    | [e], hs, h =>
      obtain ⟨s1, _⟩ := stars_tail hs
      have he := (e_of b S h).1
      refine ⟨prg_1 hg hm he (star_ok s1), PI.imp (pi_range1 hg hm (pa_cons he pa_nil (star_ok s1)) (star_ok s1)) fun σ H R q => ?_⟩
      refine rdE.mono (rdI_rng q) fun v H ⟨n, e, ⟨_, b1, b2⟩, q⟩ => ⟨n, by rw [e], b1, b2, ?_⟩
      rw [Int.sub_zero] at q
      exact q
    | [], _, h => cases h
    | _ :: _ :: _, _, h => cases h
  | .two a b, X, W, es, p, pos, tg, S, h, hs, hg, hm => by
    match es, hs, h with
    | [d, e], hs, h =>
      obtain ⟨s1, s2⟩ := stars_tail hs
      obtain ⟨s3, _⟩ := stars_tail s2
      obtain ⟨h1, h2⟩ := and2 h
      have ha := (e_of a S h1).1
      have hb := (e_of b S h2).1
      refine ⟨prg_2 hg hm ha hb (star_ok s1) (star_ok s3) (stars_ok s2), PI.imp (pi_range2 hg hm (pa_cons ha (pa_cons hb pa_nil (star_ok s3)) (star_ok s1)) (by rw [star_ok s1, star_ok s3]; rfl) (star_ok s3)) fun σ H R q => ?_⟩
      exact rdE.mono (rdI_rng q) fun v H q => rdE.mono q fun w H ⟨i, j, e1, e2, ⟨⟨b1, b2⟩, b3, b4⟩, q⟩ => ⟨i, j, by rw [e1, e2], ⟨b1, b2, b3, b4⟩, q⟩
    | [], _, h => cases h
    | [_], _, h => cases h
    | _ :: _ :: _ :: _, _, h => cases h
theorem i_of : ∀ (m : It) {X : Cx} {W : WX} {tg e : Expr}, Sx T k X W → chki T X.N X.env.scope m e = true → (isTup tg || !isEnum m) = true → PI X tg e (rdI T X.mg H0 G0 W m)
  | .of m, X, W, tg, e, S, h, _ => PI.imp (pi_seq (e_of m S h).1) fun _ _ _ => rdI_of
  | .rng r, X, W, tg, e, S, h, _ => by
    obtain ⟨h1, h⟩ := and2 h
    obtain ⟨h1, h2⟩ := and2 h1
    obtain ⟨xs, p, pos, rfl, hs, h⟩ := cCall_ok h
    exact (r_of r S h hs (gl_ok h1) (S.bl _ (of_decide_eq_true h2))).2
  | .enum m, X, W, tg, e, S, h, ht => by
    obtain ⟨h1, h⟩ := and2 h
    obtain ⟨h1, h2⟩ := and2 h1
    obtain ⟨xs, p, pos, rfl, hs, h⟩ := cCall_ok h
    match xs, hs, h with
    | [x], hs, h =>
      obtain ⟨s1, _⟩ := stars_tail hs
      cases tg with
      | Tuple elts kk tpos => exact PI.imp (pi_enum (gl_ok h1) (S.bl _ (of_decide_eq_true h2)) (pa_cons (e_of m S h).1 pa_nil (star_ok s1)) (star_ok s1)) fun _ _ _ => rdI_enum
      | _ => cases ht
    | [], _, h => cases h
    | _ :: _ :: _, _, h => cases h
  | .rev m, X, W, tg, e, S, h, _ => by
    obtain ⟨h1, h⟩ := and2 h
    obtain ⟨h1, h2⟩ := and2 h1
    obtain ⟨xs, p, pos, rfl, hs, h⟩ := cCall_ok h
    match xs, hs, h with
    | [x], hs, h =>
      obtain ⟨s1, _⟩ := stars_tail hs
      exact PI.imp (RT.pi_revA (gl_ok h1) (S.bl _ (of_decide_eq_true h2)) (e_of m S h).1 (star_ok s1)) fun _ _ _ => rdI_rev
    | [], _, h => cases h
    | _ :: _ :: _, _, h => cases h
  | .zip a b, X, W, tg, e, S, h, ht => by
    obtain ⟨h1, h⟩ := and2 h
    obtain ⟨h1, h2⟩ := and2 h1
    obtain ⟨xs, p, pos, rfl, hs, h⟩ := cCall_ok h
    match xs, hs, h with
    | [x, y], hs, h =>
      obtain ⟨s1, s2⟩ := stars_tail hs
      obtain ⟨s3, _⟩ := stars_tail s2
      obtain ⟨h3, h4⟩ := and2 h
      cases tg with
      | Tuple elts kk tpos => exact PI.imp (RZ.pi_zipA (gl_ok h1) (S.bl _ (of_decide_eq_true h2)) (pa_cons (e_of a S h3).1 (pa_cons (e_of b S h4).1 pa_nil (star_ok s3)) (star_ok s1)) (star_ok s1) (stars_ok s2)) fun _ _ _ => rdI_zip
      | _ => cases ht
    | [], _, h => cases h
    | [_], _, h => cases h
    | _ :: _ :: _ :: _, _, h => cases h
end
/-! what may stand in a handler -/
mutual
def hotE : E → Bool
  | .v _ => true
  | .int _ => true
  | .bl _ => true
  | .non => true
  | .str _ => true
  | .isi _ a _ => hotE a
  | .tup es => hotEs es
  | _ => false
def hotEs : Es → Bool
  | .nil => true
  | .cons e es => hotE e && hotEs es
end
mutual
theorem eh_of : ∀ (m : E) {X : Cx} {W : WX} {e : Expr}, Sh T X → hotE m = true → chk T X.N X.env.scope m e = true → PE X e (rdE T X.mg H0 G0 W m)
  | .v i, X, W, e, S, _, h => by
    obtain ⟨x, pos, rfl, h⟩ := cName_ok h
    obtain ⟨h1, h2⟩ := and2 h
    obtain ⟨h2, h3⟩ := and2 h2
    obtain ⟨h4, h5⟩ := freeN_ok h3
    exact PE.imp (pe_var (eqB_ok h1) (visB_ok h2) h4 h5) fun _ _ _ => rd_v
  | .int n, X, W, e, S, _, h => by
    cases e with
    | Constant c j pos =>
      cases c with
      | int m => cases eqB_ok h; exact PE.imp pe_int fun _ _ _ => rd_int
      | _ => cases h
    | _ => cases h
  | .bl b, X, W, e, S, _, h => by
    cases e with
    | Constant c j pos =>
      cases c with
      | bool m => cases (eq_of_beq h : m = b); exact PE.imp pe_bl fun _ _ _ => rd_bl
      | _ => cases h
    | _ => cases h
  | .non, X, W, e, S, _, h => by
    cases e with
    | Constant c j pos =>
      cases c with
      | none => exact PE.imp pe_non fun _ _ _ => rd_non
      | _ => cases h
    | _ => cases h
  | .str s, X, W, e, S, _, h => by
    cases e with
    | Constant c j pos =>
      cases c with
      | str m => cases eqB_ok h; exact PE.imp pe_str fun _ _ _ => rd_str
      | _ => cases h
    | _ => cases h
  | .tup es, X, W, e, S, ht, h => by
    obtain ⟨hl, h⟩ := and2 h
    obtain ⟨xs, kk, pos, rfl, h⟩ := cTup_ok h
    exact PE.imp (pe_tup (ehs_of es S ht h)) fun _ _ _ => rd_tup (of_decide_eq_true hl)
  | .isi one a cs, X, W, e, S, ht, h => by
    obtain ⟨h1, h⟩ := and2 h
    obtain ⟨h1, h2⟩ := and2 h1
    have h2 := S.bl _ (of_decide_eq_true h2)
    obtain ⟨xs, p, pos, rfl, hs, h⟩ := cCall_ok h
    match xs, hs, h with
    | [x, y], hs, h =>
      obtain ⟨s1, s2⟩ := stars_tail hs
      obtain ⟨s3, _⟩ := stars_tail s2
      obtain ⟨h3, h5⟩ := and2 h
      obtain ⟨h3, h4⟩ := and2 h3
      have hn : cs ≠ [] := fun z => by subst z; cases h3
      cases one with
      | true =>
        have h5 : (cCls T X.env.scope cs [y] && decide (cs.length = 1)) = true := h5
        obtain ⟨h5, h6⟩ := and2 h5
        obtain ⟨cl, rfl⟩ := List.length_eq_one_iff.mp (of_decide_eq_true h6)
        obtain ⟨vc, uc, hv, hp, _⟩ := pe_cl S (and2 h5).1
        exact PE.imp (pe_callB isG_ok (gl_ok h1) h2 PyProof.Rows.boot_isinstance (pa_cons (eh_of a S ht h4) (pa_cons hp pa_nil (star_ok s3)) (star_ok s1)) (by decide) (by decide) (star_ok s1) (stars_ok s2)) fun _ _ _ => rd_isi1 S.isf S.exs rfl hv
      | false =>
        have h5 : (decide (cs.length ≤ 16777216) && cTup (cCls T X.env.scope cs) y) = true := h5
        obtain ⟨h7, h6⟩ := and2 h5
        obtain ⟨ys, kk, p2, rfl, h6⟩ := cTup_ok h6
        obtain ⟨vs, us, hf, hl, ha⟩ := pa_cls S h6
        exact PE.imp (pe_callB isG_ok (gl_ok h1) h2 PyProof.Rows.boot_isinstance (pa_cons (eh_of a S ht h4) (pa_cons (pe_tup ha) pa_nil (star_ok s3)) (star_ok s1)) (by decide) (by decide) (star_ok s1) (stars_ok s2)) fun _ _ _ => rd_isiT S.isf S.exs hn hl hf (of_decide_eq_true h7)
    | [], _, h => cases h
    | [_], _, h => cases h
    | _ :: _ :: _ :: _, _, h => cases h
  | .gint _ _, _, _, _, _, ht, _ => by cases ht
  | .neg _, _, _, _, _, ht, _ => by cases ht
  | .op _ _ _, _, _, _, _, ht, _ => by cases ht
  | .cm _ _ _, _, _, _, _, ht, _ => by cases ht
  | .isn _ _, _, _, _, _, ht, _ => by cases ht
  | .chn _ _ _ _ _, _, _, _, _, ht, _ => by cases ht
  | .and _ _, _, _, _, _, ht, _ => by cases ht
  | .or _ _, _, _, _, _, ht, _ => by cases ht
  | .not _, _, _, _, _, ht, _ => by cases ht
  | .ix _ _, _, _, _, _, ht, _ => by cases ht
  | .sl _ _ _, _, _, _, _, ht, _ => by cases ht
  | .sls _ _ _ _, _, _, _, _, ht, _ => by cases ht
  | .lst _, _, _, _, _, ht, _ => by cases ht
  | .bi _ _, _, _, _, _, ht, _ => by cases ht
  | .rng _ _, _, _, _, _, ht, _ => by cases ht
  | .trev _, _, _, _, _, ht, _ => by cases ht
  | .dnew _, _, _, _, _, ht, _ => by cases ht
  | .call _ _ _, _, _, _, _, ht, _ => by cases ht
  | .mk _ _ _, _, _, _, _, ht, _ => by cases ht
  | .fld _ _ _, _, _, _, _, ht, _ => by cases ht
  | .lc _ _ _ _ _, _, _, _, _, ht, _ => by cases ht
  | .lens _, _, _, _, _, ht, _ => by cases ht
  | .frz _, _, _, _, _, ht, _ => by cases ht
  | .disp _ _, _, _, _, _, ht, _ => by cases ht
theorem ehs_of : ∀ (m : Es) {X : Cx} {W : WX} {es : List Expr}, Sh T X → hotEs m = true → chks T X.N X.env.scope m es = true → PA X es (rdL T X.mg H0 G0 W m)
  | .nil, X, W, es, S, _, h => by
    cases es with
    | nil => exact PA.imp pa_nil fun _ _ _ => rdL_nil
    | cons _ _ => cases h
  | .cons m ms, X, W, es, S, ht, h => by
    cases es with
    | nil => cases h
    | cons e es =>
      obtain ⟨t1, t2⟩ := and2 ht
      obtain ⟨h1, h⟩ := and2 h
      obtain ⟨h2, h3⟩ := and2 h
      exact PA.imp (pa_cons (eh_of m S t1 h2) (ehs_of ms S t2 h3) (star_ok h1)) fun _ _ _ => rdL_cons
end
end
end Gr

set_option Elab.async false
set_option linter.all false
set_option maxRecDepth 100000
set_option maxHeartbeats 4000000
/-! Gr P: statements' readings. -/
namespace Gr
open PySem L2
section
variable (T : Kit) (mg : Str → Option Value) (H0 G0 : Hp) (W : WX)
def LkT (fx : List Nat) (ts : List Cell) : Prop := ∀ t ∈ ts, ∀ j, t.2 = .pk j → j ∈ fx
def endS (ts : List Cell) (D : Ends) : RS → Prop
  | .next ρ => ∀ σ H, S0 T mg H0 G0 σ ρ ts H → D.nx σ H
  | .ret c ρ => ∀ v σ H, S0 T mg H0 G0 σ ρ (ts ++ [(some v, c)]) H → D.rt v H
  | .brk ρ => ∀ σ H, S0 T mg H0 G0 σ ρ ts H → D.bk σ H
  | .cont ρ => ∀ σ H, S0 T mg H0 G0 σ ρ ts H → D.ct σ H
  | .err n ρ => ∀ σ, endX T mg H0 G0 W σ ts n ρ
  | .stuck => False
def rdS (m : S) : TS := fun D σ H => ∃ fx ρ ts, S0 T mg H0 G0 σ ρ ts H ∧ LkT fx ts ∧ endS T mg H0 G0 W ts D (run T fx m ρ)
def rdSs (m : Ss) : TS := fun D σ H => ∃ fx ρ ts, S0 T mg H0 G0 σ ρ ts H ∧ LkT fx ts ∧ endS T mg H0 G0 W ts D (runs T fx m ρ)
end
section
variable {T : Kit} {mg : Str → Option Value} {H0 G0 H H' : Hp} {W : WX} {σ : St} {ρ ρ' ρ1 : List C} {ts as : List Cell} {Q : VK} {v w : V} {c c' : C} {G B : Hp} {ow : Addr → Option Kx} {D : Ends} {fx : List Nat} {e : E} {X : Cx}
theorem rdE.toS {m : E} {R : VK} {k : C → List C → RS} (S : S0 T mg H0 G0 σ ρ (ts ++ as) H) (h : endS T mg H0 G0 W ts D ((ev T m ρ).toRS k)) (hk : ∀ c ρ' v H', S0 T mg H0 G0 σ ρ' (ts ++ as ++ [(some v, c)]) H' → endS T mg H0 G0 W ts D (k c ρ') → R v H') : rdE T mg H0 G0 W m σ H R := by
  refine ⟨ρ, ts ++ as, S, ?_⟩
  cases q : ev T m ρ with
  | ok c ρ' => rw [q] at h; exact fun v H' S' => hk c ρ' v H' S' h
  | err n ρ' => rw [q] at h; exact endX.drop (h σ)
  | stuck => rw [q] at h; exact h.elim
theorem rdE.toS0 {m : E} {R : VK} {k : C → List C → RS} (S : S0 T mg H0 G0 σ ρ ts H) (h : endS T mg H0 G0 W ts D ((ev T m ρ).toRS k)) (hk : ∀ c ρ' v H', S0 T mg H0 G0 σ ρ' (ts ++ [(some v, c)]) H' → endS T mg H0 G0 W ts D (k c ρ') → R v H') : rdE T mg H0 G0 W m σ H R := by
  refine rdE.toS (as := []) (by rw [List.append_nil]; exact S) h fun c ρ' v H' S' => ?_
  rw [List.append_nil] at S'
  exact hk c ρ' v H' S'
theorem rdL.toS {m : Es} {R : List V → Hp → Prop} {k : List C → List C → RS} (S : S0 T mg H0 G0 σ ρ ts H) (h : endS T mg H0 G0 W ts D ((evs T m ρ).toRS k)) (hk : ∀ cs ρ' vs H', vs.length = cs.length → S0 T mg H0 G0 σ ρ' (ts ++ tz vs cs) H' → endS T mg H0 G0 W ts D (k cs ρ') → R vs H') : rdL T mg H0 G0 W m σ H R := by
  refine ⟨ρ, ts, S, ?_⟩
  cases q : evs T m ρ with
  | ok c ρ' => rw [q] at h; exact fun v H' hl S' => hk c ρ' v H' hl S' h
  | err n ρ' => rw [q] at h; exact h σ
  | stuck => rw [q] at h; exact h.elim
theorem rdT.toS {m : E} {R : Bool → Hp → Prop} {k : C → List C → RS} (S : S0 T mg H0 G0 σ ρ ts H) (h : endS T mg H0 G0 W ts D ((ev T m ρ).toRS k)) (hk : ∀ c ρ', endS T mg H0 G0 W ts D (k c ρ') → ∃ b, c = bool b ∧ ∀ H', S0 T mg H0 G0 σ ρ' ts H' → R b H') : rdT T mg H0 G0 W m σ H R := by
  refine ⟨ρ, ts, S, ?_⟩
  cases q : ev T m ρ with
  | ok c ρ' => rw [q] at h; exact hk c ρ' h
  | err n ρ' => rw [q] at h; exact h σ
  | stuck => rw [q] at h; exact h.elim
theorem boolS_of {c : C} {f g : RS} (h : endS T mg H0 G0 W ts D (match c with
    | .fro (.py (.bool true)) => f
    | .fro (.py (.bool false)) => g
    | _ => .stuck)) : ∃ k, c = bool k ∧ endS T mg H0 G0 W ts D (if k = true then f else g) := by
  cases c with
  | fro x =>
    cases x with
    | py d =>
      cases d with
      | bool k => cases k <;> exact ⟨_, rfl, h⟩
      | _ => exact h.elim
    | _ => exact h.elim
  | _ => exact h.elim
theorem lay_ok (S : S0 T mg H0 G0 σ ρ (ts ++ [(some v, c)]) H) (h : lay ρ c = some (c', ρ')) : S0 T mg H0 G0 σ ρ' (ts ++ [(some v, c')]) H ∧ ((∃ x, c' = .fro x) ∨ (∃ x, c' = .bor x) ∨ (∃ n, c' = .exc n) ∨ ∃ x, c' = .own x) := by
  cases c with
  | fro x => cases h; exact ⟨S, .inl ⟨_, rfl⟩⟩
  | bor x => cases h; exact ⟨S, .inr (.inl ⟨_, rfl⟩)⟩
  | own x => cases h; exact ⟨S, .inr (.inr (.inr ⟨_, rfl⟩))⟩
  | exc x => cases h; exact ⟨S, .inr (.inr (.inl ⟨_, rfl⟩))⟩
  | pk i =>
    have h : (Gr.fz ρ (.pk i)).map (fun p => (C.fro p.1, p.2)) = some (c', ρ') := h
    cases q : Gr.fz ρ (.pk i) with
    | none => rw [q] at h; cases h
    | some p =>
      rw [q] at h
      cases h
      exact ⟨SR.fz (as := []) S q, .inl ⟨_, rfl⟩⟩
  | und => cases h
  | lkd x => cases h
theorem rd_set {i : Nat} (h : rdS T mg H0 G0 W (.set i e) D σ H) : tAsg (rdE T mg H0 G0 W e) (gName i) D σ H := by
  obtain ⟨fx, ρ, ts, S, hp, h⟩ := h
  unfold run at h
  refine rdE.toS0 S h fun c ρ' v H' S' h => ?_
  cases q : lay ρ' c with
  | none => rw [q] at h; exact h.elim
  | some p =>
    obtain ⟨c2, ρ2⟩ := p
    rw [q] at h
    obtain ⟨S2, hk⟩ := lay_ok S' q
    have h : endS T mg H0 G0 W ts D (match setN fx ρ2 i c2 with
      | some ρ => .next ρ
      | none => .stuck) := h
    cases q2 : setN fx ρ2 i c2 with
    | none => rw [q2] at h; exact h.elim
    | some ρ3 =>
      rw [q2] at h
      exact h _ _ (setN_sr S2 q2 (hk.imp_right (.imp_right (.imp_right fun z => ⟨z, hp⟩))))
theorem rd_setT {is : List Nat} {K : PySem.W.Frag} (h : rdS T mg H0 G0 W (.setT is e) D σ H) : tAsg (rdE T mg H0 G0 W e) (tgG K (.tup is)) D σ H := by
  obtain ⟨fx, ρ, ts, S, hp, h⟩ := h
  unfold run at h
  refine rdE.toS0 S h fun c ρ' v H' S' h => ?_
  cases q : setTg fx ρ' (.tup is) c with
  | none => rw [q] at h; exact h.elim
  | some ρ2 =>
    rw [q] at h
    have hc : (∃ x, c = .fro x) ∨ (∃ x, c = .bor x) := by
      cases c with
      | fro x => exact .inl ⟨x, rfl⟩
      | bor x => exact .inr ⟨x, rfl⟩
      | _ => cases q
    exact setTg_ok S' hc q fun σ' _ _ S2 => h _ _ S2
theorem slot_see {i : Nat} {d : PyData} (S : S0 T mg H0 G0 σ ρ ts H) (h : see ρ (ρ[i]?.getD .und) = some d) : ∃ v, σ[i]? = some (some v) ∧ Rp H v d := by
  cases q : ρ[i]? with
  | none => rw [q] at h; cases h
  | some c =>
    rw [q] at h
    have hi : i < σ.length := by rw [S.len]; exact (List.getElem?_eq_some_iff.mp q).1
    have hs : σ[i]? = some σ[i] := List.getElem?_eq_getElem hi
    have hc : cel σ ρ ts (.inl i) = some (σ[i], c) := cel_inl.mpr ⟨hs, q⟩
    have h : see ρ c = some d := h
    unfold Gr.see at h
    cases lk : Gr.look ρ c with
    | none => rw [lk] at h; cases h
    | some x =>
      rw [lk] at h
      cases x with
      | py d' =>
        cases h
        obtain ⟨u, e, r⟩ := SR.look S hc lk
        exact ⟨u, by rw [hs, e], r⟩
      | _ => cases h
theorem rd_augA {i : Nat} (h : rdS T mg H0 G0 W (.aug i .add e) D σ H) : tAug i (rdE T mg H0 G0 W e) (ipI fun i j => i + j) D σ H := by
  obtain ⟨fx, ρ, ts, S, hp, h⟩ := h
  unfold run at h
  cases q0 : see ρ (ρ[i]?.getD .und) with
  | none => rw [q0] at h; exact h.elim
  | some d =>
    rw [q0] at h
    cases d with
    | int a =>
      obtain ⟨u, e1, r⟩ := slot_see S q0
      refine ⟨u, e1, rdE.toS0 S h fun c ρ' v H' S' h => ?_⟩
      cases q : see ρ' c with
      | none => rw [q] at h; exact h.elim
      | some d2 =>
        rw [q] at h
        cases d2 with
        | int b =>
          have h : endS T mg H0 G0 W ts D (match setN fx ρ' i (num (a + b)) with
            | some ρ => .next ρ
            | none => .stuck) := h
          cases q2 : setN fx ρ' i (num (a + b)) with
          | none => rw [q2] at h; exact h.elim
          | some ρ3 =>
            rw [q2] at h
            exact ⟨a, b, r.intV, (S'.lastD q).intV, h _ _ (setN_sr S'.pop.num q2 (.inl ⟨_, rfl⟩))⟩
        | _ => exact h.elim
    | _ => exact h.elim
theorem rd_augS {i : Nat} (h : rdS T mg H0 G0 W (.aug i .sub e) D σ H) : tAug i (rdE T mg H0 G0 W e) (ipI fun i j => i - j) D σ H := by
  obtain ⟨fx, ρ, ts, S, hp, h⟩ := h
  unfold run at h
  cases q0 : see ρ (ρ[i]?.getD .und) with
  | none => rw [q0] at h; exact h.elim
  | some d =>
    rw [q0] at h
    cases d with
    | int a =>
      obtain ⟨u, e1, r⟩ := slot_see S q0
      refine ⟨u, e1, rdE.toS0 S h fun c ρ' v H' S' h => ?_⟩
      cases q : see ρ' c with
      | none => rw [q] at h; exact h.elim
      | some d2 =>
        rw [q] at h
        cases d2 with
        | int b =>
          have h : endS T mg H0 G0 W ts D (match setN fx ρ' i (num (a - b)) with
            | some ρ => .next ρ
            | none => .stuck) := h
          cases q2 : setN fx ρ' i (num (a - b)) with
          | none => rw [q2] at h; exact h.elim
          | some ρ3 =>
            rw [q2] at h
            exact ⟨a, b, r.intV, (S'.lastD q).intV, h _ _ (setN_sr S'.pop.num q2 (.inl ⟨_, rfl⟩))⟩
        | _ => exact h.elim
    | _ => exact h.elim
/-- a slot's own thing, where it lies -/
theorem own_at {i : Nat} {x : Tx} (S : S0 T mg H0 G0 σ ρ ts H) (h : ρ[i]? = some (.own x)) : ∃ a, σ[i]? = some (some (.ref a)) := by
  obtain ⟨ow, G, B, S⟩ := S
  obtain ⟨a, h1, _, _⟩ := S.ownAt h
  exact ⟨a, h1⟩
theorem mutC_ok {i : Nat} {f : Tx → Option Tx} (h : mutC ρ i f = some ρ') : ∃ x y, ρ[i]? = some (.own x) ∧ f x = some y ∧ ρ' = ρ.set i (.own y) := by
  unfold mutC at h
  cases q : ρ[i]? with
  | none => rw [q] at h; cases h
  | some c =>
    rw [q] at h
    cases c with
    | own x =>
      have h : (f x).map (fun y => ρ.set i (.own y)) = some ρ' := h
      cases q2 : f x with
      | none => rw [q2] at h; cases h
      | some y => rw [q2] at h; exact ⟨x, y, rfl, q2, (Option.some.inj h).symm⟩
    | _ => cases h
theorem isOwn_ok {i : Nat} (h : isOwn ρ i = true) : ∃ x, ρ[i]? = some (.own x) := by
  unfold isOwn at h
  cases q : ρ[i]? with
  | none => rw [q] at h; cases h
  | some c =>
    rw [q] at h
    cases c with
    | own x => exact ⟨x, rfl⟩
    | _ => cases h
theorem isOwnL_ok {i : Nat} (h : isOwnL ρ i = true) : ∃ ds, ρ[i]? = some (.own (.py (.list ds))) := by
  unfold isOwnL at h
  cases q : ρ[i]? with
  | none => rw [q] at h; cases h
  | some c =>
    rw [q] at h
    cases c with
    | own x =>
      cases x with
      | py d =>
        cases d with
        | list ds => exact ⟨ds, rfl⟩
        | _ => cases h
      | _ => cases h
    | _ => cases h
theorem fzD_ok {d : PyData} (S : S0 T mg H0 G0 σ ρ (ts ++ (some v, c) :: as) H) (h : fzD ρ c = some (d, ρ')) : S0 T mg H0 G0 σ ρ' (ts ++ (some v, .fro (.py d)) :: as) H := by
  have h : ((Gr.fz ρ c).bind fun p => p.1.see.map fun d => (d, p.2)) = some (d, ρ') := h
  cases q : Gr.fz ρ c with
  | none => rw [q] at h; cases h
  | some p =>
    obtain ⟨x, ρ2⟩ := p
    rw [q] at h
    cases x with
    | py d' => cases h; exact S.fz q
    | _ => cases h
/-- o[k] = v, a list or a dict -/
def rSetX : TSet := fun o i v H Q => rSetL o i v H Q ∨ ∃ a H', o = .ref a ∧ DPut H a i v H' ∧ Q H'
theorem setX_ok (hu : X.A.units + 1 < cLine) : PSet X rSetX := by
  intro pins s σ H o i v ov iv u Q I ro ri rv h
  rcases h with h | ⟨a, H', rfl, g, q⟩
  · exact set_list pins s σ H o i v ov iv u Q I ro ri rv h
  · cases (show ov = Value.ref a from ro)
    exact d_setItem hu I g ri rv fun s' I' => ⟨H', I', q⟩
theorem line_is : line = sizeLine := by rw [sizeLine_eq]; rfl
theorem rd_setI {i : Nat} {k : E} (h : rdS T mg H0 G0 W (.setI i k e) D σ H) : tAsg (rdE T mg H0 G0 W e) (gSub (tVar i) (rdE T mg H0 G0 W k) rSetX) D σ H := by
  obtain ⟨fx, ρ, ts, S, hp, h⟩ := h
  unfold run at h
  refine rdE.toS0 S h fun c ρ1 v H1 S1 h => ?_
  cases q1 : fzD ρ1 c with
  | none => rw [q1] at h; exact h.elim
  | some p =>
    obtain ⟨d, ρ2⟩ := p
    rw [q1] at h
    have S2 := fzD_ok (as := []) S1 q1
    have h : endS T mg H0 G0 W ts D (if isOwn ρ2 i then (ev T k ρ2).toRS fun c' ρ => match fzD ρ c' with
      | some (kd, ρ) => match mutC ρ i (setIX kd d) with
        | some ρ => .next ρ
        | none => .stuck
      | none => .stuck
      else .stuck) := h
    by_cases ho : isOwn ρ2 i = true
    · rw [if_pos ho] at h
      obtain ⟨x0, hx0⟩ := isOwn_ok ho
      obtain ⟨a, ha⟩ := own_at S2 hx0
      refine ⟨.ref a, ha, rdE.toS S2 h fun c' ρ3 w H3 S3 h => ?_⟩
      cases q3 : fzD ρ3 c' with
      | none => rw [q3] at h; exact h.elim
      | some p =>
        obtain ⟨kd, ρ4⟩ := p
        rw [q3] at h
        have S4 := fzD_ok (as := []) S3 q3
        have h : endS T mg H0 G0 W ts D (match mutC ρ4 i (setIX kd d) with
          | some ρ => .next ρ
          | none => .stuck) := h
        cases q5 : mutC ρ4 i (setIX kd d) with
        | none => rw [q5] at h; exact h.elim
        | some ρ5 =>
          rw [q5] at h
          obtain ⟨x, y, hx, hy, rfl⟩ := mutC_ok q5
          obtain ⟨ow, G, B, S5⟩ := S4
          obtain ⟨a', ha', hca, hox⟩ := S5.ownAt hx
          rw [ha] at ha'
          cases ha'
          have rv : Rp G v d := by
            obtain ⟨u, e, r⟩ := S5.rel _ _ _ (cel_at2 (d1 := (some v, C.fro (.py d))))
            cases e
            exact r
          have rk : Rp G w kd := by
            obtain ⟨u, e, r⟩ := S5.rel _ _ _ (cel_last (d := (some w, C.fro (.py kd))))
            cases e
            exact r
          have fin : ∀ {o : HO}, (∀ {Wn}, OX T.g mg Wn G (upd H3 a o) a y) → D.nx σ (upd H3 a o) := fun {o} hy => h _ _ (SR.pop2 ⟨ow, G, B, S5.mutSlot hx ha hy⟩)
          cases x with
          | py dx =>
            cases dx with
            | list ds =>
              cases kd with
              | int j =>
                have hy : (ixN ds.length j).map (fun n => Tx.py (.list (ds.set n d))) = some y := hy
                obtain ⟨vs, h1, h2⟩ := hox
                cases q6 : ixN ds.length j with
                | none => rw [q6] at hy; cases hy
                | some n =>
                  rw [q6] at hy
                  cases hy
                  exact .inl ⟨a, vs, j, n, rfl, rk.intV, h1, by rw [h2.length]; exact q6, fin ⟨_, upd_same, RpA.set rv n h2⟩⟩
              | _ => cases hy
            | _ => cases hy
          | obj _ _ => cases hy
          | lls _ => cases hy
          | dik kvs =>
            have hy : (keyOf kd).bind (fun k => if kvs.length < line then some (Tx.dik (putD kvs k d)) else none) = some y := hy
            obtain ⟨vs, h1, h2⟩ := hox
            cases q6 : keyOf kd with
            | none => rw [q6] at hy; cases hy
            | some kk =>
              rw [q6] at hy
              have hy : (if kvs.length < line then some (Tx.dik (putD kvs kk d)) else none) = some y := hy
              by_cases hl : kvs.length < line
              · rw [if_pos hl] at hy
                cases hy
                refine .inr ⟨a, upd H3 a (.dK (putK vs kk v)), rfl, ?_, fin ⟨_, upd_same, RpK.put rv kk h2⟩⟩
                rw [rk.key q6]
                exact DPut.k h1 (by rw [h2.length, ← line_is]; exact hl)
              · rw [if_neg hl] at hy; cases hy
          | dit kvs =>
            have hy : (tkeyOf kd).bind (fun k => if kvs.length < line then some (Tx.dit (putD kvs k d)) else none) = some y := hy
            obtain ⟨vs, h1, h2⟩ := hox
            cases q6 : tkeyOf kd with
            | none => rw [q6] at hy; cases hy
            | some kk =>
              rw [q6] at hy
              have hy : (if kvs.length < line then some (Tx.dit (putD kvs kk d)) else none) = some y := hy
              by_cases hl : kvs.length < line
              · rw [if_pos hl] at hy
                cases hy
                cases kd with
                | tuple kds =>
                  cases rk with
                  | @tup b xs _ hb hx2 =>
                    have hxs := hx2.keys q6
                    subst hxs
                    exact .inr ⟨a, upd H3 a (.dT (putK vs kk v)), rfl, .inr ⟨vs, kk, b, h1, rfl, S5.gh _ _ hb, by rw [h2.length, ← line_is]; exact hl, rfl⟩, fin ⟨_, upd_same, RpK.put rv kk h2⟩⟩
                | _ => cases q6
              · rw [if_neg hl] at hy; cases hy
    · rw [if_neg ho] at h; exact h.elim
theorem putF_at : ∀ {gs : List (Str × V)} {fl : List Str} {n j : Nat} {f : Str} {u : V}, gs.map (·.1) = fl.take n → fl.Nodup → fl[j]? = some f → j < gs.length → putF f u gs = gs.set j (f, u)
  | [], fl, n, j, f, u, _, _, _, h => by simp at h
  | (x, y) :: gs, [], n, j, f, u, h, _, _, _ => by simp at h
  | (x, y) :: gs, z :: fl, 0, j, f, u, h, _, _, _ => by simp at h
  | (x, y) :: gs, z :: fl, n + 1, 0, f, u, h, nd, hf, hl => by
    simp at h hf
    obtain ⟨e, _⟩ := h
    subst e hf
    show (if x = x then (x, u) :: gs else _) = _
    rw [if_pos rfl]
    rfl
  | (x, y) :: gs, z :: fl, n + 1, j + 1, f, u, h, nd, hf, hl => by
    simp at h
    obtain ⟨e, h⟩ := h
    subst e
    rw [List.getElem?_cons_succ] at hf
    obtain ⟨n1, n2⟩ := List.nodup_cons.mp nd
    have ne : ¬ x = f := fun q => by
      subst q
      exact n1 (List.mem_of_getElem? hf)
    show (if x = f then (x, u) :: gs else (x, y) :: putF f u gs) = _
    rw [if_neg ne, putF_at h n2 hf (by simpa using hl)]
    rfl
theorem putF_new : ∀ {gs : List (Str × V)} {fl : List Str} {n : Nat} {f : Str} {u : V}, gs.map (·.1) = fl.take n → fl.Nodup → fl[gs.length]? = some f → putF f u gs = gs ++ [(f, u)]
  | [], fl, n, f, u, _, _, _ => rfl
  | (x, y) :: gs, [], n, f, u, h, _, _ => by simp at h
  | (x, y) :: gs, z :: fl, 0, f, u, h, _, _ => by simp at h
  | (x, y) :: gs, z :: fl, n + 1, f, u, h, nd, hf => by
    simp at h
    obtain ⟨e, h⟩ := h
    subst e
    rw [List.length_cons, List.getElem?_cons_succ] at hf
    obtain ⟨n1, n2⟩ := List.nodup_cons.mp nd
    have ne : ¬ x = f := fun q => by
      subst q
      exact n1 (List.mem_of_getElem? hf)
    show (if x = f then (x, u) :: gs else (x, y) :: putF f u gs) = _
    rw [if_neg ne, putF_new h n2 hf]
    rfl
theorem rd_setF {i k j : Nat} {nm f : Str} {fl : List Str} {K : PySem.W.Frag} {Cx : Addr} (hT : T.g.cls[k]? = some (nm, fl)) (hC : ClsF K mg nm fl Cx) (hf : fl[j]? = some f) (h : rdS T mg H0 G0 W (.setF i k j e) D σ H) : sFld K (tVar i) (rdE T mg H0 G0 W e) f D σ H := by
  obtain ⟨fx, ρ, ts, S, hp, h⟩ := h
  unfold run at h
  refine rdE.toS0 S h fun c ρ1 v H1 S1 h => ?_
  cases q1 : fzD ρ1 c with
  | none => rw [q1] at h; exact h.elim
  | some p =>
    obtain ⟨d, ρ2⟩ := p
    rw [q1] at h
    have S2 := fzD_ok (as := []) S1 q1
    have h : endS T mg H0 G0 W ts D (match mutC ρ2 i (setFX k j d) with
      | some ρ => .next ρ
      | none => .stuck) := h
    cases q5 : mutC ρ2 i (setFX k j d) with
    | none => rw [q5] at h; exact h.elim
    | some ρ5 =>
      rw [q5] at h
      have hfin : ∀ σ H, S0 T mg H0 G0 σ ρ5 ts H → D.nx σ H := h
      obtain ⟨x, y, hx, hy, rfl⟩ := mutC_ok q5
      obtain ⟨ow, G, B, S5⟩ := S2
      obtain ⟨a, ha, hca, hox⟩ := S5.ownAt hx
      have rv : Rp G v d := by
        obtain ⟨u, e, r⟩ := S5.rel _ _ _ (cel_last (d := (some v, C.fro (.py d))))
        cases e
        exact r
      cases x with
      | obj k' fs =>
        have hy2 : (if k' = k ∧ j ≤ fs.length ∧ fs.length < 1000 then (if j = fs.length then some (Tx.obj k' (fs ++ [d])) else some (.obj k' (fs.set j d))) else none) = some y := hy
        by_cases hc : k' = k ∧ j ≤ fs.length ∧ fs.length < 1000
        · rw [if_pos hc] at hy2
          obtain ⟨rfl, hj, hz⟩ := hc
          obtain ⟨Cx', dx, gs, nm', fl', h1, h2, h3, h4, h5⟩ := hox
          rw [hT] at h1
          cases h1
          rw [hC.at_] at h2
          cases h2
          have hgl : gs.length = fs.length := by have := h5.length; rw [List.length_map] at this; exact this
          have hfl : fs.length ≤ fl.length := by
            have := congrArg List.length h4
            rw [List.length_map, List.length_take] at this
            omega
          refine ⟨.ref a, ha, a, Cx, dx, gs, rfl, h3, hC.cls, hC.no f (List.mem_of_getElem? hf), by omega, hfin _ _ (SR.pop ⟨ow, G, B, S5.mutSlot hx ha ?_⟩)⟩
          by_cases hjl : j = fs.length
          · rw [if_pos hjl] at hy2
            cases hy2
            refine ⟨Cx, dx, gs ++ [(f, v)], nm, fl, hT, hC.at_, ?_, ?_, ?_⟩
            · rw [upd_same, putF_new h4 hC.nd (by rw [hgl, ← hjl]; exact hf)]
            · have hlt : fs.length < fl.length := by rw [← hjl]; exact (List.getElem?_eq_some_iff.mp hf).1
              rw [List.map_append, h4, List.length_append]
              show fl.take fs.length ++ [f] = fl.take (fs.length + 1)
              rw [List.take_succ_eq_append_getElem hlt]
              have : fl[fs.length] = f := by
                have := hf
                rw [hjl, List.getElem?_eq_getElem hlt] at this
                exact Option.some.inj this
              rw [this]
            · rw [List.map_append]
              exact h5.append (.one rv)
          · rw [if_neg hjl] at hy2
            cases hy2
            refine ⟨Cx, dx, gs.set j (f, v), nm, fl, hT, hC.at_, ?_, ?_, ?_⟩
            · rw [upd_same, putF_at h4 hC.nd hf (by omega)]
            · rw [List.map_set, h4, List.length_set]
              show (fl.take fs.length).set j f = _
              refine List.ext_getElem? fun n => ?_
              by_cases hn : j = n
              · subst hn
                rw [List.getElem?_set_self (by rw [List.length_take]; omega), List.getElem?_take_of_lt (by omega)]
                exact hf.symm
              · rw [List.getElem?_set_ne hn]
            · rw [List.map_set]
              exact RpA.set rv j h5
        · rw [if_neg hc] at hy2; cases hy2
      | _ => cases hy
/-- a list's method -/
def rMt : Mt → V → List V → Hp → VK → Prop
  | .append => rAppend
  | .extend => fun x vs H Q => ∃ l b xs zs, x = .ref l ∧ vs = [.ref b] ∧ H l = some (.lst xs) ∧ H b = some (.lst zs) ∧ xs.length + zs.length ≤ sizeLine ∧ Q .non (upd H l (.lst (xs ++ zs)))
  | .reverse => rReverse
  | .insert => fun x vs H Q => ∃ (l : Addr) (xs : List V) (i : Int) (y : V), x = .ref l ∧ vs = [.int i, y] ∧ H l = some (.lst xs) ∧ xs.length < sizeLine ∧ 0 ≤ i ∧ i < 2 ^ 63 ∧
    Q .non (upd H l (.lst (xs.take i.toNat ++ [y] ++ xs.drop i.toNat)))
theorem rd_mt {i : Nat} {m : Mt} {es : Es} {K : PySem.W.Frag} (hm : m ≠ .extend) (h : rdS T mg H0 G0 W (.mt i m es) D σ H) : tDrop (tBM K "list" (rMt m) (tVar i) (rdL T mg H0 G0 W es)) D σ H := by
  obtain ⟨fx, ρ, ts, S, hp, h⟩ := h
  unfold run at h
  by_cases ho : isOwnL ρ i = true
  · rw [if_pos ho] at h
    obtain ⟨ds0, hx0⟩ := isOwnL_ok ho
    obtain ⟨ow0, G0', B0, S00⟩ := id S
    obtain ⟨a, ha, _, vs0, hv0, _⟩ := S00.ownAt hx0
    refine ⟨.ref a, ha, .inl ⟨rfl, vs0, .inl (.inl hv0)⟩, rdL.toS S h fun cs ρ1 vs H1 hl S1 h => ?_⟩
    cases q1 : fzDs ρ1 cs with
    | none => rw [q1] at h; exact h.elim
    | some p =>
      obtain ⟨ds, ρ2⟩ := p
      rw [q1] at h
      have h : endS T mg H0 G0 W ts D (match mutC ρ2 i (mtX m ds) with
        | some ρ => .next ρ
        | none => .stuck) := h
      cases q5 : mutC ρ2 i (mtX m ds) with
      | none => rw [q5] at h; exact h.elim
      | some ρ5 =>
        rw [q5] at h
        obtain ⟨x, y, hx, hy, rfl⟩ := mutC_ok q5
        obtain ⟨ow, G, B, S5, rs⟩ := fzDs_ok hl S1 q1
        obtain ⟨a', ha', hca, hox⟩ := S5.ownAt hx
        rw [ha] at ha'
        cases ha'
        have fin : ∀ {o : HO}, (∀ {Wn}, OX T.g mg Wn G (upd H1 a o) a y) → D.nx σ (upd H1 a o) := fun {o} hy => h _ _ ⟨ow, G, B, S5.mutSlot hx ha hy⟩
        cases x with
        | py dx =>
          cases dx with
          | list xs =>
            obtain ⟨us, h1, h2⟩ := hox
            cases m with
            | extend => exact absurd rfl hm
            | append =>
              cases rs with
              | nil => cases hy
              | @cons v vs' d ds' r t =>
                cases t with
                | cons _ _ => cases hy
                | nil =>
                  have hy : (if xs.length < line then some (Tx.py (.list (xs ++ [d]))) else none) = some y := hy
                  by_cases hz : xs.length < line
                  · rw [if_pos hz] at hy
                    cases hy
                    exact ⟨a, us, v, rfl, rfl, h1, by rw [h2.length, ← line_is]; exact hz, fin ⟨_, upd_same, h2.append (.one r)⟩⟩
                  · rw [if_neg hz] at hy; cases hy
            | reverse =>
              cases rs with
              | cons _ _ => cases hy
              | nil =>
                cases hy
                exact ⟨a, us, rfl, rfl, h1, fin ⟨_, upd_same, h2.reverse⟩⟩
            | insert =>
              cases rs with
              | nil => cases hy
              | @cons v vs' d ds' r t =>
                cases t with
                | nil => cases d <;> cases hy
                | @cons v2 vs2 d2 ds2 r2 t2 =>
                  cases t2 with
                  | cons _ _ => cases d <;> cases hy
                  | nil =>
                    cases d with
                    | int n =>
                      have hy : (if xs.length < line then (if 0 ≤ n ∧ n ≤ xs.length then some (Tx.py (.list (xs.take n.toNat ++ d2 :: xs.drop n.toNat))) else none) else none) = some y := hy
                      by_cases hz : xs.length < line
                      · rw [if_pos hz] at hy
                        by_cases hn : 0 ≤ n ∧ n ≤ xs.length
                        · rw [if_pos hn] at hy
                          cases hy
                          refine ⟨a, us, n, v2, rfl, by rw [r.intV], h1, by rw [h2.length, ← line_is]; exact hz, hn.1, by unfold line at hz; omega, fin ⟨_, upd_same, ?_⟩⟩
                          rw [List.append_assoc]
                          exact (h2.take _).append (.cons r2 (h2.drop _))
                        · rw [if_neg hn] at hy; cases hy
                      · rw [if_neg hz] at hy; cases hy
                    | _ => cases hy
          | _ => cases m <;> cases hy
        | _ => cases m <;> cases hy
  · rw [if_neg ho] at h; exact h.elim
/-- the machine's own step: a tuple's items put behind a list's -/
theorem ext_tup (p q : Addr) (xs ys : Array Value) (m n : Nat) (dd : Option Addr) (sl : Array (Option Value)) (big : ¬ (!xs.isEmpty && Builtin.List.listTooLong (xs.size + ys.size)) = true) (z1 : xs.size ≤ sizeLine) (z2 : xs.size + ys.size ≤ sizeLine + 1) :
    Meets (Builtin.«list.extend» ⟨[.ref p, .ref q], []⟩) (fun _ R s => s.heap.get? p = some { cls := .type "list", data := .seq xs m } ∧ s.heap.get? q = some ⟨.type "tuple", dd, .seq ys n, sl⟩ ∧
      R (.ok (.ret Value.none)) { s with heap := s.heap.update p (Obj.mapSeq fun a => a ++ ys), toks := s.toks }) :=
  .of_wp fun prog w A R s h => by
    rcases s with ⟨hp, g, d, tk, os⟩
    rcases h with ⟨hl, hb, h⟩
    have g1 := AutoSeq1.idx_int
    have g2 := AutoSeq1.sub_tuple_tuple
    have g3 := AutoSeq1.sub_list_list
    have g4 := AutoSeq1.sub_tuple_list
    have g5 := AutoSeq1.sub_list_tuple
    have z3 : (xs ++ ys).size ≤ sizeLine + 1 := (Array.size_append ..).symm ▸ z2
    wp_walk using (wpAny_updateSeq hl rfl (hz := z1) (_hz' := z3)), wpAny_loadPart' hl, wpAny_loadPart' hb
    exact ⟨_, rfl, h⟩
/-- a list made longer by a list or a tuple -/
def rExtG : V → List V → Hp → VK → Prop := fun x us H Q => ∃ (l b : Addr) (xs zs : List V), x = .ref l ∧ us = [.ref b] ∧ H l = some (.lst xs) ∧ Sq H b zs ∧ xs.length + zs.length ≤ sizeLine ∧ Q .non (upd H l (.lst (xs ++ zs)))
theorem ext_ok : MtM X "list.extend" rExtG := by
  rintro pins s σ H x us v ws Q I rx rv ⟨l, b, xs, zs, rfl, rfl, hH, hB, hz, q⟩
  cases rx
  obtain ⟨u, rfl, ru⟩ := rv.one
  cases ru
  obtain ⟨_, its, n, r, hl, e⟩ := I.lstM hH
  have fin : ∀ {its2 : List Value}, Vals zs its2 → L2.Inv X pins σ (upd H l (.lst (xs ++ zs))) { s with heap := s.heap.update l (Obj.mapSeq fun a => a ++ its2.toArray), toks := s.toks } := fun {its2} r2 => by
    have z1 : (xs ++ zs).length ≤ sizeLine := by rw [List.length_append]; exact hz
    exact I.lset (its' := its ++ its2) (ys := xs ++ zs) hH e (by simp) (r.append r2) z1
  have big : ∀ {its2 : List Value}, zs.length = its2.length → ¬ (!its.toArray.isEmpty && Builtin.List.listTooLong (its.toArray.size + its2.toArray.size)) = true := fun {its2} h2 => by
    rw [notLongL (by rw [List.size_toArray, List.size_toArray]; omega), Bool.and_false]
    exact Bool.false_ne_true
  rcases hB with hB | hB
  · obtain ⟨_, its2, n2, r2, e2⟩ := hB.ok I.hok
    have h2 := r2.length
    exact call_meets PySem.F.slot_list_extend ⟨_, e, rfl⟩ PySem.F.entry_list_extend (PySem.F.args_list_extend_2 _ _)
      (AutoSeq1.list_extend_list_list_0 l its.toArray n b its2.toArray n2 (big h2) (by rw [List.size_toArray]; omega) (by rw [List.size_toArray, List.size_toArray]; omega)) ⟨e, e2, ⟨.non, _, fin r2, rfl, q⟩⟩
  · obtain ⟨its2, r2, p2, z2⟩ := I.tuple (xs := zs) (.inl (.inl hB))
    have h2 := r2.length
    obtain ⟨⟨ocls, odict, odata, oslots⟩, e2, hc, n2, hd⟩ := p2
    simp only at hc hd
    subst hc hd
    exact call_meets PySem.F.slot_list_extend ⟨_, e, rfl⟩ PySem.F.entry_list_extend (PySem.F.args_list_extend_2 _ _)
      (ext_tup l b its.toArray its2.toArray n n2 odict oslots (big h2) (by rw [List.size_toArray]; omega) (by rw [List.size_toArray, List.size_toArray]; omega)) ⟨e, e2, ⟨.non, _, fin r2, rfl, q⟩⟩
theorem rd_ext {i : Nat} {es : Es} {K : PySem.W.Frag} (h : rdS T mg H0 G0 W (.ext i es) D σ H) : tDrop (tBM K "list" rExtG (tVar i) (rdL T mg H0 G0 W es)) D σ H := by
  obtain ⟨fx, ρ, ts, S, hp, h⟩ := h
  unfold run at h
  by_cases ho : isOwnL ρ i = true
  · rw [if_pos ho] at h
    obtain ⟨ds0, hx0⟩ := isOwnL_ok ho
    obtain ⟨ow0, G0', B0, S00⟩ := id S
    obtain ⟨a, ha, _, vs0, hv0, _⟩ := S00.ownAt hx0
    refine ⟨.ref a, ha, .inl ⟨rfl, vs0, .inl (.inl hv0)⟩, rdL.toS S h fun cs ρ1 vs H1 hl S1 h => ?_⟩
    cases qe : extA ρ1 cs with
    | none => rw [qe] at h; exact h.elim
    | some ys =>
      rw [qe] at h
      have h : endS T mg H0 G0 W ts D (match mutC ρ1 i (extX ys) with
        | some ρ => .next ρ
        | none => .stuck) := h
      cases q5 : mutC ρ1 i (extX ys) with
      | none => rw [q5] at h; exact h.elim
      | some ρ5 =>
        rw [q5] at h
        obtain ⟨x, y, hx, hy, rfl⟩ := mutC_ok q5
        obtain ⟨c, rfl, sk, hcl⟩ : ∃ c, cs = [c] ∧ (Gr.see ρ1 c).bind items = some ys ∧ clear c ys = true := by
          unfold extA at qe
          split at qe
          · next c =>
            refine ⟨c, rfl, ?_⟩
            cases q2 : (Gr.see ρ1 c).bind items with
            | none => rw [q2] at qe; cases qe
            | some ds =>
              rw [q2] at qe
              have qe : (if clear c ds = true then some ds else none) = some ys := qe
              split at qe
              · next z => cases qe; exact ⟨rfl, z⟩
              · cases qe
          · cases qe
        cases vs with
        | nil => cases hl
        | cons v vs =>
          cases vs with
          | cons _ _ => cases hl
          | nil =>
            obtain ⟨ow, G, B, S2⟩ := S1
            have S2 : SRx T.g mg H0 G0 [] ow G B σ ρ1 (ts ++ [(some v, c)]) H1 := S2
            obtain ⟨b, ws, eb, rs, ii⟩ := S2.sq cel_last sk
            have rb : RpA G ws ys := ii.clr hcl fun z r => r.sc z
            have S5 := S2.drop
            obtain ⟨a', ha', hca, hox⟩ := S5.ownAt hx
            rw [ha] at ha'
            cases ha'
            have fin : ∀ {o : HO}, (∀ {Wn}, OX T.g mg Wn G (upd H1 a o) a y) → D.nx σ (upd H1 a o) := fun {o} hy => h _ _ ⟨ow, G, B, S5.mutSlot hx ha hy⟩
            cases x with
            | py dx =>
              cases dx with
              | list xs =>
                obtain ⟨us, h1, h2⟩ := hox
                have hy : (if xs.length + ys.length ≤ line then some (Tx.py (.list (xs ++ ys))) else none) = some y := hy
                by_cases hz : xs.length + ys.length ≤ line
                · rw [if_pos hz] at hy
                  cases hy
                  exact ⟨a, b, us, ws, rfl, by rw [eb], h1, rs, by rw [h2.length, rb.length, ← line_is]; exact hz, fin ⟨_, upd_same, h2.append rb⟩⟩
                · rw [if_neg hz] at hy; cases hy
              | _ => cases hy
            | _ => cases hy
  · rw [if_neg ho] at h; exact h.elim
theorem rd_ex (h : rdS T mg H0 G0 W (.ex e) D σ H) : tDrop (rdE T mg H0 G0 W e) D σ H := by
  obtain ⟨fx, ρ, ts, S, hp, h⟩ := h
  unfold run at h
  exact rdE.toS0 S h fun c ρ' v H' S' h => h _ _ S'.pop
theorem rd_if {m : E} {a b : Ss} (h : rdS T mg H0 G0 W (.ife m a b) D σ H) : tIfS (rdT T mg H0 G0 W m) (rdSs T mg H0 G0 W a) (rdSs T mg H0 G0 W b) D σ H := by
  obtain ⟨fx, ρ, ts, S, hp, h⟩ := h
  unfold run at h
  refine rdT.toS S h fun c ρ' h => ?_
  obtain ⟨k, e, h⟩ := boolS_of h
  refine ⟨k, e, fun H' S' => ?_⟩
  cases k with
  | true => rw [if_pos rfl] at h ⊢; exact ⟨fx, ρ', ts, S', hp, h⟩
  | false => rw [if_neg (by decide)] at h ⊢; exact ⟨fx, ρ', ts, S', hp, h⟩
/-- temps between taken away -/
theorem SR.cut {t : Cell} (S : S0 T mg H0 G0 σ ρ (ts ++ as ++ [t]) H) : S0 T mg H0 G0 σ ρ (ts ++ [t]) H := by
  refine SR.perm (fun j => if j < ts.length then j else (ts ++ as).length) (fun j u e => ?_) (fun j j' h h' e => ?_) S
  · rw [getElem?_mid] at e
    by_cases h1 : j < ts.length
    · rw [if_pos h1] at e
      rw [if_pos h1, List.append_assoc, List.getElem?_append_left h1]
      exact e
    · rw [if_neg h1] at e
      rw [if_neg h1]
      by_cases h2 : j = ts.length
      · rw [if_pos h2] at e
        rw [List.getElem?_append_right (Nat.le_refl _)]
        simpa using e
      · rw [if_neg h2] at e
        simp at e
  · simp only [List.length_append, List.length_cons, List.length_nil] at h h'
    by_cases h1 : j < ts.length <;> by_cases h2 : j' < ts.length <;> simp [h1, h2] at e <;> omega
theorem retC_ok (S : S0 T mg H0 G0 σ ρ (ts ++ [(some v, c)]) H) (h : retC ρ c = some (c', ρ')) : S0 T mg H0 G0 σ ρ' (ts ++ [(some v, c')]) H := by
  cases c with
  | fro x => cases h; exact S
  | own x => cases h; exact S
  | exc x => cases h; exact S
  | pk i =>
    have h : (match ρ[i]? with | some (.own x) => some (C.own x, ρ.set i .und) | _ => none) = some (c', ρ') := h
    cases q : ρ[i]? with
    | none => rw [q] at h; cases h
    | some d =>
      rw [q] at h
      cases d with
      | own x =>
        cases h
        obtain ⟨ow, G, B, S⟩ := S
        obtain ⟨a, ha, hca, _⟩ := S.ownAt q
        obtain ⟨u, e, hr⟩ := S.rel _ _ _ (cel_last (d := (some v, C.pk i)))
        cases e
        have e2 := hr _ _ (.inl hca)
        cases e2
        have hl : i < ρ.length := (List.getElem?_eq_some_iff.mp q).1
        have low : ∀ {n : Nat} {w : Option V} {d : C} {us : List Cell}, cel σ (ρ.set i .und) us (.inl n) = some (w, d) → d = .und ∨ (n ≠ i ∧ cel σ ρ (ts ++ [(some (.ref a), .pk i)]) (.inl n) = some (w, d)) := fun {n w d us} e => by
          obtain ⟨z1, z2⟩ := cel_inl.mp e
          by_cases hn : n = i
          · subst hn
            rw [List.getElem?_set_self hl] at z2
            exact .inl (Option.some.inj z2).symm
          · rw [List.getElem?_set_ne (Ne.symm hn)] at z2
            exact .inr ⟨hn, cel_inl.mpr ⟨z1, z2⟩⟩
        obtain ⟨ow', S'⟩ := S.re (σ' := σ) (ρ' := ρ.set i .und) (as := ts ++ [(some (.ref a), .own x)]) (fun k => if k = .inr ts.length then .inl i else k) (by rw [List.length_set]; exact S.len) (fun p hp => by cases hp) (npk_set S.npk fun j z => by cases z) (fun k w c e => by
            rcases cel_snoc e with ⟨z, q2⟩ | ⟨z, q2⟩
            · subst z
              cases q2
              refine .inr ⟨by rw [if_pos rfl]; exact hca, fun k2 w2 c2 h2 e2 h3 => ?_⟩
              rw [if_pos rfl] at h2
              by_cases z2 : k2 = .inr ts.length
              · exact z2
              · rw [if_neg z2] at h2
                subst h2
                rcases low e2 with z3 | ⟨z3, _⟩
                · subst z3
                  obtain ⟨_, h3 | h3⟩ := h3 <;> cases h3
                · exact absurd rfl z3
            · have hk : c = .und ∨ (k ≠ .inl i ∧ cel σ ρ (ts ++ [(some (.ref a), .pk i)]) k = some (w, c)) := by
                cases k with
                | inl n =>
                  rcases low q2 with z3 | ⟨z3, z4⟩
                  · exact .inl z3
                  · exact .inr ⟨fun z5 => z3 (Sum.inl.inj z5), z4⟩
                | inr n => exact .inr ⟨fun z5 => (by cases z5), cel_snoc_lt (ρ := ρ) (show cel σ ρ ts (.inr n) = some (w, c) from q2)⟩
              rcases hk with hk | ⟨hk1, hk2⟩
              · exact .inl hk
              · refine .inr ⟨by rw [if_neg z]; exact hk2, fun k2 w2 c2 h2 e2 h3 => ?_⟩
                rw [if_neg z] at h2
                by_cases z2 : k2 = .inr ts.length
                · rw [if_pos z2] at h2
                  exact absurd h2.symm hk1
                · rw [if_neg z2] at h2
                  exact h2) (fun k w j e w2 x2 e2 => by
            refine ⟨x2, ?_⟩
            rcases e2 with e2 | e2
            · rcases low e2 with z | ⟨_, z⟩
              · cases z
              · exact .inl z
            · rcases low e2 with z | ⟨_, z⟩
              · cases z
              · exact .inr z)
        exact ⟨ow', G, B, S'⟩
      | _ => cases h
  | _ => cases h
theorem rd_ret (h : rdS T mg H0 G0 W (.ret e) D σ H) : tRet (rdE T mg H0 G0 W e) D σ H := by
  obtain ⟨fx, ρ, ts, S, hp, h⟩ := h
  unfold run at h
  refine rdE.toS0 S h fun c ρ' v H' S' h => ?_
  cases q : retC ρ' c with
  | none => rw [q] at h; exact h.elim
  | some p =>
    obtain ⟨c2, ρ2⟩ := p
    rw [q] at h
    exact h _ _ _ (retC_ok S' q)
theorem rd_retN (h : rdS T mg H0 G0 W .retN D σ H) : tRetN D σ H := by
  obtain ⟨fx, ρ, ts, S, hp, h⟩ := h
  unfold run at h
  exact h _ _ _ (S.scal fun _ => .non)
theorem rd_pass (h : rdS T mg H0 G0 W .pass D σ H) : tNext D σ H := by
  obtain ⟨fx, ρ, ts, S, hp, h⟩ := h
  unfold run at h
  exact h _ _ S
theorem rd_no (h : rdS T mg H0 G0 W .no D σ H) : False := by
  obtain ⟨fx, ρ, ts, S, hp, h⟩ := h
  unfold run at h
  exact h
theorem rdSs_no {ms : Ss} (h : rdSs T mg H0 G0 W (.cons .no ms) D σ H) : False := by
  obtain ⟨fx, ρ, ts, S, hp, h⟩ := h
  unfold runs at h
  unfold run at h
  exact h
theorem rd_brk (h : rdS T mg H0 G0 W .brk D σ H) : tBreak D σ H := by
  obtain ⟨fx, ρ, ts, S, hp, h⟩ := h
  unfold run at h
  exact h _ _ S
theorem rd_cont (h : rdS T mg H0 G0 W .cont D σ H) : tCont D σ H := by
  obtain ⟨fx, ρ, ts, S, hp, h⟩ := h
  unfold run at h
  exact h _ _ S
theorem rd_rais {n : Nat} (h : rdS T mg H0 G0 W (.rais n) D σ H) : ∀ Cx nm, T.g.exs[n]? = some nm → mg nm = some (.ref Cx) → W (.ref Cx) none σ H := by
  obtain ⟨fx, ρ, ts, S, hp, h⟩ := h
  unfold run at h
  exact fun Cx nm e1 e2 => h σ Cx nm H e1 e2 S
theorem rdSs_nil (h : rdSs T mg H0 G0 W .nil D σ H) : tNext D σ H := by
  obtain ⟨fx, ρ, ts, S, hp, h⟩ := h
  unfold runs at h
  exact h _ _ S
theorem rdSs_cons {m : S} {ms : Ss} (h : rdSs T mg H0 G0 W (.cons m ms) D σ H) : tSeq (rdS T mg H0 G0 W m) (rdSs T mg H0 G0 W ms) D σ H := by
  obtain ⟨fx, ρ, ts, S, hp, h⟩ := h
  unfold runs at h
  refine ⟨fx, ρ, ts, S, hp, ?_⟩
  cases q : run T fx m ρ with
  | next ρ' => rw [q] at h; exact fun σ' H' S' => ⟨fx, ρ', ts, S', hp, h⟩
  | ret c ρ' => rw [q] at h; exact h
  | brk ρ' => rw [q] at h; exact h
  | cont ρ' => rw [q] at h; exact h
  | err n ρ' => rw [q] at h; exact h
  | stuck => rw [q] at h; exact h
theorem rdSs_gh {fr wp : List Nat} {ms : Ss} (h : rdSs T mg H0 G0 W (.gh fr wp ms) D σ H) : rdSs T mg H0 G0 W ms D σ H := by
  obtain ⟨fx, ρ, ts, S, hp, h⟩ := h
  unfold runs at h
  exact ⟨fx, ghost ρ fr wp, ts, SR.ghost S fr wp, hp, h⟩
/-! ### loops -/
theorem forGo_ok {lk : Lk} {tg : Tg} {body : List C → RS} : ∀ {cs : List C} {ρ : List C}, forGo lk fx tg body cs ρ ≠ .stuck → lkIs ρ lk
  | [], ρ, h => by
    unfold forGo at h
    split at h
    · assumption
    · exact absurd rfl h
  | c :: cs, ρ, h => by
    unfold forGo at h
    split at h
    · assumption
    · exact absurd rfl h
theorem endS_ns {r : RS} (h : endS T mg H0 G0 W ts D r) : r ≠ .stuck := fun e => by rw [e] at h; exact h
theorem rd_for {tg : Tg} {it : It} {b : Ss} {K : PySem.W.Frag} (h : rdS T mg H0 G0 W (.forS tg it b) D σ H) : tFor (rdI T mg H0 G0 W it) (tgG K tg) (rdSs T mg H0 G0 W b) D σ H := by
  obtain ⟨fx, ρ, ts, S, hp, h⟩ := h
  refine ⟨ρ, ts, S, ?_⟩
  have h : endS T mg H0 G0 W ts D (match evI T it ρ with
    | .ok cs lk ρ => forGo lk fx tg (fun ρ => runs T (lk.fx ++ fx) b ρ) cs ρ
    | .err n ρ => .err n ρ
    | .stuck => .stuck) := by unfold run at h; exact h
  cases hI : evI T it ρ with
  | err n ρ' => rw [hI] at h; exact h σ
  | stuck => rw [hI] at h; exact h.elim
  | ok cs lk ρ1 =>
    rw [hI] at h
    intro J H1 as hW S1 hpk hk
    have h : endS T mg H0 G0 W ts D (forGo lk fx tg (fun ρ => runs T (lk.fx ++ fx) b ρ) cs ρ1) := h
    have hpk2 : LkT (lk.fx ++ fx) (ts ++ as) := fun t ht j e => by
      rcases List.mem_append.mp ht with ht | ht
      · exact List.mem_append_right _ (hp t ht j e)
      · exact List.mem_append_left _ (hpk t ht j e)
    refine ⟨fun i m σ H => ∃ ρ, m = cs.length - i ∧ i ≤ cs.length ∧ S0 T mg H0 G0 σ ρ (ts ++ as) H ∧ endS T mg H0 G0 W ts D (forGo lk fx tg (fun ρ => runs T (lk.fx ++ fx) b ρ) (cs.drop i) ρ), ⟨cs.length, ρ1, by simp, Nat.zero_le _, S1, by rw [List.drop_zero]; exact h⟩, ?_⟩
    rintro i m σ2 H2 ⟨ρ2, rfl, hi, S2, hgo⟩
    have hlk2 := forGo_ok (endS_ns hgo)
    have hw := hW σ2 ρ2 [] H2 (by rw [List.append_nil]; exact S2) hlk2 i
    by_cases hlt : i < cs.length
    · obtain ⟨hgo1, hyl⟩ := hw.1 cs[i] (List.getElem?_eq_getElem hlt)
      rw [List.drop_eq_getElem_cons hlt] at hgo
      unfold forGo at hgo
      rw [if_pos hlk2] at hgo
      cases hs : setTg fx ρ2 tg cs[i] with
      | none => rw [hs] at hgo; exact hgo.elim
      | some ρ3 =>
        rw [hs] at hgo
        refine .inr ⟨hgo1, fun σ H => ∃ ρ, S0 T mg H0 G0 σ ρ (ts ++ as) H ∧ endS T mg H0 G0 W ts D (forGo lk fx tg (fun ρ => runs T (lk.fx ++ fx) b ρ) (cs.drop (i + 1)) ρ), ?_, ?_⟩
        · rintro σ' H' ⟨ρ', a1, a2⟩
          exact ⟨cs.length - (i + 1), by omega, ρ', rfl, hlt, a1, a2⟩
        · intro x H3 hy
          have S3 := hyl x H3 hy
          rw [List.append_nil] at S3
          refine setTg_ok S3 (hk _ (List.getElem_mem hlt)) hs fun σ' e1 e2 S4 => ?_
          refine ⟨lk.fx ++ fx, ρ3, ts ++ as, S4, hpk2, ?_⟩
          have hgo : endS T mg H0 G0 W ts D (match runs T (lk.fx ++ fx) b ρ3 with
            | .next ρ2 => forGo lk fx tg (fun ρ => runs T (lk.fx ++ fx) b ρ) (cs.drop (i + 1)) ρ2
            | .cont ρ2 => forGo lk fx tg (fun ρ => runs T (lk.fx ++ fx) b ρ) (cs.drop (i + 1)) ρ2
            | .brk ρ2 => (open Classical in if lkIs ρ2 lk then .next (unlock ρ2 lk) else .stuck)
            | .ret c ρ2 => (open Classical in if lkIs ρ2 lk then .ret c (unlock ρ2 lk) else .stuck)
            | .err n ρ2 => (open Classical in if lkIs ρ2 lk then .err n (unlock ρ2 lk) else .stuck)
            | .stuck => .stuck) := hgo
          cases hr : runs T (lk.fx ++ fx) b ρ3 with
          | next ρ5 => rw [hr] at hgo; exact fun σ5 H5 S5 => ⟨ρ5, S5, hgo⟩
          | cont ρ5 => rw [hr] at hgo; exact fun σ5 H5 S5 => ⟨ρ5, S5, hgo⟩
          | brk ρ5 =>
            rw [hr] at hgo
            have hgo : endS T mg H0 G0 W ts D (open Classical in if lkIs ρ5 lk then .next (unlock ρ5 lk) else .stuck) := hgo
            by_cases hl : lkIs ρ5 lk
            · rw [if_pos hl] at hgo
              exact fun σ5 H5 S5 => hgo _ _ (unlock_ok S5.drop hl)
            · rw [if_neg hl] at hgo; exact hgo.elim
          | ret c ρ5 =>
            rw [hr] at hgo
            have hgo : endS T mg H0 G0 W ts D (open Classical in if lkIs ρ5 lk then .ret c (unlock ρ5 lk) else .stuck) := hgo
            by_cases hl : lkIs ρ5 lk
            · rw [if_pos hl] at hgo
              exact fun v σ5 H5 S5 => hgo _ _ _ (unlock_ok (SR.cut S5) hl)
            · rw [if_neg hl] at hgo; exact hgo.elim
          | err n ρ5 =>
            rw [hr] at hgo
            have hgo : endS T mg H0 G0 W ts D (open Classical in if lkIs ρ5 lk then .err n (unlock ρ5 lk) else .stuck) := hgo
            by_cases hl : lkIs ρ5 lk
            · rw [if_pos hl] at hgo
              exact fun σ5 Cx nm H5 e1 e2 S5 => hgo σ5 Cx nm H5 e1 e2 (unlock_ok S5.drop hl)
            · rw [if_neg hl] at hgo; exact hgo.elim
          | stuck => rw [hr] at hgo; exact hgo.elim
    · have hie : i = cs.length := by omega
      subst hie
      rw [List.drop_length] at hgo
      unfold forGo at hgo
      rw [if_pos hlk2] at hgo
      exact .inl ⟨hw.2 (Nat.le_refl _), hgo _ _ (unlock_ok S2.drop hlk2)⟩
theorem rd_whl {n : Nat} {m : E} {b : Ss} (h : rdS T mg H0 G0 W (.whl n m b) D σ H) : tWhile (rdT T mg H0 G0 W m) (rdSs T mg H0 G0 W b) D σ H := by
  obtain ⟨fx, ρ, ts, S, hp, h⟩ := h
  unfold run at h
  refine ⟨fun k σ H => ∃ ρ, S0 T mg H0 G0 σ ρ ts H ∧ endS T mg H0 G0 W ts D (whlGo (fun ρ => ev T m ρ) (fun ρ => runs T fx b ρ) k ρ), ⟨n, ρ, S, h⟩, ?_⟩
  rintro k σ2 H2 ⟨ρ2, S2, hgo⟩
  cases k with
  | zero => exact hgo.elim
  | succ k =>
    unfold whlGo at hgo
    refine rdT.toS S2 hgo fun c ρ3 h => ?_
    obtain ⟨q, e, h⟩ := boolS_of h
    refine ⟨q, e, fun H' S' => ?_⟩
    cases q with
    | false => rw [if_neg (by decide)] at h ⊢; exact h _ _ S'
    | true =>
      rw [if_pos rfl] at h ⊢
      refine ⟨fun σ H => ∃ ρ, S0 T mg H0 G0 σ ρ ts H ∧ endS T mg H0 G0 W ts D (whlGo (fun ρ => ev T m ρ) (fun ρ => runs T fx b ρ) k ρ), fun σ' H' z => ⟨k, Nat.lt_succ_self _, z⟩, fx, ρ3, ts, S', hp, ?_⟩
      cases hr : runs T fx b ρ3 with
      | next ρ5 => rw [hr] at h; exact fun σ5 H5 S5 => ⟨ρ5, S5, h⟩
      | cont ρ5 => rw [hr] at h; exact fun σ5 H5 S5 => ⟨ρ5, S5, h⟩
      | brk ρ5 => rw [hr] at h; exact fun σ5 H5 S5 => h _ _ S5
      | ret c ρ5 => rw [hr] at h; exact h
      | err n ρ5 => rw [hr] at h; exact h
      | stuck => rw [hr] at h; exact h
end
end Gr

set_option Elab.async false
set_option linter.all false
set_option maxRecDepth 100000
set_option maxHeartbeats 4000000
/-! Gr Pk: a dict that is walked is locked meanwhile. -/
namespace Gr
open PySem L2
/-- a dict, locked or not -/
def DkV (vs : List (Key × V)) (u : HO) : Prop := u = .dK vs ∨ ∃ o, u = .frz o (.dK vs)
/-- as R, but that at d stands w where R has something -/
def swp (d : Addr) (w : HO) (R : Hp) : Hp := fun b => if b = d then (R d).map fun _ => w else R b
section
variable {T : Glob} {mg : Str → Option Value} {R : Hp} {d : Addr} {u w : HO} {vs : List (Key × V)}
theorem swp_ne {b : Addr} (h : b ≠ d) : swp d w R b = R b := if_neg h
theorem swp_at : swp d w R d = (R d).map fun _ => w := if_pos rfl
theorem DkV.rd (h : DkV vs w) {R : Hp} (e : R d = some w) : Rd R d (.dK vs) := by
  rcases h with rfl | ⟨o, rfl⟩
  · exact .inl e
  · exact .inr ⟨o, e⟩
theorem rd_ne {a : Addr} {o : HO} (hu : DkV vs u) (hd : ∀ o, R d = some o → o = u) (hl : ∀ vs, o ≠ .dK vs) (hf : ∀ o' o2, o ≠ .frz o' o2) (h : Rd R a o) : a ≠ d := fun e => by
  subst e
  rcases h with h | ⟨o', h⟩
  · have := hd _ h
    rcases hu with rfl | ⟨o2, rfl⟩
    · exact hl _ this
    · exact hf _ _ this
  · have := hd _ h
    rcases hu with rfl | ⟨o2, rfl⟩
    · cases this
    · exact hl _ (HO.frz.inj this).2
theorem rd_swp {a : Addr} {o : HO} (hu : DkV vs u) (hd : ∀ o, R d = some o → o = u) (hl : ∀ vs, o ≠ .dK vs) (hf : ∀ o' o2, o ≠ .frz o' o2) (h : Rd R a o) : Rd (swp d w R) a o := by
  have ne := rd_ne hu hd hl hf h
  unfold Rd
  rw [swp_ne ne]
  exact h
mutual
theorem Rp.swp (hu : DkV vs u) (hd : ∀ o, R d = some o → o = u) : ∀ {x : D} {v : V}, Rp R v x → Rp (Gr.swp d w R) v x
  | .none, _, h => by cases h; exact .non
  | .bool _, _, h => by cases h; exact .bl _
  | .int _, _, h => by cases h; exact .int _
  | .str _, _, h => by cases h; exact .str _
  | .list _, _, h => by
    cases h with
    | lst r a => exact .lst (rd_swp hu hd (fun _ z => by cases z) (fun _ _ z => by cases z) r) (RpA.swp hu hd a)
  | .tuple _, _, h => by
    cases h with
    | @tup b _ _ r a =>
      have ne := rd_ne (o := .tup _) hu hd (fun _ z => by cases z) (fun _ _ z => by cases z) (.inl r)
      exact .tup (by rw [swp_ne ne]; exact r) (RpA.swp hu hd a)
  | .dict _, _, h => by cases h
theorem RpA.swp (hu : DkV vs u) (hd : ∀ o, R d = some o → o = u) : ∀ {ds : List D} {vs : List V}, RpA R vs ds → RpA (Gr.swp d w R) vs ds
  | [], _, h => by cases h; exact .nil
  | _ :: _, _, h => by
    cases h with
    | cons a b => exact .cons (Rp.swp hu hd a) (RpA.swp hu hd b)
end
theorem RpK.swp {κ : Type} (hu : DkV vs u) (hd : ∀ o, R d = some o → o = u) {ws : List (κ × V)} {ds : List (κ × D)} (h : RpK R ws ds) : RpK (Gr.swp d w R) ws ds := Paired.mapP h fun _ _ z => ⟨z.1, z.2.swp hu hd⟩
theorem ObjAt.swp {G : Hp} {a : Addr} {c : Nat} {fs : List D} (hu : DkV vs u) (hd : ∀ o, R d = some o → o = u) (hg : ∀ o, G d = some o → o = u) (h : ObjAt T mg R G a c fs) : ObjAt T mg (Gr.swp d w R) (Gr.swp d w G) a c fs := by
  obtain ⟨Cx, dx, gs, nm, fl, h1, h2, h3, h4, h5⟩ := h
  have ne := rd_ne (o := .ins _ _ _) hu hd (fun _ z => by cases z) (fun _ _ z => by cases z) (.inl h3)
  exact ⟨Cx, dx, gs, nm, fl, h1, h2, by rw [swp_ne ne]; exact h3, h4, h5.swp hu hg⟩
theorem RX.swp {v : V} {x : Tx} (hu : DkV vs u) (hw : DkV vs w) (hd : ∀ o, R d = some o → o = u) (h : RX T mg R v x) : RX T mg (Gr.swp d w R) v x := by
  cases x with
  | py y => exact Rp.swp hu hd h
  | lls xss => exact Rp.swp hu hd h
  | obj c fs =>
    obtain ⟨a, e, h1⟩ := h
    exact ⟨a, e, h1.swp hu hd hd⟩
  | dit kvs =>
    obtain ⟨a, ws, e, h1, h2⟩ := h
    exact ⟨a, ws, e, rd_swp hu hd (fun _ z => by cases z) (fun _ _ z => by cases z) h1, h2.swp hu hd⟩
  | dik kvs =>
    obtain ⟨a, ws, e, h1, h2⟩ := h
    refine ⟨a, ws, e, ?_, h2.swp hu hd⟩
    by_cases ea : a = d
    · subst ea
      have hs : ∃ o, R a = some o := h1.elim (fun z => ⟨_, z⟩) fun ⟨_, z⟩ => ⟨_, z⟩
      obtain ⟨o, ho⟩ := hs
      have eo := hd _ ho
      subst eo
      have := rd_dK h1 (hu.rd ho)
      subst this
      exact hw.rd (by rw [swp_at, ho]; rfl)
    · unfold Rd
      rw [swp_ne ea]
      exact h1
theorem OX.swp {Wn : Addr → Prop} {G H : Hp} {a : Addr} {x : Tx} (hu : DkV vs u) (hg : ∀ o, G d = some o → o = u) (nd : ¬ Wn d) (wa : Wn a) (h : OX T mg Wn G H a x) : OX T mg Wn (Gr.swp d w G) (Gr.swp d w H) a x := by
  have na : ∀ {b}, Wn b → Gr.swp d w H b = H b := fun {b} hb => swp_ne fun e => nd (e ▸ hb)
  cases x with
  | lls xss =>
    obtain ⟨bs, h1, h2, h3, h4⟩ := h
    exact ⟨bs, by rw [na wa]; exact h1, h2, h3, Paired.mem h4 fun b hb xs ⟨ws, q1, q2⟩ => ⟨ws, by rw [na (h3 b hb).2]; exact q1, q2.swp hu hg⟩⟩
  | py d' =>
    cases d' with
    | list ds =>
      obtain ⟨ws, h1, h2⟩ := h
      exact ⟨ws, by rw [na wa]; exact h1, h2.swp hu hg⟩
    | _ => exact h.elim
  | dik kvs =>
    obtain ⟨ws, h1, h2⟩ := h
    exact ⟨ws, by rw [na wa]; exact h1, h2.swp hu hg⟩
  | dit kvs =>
    obtain ⟨ws, h1, h2⟩ := h
    exact ⟨ws, by rw [na wa]; exact h1, h2.swp hu hg⟩
  | obj c fs =>
    obtain ⟨Cx, dx, gs, nm, fl, h1, h2, h3, h4, h5⟩ := h
    exact ⟨Cx, dx, gs, nm, fl, h1, h2, by rw [na wa]; exact h3, h4, h5.swp hu hg⟩
theorem ExAt.swp {v : V} {n : Nat} (hu : DkV vs u) (hd : ∀ o, R d = some o → o = u) (h : ExAt T mg R v n) : ExAt T mg (Gr.swp d w R) v n := by
  obtain ⟨a, Cx, nm, h1, h2, h3, h4⟩ := h
  have ne := rd_ne (o := ExV (.ref Cx) a) hu hd (fun _ z => by cases z) (fun _ _ z => by cases z) (.inl h4)
  exact ⟨a, Cx, nm, h1, h2, h3, by rw [swp_ne ne]; exact h4⟩
theorem Cel.swp {ow : Addr → Option Kx} {cell : Kx → Option Cell} {k : Kx} {G B H : Hp} {v : Option V} {c : C} (hu : DkV vs u) (hw : DkV vs w) (hg : ∀ o, G d = some o → o = u) (hb : ∀ o, B d = some o → o = u) (nd : ow d = none) (h : Cel T mg ow cell k G B H v c) : Cel T mg ow cell k (Gr.swp d w G) (Gr.swp d w B) (Gr.swp d w H) v c := by
  have no : ¬ (ow d = some k) := fun e => by rw [nd] at e; cases e
  cases c with
  | und => trivial
  | fro x => obtain ⟨z, e, r⟩ := h; exact ⟨z, e, r.swp hu hw hg⟩
  | bor x => obtain ⟨z, e, r⟩ := h; exact ⟨z, e, r.swp hu hw hb⟩
  | own x => obtain ⟨a, e, o, r⟩ := h; exact ⟨a, e, o, r.swp hu hg no o⟩
  | lkd x => obtain ⟨a, e, o, r⟩ := h; exact ⟨a, e, o, r.swp hu hg no o⟩
  | exc n => obtain ⟨z, e, r⟩ := h; exact ⟨z, e, r.swp hu hg⟩
  | pk i => exact h
variable {H0 G0 G B H H' : Hp} {Fx : List (Nat × V)} {ow : Addr → Option Kx} {σ : St} {ρ : List C} {ts : List Cell}
theorem swp_same {R R' : Hp} (s : Same R R') : Same (Gr.swp d w R) (Gr.swp d w R') := fun b o e => by
  by_cases h : b = d
  · subst h
    rw [swp_at] at e ⊢
    cases q : R b with
    | none => rw [q] at e; cases e
    | some z => rw [q] at e; rw [s _ _ q]; exact e
  · rw [swp_ne h] at e ⊢; exact s _ _ e
theorem swp_upd {H : Hp} (h : H d = some u) : Gr.swp d w H = upd H d w := funext fun b => by
  by_cases e : b = d
  · subst e; rw [swp_at, h, upd_same]; rfl
  · rw [swp_ne e, upd_ne e]
/-- the base while d is locked -/
def lkH (d : Addr) (w : HO) (H0 : Hp) : Hp := fun b => if b = d then some w else H0 b
def lkG (d : Addr) (w : HO) (G G0 : Hp) : Hp := fun b => if b = d then (G d).map fun _ => w else G0 b
theorem SRx.lock (S : SRx T mg H0 G0 Fx ow G B σ ρ ts H) (hB : B d = some u) (hu : DkV vs u) (hw : DkV vs w) : SRx T mg (lkH d w H0) (lkG d w G G0) Fx ow (Gr.swp d w G) (Gr.swp d w B) σ ρ ts (upd H d w) := by
  have hH := S.bh _ _ hB
  have nd : ow d = none := by
    cases q : ow d with
    | none => rfl
    | some k => have := S.nb _ _ q; rw [hB] at this; cases this
  have hb : ∀ o, B d = some o → o = u := fun o e => by rw [hB] at e; exact (Option.some.inj e).symm
  have hg : ∀ o, G d = some o → o = u := fun o e => hb o (S.gb _ _ e)
  rw [← swp_upd hH]
  refine ⟨S.len, fun b o e => ?_, fun b o e => ?_, fun b o e => ?_, swp_same S.gb, swp_same S.bh, fun b k e => ?_, fun b k e => ?_, S.npk, fun k v c e => (S.rel k v c e).swp hu hw hg hb nd, S.fix⟩
  · by_cases h : b = d
    · subst h
      unfold lkG at e
      rw [if_pos rfl] at e
      rw [swp_at]; exact e
    · unfold lkG at e
      rw [if_neg h] at e
      rw [swp_ne h]; exact S.g0 _ _ e
  · by_cases h : b = d
    · subst h
      left
      unfold lkG
      rw [if_pos rfl, ← swp_at (d := b) (w := w) (R := G)]; exact e
    · rw [swp_ne h] at e
      unfold lkG lkH
      rw [if_neg h, if_neg h]
      exact S.new _ _ e
  · by_cases h : b = d
    · subst h
      unfold lkH at e
      rw [if_pos rfl] at e
      rw [swp_at, hB]; exact e
    · unfold lkH at e
      rw [if_neg h] at e
      rw [swp_ne h]; exact S.h0 _ _ e
  · have ne : b ≠ d := fun z => by rw [z, nd] at e; cases e
    rw [swp_ne ne]; exact S.nb _ _ e
  · have ne : b ≠ d := fun z => by rw [z, nd] at e; cases e
    rw [swp_ne ne]; exact S.live _ _ e
/-- behind the walk -/
theorem SRx.unlockD {ow' : Addr → Option Kx} {G' B' : Hp} {σ' : St} {ρ' : List C} {ts' : List Cell} (S : SRx T mg H0 G0 Fx ow G B σ ρ ts H) (hB : B d = some u) (hu : DkV vs u) (hw : DkV vs w) (S' : SRx T mg (lkH d w H0) (lkG d w G G0) Fx ow' G' B' σ' ρ' ts' H') :
    H' d = some w ∧ SRx T mg H0 G0 Fx ow' (Gr.swp d u G') (Gr.swp d u B') σ' ρ' ts' (upd H' d u) := by
  have e0 : lkH d w H0 d = some w := if_pos rfl
  have hB' := S'.h0 _ _ e0
  have hH' := S'.bh _ _ hB'
  refine ⟨hH', ?_⟩
  have nd : ow' d = none := by
    cases q : ow' d with
    | none => rfl
    | some k => have := S'.nb _ _ q; rw [hB'] at this; cases this
  have hb : ∀ o, B' d = some o → o = w := fun o e => by rw [hB'] at e; exact (Option.some.inj e).symm
  have hg : ∀ o, G' d = some o → o = w := fun o e => hb o (S'.gb _ _ e)
  have old : ∀ o, H0 d = some o → o = u := fun o e => by have := S.h0 _ _ e; rw [hB] at this; exact (Option.some.inj this).symm
  rw [← swp_upd hH']
  refine ⟨S'.len, fun b o e => ?_, fun b o e => ?_, fun b o e => ?_, swp_same S'.gb, swp_same S'.bh, fun b k e => ?_, fun b k e => ?_, S'.npk, fun k v c e => (S'.rel k v c e).swp hw hu hg hb nd, S'.fix⟩
  · by_cases h : b = d
    · subst h
      have h1 := S.g0 _ _ e
      have h2 := S.gb _ _ h1
      rw [hB] at h2
      cases h2
      have h3 : lkG b w G G0 b = some w := by
        unfold lkG
        rw [if_pos rfl, h1]; rfl
      rw [swp_at, S'.g0 _ _ h3]; rfl
    · rw [swp_ne h]
      exact S'.g0 _ _ (by unfold lkG; rw [if_neg h]; exact e)
  · by_cases h : b = d
    · subst h
      rw [swp_at] at e
      cases q : G' b with
      | none => rw [q] at e; cases e
      | some z =>
        rw [q] at e
        cases e
        rcases S'.new _ _ q with z1 | z1
        · unfold lkG at z1
          rw [if_pos rfl] at z1
          cases q2 : G b with
          | none => rw [q2] at z1; cases z1
          | some z2 =>
            have h2 := S.gb _ _ q2
            rw [hB] at h2
            cases h2
            exact S.new _ _ q2
        · rw [e0] at z1; cases z1
    · rw [swp_ne h] at e
      have := S'.new _ _ e
      unfold lkG lkH at this
      rw [if_neg h, if_neg h] at this
      exact this
  · by_cases h : b = d
    · subst h
      have := old _ e
      subst this
      rw [swp_at, hB']; rfl
    · rw [swp_ne h]
      exact S'.h0 _ _ (by unfold lkH; rw [if_neg h]; exact e)
  · have ne : b ≠ d := fun z => by rw [z, nd] at e; cases e
    rw [swp_ne ne]; exact S'.nb _ _ e
  · have ne : b ≠ d := fun z => by rw [z, nd] at e; cases e
    rw [swp_ne ne]; exact S'.live _ _ e
end
end Gr
namespace Gr
open PySem L2
section
variable {T : Kit} {mg : Str → Option Value} {H0 G0 H0' G0' H H' : Hp} {W : WX} {σ : St} {ρ ρ' ρ1 : List C} {ts as : List Cell} {Q : VK} {v w : V} {c c' : C} {G B : Hp} {ow : Addr → Option Kx} {D D1 : Ends} {fx : List Nat} {e : E} {X : Cx}
theorem forGoK_ne {tg : Tg} {body : List C → RS} : ∀ {cs : List C} {ρ : List C} {n : Nat} {ρ' : List C}, forGoK fx tg body cs ρ ≠ .err n ρ' ∧ forGoK fx tg body cs ρ ≠ .brk ρ' ∧ forGoK fx tg body cs ρ ≠ .cont ρ'
  | [], ρ, n, ρ' => by unfold forGoK; exact ⟨(fun h => by cases h), (fun h => by cases h), (fun h => by cases h)⟩
  | c :: cs, ρ, n, ρ' => by
    unfold forGoK
    cases setTg fx ρ tg c with
    | none => exact ⟨(fun h => by cases h), (fun h => by cases h), (fun h => by cases h)⟩
    | some ρ1 =>
      dsimp only
      cases body ρ1 with
      | next ρ2 => exact forGoK_ne
      | cont ρ2 => exact forGoK_ne
      | _ => exact ⟨(fun h => by cases h), (fun h => by cases h), (fun h => by cases h)⟩
theorem keyD_rp {R : Hp} : ∀ {k : Key}, Rp R (kV k) (keyD k)
  | .inl _ => .int _
  | .inr _ => .str _
theorem keys_of {R : Hp} : ∀ {vs : List (Key × V)} {kvs : List (Key × PyData)}, RpK R vs kvs → (kvs.map fun kv => keyD kv.1) = vs.map fun kv => keyD kv.1
  | [], _, h => by cases h; rfl
  | _ :: _, _, h => by
    cases h with
    | cons a t => rw [List.map_cons, List.map_cons, keys_of t, a.1]
theorem keysAt_ok {i : Nat} {ds : List PyData} (S : S0 T mg H0 G0 σ ρ ts H) (h : keysAt ρ i = some (ds, ρ1)) : ∃ ow G B d vs u, SRx T.g mg H0 G0 [] ow G B σ ρ1 ts H ∧ σ[i]? = some (some (.ref d)) ∧ B d = some u ∧ DkV vs u ∧ ds = vs.map fun kv => keyD kv.1 := by
  have fin : ∀ {ρ2 : List C} {kvs : List (Key × PyData)}, S0 T mg H0 G0 σ ρ2 ts H → (ρ2[i]? = some (.fro (.dik kvs)) ∨ ρ2[i]? = some (.bor (.dik kvs))) → ∃ ow G B d vs u, SRx T.g mg H0 G0 [] ow G B σ ρ2 ts H ∧ σ[i]? = some (some (.ref d)) ∧ B d = some u ∧ DkV vs u ∧ (kvs.map fun kv => keyD kv.1) = vs.map fun kv => keyD kv.1 := fun {ρ2 kvs} S e => by
    obtain ⟨ow, G, B, S⟩ := S
    have hl : i < ρ2.length := by rcases e with e | e <;> exact (List.getElem?_eq_some_iff.mp e).1
    have hi : i < σ.length := by rw [S.len]; exact hl
    have hs : σ[i]? = some σ[i] := List.getElem?_eq_getElem hi
    have go : RX T.g mg B (σ[i].getD .non) (.dik kvs) → σ[i] = some (σ[i].getD .non) → ∃ ow G B d vs u, SRx T.g mg H0 G0 [] ow G B σ ρ2 ts H ∧ σ[i]? = some (some (.ref d)) ∧ B d = some u ∧ DkV vs u ∧ (kvs.map fun kv => keyD kv.1) = vs.map fun kv => keyD kv.1 := fun r q => by
      obtain ⟨a, vs, ea, h1, h2⟩ := r
      rcases h1 with h1 | ⟨o, h1⟩
      · exact ⟨ow, G, B, a, vs, _, S, by rw [hs, q, ea], h1, .inl rfl, keys_of h2⟩
      · exact ⟨ow, G, B, a, vs, _, S, by rw [hs, q, ea], h1, .inr ⟨o, rfl⟩, keys_of h2⟩
    rcases e with e | e
    · obtain ⟨u, eu, r⟩ := S.rel _ _ _ (cel_inl.mpr ⟨hs, e⟩)
      exact go (by rw [eu]; exact r.mono S.gb) (by rw [eu]; rfl)
    · obtain ⟨u, eu, r⟩ := S.rel _ _ _ (cel_inl.mpr ⟨hs, e⟩)
      exact go (by rw [eu]; exact r) (by rw [eu]; rfl)
  unfold keysAt at h
  cases q : ρ[i]? with
  | none => rw [q] at h; cases h
  | some c =>
    rw [q] at h
    have hl : i < ρ.length := (List.getElem?_eq_some_iff.mp q).1
    cases c with
    | own x =>
      cases x with
      | dik kvs =>
        cases h
        have S1 := SR.ghost S [i] []
        have e1 : ghost ρ [i] [] = ρ.set i (.fro (.dik kvs)) := by
          show frz1 ρ i = _
          unfold frz1
          rw [q]
        rw [e1] at S1
        exact fin S1 (.inl (List.getElem?_set_self hl))
      | _ => cases h
    | fro x =>
      cases x with
      | dik kvs => cases h; exact fin S (.inl q)
      | _ => cases h
    | bor x =>
      cases x with
      | dik kvs => cases h; exact fin S (.inr q)
      | _ => cases h
    | _ => cases h
theorem ow_lock {d : Addr} {u w : HO} {vs : List (Key × V)} (S : SRx T.g mg H0 G0 [] ow G B σ ρ ts H) (hB : B d = some u) (hu : DkV vs u) (hw : DkV vs w) : S0 T mg (lkH d w H0) (lkG d w G G0) σ ρ ts (upd H d w) := ⟨_, _, _, S.lock hB hu hw⟩
/-- the walk, d being locked in the base -/
theorem loopK {tg : Tg} {i : Nat} {b : Ss} {K : PySem.W.Frag} {d : Addr} {o : Obj} {vs : List (Key × V)} (S : S0 T mg H0 G0 σ ρ ts H) (hd : H0 d = some (.frz o (.dK vs))) (hs : σ[i]? = some (some (.ref d))) (hp : LkT fx ts)
    (h : endS T mg H0 G0 W ts D (forGoK fx tg (fun ρ => runs T fx b ρ) ((vs.map fun kv => keyD kv.1).map fun x => .fro (.py x)) ρ)) : tFor (iKeys (tVar i)) (tgG K tg) (rdSs T mg H0 G0 W b) D σ H := by
  have at_ : ∀ {σ ρ ts H}, S0 T mg H0 G0 σ ρ ts H → H d = some (.frz o (.dK vs)) := fun S => SR.h0h S _ _ hd
  refine ⟨.ref d, hs, d, o, rfl, .inl ⟨vs, at_ S, ?_⟩⟩
  have hcl : ((vs.map fun kv => keyD kv.1).map fun x => (C.fro (.py x))).length = vs.length := by rw [List.length_map, List.length_map]
  have hci : ∀ {j : Nat} {k : Key} {x : V}, vs[j]? = some (k, x) → ((vs.map fun kv => keyD kv.1).map fun x => (C.fro (.py x)))[j]? = some (.fro (.py (keyD k))) := fun {j k x} e => by rw [List.getElem?_map, List.getElem?_map, e]; rfl
  generalize ((vs.map fun kv => keyD kv.1).map fun x => (C.fro (.py x))) = cs at h hcl hci
  refine ⟨fun i m σ H => ∃ ρ, m = cs.length - i ∧ i ≤ cs.length ∧ S0 T mg H0 G0 σ ρ ts H ∧ endS T mg H0 G0 W ts D (forGoK fx tg (fun ρ => runs T fx b ρ) (cs.drop i) ρ), ⟨cs.length, ρ, by simp, Nat.zero_le _, S, by rw [List.drop_zero]; exact h⟩, ?_⟩
  rintro j m σ2 H2 ⟨ρ2, rfl, hj, S2, hgo⟩
  by_cases hlt : j < cs.length
  · rw [List.drop_eq_getElem_cons hlt] at hgo
    unfold forGoK at hgo
    cases hs : setTg fx ρ2 tg cs[j] with
    | none => rw [hs] at hgo; exact hgo.elim
    | some ρ3 =>
      rw [hs] at hgo
      refine .inr ⟨⟨at_ S2, by rw [← hcl]; exact hlt⟩, fun σ H => ∃ ρ, S0 T mg H0 G0 σ ρ ts H ∧ endS T mg H0 G0 W ts D (forGoK fx tg (fun ρ => runs T fx b ρ) (cs.drop (j + 1)) ρ), ?_, ?_⟩
      · rintro σ' H' ⟨ρ', a1, a2⟩
        exact ⟨cs.length - (j + 1), by omega, ρ', rfl, hlt, a1, a2⟩
      · rintro x H3 ⟨e3, k, y, hk, ex⟩
        subst e3 ex
        have hc := hci hk
        rw [List.getElem?_eq_getElem hlt] at hc
        have hc := Option.some.inj hc
        rw [hc] at hs
        refine setTg_ok (SR.scal S2 fun _ => keyD_rp) (.inl ⟨_, rfl⟩) hs fun σ' e1 e2 S4 => ?_
        refine ⟨fx, ρ3, ts, S4, hp, ?_⟩
        have hgo : endS T mg H0 G0 W ts D (match runs T fx b ρ3 with
          | .next ρ2 => forGoK fx tg (fun ρ => runs T fx b ρ) (cs.drop (j + 1)) ρ2
          | .cont ρ2 => forGoK fx tg (fun ρ => runs T fx b ρ) (cs.drop (j + 1)) ρ2
          | .brk ρ2 => .next ρ2
          | .ret c ρ2 => .ret c ρ2
          | .err _ _ => .stuck
          | .stuck => .stuck) := hgo
        cases hr : runs T fx b ρ3 with
        | next ρ5 => rw [hr] at hgo; exact fun σ5 H5 S5 => ⟨ρ5, S5, hgo⟩
        | cont ρ5 => rw [hr] at hgo; exact fun σ5 H5 S5 => ⟨ρ5, S5, hgo⟩
        | brk ρ5 => rw [hr] at hgo; exact fun σ5 H5 S5 => hgo _ _ S5
        | ret c ρ5 => rw [hr] at hgo; exact fun v σ5 H5 S5 => hgo _ _ _ S5
        | err n ρ5 => rw [hr] at hgo; exact hgo.elim
        | stuck => rw [hr] at hgo; exact hgo.elim
  · have hje : j = cs.length := by omega
    subst hje
    rw [List.drop_length] at hgo
    unfold forGoK at hgo
    exact .inl ⟨⟨at_ S2, by rw [hcl] <;> exact Nat.le_refl _⟩, hgo _ _ S2⟩
theorem upd_at {d : Addr} {u : HO} (h : H d = some u) : upd H d u = H := funext fun b => by
  by_cases e : b = d
  · subst e; rw [upd_same, h]
  · rw [upd_ne e]
/-- for k in d -/
def tForK (T : Kit) (mg : Str → Option Value) (W : WX) (K : PySem.W.Frag) (tg : Tg) (i : Nat) (b : Ss) : TS := fun D σ H => ∃ H0 G0, tFor (iKeys (tVar i)) (tgG K tg) (rdSs T mg H0 G0 W b) D σ H
theorem rd_forK {tg : Tg} {i : Nat} {b : Ss} {K : PySem.W.Frag} (h : rdS T mg H0 G0 W (.forK tg i b) D σ H) : tLock (tForK T mg W K tg i b) D σ H ∨ tForK T mg W K tg i b D σ H := by
  obtain ⟨fx, ρ, ts, S, hp, h⟩ := h
  have h : endS T mg H0 G0 W ts D (match keysAt ρ i with
    | some (ds, ρ) => forGoK fx tg (fun ρ => runs T fx b ρ) (ds.map fun d => .fro (.py d)) ρ
    | none => .stuck) := by unfold run at h; exact h
  cases q : keysAt ρ i with
  | none => rw [q] at h; exact h.elim
  | some p =>
    obtain ⟨ds, ρ1⟩ := p
    rw [q] at h
    obtain ⟨ow, G, B, d, vs, u, S1, hs, hB, hu, rfl⟩ := keysAt_ok S q
    have h : endS T mg H0 G0 W ts D (forGoK fx tg (fun ρ => runs T fx b ρ) ((vs.map fun kv => keyD kv.1).map fun d => .fro (.py d)) ρ1) := h
    have hne := @forGoK_ne fx tg (fun ρ => runs T fx b ρ) ((vs.map fun kv => keyD kv.1).map fun d => .fro (.py d)) ρ1
    have tr : ∀ {w : HO}, DkV vs w → ∀ {D1 : Ends}, (∀ σ H, H d = some w → D.nx σ (upd H d u) → D1.nx σ H) → (∀ v H, H d = some w → D.rt v (upd H d u) → D1.rt v H) → endS T mg (lkH d w H0) (lkG d w G G0) W ts D1 (forGoK fx tg (fun ρ => runs T fx b ρ) ((vs.map fun kv => keyD kv.1).map fun d => .fro (.py d)) ρ1) := fun {w} hw {D1} n1 n2 => by
      generalize forGoK fx tg (fun ρ => runs T fx b ρ) ((vs.map fun kv => keyD kv.1).map fun d => .fro (.py d)) ρ1 = r at h hne ⊢
      cases r with
      | next ρ2 =>
        rintro σ2 H2 ⟨ow2, G2, B2, S2⟩
        obtain ⟨e, S3⟩ := S1.unlockD hB hu hw S2
        exact n1 _ _ e (h _ _ ⟨_, _, _, S3⟩)
      | ret c ρ2 =>
        rintro v σ2 H2 ⟨ow2, G2, B2, S2⟩
        obtain ⟨e, S3⟩ := S1.unlockD hB hu hw S2
        exact n2 _ _ e (h _ _ _ ⟨_, _, _, S3⟩)
      | brk ρ2 => exact absurd rfl (hne (n := 0) (ρ' := ρ2)).2.1
      | cont ρ2 => exact absurd rfl (hne (n := 0) (ρ' := ρ2)).2.2
      | err n ρ2 => exact absurd rfl (hne (n := n) (ρ' := ρ2)).1
      | stuck => exact h.elim
    have hH := S1.bh _ _ hB
    rcases hu with rfl | ⟨o, rfl⟩
    · left
      refine ⟨d, .dK vs, hH, trivial, fun od => ⟨_, _, loopK (ow_lock S1 hB (.inl rfl) (w := .frz od (.dK vs)) (.inr ⟨od, rfl⟩)) (if_pos rfl) hs hp (tr (.inr ⟨od, rfl⟩) (fun σ H e z => ⟨e, z⟩) fun v H e z => ⟨e, z⟩)⟩⟩
    · right
      have S2 := ow_lock S1 hB (.inr ⟨o, rfl⟩) (w := .frz o (.dK vs)) (.inr ⟨o, rfl⟩)
      rw [upd_at hH] at S2
      exact ⟨_, _, loopK S2 (if_pos rfl) hs hp (tr (.inr ⟨o, rfl⟩) (fun σ H e z => by rw [upd_at e] at z; exact z) fun v H e z => by rw [upd_at e] at z; exact z)⟩
end
end Gr

set_option Elab.async false
set_option linter.all false
set_option maxRecDepth 100000
set_option maxHeartbeats 4000000
/-! Gr Q: try .. except X as e: name = e: the exception is kept. -/
namespace Gr
open PySem PySem.Spec PyProof.Rows L2
section
variable {X : Cx} {pins : List (Addr × Obj)} {σ : L2.St} {H : Hp} {s : Shared}
theorem unsuite2 {a : Addr} {q : Addr × Obj} {pn' : List (Addr × Obj)} (I : Inv (X.suite a (q :: (X.pn ++ pins))) pn' σ H s) (ok : X.Ok) : Inv X (q :: pins) σ H s :=
  ⟨ok, I.os, I.bare, I.base, I.loc, I.cell, I.free, I.freeC, fun p hp => I.pin p (List.mem_append_left _ (by
    rcases List.mem_append.mp hp with h | h
    · exact List.mem_cons_of_mem _ (List.mem_append_left _ h)
    · rcases List.mem_cons.mp h with h | h
      · rw [h]; exact List.mem_cons_self
      · exact List.mem_cons_of_mem _ (List.mem_append_right _ h))), I.hok, I.len⟩
theorem cell_no {h : Heap} {a : Addr} {oe : Obj} {w : Option Value} (ha : h.get? a = some oe) (hc : ∀ v, oe.data ≠ .cell v) (q : h.IsCell a w) : False := by
  obtain ⟨o, q1, q2⟩ := q
  rw [ha] at q1
  have e := Option.some.inj q1
  exact hc w (by rw [e]; first | exact q2 | rfl)
/-- a pinned object that is new is tracked from now on -/
theorem track {a : Addr} {oe : Obj} {vs : Array Value} {cls : Value} (I : Inv X ((a, oe) :: pins) σ H s) (hz : Zc cls none oe) (hv : oe.data = .fields vs) (h0 : X.s_0.heap.get? a = none) (hp : ∀ p ∈ X.pn ++ pins, p.1 ≠ a) : Inv X pins σ (upd H a (ExV cls a)) s := by
  obtain ⟨ha, hn, hL, hF, hc⟩ := I.pin (a, oe) (List.mem_append_right _ List.mem_cons_self)
  have ne : ∀ b o, H b = some o → b ≠ a := fun b o e z => by subst z; rw [hn] at e; cases e
  refine ⟨I.ok, I.os, I.bare, ⟨I.base.keep, I.base.slot, fun b o e n hx => ?_, I.base.there, fun b xs e => ?_, fun b o u e => ?_, fun b ps e => ?_⟩, I.loc, I.cell, ?_, fun x c e => ?_, fun p hp' => ?_, fun b o e => ?_, I.len⟩
  · have : b ≠ a := fun z => by subst z; rw [h0] at e; cases e
    rw [upd_ne this]
    exact I.base.free b o e n hx
  · have q := I.base.tups b xs e
    rw [upd_ne (ne _ _ q)]; exact q
  · have q := I.base.frzs b o u e
    rw [upd_ne (ne _ _ q)]; exact q
  · obtain ⟨m, q⟩ := I.base.tbls b ps e
    exact ⟨m, by rw [upd_ne (ne _ _ q)]; exact q⟩
  · rw [upd_ne (Ne.symm hL)]; exact I.free
  · have : c ≠ a := fun z => by
      subst z
      obtain ⟨w, q⟩ := I.cell x c e
      exact cell_no ha hc q
    rw [upd_ne this]; exact I.freeC x c e
  · obtain ⟨q1, q2, q3, q4, q5⟩ := I.pin p (by
      rcases List.mem_append.mp hp' with h | h
      · exact List.mem_append_left _ h
      · exact List.mem_append_right _ (List.mem_cons_of_mem _ h))
    exact ⟨q1, by rw [upd_ne (hp p hp')]; exact q2, q3, q4, q5⟩
  · by_cases hb : b = a
    · subst hb
      rw [upd_same] at e
      cases e
      refine ⟨⟨oe, vs, ha, hz, hv⟩, ⟨oe, ha⟩, fun h1 h2 ⟨o1, v1, e1, z1, d1⟩ k => ⟨o1, v1, k _ e1, z1, d1⟩⟩
    · rw [upd_ne hb] at e
      exact (I.hok b o e).stay (fun c u _ q => q) (fun c q => by rw [upd_ne (ne _ _ q)]; exact q) fun c xs q => by rw [upd_ne (ne _ _ q)]; exact q
end
/-- what is wished of an exception of the body -/
def wKeep (K : PySem.W.Frag) (c : Value) (i j : Nat) (Wout : WX) (D : Ends) : WX := fun cls d σ H =>
  ∃ b, PySem.W.exmOne K cls c = some b ∧ (b = true → d = none ∧ ∀ a, H a = none → D.nx (((σ.set i (some (.ref a))).set j (some (.ref a))).set i none) (upd H a (ExV cls a))) ∧ (b = false → Wout cls d σ H)
section
variable {X : Cx} {x n y : Str} {c : Value} {i j : Nat} {body : List Stmt} {np pos pos' py pn apos : Pos} {tb : WX → TS} {Wout : WX}
theorem ps_try_keep (hs : X.stack = X.env :: X.outer) (hf : X.env.frame = some X.env.locals) (hex : X.ex = []) (hN : X.N.Nodup) (hi : X.N[i]? = some n) (hln : X.env.kindOf n = some .local) (hj : X.N[j]? = some y) (hly : Loc X.env.scope y) (hfy : X.fn y = true ∨ X.env.scope.names.lookup y = some .local)
    (hd : (n == ("__debug__" : Str)) = false) (hcd : (n == ("__classdict__" : Str)) = false) (hc : Names X x c) (tk : Takes X Wout)
    (hb : ∀ (W : WX) (pn : List (Addr × Obj)) (xe : Value → Shared → Prop), Takes (X.tr pn xe) W → PassesOwn (model X.prog X.w) X.A X.env xe → PSs (X.tr pn xe) body (tb W)) :
    PS X (.Try body [.ExceptHandler (some (.Name x np)) (some n) [.Assign [.Name y py] (.Name n pn) apos] pos'] [] [] pos) (fun D σ H => tb (wKeep X.K c i j Wout D) D σ H) := by
  refine ⟨fun pins s σ H D I h => ?_⟩
  have ok := I.ok
  have hfr : X.A.frames = some (X.env :: X.outer) := by rw [ok.frames, hs]
  have hloc : Loc X.env.scope n := .inl hln
  refine wpAny_Try_except ?_
  refine wpAny_mono ((hb (wKeep X.K c i j Wout D) (X.pn ++ pins) (fun e s₁ => wpAny (model X.prog X.w) X.A (noteFrame e X.env) (fun _ s₂ => wpAny (model X.prog X.w) X.A (setFlight e none) (fun _ s₃ =>
    wpAny (model X.prog X.w) X.A (handleBy e X.env [.ExceptHandler (some (.Name x np)) (some n) [.Assign [.Name y py] (.Name n pn) apos] pos']) (SP X pins D) X.xe s₃) X.xe s₂) X.xe s₁) (fun u s' xx => ?_) PassesOwn.looking).run [] s σ H D (I.toTry _) h) (fun f s1 hsp => ?_) (fun e s1 he => he)
  · -- the catch
    obtain ⟨a, B, sI, pins', σ', H', cls, d, rfl, J', nb, up, sky, na, os, ag, b, hb1, hyes, hno⟩ := xx
    have J : Inv X pins σ' H' sI := J'.ofTry ok
    have sky' : Sky B (X.env :: X.outer) a (Zc cls d) X.env.locals s'.heap := by rw [← hs]; exact sky
    show wpAny (model X.prog X.w) X.A (noteFrame (.ref a) X.env) _ _ _
    refine Sky.land Zc.steady hfr hf sky' fun h3 fl3 up3 => ?_
    have J3 : Inv X pins σ' H' { s' with heap := h3 } := J.landed nb fl3.1 (up.trans up3) os ag
    obtain ⟨oe3, vs3, he3, hz3, hd3⟩ := fl3.there
    have notFr : ∀ {h : Heap} {o : Obj} {vs : Array Value}, h.FunFrames B (X.env :: X.outer) → h.get? a = some o → o.data = .fields vs → a ∉ frs (X.env :: X.outer) := fun {h o vs} ff e dd hm => by
      obtain ⟨_, o', e', hnf⟩ := ff.mem hm
      rw [e] at e'; cases e'
      exact hnf _ dd
    have nfr := notFr fl3.2.2.1 he3 hd3
    have nL : a ≠ X.env.locals := fun z => nfr (List.mem_filterMap.mpr ⟨X.env, List.mem_cons_self, by rw [hf, z]⟩)
    have nF : a ∉ X.fs := fun hm => by
      obtain ⟨e, he, q⟩ := List.mem_filterMap.mp hm
      exact nfr (List.mem_filterMap.mpr ⟨e, List.mem_cons_of_mem _ he, q⟩)
    have newI : sI.heap.get? a = none := by
      cases q : sI.heap.get? a with
      | none => rfl
      | some o =>
        have := nb a o q (by rw [hs]; exact nfr)
        rw [fl3.2.1] at this
        cases this
    have new0 : X.s_0.heap.get? a = none := by
      cases q : X.s_0.heap.get? a with
      | none => rfl
      | some o =>
        obtain ⟨o', q'⟩ := J.base.there a o q (by rw [hex]; exact fun z => by cases z)
        rw [newI] at q'
        cases q'
    have newP : ∀ p ∈ X.pn ++ pins, p.1 ≠ a := fun p hp z => by
      have := (J.pin p hp).1
      rw [z, newI] at this
      cases this
    have S3 := J3.suite he3 hd3 na nL nF
    refine wpAny_handleBy_cons (codeAny_handlers_test ?_) (by intro q; cases q)
    have LT : PySem.W.Looks (model X.prog X.w) h3 (typeOf (.ref a)) cls := fun A Q E s k q => wpAny_typeOf_ref (k _ _ he3) (by rw [hz3.1]; exact q)
    have LM := PySem.W.exm_one (M := model X.prog X.w) (J3.kIn) LT hb1
    have test : ∀ {Q : Value → Shared → Prop} {E : Value → Shared → Prop}, Q c { s' with heap := h3 } → wpAny (model X.prog X.w) (X.A.mark (some (.ref a))) (eval (.Name x np) X.env) Q E { s' with heap := h3 } := fun {Q E} q => by
      obtain ⟨hg, hdbg, hm | ⟨hm, hv, hnn⟩⟩ := hc
      · exact ld_glob (X := X.suite a ((a, oe3) :: (X.pn ++ pins))) S3 hg hm q hdbg
      · exact ld_blt (X := X.suite a ((a, oe3) :: (X.pn ++ pins))) S3 hg hm hv q hnn hdbg
    refine test (LM.here ?_)
    cases b with
    | true =>
      obtain ⟨rfl, hq⟩ := hyes rfl
      refine codeAny_handlers_suite_as ?_
      refine HandSPX.lands_againZ fl3 fun h4 fl4 up4 => ?_
      have J4 : Inv X pins σ' H' { s' with heap := h4 } := J.landed nb fl4.1 ((up.trans up3).trans up4) os ag
      obtain ⟨oe4, vs4, he4, hz4, hd4⟩ := fl4.there
      have S4 := J4.suite he4 hd4 na nL nF
      have hlen : i < σ'.length := by
        have := J.len
        have := (List.getElem?_eq_some_iff.mp hi).1
        omega
      refine store_ok (X := X.suite a ((a, oe4) :: (X.pn ++ pins))) (v := .ref a) S4 hN hi hloc rfl (fun s5 S5 => ?_) (.inr hln)
      have hsu : PSs (X.suite a ((a, oe4) :: (X.pn ++ pins))) [.Assign [.Name y py] (.Name n pn) apos] (tAsg (tVar i) (gName j)) := pss_one (ps_set hN hj hly (pe_var hi (.inl hln) hd hcd) rfl hfy)
      refine wpAny_mono (hsu.run [] s5 _ H' { nx := fun σ6 H6 => σ6 = (σ'.set i (some (.ref a))).set j (some (.ref a)) ∧ H6 = H', rt := fun _ _ => False } S5 ⟨.ref a, List.getElem?_set_self hlen, rfl, rfl⟩) (fun f s6 hsp => ?_) (fun _ _ z => False.elim z)
      cases f with
      | next =>
        obtain ⟨σ6, H6, S6, e1, e2⟩ := hsp
        subst e1 e2
        refine gone_ok (unsuite2 S6 ok) hN hi hln fun s7 J7 => ?_
        exact ⟨_, _, track J7 hz4 hd4 new0 newP, hq a na⟩
      | brk => obtain ⟨_, _, _, z⟩ := hsp; exact z.elim
      | cont => obtain ⟨_, _, _, z⟩ := hsp; exact z.elim
      | ret u => obtain ⟨_, _, _, _, _, z⟩ := hsp; exact z.elim
    | false =>
      show wpAny _ X.A (handleBy (.ref a) X.env []) _ _ _
      refine wpAny_handleBy_nil ?_
      obtain ⟨k1, k2, k3, oe, vs, T, oT, ts', he, hz, hd, h1, hr⟩ := id fl3
      unfold PySem.passOn
      refine wpAny_bind (wpAny_field he hd h1 ?_)
      rw [if_neg (show ¬ ((Value.ref T == Value.none) = true) from by simp)]
      have fin : wpAny (model X.prog X.w) X.A (setFlight (.ref a) X.env.frame) (fun _ s4 => wpAny (model X.prog X.w) X.A (throw (.ref a) : Sem Flow) (SP X pins D) X.xe s4) X.xe { s' with heap := h3 } := by
        rw [hf]
        refine HandSPX.setFlight_upZ fl3 fun h4 hh4 up4 => wpAny_throw (tk _ _ ?_)
        exact ⟨a, B, sI, pins, σ', H', cls, d, rfl, J, nb, (up.trans up3).trans up4, .inr (.inr (by rw [hs]; exact hh4)), na, os, ag, hno rfl⟩
      first
        | exact wpAny_bind (wpAny_pure (wpAny_bind fin))
        | exact wpAny_bind fin
  · cases f with
    | next =>
      obtain ⟨σ', H', J', q⟩ := hsp
      exact wpAny_execs_nil ⟨σ', H', J'.ofTry ok, q⟩
    | brk =>
      obtain ⟨σ', H', J', q⟩ := hsp
      exact ⟨σ', H', J'.ofTry ok, q⟩
    | cont =>
      obtain ⟨σ', H', J', q⟩ := hsp
      exact ⟨σ', H', J'.ofTry ok, q⟩
    | ret u =>
      obtain ⟨v, σ', H', J', r, q⟩ := hsp
      exact ⟨v, σ', H', J'.ofTry ok, r, q⟩
end
/-- .. where the handler is a text of its own -/
def wAsg (K : PySem.W.Frag) (c : Value) (i : Nat) (ts : TS) (Wout : WX) (D : Ends) : WX := fun cls d σ H =>
  ∃ b, PySem.W.exmOne K cls c = some b ∧ (b = true → d = none ∧ ∀ a, H a = none → ts { nx := fun σ6 H6 => D.nx (σ6.set i none) H6, rt := fun _ _ => False } (σ.set i (some (.ref a))) (upd H a (ExV cls a))) ∧ (b = false → Wout cls d σ H)
theorem repin {X : Cx} {pins : List (Addr × Obj)} {σ : L2.St} {H : Hp} {s : Shared} {a : Addr} {q : Addr × Obj} (I : Inv (X.suite a (q :: (X.pn ++ pins))) [] σ H s) : Inv (X.suite a (X.pn ++ pins)) [q] σ H s :=
  ⟨⟨I.ok.mod, I.ok.kind, I.ok.glob, I.ok.blt, I.ok.above, I.ok.inj, I.ok.has, I.ok.cab, I.ok.hd, I.ok.frames, I.ok.stk, I.ok.exf, I.ok.bs, I.ok.bsz, I.ok.noex, I.ok.exfs, I.ok.funs, I.ok.frf⟩, I.os, I.bare, I.base, I.loc, I.cell, I.free, I.freeC, fun p hp => I.pin p (by
    rw [List.append_nil]
    rcases List.mem_append.mp hp with h | h
    · exact List.mem_cons_of_mem _ h
    · rw [List.mem_singleton.mp h]; exact List.mem_cons_self), I.hok, I.len⟩
theorem unsuite3 {X : Cx} {pins : List (Addr × Obj)} {σ : L2.St} {H : Hp} {s : Shared} {a : Addr} (I : Inv (X.suite a (X.pn ++ pins)) [] σ H s) (ok : X.Ok) : Inv X pins σ H s :=
  ⟨ok, I.os, I.bare, I.base, I.loc, I.cell, I.free, I.freeC, fun p hp => I.pin p (by rw [List.append_nil]; exact hp), I.hok, I.len⟩
section
variable {X : Cx} {x n : Str} {c : Value} {i : Nat} {body suite : List Stmt} {b₀ : Stmt} {np pos pos' : Pos} {tb : WX → TS} {ts : TS} {Wout : WX}
theorem ps_try_asg (hs : X.stack = X.env :: X.outer) (hf : X.env.frame = some X.env.locals) (hex : X.ex = []) (hN : X.N.Nodup) (hi : X.N[i]? = some n) (hln : X.env.kindOf n = some .local) (hc : Names X x c) (tk : Takes X Wout)
    (hb : ∀ (W : WX) (pn : List (Addr × Obj)) (xe : Value → Shared → Prop), Takes (X.tr pn xe) W → PassesOwn (model X.prog X.w) X.A X.env xe → PSs (X.tr pn xe) body (tb W))
    (hsu : ∀ (a : Addr) (pn : List (Addr × Obj)), PSs (X.suite a pn) (b₀ :: suite) ts) :
    PS X (.Try body [.ExceptHandler (some (.Name x np)) (some n) (b₀ :: suite) pos'] [] [] pos) (fun D σ H => tb (wAsg X.K c i ts Wout D) D σ H) := by
  refine ⟨fun pins s σ H D I h => ?_⟩
  have ok := I.ok
  have hfr : X.A.frames = some (X.env :: X.outer) := by rw [ok.frames, hs]
  have hloc : Loc X.env.scope n := .inl hln
  refine wpAny_Try_except ?_
  refine wpAny_mono ((hb (wAsg X.K c i ts Wout D) (X.pn ++ pins) (fun e s₁ => wpAny (model X.prog X.w) X.A (noteFrame e X.env) (fun _ s₂ => wpAny (model X.prog X.w) X.A (setFlight e none) (fun _ s₃ =>
    wpAny (model X.prog X.w) X.A (handleBy e X.env [.ExceptHandler (some (.Name x np)) (some n) (b₀ :: suite) pos']) (SP X pins D) X.xe s₃) X.xe s₂) X.xe s₁) (fun u s' xx => ?_) PassesOwn.looking).run [] s σ H D (I.toTry _) h) (fun f s1 hsp => ?_) (fun e s1 he => he)
  · -- the catch
    obtain ⟨a, B, sI, pins', σ', H', cls, d, rfl, J', nb, up, sky, na, os, ag, b, hb1, hyes, hno⟩ := xx
    have J : Inv X pins σ' H' sI := J'.ofTry ok
    have sky' : Sky B (X.env :: X.outer) a (Zc cls d) X.env.locals s'.heap := by rw [← hs]; exact sky
    show wpAny (model X.prog X.w) X.A (noteFrame (.ref a) X.env) _ _ _
    refine Sky.land Zc.steady hfr hf sky' fun h3 fl3 up3 => ?_
    have J3 : Inv X pins σ' H' { s' with heap := h3 } := J.landed nb fl3.1 (up.trans up3) os ag
    obtain ⟨oe3, vs3, he3, hz3, hd3⟩ := fl3.there
    have notFr : ∀ {h : Heap} {o : Obj} {vs : Array Value}, h.FunFrames B (X.env :: X.outer) → h.get? a = some o → o.data = .fields vs → a ∉ frs (X.env :: X.outer) := fun {h o vs} ff e dd hm => by
      obtain ⟨_, o', e', hnf⟩ := ff.mem hm
      rw [e] at e'; cases e'
      exact hnf _ dd
    have nfr := notFr fl3.2.2.1 he3 hd3
    have nL : a ≠ X.env.locals := fun z => nfr (List.mem_filterMap.mpr ⟨X.env, List.mem_cons_self, by rw [hf, z]⟩)
    have nF : a ∉ X.fs := fun hm => by
      obtain ⟨e, he, q⟩ := List.mem_filterMap.mp hm
      exact nfr (List.mem_filterMap.mpr ⟨e, List.mem_cons_of_mem _ he, q⟩)
    have newI : sI.heap.get? a = none := by
      cases q : sI.heap.get? a with
      | none => rfl
      | some o =>
        have := nb a o q (by rw [hs]; exact nfr)
        rw [fl3.2.1] at this
        cases this
    have new0 : X.s_0.heap.get? a = none := by
      cases q : X.s_0.heap.get? a with
      | none => rfl
      | some o =>
        obtain ⟨o', q'⟩ := J.base.there a o q (by rw [hex]; exact fun z => by cases z)
        rw [newI] at q'
        cases q'
    have newP : ∀ p ∈ X.pn ++ pins, p.1 ≠ a := fun p hp z => by
      have := (J.pin p hp).1
      rw [z, newI] at this
      cases this
    have S3 := J3.suite he3 hd3 na nL nF
    refine wpAny_handleBy_cons (codeAny_handlers_test ?_) (by intro q; cases q)
    have LT : PySem.W.Looks (model X.prog X.w) h3 (typeOf (.ref a)) cls := fun A Q E s k q => wpAny_typeOf_ref (k _ _ he3) (by rw [hz3.1]; exact q)
    have LM := PySem.W.exm_one (M := model X.prog X.w) (J3.kIn) LT hb1
    have test : ∀ {Q : Value → Shared → Prop} {E : Value → Shared → Prop}, Q c { s' with heap := h3 } → wpAny (model X.prog X.w) (X.A.mark (some (.ref a))) (eval (.Name x np) X.env) Q E { s' with heap := h3 } := fun {Q E} q => by
      obtain ⟨hg, hdbg, hm | ⟨hm, hv, hnn⟩⟩ := hc
      · exact ld_glob (X := X.suite a ((a, oe3) :: (X.pn ++ pins))) S3 hg hm q hdbg
      · exact ld_blt (X := X.suite a ((a, oe3) :: (X.pn ++ pins))) S3 hg hm hv q hnn hdbg
    refine test (LM.here ?_)
    cases b with
    | true =>
      obtain ⟨rfl, hq⟩ := hyes rfl
      refine codeAny_handlers_suite_as ?_
      refine HandSPX.lands_againZ fl3 fun h4 fl4 up4 => ?_
      have J4 : Inv X pins σ' H' { s' with heap := h4 } := J.landed nb fl4.1 ((up.trans up3).trans up4) os ag
      obtain ⟨oe4, vs4, he4, hz4, hd4⟩ := fl4.there
      have S4 := J4.suite he4 hd4 na nL nF
      have hlen : i < σ'.length := by
        have := J.len
        have := (List.getElem?_eq_some_iff.mp hi).1
        omega
      refine store_ok (X := X.suite a ((a, oe4) :: (X.pn ++ pins))) (v := .ref a) S4 hN hi hloc rfl (fun s5 S5 => ?_) (.inr hln)
      have S6 := track (X := X.suite a (X.pn ++ pins)) (pins := []) (repin S5) hz4 hd4 new0 (fun p hp => newP p (by rw [List.append_nil] at hp; exact hp))
      refine wpAny_mono ((hsu a (X.pn ++ pins)).run [] s5 _ _ { nx := fun σ6 H6 => D.nx (σ6.set i none) H6, rt := fun _ _ => False } S6 (hq a na)) (fun f s6 hsp => ?_) (fun _ _ z => False.elim z)
      cases f with
      | next =>
        obtain ⟨σ6, H6, S6, q6⟩ := hsp
        exact gone_ok (unsuite3 S6 ok) hN hi hln fun s7 J7 => ⟨_, _, J7, q6⟩
      | brk => obtain ⟨_, _, _, z⟩ := hsp; exact z.elim
      | cont => obtain ⟨_, _, _, z⟩ := hsp; exact z.elim
      | ret u => obtain ⟨_, _, _, _, _, z⟩ := hsp; exact z.elim
    | false =>
      show wpAny _ X.A (handleBy (.ref a) X.env []) _ _ _
      refine wpAny_handleBy_nil ?_
      obtain ⟨k1, k2, k3, oe, vs, T, oT, ts', he, hz, hd, h1, hr⟩ := id fl3
      unfold PySem.passOn
      refine wpAny_bind (wpAny_field he hd h1 ?_)
      rw [if_neg (show ¬ ((Value.ref T == Value.none) = true) from by simp)]
      have fin : wpAny (model X.prog X.w) X.A (setFlight (.ref a) X.env.frame) (fun _ s4 => wpAny (model X.prog X.w) X.A (throw (.ref a) : Sem Flow) (SP X pins D) X.xe s4) X.xe { s' with heap := h3 } := by
        rw [hf]
        refine HandSPX.setFlight_upZ fl3 fun h4 hh4 up4 => wpAny_throw (tk _ _ ?_)
        exact ⟨a, B, sI, pins, σ', H', cls, d, rfl, J, nb, (up.trans up3).trans up4, .inr (.inr (by rw [hs]; exact hh4)), na, os, ag, hno rfl⟩
      first
        | exact wpAny_bind (wpAny_pure (wpAny_bind fin))
        | exact wpAny_bind fin
  · cases f with
    | next =>
      obtain ⟨σ', H', J', q⟩ := hsp
      exact wpAny_execs_nil ⟨σ', H', J'.ofTry ok, q⟩
    | brk =>
      obtain ⟨σ', H', J', q⟩ := hsp
      exact ⟨σ', H', J'.ofTry ok, q⟩
    | cont =>
      obtain ⟨σ', H', J', q⟩ := hsp
      exact ⟨σ', H', J'.ofTry ok, q⟩
    | ret u =>
      obtain ⟨v, σ', H', J', r, q⟩ := hsp
      exact ⟨v, σ', H', J'.ofTry ok, r, q⟩
end
end Gr

set_option Elab.async false
set_option linter.all false
set_option maxRecDepth 100000
set_option maxHeartbeats 4000000
/-! Gr R: a checked text is read as its term's evaluator says: statements, defs. -/
namespace Gr
open PySem L2
/-- an exception's class that is raised with a text -/
structure RaiF (K : PySem.W.Frag) (C : Addr) : Prop where
  ex : ∃ (B newId initId : String) (bmB : List Value), ExcBaseFacts B newId initId bmB ∧ PySem.W.excIn K C bmB newId = true
  keep : PySem.W.keepIn K (.ref C) = true
  sub : PySem.W.subIn K (.ref C) (.type "BaseException") = some true
  ty : PySem.W.typeIn K (.ref C) = some (.type "type")
structure Sd (T : Kit) (k : Nat) (X : Cx) (W : WX) : Prop where
  sx : Sx T k X W
  fn : ∀ x, X.fn x = true
  own : PassesOwn (model X.prog X.w) X.A X.env X.xe
  stk : X.stack = X.env :: X.outer
  frm : X.env.frame = some X.env.locals
  ex : X.ex = []
  rai : ∀ e ∈ T.rs, ∀ nm C, T.g.exs[e]? = some nm → X.mg nm = some (.ref C) → RaiF X.K C
  exm : ∀ (e c : Nat) nm nm' C C', T.g.exs[e]? = some nm → X.mg nm = some (.ref C) → T.g.exs[c]? = some nm' → X.mg nm' = some (.ref C') → PySem.W.exmOne X.K (.ref C) (.ref C') = some (T.g.sup e c)
theorem Sd.tr {T : Kit} {k : Nat} {X : Cx} {W W' : WX} (S : Sd T k X W) (pn : List (Addr × Obj)) (xe : Value → Shared → Prop) (tk : Takes (X.tr pn xe) W') (ow : PassesOwn (model X.prog X.w) X.A X.env xe) : Sd T k (X.tr pn xe) W' :=
  ⟨⟨S.sx.calm, S.sx.nd, S.sx.room, tk, S.sx.bl, S.sx.gi, S.sx.fns, S.sx.ini, S.sx.cls, S.sx.exs, S.sx.isf⟩, S.fn, ow, S.stk, S.frm, S.ex, S.rai, S.exm⟩
/-! ### the check of a statement -/
def swC (sc : Scope) (x : Str) (p : Pos) : Expr → Bool
  | .ListComp _ _ scope lp => locB sc x && ((p.line == lp.line) && !(scope.names.any fun (n, k) => n == x && (k == .local || k == .cell)))
  | _ => false
/-- a comprehension that is not exchanged with its target -/
def swN (sc : Scope) (x : Str) (p : Pos) : Expr → Bool
  | .ListComp _ _ scope lp => !locB sc x
  | e => noComp e
def funB (sc : Scope) : Bool := match sc.kind with
  | .function => true
  | _ => false
def mtN : Mt → Str
  | .append => "append" | .extend => "extend" | .reverse => "reverse" | .insert => "insert"
def notTup : Expr → Bool
  | .Tuple _ _ _ => false
  | _ => true
def stoB (N : List Str) (sc : Scope) (i : Nat) (x : Str) : Bool := eqB N[i]? (some x) && locC sc x
def augA : Op → Option Operator
  | .add => some .Add
  | .sub => some .Sub
  | _ => none
/-! the forms -/
def sAsg (f : Expr → Expr → Pos → Bool) : Stmt → Bool
  | .Assign [t] v p => f t v p
  | _ => false
def sAug (f : Expr → Operator → Expr → Bool) : Stmt → Bool
  | .AugAssign t o v _ => f t o v
  | _ => false
def sExp (f : Expr → Bool) : Stmt → Bool
  | .Expr v _ => f v
  | _ => false
def sIf (f : Expr → List Stmt → List Stmt → Bool) : Stmt → Bool
  | .If t u v _ => f t u v
  | _ => false
def sFor (f : Expr → Expr → List Stmt → Bool) : Stmt → Bool
  | .For t i u [] _ => f t i u
  | _ => false
def sWhl (f : Expr → List Stmt → Bool) : Stmt → Bool
  | .While t u [] _ => f t u
  | _ => false
def sRet (f : Option Expr → Bool) : Stmt → Bool
  | .Return v _ => f v
  | _ => false
def sRai (f : Expr → Bool) : Stmt → Bool
  | .Raise (some e) none _ => f e
  | _ => false
def sTry (f : List Stmt → Expr → Option Str → List Stmt → Bool) : Stmt → Bool
  | .Try u [.ExceptHandler (some x) m ss _] [] [] _ => f u x m ss
  | _ => false
def sPass : Stmt → Bool
  | .Pass _ => true
  | _ => false
def sBrk : Stmt → Bool
  | .Break _ => true
  | _ => false
def sCont : Stmt → Bool
  | .Continue _ => true
  | _ => false
def eName (f : Str → Pos → Bool) : Expr → Bool
  | .Name x p => f x p
  | _ => false
def eSub (f g : Expr → Bool) : Expr → Bool
  | .Subscript a b _ => f a && g b
  | _ => false
def eAttr (f : Expr → Str → Pos → Bool) : Expr → Bool
  | .Attribute a x p => f a x p
  | _ => false
def eCall (f : Expr → List Expr → Pos → Bool) : Expr → Bool
  | .Call g xs [] p => f g xs p
  | _ => false
def eStr : Expr → Bool
  | .Constant (.str _) _ _ => true
  | _ => false
def lOne {α : Type} (f : α → Bool) : List α → Bool
  | [x] => f x
  | _ => false
def oSome {α : Type} (f : α → Bool) : Option α → Bool
  | some x => f x
  | none => false
def oNone {α : Type} : Option α → Bool
  | some _ => false
  | none => true
section
variable {st : Stmt} {e : Expr}
theorem sAsg_ok {f : Expr → Expr → Pos → Bool} (h : sAsg f st = true) : ∃ t v p, st = .Assign [t] v p ∧ f t v p = true := by
  unfold sAsg at h; split at h; exact ⟨_, _, _, rfl, h⟩; cases h
theorem sAug_ok {f : Expr → Operator → Expr → Bool} (h : sAug f st = true) : ∃ t o v p, st = .AugAssign t o v p ∧ f t o v = true := by
  unfold sAug at h; split at h; exact ⟨_, _, _, _, rfl, h⟩; cases h
theorem sExp_ok {f : Expr → Bool} (h : sExp f st = true) : ∃ v p, st = .Expr v p ∧ f v = true := by
  unfold sExp at h; split at h; exact ⟨_, _, rfl, h⟩; cases h
theorem sIf_ok {f : Expr → List Stmt → List Stmt → Bool} (h : sIf f st = true) : ∃ t u v p, st = .If t u v p ∧ f t u v = true := by
  unfold sIf at h; split at h; exact ⟨_, _, _, _, rfl, h⟩; cases h
theorem sFor_ok {f : Expr → Expr → List Stmt → Bool} (h : sFor f st = true) : ∃ t i u p, st = .For t i u [] p ∧ f t i u = true := by
  unfold sFor at h; split at h; exact ⟨_, _, _, _, rfl, h⟩; cases h
theorem sWhl_ok {f : Expr → List Stmt → Bool} (h : sWhl f st = true) : ∃ t u p, st = .While t u [] p ∧ f t u = true := by
  unfold sWhl at h; split at h; exact ⟨_, _, _, rfl, h⟩; cases h
theorem sRet_ok {f : Option Expr → Bool} (h : sRet f st = true) : ∃ v p, st = .Return v p ∧ f v = true := by
  unfold sRet at h; split at h; exact ⟨_, _, rfl, h⟩; cases h
theorem sRai_ok {f : Expr → Bool} (h : sRai f st = true) : ∃ e p, st = .Raise (some e) none p ∧ f e = true := by
  unfold sRai at h; split at h; exact ⟨_, _, rfl, h⟩; cases h
theorem sTry_ok {f : List Stmt → Expr → Option Str → List Stmt → Bool} (h : sTry f st = true) : ∃ u x m ss p p', st = .Try u [.ExceptHandler (some x) m ss p'] [] [] p ∧ f u x m ss = true := by
  unfold sTry at h; split at h; exact ⟨_, _, _, _, _, _, rfl, h⟩; cases h
theorem sPass_ok (h : sPass st = true) : ∃ p, st = .Pass p := by
  unfold sPass at h; split at h; exact ⟨_, rfl⟩; cases h
theorem sBrk_ok (h : sBrk st = true) : ∃ p, st = .Break p := by
  unfold sBrk at h; split at h; exact ⟨_, rfl⟩; cases h
theorem sCont_ok (h : sCont st = true) : ∃ p, st = .Continue p := by
  unfold sCont at h; split at h; exact ⟨_, rfl⟩; cases h
theorem eName_ok {f : Str → Pos → Bool} (h : eName f e = true) : ∃ x p, e = .Name x p ∧ f x p = true := by
  unfold eName at h; split at h; exact ⟨_, _, rfl, h⟩; cases h
theorem eSub_ok {f g : Expr → Bool} (h : eSub f g e = true) : ∃ a b p, e = .Subscript a b p ∧ f a = true ∧ g b = true := by
  unfold eSub at h
  split at h
  · rw [Bool.and_eq_true] at h; exact ⟨_, _, _, rfl, h⟩
  · cases h
theorem eAttr_ok {f : Expr → Str → Pos → Bool} (h : eAttr f e = true) : ∃ a x p, e = .Attribute a x p ∧ f a x p = true := by
  unfold eAttr at h; split at h; exact ⟨_, _, _, rfl, h⟩; cases h
theorem eCall_ok {f : Expr → List Expr → Pos → Bool} (h : eCall f e = true) : ∃ g xs p, e = .Call g xs [] p ∧ f g xs p = true := by
  unfold eCall at h; split at h; exact ⟨_, _, _, rfl, h⟩; cases h
theorem eStr_ok (h : eStr e = true) : ∃ x j p, e = .Constant (.str x) j p := by
  unfold eStr at h; split at h; exact ⟨_, _, _, rfl⟩; cases h
theorem lOne_ok {α : Type} {f : α → Bool} {l : List α} (h : lOne f l = true) : ∃ x, l = [x] ∧ f x = true := by
  unfold lOne at h; split at h; exact ⟨_, rfl, h⟩; cases h
theorem oSome_ok {α : Type} {f : α → Bool} {o : Option α} (h : oSome f o = true) : ∃ x, o = some x ∧ f x = true := by
  unfold oSome at h; split at h; exact ⟨_, rfl, h⟩; cases h
theorem oNone_ok {α : Type} {o : Option α} (h : oNone o = true) : o = none := by
  unfold oNone at h; split at h; cases h; rfl
end
mutual
def chs (T : Kit) (N : List Str) (sc : Scope) : S → Stmt → Bool
  | .set i e => sAsg fun t v _ => eName (fun x p => stoB N sc i x && ((swC sc x p v || swN sc x p v) && (funB sc && chk T N sc e v))) t
  | .setT is e => sAsg fun t v _ => isTup t && (cTg N sc (.tup is) t && (notTup v && chk T N sc e v))
  | .aug i o e => sAug fun t op v => eName (fun x _ => stoB N sc i x && (eqB (augA o) (some op) && chk T N sc e v)) t
  | .setI i k e => sAsg fun t v _ => eSub (cName (nameB N sc i)) (fun b => notSl b && chk T N sc k b) t && chk T N sc e v
  | .setF i c j e => sAsg fun t v _ => eAttr (fun a f _ => cName (nameB N sc i) a && eqB ((T.g.cls[c]?).bind fun p => p.2[j]?) (some f)) t && (noComp v && chk T N sc e v)
  | .mt i m es => sExp fun v => eCall (fun g args cp => eAttr (fun a f ap => (eqB f (mtN m) && (!decide (m = .extend) && (ap.endLine == cp.line))) && cName (nameB N sc i) a) g && (args.all notStar && (decide (args.length < 29) && chks T N sc es args))) v
  | .ex e => sExp fun v => noComp v && chk T N sc e v
  | .ife c a b => sIf fun t u v => chk T N sc c t && (chss T N sc a u && chss T N sc b v)
  | .forS tg it b => sFor fun t i u => (noSet i && (isTup t || !isEnum it)) && (cTg N sc tg t && (chki T N sc it i && chss T N sc b u))
  | .whl _ c b => sWhl fun t u => chk T N sc c t && chss T N sc b u
  | .ret e => sRet (oSome (chk T N sc e))
  | .retN => sRet oNone
  | .rais n => sRai (eCall fun g args _ => lOne eStr args && eName (fun x _ => eqB T.g.exs[n]? (some x) && ((gloB sc x && freeN x) && decide (n ∈ T.rs))) g)
  | .tryK body n i j => sTry fun u x m ss => eName (fun x _ => eqB T.g.exs[n]? (some x) && (gloB sc x && freeN x)) x &&
      (oSome (fun m => (eqB N[i]? (some m) && (locB sc m && freeN m)) && lOne (sAsg fun t v _ => eName (fun y _ => stoB N sc j y) t && eName (fun m' _ => eqB m' m) v) ss) m && chss T N sc body u)
  | .pass => fun s => sPass s || sExp eStr s
  | .brk => sBrk
  | .cont => sCont
  | .no => fun _ => true
  | .forK tg i b => sFor fun t it u => (noSet it && cName (nameB N sc i) it) && (cTg N sc tg t && chss T N sc b u)
  | .ext i es => sExp fun v => eCall (fun g args cp => eAttr (fun a f ap => (eqB f "extend" && (ap.endLine == cp.line)) && cName (nameB N sc i) a) g && (args.all notStar && (decide (args.length < 29) && (decide (0 < args.length) && chks T N sc es args)))) v
  | .tryA body n i j e => sTry fun u x m ss => eName (fun x _ => eqB T.g.exs[n]? (some x) && (gloB sc x && freeN x)) x &&
      (oSome (fun m => (eqB N[i]? (some m) && (locB sc m && freeN m)) && lOne (sAsg fun t v _ => eName (fun y p => stoB N sc j y && (swN sc y p v && (funB sc && (hotE e && chk T N sc e v)))) t) ss) m && chss T N sc body u)
  | .tryO body n j e => sTry fun u x m ss => eName (fun x _ => eqB T.g.exs[n]? (some x) && (gloB sc x && freeN x)) x &&
      (oNone m && (lOne (sAsg fun t v _ => eName (fun y p => stoB N sc j y && (swN sc y p v && (funB sc && (hotE e && chk T N sc e v)))) t) ss && chss T N sc body u))
def chss (T : Kit) (N : List Str) (sc : Scope) : Ss → List Stmt → Bool
  | .nil => fun ss => match ss with | [] => true | _ => false
  | .cons m ms => fun ss => match ss with | s :: ss => chs T N sc m s && (isNo m || chss T N sc ms ss) | _ => false
  | .gh _ _ ms => fun ss => chss T N sc ms ss
end
section
variable {T : Kit} {H0 G0 : Hp} {W : WX} {X : Cx} {k : Nat}
theorem PS.imp {st : Stmt} {t t' : TS} (h : PS X st t) (f : ∀ D σ H, t' D σ H → t D σ H) : PS X st t' := ⟨fun pins s σ H D I hw => h.run pins s σ H D I (f D σ H hw)⟩
theorem PSs.imp {st : List Stmt} {t t' : TS} (h : PSs X st t) (f : ∀ D σ H, t' D σ H → t D σ H) : PSs X st t' := ⟨fun pins s σ H D I hw => h.run pins s σ H D I (f D σ H hw)⟩
theorem sto_def (S : Sd T k X W) : Sto X X.env.scope := fun x h => ⟨(locC_ok h).elim .inl .inr, .inl (S.fn x)⟩
theorem funB_ok {sc : Scope} (h : funB sc = true) : sc.kind = .function := by
  unfold funB at h
  split at h
  · assumption
  · cases h
theorem sw_none {x : Str} {p : Pos} {v : Expr} {l : Nat} {env : Env} (hf : env.scope.kind = .function) (h : swN env.scope x p v = true) : swapsWith v (some (.Name x p)) l env = pure false := by
  cases v with
  | ListComp el gs scope lp =>
    have h : (!locB env.scope x) = true := h
    rw [Bool.not_eq_true'] at h
    have hk : (env.kindOf x == some .local) = false := by
      show (env.scope.names.lookup x == some .local) = false
      unfold locB at h
      cases q : env.scope.names.lookup x with
      | none => rfl
      | some kd =>
        rw [q] at h
        cases kd <;> first | rfl | cases h
    unfold swapsWith
    simp only [hk, Bool.and_false, Bool.false_and]
  | SetComp _ _ _ _ => cases h
  | DictComp _ _ _ _ _ => cases h
  | _ => exact swap_ok rfl
/-- an exception kept is tracked -/
theorem SRx.allocE {mg : Str → Option Value} {σ : St} {ρ : List C} {ts : List Cell} {ow : Addr → Option Kx} {G B H : Hp} {a Cx : Addr} {n : Nat} {nm : Str} (S : SRx T.g mg H0 G0 [] ow G B σ ρ ts H) (hp : H a = none) (h1 : T.g.exs[n]? = some nm) (h2 : mg nm = some (.ref Cx)) :
    SRx T.g mg H0 G0 [] ow (upd G a (ExV (.ref Cx) a)) (upd B a (ExV (.ref Cx) a)) σ ρ (ts ++ [(some (.ref a), .exc n)]) (upd H a (ExV (.ref Cx) a)) := by
  obtain ⟨g, b, h0, w0⟩ := S.dead hp
  refine S.step S.len S.fix (same_upd g) (fun q u e => ?_) (same_upd b) (same_upd2 S.gb b) (same_upd2 S.bh hp) (fun q k e => ?_) (fun q k e => ?_) S.npk fun k w c' e => ?_
  · by_cases z : q = a
    · subst z; exact .inr h0
    · rw [upd_ne z] at e; exact .inl e
  · rw [upd_ne (fun z => by rw [z, w0] at e; cases e)]
    exact S.nb _ _ e
  · obtain ⟨u, r⟩ := S.live q k e
    exact ⟨u, same_upd hp _ _ r⟩
  · rcases cel_snoc e with ⟨_, z⟩ | ⟨_, z⟩
    · cases z
      exact ⟨_, rfl, a, Cx, nm, rfl, h1, h2, upd_same⟩
    · exact (S.rel k w c' z).grow (same_upd g) (same_upd b) (fun _ _ _ _ z => same_upd hp _ _ z) (fun _ z _ => z) fun i _ w x z => ⟨x, z⟩
theorem rd_try {mg : Str → Option Value} {K : PySem.W.Frag} {body : Ss} {n i j : Nat} {nm : Str} {Cn : Addr} {D : Ends} {σ : St} {H : Hp} (hT : T.g.exs[n]? = some nm) (hm : mg nm = some (.ref Cn))
    (exm : ∀ (e c : Nat) nm nm' C C', T.g.exs[e]? = some nm → mg nm = some (.ref C) → T.g.exs[c]? = some nm' → mg nm' = some (.ref C') → PySem.W.exmOne K (.ref C) (.ref C') = some (T.g.sup e c))
    (h : rdS T mg H0 G0 W (.tryK body n i j) D σ H) : rdSs T mg H0 G0 (wKeep K (.ref Cn) i j W D) body D σ H := by
  obtain ⟨fx, ρ, ts, S, hp, h⟩ := h
  refine ⟨fx, ρ, ts, S, hp, ?_⟩
  have h : endS T mg H0 G0 W ts D (match runs T fx body ρ with
    | .err m ρ => if T.g.sup m n then (match setN fx ρ i (.exc m) with
      | some ρ => match setN fx ρ j (.exc m) with
        | some ρ => .next (ρ.set i .und)
        | none => .stuck
      | none => .stuck) else .err m ρ
    | r => r) := by unfold run at h; exact h
  cases hr : runs T fx body ρ with
  | next ρ5 => rw [hr] at h; exact h
  | ret c ρ5 => rw [hr] at h; exact h
  | brk ρ5 => rw [hr] at h; exact h
  | cont ρ5 => rw [hr] at h; exact h
  | stuck => rw [hr] at h; exact h
  | err m ρ5 =>
    rw [hr] at h
    have h : endS T mg H0 G0 W ts D (if T.g.sup m n then (match setN fx ρ5 i (.exc m) with
      | some ρ => match setN fx ρ j (.exc m) with
        | some ρ => .next (ρ.set i .und)
        | none => .stuck
      | none => .stuck) else .err m ρ5) := h
    intro σ2 Cx nm2 H2 e1 e2 S2
    refine ⟨T.g.sup m n, exm _ _ _ _ _ _ e1 e2 hT hm, fun hb => ⟨rfl, fun a ha => ?_⟩, fun hb => ?_⟩
    · rw [if_pos hb] at h
      cases q1 : setN fx ρ5 i (.exc m) with
      | none => rw [q1] at h; exact h.elim
      | some ρ6 =>
        rw [q1] at h
        have h : endS T mg H0 G0 W ts D (match setN fx ρ6 j (.exc m) with
          | some ρ => .next (ρ.set i .und)
          | none => .stuck) := h
        cases q2 : setN fx ρ6 j (.exc m) with
        | none => rw [q2] at h; exact h.elim
        | some ρ7 =>
          rw [q2] at h
          obtain ⟨ow, G, B, S3⟩ := S2
          have S4 := S3.allocE ha e1 e2
          have S5 : S0 T mg H0 G0 σ2 ρ5 (ts ++ [(some (.ref a), .exc m)] ++ [(some (.ref a), .exc m)]) (upd H2 a (ExV (.ref Cx) a)) :=
            ⟨_, _, _, S4.push fun k => ⟨_, rfl, a, Cx, nm2, rfl, e1, e2, upd_same⟩⟩
          have S6 := setN_sr S5 q1 (.inr (.inr (.inl ⟨_, rfl⟩)))
          have S7 := setN_sr S6 q2 (.inr (.inr (.inl ⟨_, rfl⟩)))
          exact h _ _ (wipe_sr (own := [i]) S7)
    · rw [if_neg (by rw [hb]; decide)] at h
      exact h σ2 Cx nm2 H2 e1 e2 S2
theorem rd_tryA {mg : Str → Option Value} {K : PySem.W.Frag} {body : Ss} {n i j : Nat} {e : E} {nm : Str} {Cn : Addr} {D : Ends} {σ : St} {H : Hp} (hT : T.g.exs[n]? = some nm) (hm : mg nm = some (.ref Cn))
    (exm : ∀ (e c : Nat) nm nm' C C', T.g.exs[e]? = some nm → mg nm = some (.ref C) → T.g.exs[c]? = some nm' → mg nm' = some (.ref C') → PySem.W.exmOne K (.ref C) (.ref C') = some (T.g.sup e c))
    (h : rdS T mg H0 G0 W (.tryA body n i j e) D σ H) : rdSs T mg H0 G0 (wAsg K (.ref Cn) i (tAsg (rdE T mg H0 G0 W e) (gName j)) W D) body D σ H := by
  obtain ⟨fx, ρ, ts, S, hp, h⟩ := h
  refine ⟨fx, ρ, ts, S, hp, ?_⟩
  have h : endS T mg H0 G0 W ts D (match runs T fx body ρ with
    | .err m ρ => if T.g.sup m n then (match setN fx ρ i (.exc m) with
      | some ρ => (ev T e ρ).toRS fun c ρ => match lay ρ c with
        | some (c, ρ) => match setN fx ρ j c with
          | some ρ => .next (ρ.set i .und)
          | none => .stuck
        | none => .stuck
      | none => .stuck) else .err m ρ
    | r => r) := by unfold run at h; exact h
  cases hr : runs T fx body ρ with
  | next ρ5 => rw [hr] at h; exact h
  | ret c ρ5 => rw [hr] at h; exact h
  | brk ρ5 => rw [hr] at h; exact h
  | cont ρ5 => rw [hr] at h; exact h
  | stuck => rw [hr] at h; exact h
  | err m ρ5 =>
    rw [hr] at h
    have h : endS T mg H0 G0 W ts D (if T.g.sup m n then (match setN fx ρ5 i (.exc m) with
      | some ρ => (ev T e ρ).toRS fun c ρ => match lay ρ c with
        | some (c, ρ) => match setN fx ρ j c with
          | some ρ => .next (ρ.set i .und)
          | none => .stuck
        | none => .stuck
      | none => .stuck) else .err m ρ5) := h
    intro σ2 Cx nm2 H2 e1 e2 S2
    refine ⟨T.g.sup m n, exm _ _ _ _ _ _ e1 e2 hT hm, fun hb => ⟨rfl, fun a ha => ?_⟩, fun hb => ?_⟩
    · rw [if_pos hb] at h
      cases q1 : setN fx ρ5 i (.exc m) with
      | none => rw [q1] at h; exact h.elim
      | some ρ6 =>
        rw [q1] at h
        obtain ⟨ow, G, B, S3⟩ := S2
        have S4 := S3.allocE ha e1 e2
        have S5 : S0 T mg H0 G0 σ2 ρ5 (ts ++ [(some (.ref a), .exc m)]) (upd H2 a (ExV (.ref Cx) a)) := ⟨_, _, _, S4⟩
        have S6 := setN_sr S5 q1 (.inr (.inr (.inl ⟨_, rfl⟩)))
        refine rdE.toS0 (D := D) S6 h fun c ρ' v H' S' h => ?_
        cases q : lay ρ' c with
        | none => rw [q] at h; exact h.elim
        | some p =>
          obtain ⟨c2, ρ2⟩ := p
          rw [q] at h
          obtain ⟨S7, hk⟩ := lay_ok S' q
          have h : endS T mg H0 G0 W ts D (match setN fx ρ2 j c2 with
            | some ρ => .next (ρ.set i .und)
            | none => .stuck) := h
          cases q2 : setN fx ρ2 j c2 with
          | none => rw [q2] at h; exact h.elim
          | some ρ3 =>
            rw [q2] at h
            have S8 := setN_sr S7 q2 (hk.imp_right (.imp_right (.imp_right fun z => ⟨z, hp⟩)))
            exact h _ _ (wipe_sr (own := [i]) S8)
    · rw [if_neg (by rw [hb]; decide)] at h
      exact h σ2 Cx nm2 H2 e1 e2 S2
theorem rd_tryO {mg : Str → Option Value} {K : PySem.W.Frag} {body : Ss} {n j : Nat} {e : E} {nm : Str} {Cn : Addr} {D : Ends} {σ : St} {H : Hp} (hT : T.g.exs[n]? = some nm) (hm : mg nm = some (.ref Cn))
    (exm : ∀ (e c : Nat) nm nm' C C', T.g.exs[e]? = some nm → mg nm = some (.ref C) → T.g.exs[c]? = some nm' → mg nm' = some (.ref C') → PySem.W.exmOne K (.ref C) (.ref C') = some (T.g.sup e c))
    (h : rdS T mg H0 G0 W (.tryO body n j e) D σ H) : rdSs T mg H0 G0 (wOnly K (.ref Cn) (fun _ _ _ => tAsg (rdE T mg H0 G0 W e) (gName j)) W D) body D σ H := by
  obtain ⟨fx, ρ, ts, S, hp, h⟩ := h
  refine ⟨fx, ρ, ts, S, hp, ?_⟩
  have h : endS T mg H0 G0 W ts D (match runs T fx body ρ with
    | .err m ρ => if T.g.sup m n then ((ev T e ρ).toRS fun c ρ => match lay ρ c with
      | some (c, ρ) => match setN fx ρ j c with
        | some ρ => .next ρ
        | none => .stuck
      | none => .stuck) else .err m ρ
    | r => r) := by unfold run at h; exact h
  cases hr : runs T fx body ρ with
  | next ρ5 => rw [hr] at h; exact h
  | ret c ρ5 => rw [hr] at h; exact h
  | brk ρ5 => rw [hr] at h; exact h
  | cont ρ5 => rw [hr] at h; exact h
  | stuck => rw [hr] at h; exact h
  | err m ρ5 =>
    rw [hr] at h
    have h : endS T mg H0 G0 W ts D (if T.g.sup m n then ((ev T e ρ5).toRS fun c ρ => match lay ρ c with
      | some (c, ρ) => match setN fx ρ j c with
        | some ρ => .next ρ
        | none => .stuck
      | none => .stuck) else .err m ρ5) := h
    intro σ2 Cx nm2 H2 e1 e2 S2
    refine ⟨T.g.sup m n, exm _ _ _ _ _ _ e1 e2 hT hm, fun hb => fun a ha => ?_, fun hb => ?_⟩
    · rw [if_pos hb] at h
      refine rdE.toS0 (D := D) S2 h fun c ρ' v H' S' h => ?_
      cases q : lay ρ' c with
      | none => rw [q] at h; exact h.elim
      | some p =>
        obtain ⟨c2, ρ2⟩ := p
        rw [q] at h
        obtain ⟨S7, hk⟩ := lay_ok S' q
        have h : endS T mg H0 G0 W ts D (match setN fx ρ2 j c2 with
          | some ρ => .next ρ
          | none => .stuck) := h
        cases q2 : setN fx ρ2 j c2 with
        | none => rw [q2] at h; exact h.elim
        | some ρ3 =>
          rw [q2] at h
          exact h _ _ (setN_sr S7 q2 (hk.imp_right (.imp_right (.imp_right fun z => ⟨z, hp⟩))))
    · rw [if_neg (by rw [hb]; decide)] at h
      exact h σ2 Cx nm2 H2 e1 e2 S2
theorem mt_rule {m : Mt} : ∃ id, PySem.Slot "list" (mtN m) id ∧ typeOf (.builtin id) = pure (.type "method_descriptor") ∧ (m ≠ .extend → MtR X id (rMt m)) := by
  cases m with
  | append => exact ⟨_, PySem.F.slot_list_append, PySem.F.type_list_append, fun _ => mt_append⟩
  | extend => exact ⟨_, PySem.F.slot_list_extend, PySem.F.type_list_extend, fun h => absurd rfl h⟩
  | reverse => exact ⟨_, PySem.F.slot_list_reverse, PySem.F.type_list_reverse, fun _ => mt_reverse⟩
  | insert => exact ⟨_, PySem.F.slot_list_insert, PySem.F.type_list_insert, fun _ => mt_insert⟩
theorem few_ok {cpos : Pos} {env : Env} : ∀ {es : List Expr}, es.all notStar = true → (backTo cpos (starEach es env)).all (fun x => !x.1) = true
  | [], _ => rfl
  | e :: es, h => by
    rw [List.all_cons, Bool.and_eq_true] at h
    rw [star_ok h.1]
    show (!false && (backTo cpos (starEach es env)).all (fun x => !x.1)) = true
    rw [few_ok h.2]
    rfl
theorem swsole_ok {t v : Expr} {l : Nat} {env : Env} (h : ∀ x p, t ≠ .Name x p) : swapsWithSole [t] v l env = pure false := by
  show swapsWith v (some t) l env = pure false
  cases v with
  | ListComp _ _ _ _ => cases t <;> first | rfl | exact absurd rfl (h _ _)
  | SetComp _ _ _ _ => cases t <;> first | rfl | exact absurd rfl (h _ _)
  | DictComp _ _ _ _ _ => cases t <;> first | rfl | exact absurd rfl (h _ _)
  | _ => rfl
theorem swst_ok {t v : Expr} {env : Env} (h : notTup v = true) : swappedStores [t] v env = pure none := by
  cases v with
  | Tuple _ _ _ => cases h
  | _ => cases t <;> rfl
theorem swst_sub {a b v : Expr} {p : Pos} {env : Env} : swappedStores [.Subscript a b p] v env = pure none := by
  cases v <;> rfl
theorem asgn_sub {a b : Expr} {p : Pos} {env : Env} (h : notSl b = true) : ∀ v, assign (.Subscript a b p) env v = (do
      let ov ← holding [v] (eval a env)
      let iv ← holding [v, ov] (eval b env)
      standAt p
      holding [v, ov, iv] (setItem ov iv v)
      release [v, ov, iv] []) := by
  intro v
  cases b with
  | Slice _ _ _ _ => cases h
  | _ => rfl
theorem var_ok {i : Nat} {e : Expr} (h : cName (nameB X.N X.env.scope i) e = true) : PE X e (tVar i) := by
  obtain ⟨x, p, rfl, h⟩ := cName_ok h
  obtain ⟨g1, g2⟩ := and2 h
  obtain ⟨g2, g3⟩ := and2 g2
  obtain ⟨g4, g5⟩ := freeN_ok g3
  exact pe_var (eqB_ok g1) (visB_ok g2) g4 g5
theorem var_base {i : Nat} {N : List Str} {sc : Scope} {f : Str} {env : Env} {whole : Sem Value} {e : Expr} (h : cName (nameB N sc i) e = true) : attributeBase e f env whole = whole := by
  obtain ⟨x, p, rfl, h⟩ := cName_ok h
  rfl
theorem set_of {i : Nat} {e : E} {x : Str} {p pos : Pos} {v : Expr} (S : Sd T k X W) (h1 : stoB X.N X.env.scope i x = true) (h2 : (swC X.env.scope x p v || swN X.env.scope x p v) = true) (h3 : funB X.env.scope = true) (h4 : chk T X.N X.env.scope e v = true) :
    PS X (.Assign [.Name x p] v pos) (rdS T X.mg H0 G0 W (.set i e)) := by
  obtain ⟨h5, h6⟩ := and2 h1
  obtain ⟨h7, h8⟩ := sto_def S x h6
  have hk := funB_ok h3
  by_cases hsw : swC X.env.scope x p v = true
  · cases v with
    | ListComp el gs scope lp =>
      obtain ⟨g1, g2⟩ := and2 (show (locB X.env.scope x && ((p.line == lp.line) && !(scope.names.any fun (n, k) => n == x && (k == .local || k == .cell)))) = true from hsw)
      obtain ⟨g2, g3⟩ := and2 g2
      rw [Bool.not_eq_true'] at g3
      obtain ⟨own, tg, it, cond, elt, rfl⟩ : ∃ own tg it cond elt, e = .lc own tg it cond elt := by
        cases e with
        | lc own tg it cond elt => exact ⟨_, _, _, _, _, rfl⟩
        | isn ng _ => exact absurd h4 (by cases ng <;> exact fun z => by cases z)
        | call g _ _ => exact absurd h4 (by unfold chk; cases T.fns[g]? <;> exact fun z => by simp [cCall] at z)
        | mk g _ _ => exact absurd h4 (by unfold chk; cases T.g.cls[g]? <;> exact fun z => by simp [cCall] at z)
        | tup _ => exact absurd h4 (by unfold chk; simp [cTup])
        | lst _ => exact absurd h4 (by unfold chk; simp [cLst])
        | bi _ _ => exact absurd h4 (by unfold chk; simp [cCall])
        | rng _ _ => exact absurd h4 (by unfold chk; simp [cCall])
        | trev _ => exact absurd h4 (by unfold chk; simp [cCall])
        | lens _ => exact absurd h4 (by unfold chk; simp [cCall])
        | frz _ => exact absurd h4 (by unfold chk; simp [noComp])
        | isi _ _ _ => exact absurd h4 (by unfold chk; simp [cCall])
        | _ => cases h4
      obtain ⟨t, i', ifs, rfl⟩ : ∃ t i' ifs, gs = [⟨t, i', ifs, 0⟩] := by
        have h4 : (match (Expr.ListComp el gs scope lp) with
          | .ListComp el [⟨t, i, ifs, 0⟩] scope _ => (blkC X.N X.env.scope scope (own.map fun j => (X.N[j]?.getD ("" : Str), j)) && ((tgIx tg).all (fun j => decide (j ∈ own)) && own.all fun j => decide (j < X.N.length))) && ((noSet i && (isTup t || !isEnum it)) &&
            (cTg X.N scope tg t && (chki T X.N X.env.scope it i && (chkc T X.N (relS scope X.env.scope) cond ifs && chk T X.N (relS scope X.env.scope) elt el))))
          | _ => false) = true := h4
        split at h4
        · rename_i e1
          cases e1
          exact ⟨_, _, _, rfl⟩
        · cases h4
      obtain ⟨h1, h⟩ := and2 h4
      obtain ⟨h1, h2⟩ := and2 h1
      obtain ⟨h2, h3⟩ := and2 h2
      obtain ⟨h4, h⟩ := and2 h
      obtain ⟨h4, h5'⟩ := and2 h4
      obtain ⟨h6, h⟩ := and2 h
      obtain ⟨h7', h⟩ := and2 h
      obtain ⟨h8', h9⟩ := and2 h
      have hsub : ∀ j ∈ tgIx tg, j ∈ own := fun j hj => of_decide_eq_true (List.all_eq_true.mp h2 j hj)
      have hown : (own.map fun j => (X.N[j]?.getD ("" : Str), j)).map (·.2) = own := by
        rw [List.map_map]
        exact List.map_id' own
      have hlc := ps_setLc (i := i) (wi := rdI T X.mg H0 G0 W it) (elt := el) (te := rdE T X.mg H0 G0 (fun _ _ _ _ => False) elt) (tt := rdC T X.mg H0 G0 cond) (g := tgG X.K tg) (scope := scope) (pos := lp) (spos := pos) (py := p) (own := own.map fun j => (X.N[j]?.getD ("" : Str), j)) S.sx.calm S.sx.nd (eqB_ok h5) (locB_ok g1) (sw_true hk (locB_ok g1) g2 g3) (i_of it S.sx h7' h5') (blkOk_by h1)
        (fun s H C cl fp => pg_of (sto_blk s H scope cl C fp) (S.sx.blk s H scope cl C fp) h6) (fun s H C cl fp => c_of cond (S.sx.blk s H scope cl C fp) h8') (fun s H C cl fp => (e_of elt (S.sx.blk s H scope cl C fp) h9).1) (fold_ok h4)
      rw [hown] at hlc
      exact PS.imp hlc fun D σ H q => lc_read hsub (rd_set q)
    | _ => cases hsw
  · have h2 : swN X.env.scope x p v = true := by
      rw [Bool.not_eq_true] at hsw
      rw [hsw] at h2
      exact h2
    exact PS.imp (ps_set S.sx.nd (eqB_ok h5) h7 (e_of e S.sx h4).1 (sw_none hk h2) h8) fun _ _ _ => rd_set
theorem aug_of {i : Nat} {o : Op} {e : E} {x : Str} {p pos : Pos} {op : Operator} {v : Expr} (S : Sd T k X W) (h1 : stoB X.N X.env.scope i x = true) (h2 : eqB (augA o) (some op) = true) (h3 : chk T X.N X.env.scope e v = true) : PS X (.AugAssign (.Name x p) op v pos) (rdS T X.mg H0 G0 W (.aug i o e)) := by
  obtain ⟨h5, h6⟩ := and2 h1
  obtain ⟨h7, h8⟩ := sto_def S x h6
  have h2 := eqB_ok h2
  cases o with
  | add => cases h2; exact PS.imp (ps_aug S.sx.nd (eqB_ok h5) h7 (e_of e S.sx h3).1 ip_add h8) fun _ _ _ => rd_augA
  | sub => cases h2; exact PS.imp (ps_aug S.sx.nd (eqB_ok h5) h7 (e_of e S.sx h3).1 ip_sub h8) fun _ _ _ => rd_augS
  | _ => cases h2
theorem mt_of {i : Nat} {m : Mt} {es : Es} {a : Expr} {f : Str} {ap cp pos : Pos} {args : List Expr} (S : Sd T k X W) (h1 : eqB f (mtN m) = true) (h2 : (!decide (m = .extend)) = true) (h3 : (ap.endLine == cp.line) = true) (h4 : cName (nameB X.N X.env.scope i) a = true)
    (h5 : args.all notStar = true) (h6 : decide (args.length < 29) = true) (h7 : chks T X.N X.env.scope es args = true) : PS X (.Expr (.Call (.Attribute a f ap) args [] cp) pos) (rdS T X.mg H0 G0 W (.mt i m es)) := by
  cases eqB_ok h1
  have hm : m ≠ .extend := fun z => by subst z; cases h2
  obtain ⟨id, r1, r2, r3⟩ := mt_rule (X := X) (m := m)
  have hv := var_ok h4
  cases args with
  | nil =>
    cases es with
    | cons _ _ => cases h7
    | nil =>
      refine PS.imp (ps_expr (pe_bm0 PySem.F.plainAttrs_list r1 r2 (r3 hm) hv (var_base h4) h3) rfl) fun D σ H q => ?_
      obtain ⟨u, q1, q2, q3⟩ := rd_mt (K := X.K) hm q
      exact ⟨u, q1, q2, rdL_nil q3⟩
  | cons a args =>
    obtain ⟨s1, s2⟩ := stars_tail h5
    refine PS.imp (ps_expr (pe_bm PySem.F.plainAttrs_list r1 r2 (r3 hm) hv (es_of es S.sx h7) (var_base h4) ?_ h3 (star_ok s1) (stars_ok s2)) rfl) fun D σ H q => rd_mt hm q
    rw [few_ok h5]
    have h6 := of_decide_eq_true h6
    show (true && true && decide ((a :: args).length + 0 + 0 < 30)) = true
    rw [Bool.true_and, Bool.true_and, decide_eq_true_eq]
    omega
theorem try_of {body : Ss} {u : List Stmt} {n i j : Nat} {x m m' y : Str} {np pn py ap p' pos : Pos} (S : Sd T k X W) (h1 : eqB T.g.exs[n]? (some x) = true) (h2 : gloB X.env.scope x = true) (h3 : freeN x = true) (h4 : eqB X.N[i]? (some m) = true) (h5 : locB X.env.scope m = true) (h6 : freeN m = true)
    (h7 : eqB m' m = true) (h8 : eqB X.N[j]? (some y) = true) (h10 : locC X.env.scope y = true)
    (hb : ∀ (W' : WX) (pn : List (Addr × Obj)) (xe : Value → Shared → Prop), Takes (X.tr pn xe) W' → PassesOwn (model X.prog X.w) X.A X.env xe → PSs (X.tr pn xe) u (rdSs T X.mg H0 G0 W' body)) :
    PS X (.Try u [.ExceptHandler (some (.Name x np)) (some m) [.Assign [.Name y py] (.Name m' pn) ap] p'] [] [] pos) (rdS T X.mg H0 G0 W (.tryK body n i j)) := by
  have e7 := eqB_ok h7
  subst e7
  obtain ⟨h11, h12⟩ := sto_def S y h10
  obtain ⟨g4, g5⟩ := freeN_ok h6
  have g1 := eqB_ok h1
  obtain ⟨C, hC⟩ := S.sx.exs _ _ g1
  exact PS.imp (ps_try_keep S.stk S.frm S.ex S.sx.nd (eqB_ok h4) (locB_ok h5) (eqB_ok h8) h11 h12 g4 g5 (c := .ref C) ⟨gl_ok h2, (freeN_ok h3).1, .inl hC.at_⟩ S.sx.tk (tb := fun W => rdSs T X.mg H0 G0 W body) hb) fun D σ H q => rd_try g1 hC.at_ S.exm q
theorem ext_of {i : Nat} {es : Es} {a : Expr} {ap cp : Pos} {args : List Expr} {pos : Pos} (S : Sd T k X W) (h3 : (ap.endLine == cp.line) = true) (h4 : cName (nameB X.N X.env.scope i) a = true)
    (h5 : args.all notStar = true) (h6 : decide (args.length < 29) = true) (h8 : decide (0 < args.length) = true) (h7 : chks T X.N X.env.scope es args = true) : PS X (.Expr (.Call (.Attribute a "extend" ap) args [] cp) pos) (rdS T X.mg H0 G0 W (.ext i es)) := by
  have hv := var_ok h4
  cases args with
  | nil => cases h8
  | cons a args =>
    obtain ⟨s1, s2⟩ := stars_tail h5
    refine PS.imp (ps_expr (pe_bm PySem.F.plainAttrs_list PySem.F.slot_list_extend PySem.F.type_list_extend Gr.ext_ok hv (es_of es S.sx h7) (var_base h4) ?_ h3 (star_ok s1) (stars_ok s2)) rfl) fun D σ H q => rd_ext q
    rw [few_ok h5]
    have h6 := of_decide_eq_true h6
    show (true && true && decide ((a :: args).length + 0 + 0 < 30)) = true
    rw [Bool.true_and, Bool.true_and, decide_eq_true_eq]
    omega
theorem tryA_of {body : Ss} {u : List Stmt} {n i j : Nat} {e : E} {x m y : Str} {v : Expr} {np py ap p' pos : Pos} (S : Sd T k X W) (h1 : eqB T.g.exs[n]? (some x) = true) (h2 : gloB X.env.scope x = true) (h3 : freeN x = true) (h4 : eqB X.N[i]? (some m) = true) (h5 : locB X.env.scope m = true)
    (h8 : eqB X.N[j]? (some y) = true) (h10 : locC X.env.scope y = true) (h11 : swN X.env.scope y py v = true) (h12 : funB X.env.scope = true) (h13 : hotE e = true) (h14 : chk T X.N X.env.scope e v = true)
    (hb : ∀ (W' : WX) (pn : List (Addr × Obj)) (xe : Value → Shared → Prop), Takes (X.tr pn xe) W' → PassesOwn (model X.prog X.w) X.A X.env xe → PSs (X.tr pn xe) u (rdSs T X.mg H0 G0 W' body)) :
    PS X (.Try u [.ExceptHandler (some (.Name x np)) (some m) [.Assign [.Name y py] v ap] p'] [] [] pos) (rdS T X.mg H0 G0 W (.tryA body n i j e)) := by
  obtain ⟨g11, g12⟩ := sto_def S y h10
  have g1 := eqB_ok h1
  obtain ⟨C, hC⟩ := S.sx.exs _ _ g1
  refine PS.imp (ps_try_asg (ts := tAsg (rdE T X.mg H0 G0 W e) (gName j)) S.stk S.frm S.ex S.sx.nd (eqB_ok h4) (locB_ok h5) (c := .ref C) ⟨gl_ok h2, (freeN_ok h3).1, .inl hC.at_⟩ S.sx.tk (tb := fun W => rdSs T X.mg H0 G0 W body) hb ?_) fun D σ H q => rd_tryA g1 hC.at_ S.exm q
  intro a pn
  exact pss_one (ps_set (X := X.suite a pn) S.sx.nd (eqB_ok h8) g11 (eh_of (X := X.suite a pn) (W := W) e ⟨S.sx.bl, S.sx.exs, S.sx.isf⟩ h13 h14) (sw_none (env := (X.suite a pn).env) (funB_ok h12) h11) g12)
theorem tryO_of {body : Ss} {u : List Stmt} {n j : Nat} {e : E} {x y : Str} {v : Expr} {np py ap p' pos : Pos} (S : Sd T k X W) (h1 : eqB T.g.exs[n]? (some x) = true) (h2 : gloB X.env.scope x = true) (h3 : freeN x = true)
    (h8 : eqB X.N[j]? (some y) = true) (h10 : locC X.env.scope y = true) (h11 : swN X.env.scope y py v = true) (h12 : funB X.env.scope = true) (h13 : hotE e = true) (h14 : chk T X.N X.env.scope e v = true)
    (hb : ∀ (W' : WX) (pn : List (Addr × Obj)) (xe : Value → Shared → Prop), Takes (X.tr pn xe) W' → PassesOwn (model X.prog X.w) X.A X.env xe → PSs (X.tr pn xe) u (rdSs T X.mg H0 G0 W' body)) :
    PS X (.Try u [.ExceptHandler (some (.Name x np)) none [.Assign [.Name y py] v ap] p'] [] [] pos) (rdS T X.mg H0 G0 W (.tryO body n j e)) := by
  obtain ⟨g11, g12⟩ := sto_def S y h10
  have g1 := eqB_ok h1
  obtain ⟨C, hC⟩ := S.sx.exs _ _ g1
  refine PS.imp (L2.ps_try_only (ts := fun _ _ _ => tAsg (rdE T X.mg H0 G0 W e) (gName j)) S.stk S.frm (c := .ref C) ⟨gl_ok h2, (freeN_ok h3).1, .inl hC.at_⟩ S.sx.tk (tb := fun W => rdSs T X.mg H0 G0 W body) hb ?_) fun D σ H q => rd_tryO g1 hC.at_ S.exm q
  intro a oe cls d pn _ _
  exact pss_one (ps_set (X := X.suite a ((a, oe) :: pn)) S.sx.nd (eqB_ok h8) g11 (eh_of (X := X.suite a ((a, oe) :: pn)) (W := W) e ⟨S.sx.bl, S.sx.exs, S.sx.isf⟩ h13 h14) (sw_none (env := (X.suite a ((a, oe) :: pn)).env) (funB_ok h12) h11) g12)
mutual
theorem s_of : ∀ (m : S) {X : Cx} {W : WX} {st : Stmt} {H0 G0 : Hp}, Sd T k X W → chs T X.N X.env.scope m st = true → PS X st (rdS T X.mg H0 G0 W m)
  | .set i e, X, W, st, H0, G0, S, h => by
    obtain ⟨t, v, pos, rfl, h⟩ := sAsg_ok h
    obtain ⟨x, p, rfl, h⟩ := eName_ok h
    obtain ⟨h1, h⟩ := and2 h
    obtain ⟨h2, h⟩ := and2 h
    obtain ⟨h3, h4⟩ := and2 h
    exact set_of S h1 h2 h3 h4
  | .setT is e, X, W, st, H0, G0, S, h => by
    obtain ⟨t, v, pos, rfl, h⟩ := sAsg_ok h
    obtain ⟨h0, h⟩ := and2 h
    obtain ⟨h1, h⟩ := and2 h
    obtain ⟨h2, h3⟩ := and2 h
    have hn : ∀ x p, t ≠ .Name x p := fun x p z => by subst z; cases h0
    have hone : (assignEach [t] X.env).map (·.2) = [assign t X.env] := by
      cases t with
      | Tuple _ _ _ => rfl
      | _ => cases h0
    exact PS.imp (ps_asg (e_of e S.sx h3).1 (pg_of (sto_def S) S.sx h1) (swsole_ok hn) (swst_ok h2) hone) fun _ _ _ => rd_setT
  | .aug i o e, X, W, st, H0, G0, S, h => by
    obtain ⟨t, op, v, pos, rfl, h⟩ := sAug_ok h
    obtain ⟨x, p, rfl, h⟩ := eName_ok h
    obtain ⟨h1, h⟩ := and2 h
    obtain ⟨h2, h3⟩ := and2 h
    exact aug_of S h1 h2 h3
  | .setI i kk e, X, W, st, H0, G0, S, h => by
    obtain ⟨t, v, pos, rfl, h⟩ := sAsg_ok h
    obtain ⟨h1, h3⟩ := and2 h
    obtain ⟨a, b, p, rfl, h1, h2⟩ := eSub_ok h1
    obtain ⟨h0, h2⟩ := and2 h2
    exact PS.imp (ps_asg (e_of e S.sx h3).1 (pg_sub (var_ok h1) (e_of kk S.sx h2).1 (setX_ok (by have := S.sx.units; omega)) (asgn_sub h0)) (swsole_ok fun x p z => by cases z) swst_sub) fun _ _ _ => rd_setI
  | .setF i c j e, X, W, st, H0, G0, S, h => by
    obtain ⟨t, v, pos, rfl, h⟩ := sAsg_ok h
    obtain ⟨h1, h⟩ := and2 h
    obtain ⟨h3, h4⟩ := and2 h
    obtain ⟨a, f, p, rfl, h1⟩ := eAttr_ok h1
    obtain ⟨h1, h2⟩ := and2 h1
    obtain ⟨⟨nm, fl⟩, f1, f2⟩ := opt1 (eqB_ok h2)
    obtain ⟨C, hC⟩ := S.sx.cls _ _ _ f1
    exact PS.imp (ps_fld (var_ok h1) (e_of e S.sx h4).1 (swap_ok h3)) fun _ _ _ => rd_setF f1 hC f2
  | .mt i m es, X, W, st, H0, G0, S, h => by
    obtain ⟨v, pos, rfl, h⟩ := sExp_ok h
    obtain ⟨g, args, cp, rfl, h⟩ := eCall_ok h
    obtain ⟨h1, h⟩ := and2 h
    obtain ⟨h5, h⟩ := and2 h
    obtain ⟨h6, h7⟩ := and2 h
    obtain ⟨a, f, ap, rfl, h1⟩ := eAttr_ok h1
    obtain ⟨h1, h4⟩ := and2 h1
    obtain ⟨h1, h2⟩ := and2 h1
    obtain ⟨h2, h3⟩ := and2 h2
    exact mt_of S h1 h2 h3 h4 h5 h6 h7
  | .ex e, X, W, st, H0, G0, S, h => by
    obtain ⟨v, pos, rfl, h⟩ := sExp_ok h
    obtain ⟨h1, h2⟩ := and2 h
    exact PS.imp (ps_expr (e_of e S.sx h2).1 (swap_ok h1)) fun _ _ _ => rd_ex
  | .ife c a b, X, W, st, H0, G0, S, h => by
    obtain ⟨t, u, v, pos, rfl, h⟩ := sIf_ok h
    obtain ⟨h1, h⟩ := and2 h
    obtain ⟨h2, h3⟩ := and2 h
    exact PS.imp (ps_if (e_of c S.sx h1).2.1 (ss_of a S h2) (ss_of b S h3)) fun _ _ _ => rd_if
  | .forS tg it b, X, W, st, H0, G0, S, h => by
    obtain ⟨t, i, u, pos, rfl, h⟩ := sFor_ok h
    obtain ⟨h1, h⟩ := and2 h
    obtain ⟨h1, h2⟩ := and2 h1
    obtain ⟨h3, h⟩ := and2 h
    obtain ⟨h4, h5⟩ := and2 h
    exact PS.imp (ps_for S.own S.sx.calm (i_of it S.sx h4 h2) (pg_of (sto_def S) S.sx h3) (ss_of b S h5) (fold_ok h1)) fun _ _ _ => rd_for
  | .whl n c b, X, W, st, H0, G0, S, h => by
    obtain ⟨t, u, pos, rfl, h⟩ := sWhl_ok h
    obtain ⟨h1, h2⟩ := and2 h
    exact PS.imp (ps_while S.own (e_of c S.sx h1).2.1 (ss_of b S h2)) fun _ _ _ => rd_whl
  | .ret e, X, W, st, H0, G0, S, h => by
    obtain ⟨v, pos, rfl, h⟩ := sRet_ok h
    obtain ⟨v, rfl, h⟩ := oSome_ok h
    exact PS.imp (ps_ret (e_of e S.sx h).1) fun _ _ _ => rd_ret
  | .retN, X, W, st, H0, G0, S, h => by
    obtain ⟨v, pos, rfl, h⟩ := sRet_ok h
    cases oNone_ok h
    exact PS.imp ps_retN fun _ _ _ => rd_retN
  | .rais n, X, W, st, H0, G0, S, h => by
    obtain ⟨e, pos, rfl, h⟩ := sRai_ok h
    obtain ⟨g, args, cp, rfl, h⟩ := eCall_ok h
    obtain ⟨h0, h⟩ := and2 h
    obtain ⟨t, rfl, h0⟩ := lOne_ok h0
    obtain ⟨t, j, p2, rfl⟩ := eStr_ok h0
    obtain ⟨x, p, rfl, h⟩ := eName_ok h
    obtain ⟨h1, h⟩ := and2 h
    obtain ⟨h, h4⟩ := and2 h
    obtain ⟨h2, h3⟩ := and2 h
    have h1 := eqB_ok h1
    obtain ⟨C, hC⟩ := S.sx.exs _ _ h1
    have R := S.rai n (of_decide_eq_true h4) _ _ h1 hC.at_
    obtain ⟨B, newId, initId, bmB, F, q⟩ := R.ex
    exact PS.imp (ps_raise S.sx.calm S.sx.tk (pmk_own F q hC.at_ R.keep (raises_own R.sub R.ty) (gl_ok h2) (freeN_ok h3).1)) fun D σ H q => rd_rais q _ _ h1 hC.at_
  | .tryK body n i j, X, W, st, H0, G0, S, h => by
    obtain ⟨u, x, m, ss, pos, p', rfl, h⟩ := sTry_ok h
    obtain ⟨a1, h⟩ := and2 h
    obtain ⟨a4, h9⟩ := and2 h
    obtain ⟨x, np, rfl, b1⟩ := eName_ok a1
    obtain ⟨m, rfl, b4⟩ := oSome_ok a4
    obtain ⟨c4, c8⟩ := and2 b4
    obtain ⟨h4, d5⟩ := and2 c4
    obtain ⟨h5, h6⟩ := and2 d5
    obtain ⟨s1, rfl, d8⟩ := lOne_ok c8
    obtain ⟨t, v, ap, rfl, e8⟩ := sAsg_ok d8
    obtain ⟨f8, f7⟩ := and2 e8
    obtain ⟨y, py, rfl, g8⟩ := eName_ok f8
    obtain ⟨m', pn, rfl, h7⟩ := eName_ok f7
    obtain ⟨h8, h10⟩ := and2 g8
    obtain ⟨h1, b2⟩ := and2 b1
    obtain ⟨h2, h3⟩ := and2 b2
    exact try_of S h1 h2 h3 h4 h5 h6 h7 h8 h10 fun W' pn xe tk ow => ss_of body (S.tr pn xe tk ow) h9
  | .pass, X, W, st, H0, G0, S, h => by
    have h : (sPass st || sExp eStr st) = true := h
    rw [Bool.or_eq_true] at h
    rcases h with h | h
    · obtain ⟨pos, rfl⟩ := sPass_ok h
      exact PS.imp ps_pass fun _ _ _ => rd_pass
    · obtain ⟨v, pos, rfl, h⟩ := sExp_ok h
      obtain ⟨x, j, p, rfl⟩ := eStr_ok h
      exact PS.imp ps_doc fun _ _ _ => rd_pass
  | .brk, X, W, st, H0, G0, S, h => by
    obtain ⟨pos, rfl⟩ := sBrk_ok h
    exact PS.imp ps_break fun _ _ _ => rd_brk
  | .cont, X, W, st, H0, G0, S, h => by
    obtain ⟨pos, rfl⟩ := sCont_ok h
    exact PS.imp ps_continue fun _ _ _ => rd_cont
  | .ext i es, X, W, st, H0, G0, S, h => by
    obtain ⟨v, pos, rfl, h⟩ := sExp_ok h
    obtain ⟨g, args, cp, rfl, h⟩ := eCall_ok h
    obtain ⟨h1, h⟩ := and2 h
    obtain ⟨h5, h⟩ := and2 h
    obtain ⟨h6, h⟩ := and2 h
    obtain ⟨h8, h7⟩ := and2 h
    obtain ⟨a, f, ap, rfl, h1⟩ := eAttr_ok h1
    obtain ⟨h1, h4⟩ := and2 h1
    obtain ⟨h1, h3⟩ := and2 h1
    cases eqB_ok h1
    exact ext_of S h3 h4 h5 h6 h8 h7
  | .tryA body n i j e, X, W, st, H0, G0, S, h => by
    obtain ⟨u, x, m, ss, pos, p', rfl, h⟩ := sTry_ok h
    obtain ⟨a1, h⟩ := and2 h
    obtain ⟨a4, h9⟩ := and2 h
    obtain ⟨x, np, rfl, b1⟩ := eName_ok a1
    obtain ⟨m, rfl, b4⟩ := oSome_ok a4
    obtain ⟨c4, c8⟩ := and2 b4
    obtain ⟨h4, d5⟩ := and2 c4
    obtain ⟨h5, h6⟩ := and2 d5
    obtain ⟨s1, rfl, d8⟩ := lOne_ok c8
    obtain ⟨t, v, ap, rfl, e8⟩ := sAsg_ok d8
    obtain ⟨y, py, rfl, g8⟩ := eName_ok e8
    obtain ⟨g8, g9⟩ := and2 g8
    obtain ⟨h8, h10⟩ := and2 g8
    obtain ⟨h11, g9⟩ := and2 g9
    obtain ⟨h12, g9⟩ := and2 g9
    obtain ⟨h13, h14⟩ := and2 g9
    obtain ⟨h1, b2⟩ := and2 b1
    obtain ⟨h2, h3⟩ := and2 b2
    exact tryA_of S h1 h2 h3 h4 h5 h8 h10 h11 h12 h13 h14 fun W' pn xe tk ow => ss_of body (S.tr pn xe tk ow) h9
  | .tryO body n j e, X, W, st, H0, G0, S, h => by
    obtain ⟨u, x, m, ss, pos, p', rfl, h⟩ := sTry_ok h
    obtain ⟨a1, h⟩ := and2 h
    obtain ⟨a4, h⟩ := and2 h
    obtain ⟨c8, h9⟩ := and2 h
    obtain ⟨x, np, rfl, b1⟩ := eName_ok a1
    cases oNone_ok a4
    obtain ⟨s1, rfl, d8⟩ := lOne_ok c8
    obtain ⟨t, v, ap, rfl, e8⟩ := sAsg_ok d8
    obtain ⟨y, py, rfl, g8⟩ := eName_ok e8
    obtain ⟨g8, g9⟩ := and2 g8
    obtain ⟨h8, h10⟩ := and2 g8
    obtain ⟨h11, g9⟩ := and2 g9
    obtain ⟨h12, g9⟩ := and2 g9
    obtain ⟨h13, h14⟩ := and2 g9
    obtain ⟨h1, b2⟩ := and2 b1
    obtain ⟨h2, h3⟩ := and2 b2
    exact tryO_of S h1 h2 h3 h8 h10 h11 h12 h13 h14 fun W' pn xe tk ow => ss_of body (S.tr pn xe tk ow) h9
  | .forK tg i b, X, W, st, H0, G0, S, h => by
    obtain ⟨t, it, u, pos, rfl, h⟩ := sFor_ok h
    obtain ⟨h1, h⟩ := and2 h
    obtain ⟨h1, h2⟩ := and2 h1
    obtain ⟨h3, h5⟩ := and2 h
    have hf : PS X (.For t it u [] pos) (tForK T X.mg W X.K tg i b) := ⟨fun pins s σ H D I ⟨A, B, hw⟩ => (ps_for S.own S.sx.calm (pi_keys (var_ok h2)) (pg_of (sto_def S) S.sx h3) (ss_of (H0 := A) (G0 := B) b S h5) (fold_ok h1)).run pins s σ H D I hw⟩
    exact ⟨fun pins s σ H D I hw => (rd_forK hw).elim (fun z => (ps_lock hf).run pins s σ H D I z) fun z => hf.run pins s σ H D I z⟩
  | .no, X, W, st, H0, G0, S, h => ⟨fun _ _ _ _ _ _ hw => (rd_no hw).elim⟩
theorem ss_of : ∀ (m : Ss) {X : Cx} {W : WX} {st : List Stmt} {H0 G0 : Hp}, Sd T k X W → chss T X.N X.env.scope m st = true → PSs X st (rdSs T X.mg H0 G0 W m)
  | .nil, X, W, st, H0, G0, S, h => by
    cases st with
    | nil => exact PSs.imp pss_nil fun _ _ _ => rdSs_nil
    | cons _ _ => cases h
  | .cons m ms, X, W, st, H0, G0, S, h => by
    cases st with
    | nil => cases h
    | cons s ss =>
      obtain ⟨h1, h2⟩ := and2 h
      rcases Bool.or_eq_true_iff.mp h2 with hn | h2
      · cases m with
        | no => exact ⟨fun _ _ _ _ _ _ hw => (rdSs_no hw).elim⟩
        | _ => cases hn
      · exact PSs.imp (pss_cons (s_of m S h1) (ss_of ms S h2)) fun _ _ _ => rdSs_cons
  | .gh fr wp ms, X, W, st, H0, G0, S, h => PSs.imp (ss_of ms S h) fun _ _ _ => rdSs_gh
end
end
end Gr

set_option Elab.async false
set_option linter.all false
set_option maxRecDepth 100000
set_option maxHeartbeats 4000000
/-! Gr S: a def keeps its promise. -/
namespace Gr
open PySem L2
/-- what is known of the module, for the defs whose calls go at most k deep -/
structure Wd (T : Kit) (k : Nat) (P : Program) (w : World) (K : PySem.W.Frag) (mg : Str → Option Value) (base : Heap) : Prop where
  bl : ∀ x ∈ T.bl, mg x = none
  gi : ∀ p ∈ T.gi, ∃ u, mg p.1 = some u ∧ RelV (.int p.2) u
  fns : ∀ (g : Nat) x F, T.fns[g]? = some (x, F) → ∃ (f : Addr) (fd : FuncData) (ps : List Str), mg x = some (.ref f) ∧ PySem.W.keepIn K (.ref f) = true ∧ Binds K fd ps [] ∧ FnOk P w K mg base (L2.CX P w) k f fd ps (spOf T.g mg F)
  ini : ∀ (c : Nat) F, T.ini[c]? = some F → ∃ (nm : Str) (fl : List Str) (C f : Addr) (fd : FuncData) (ps : List Str) (j : Nat), T.g.cls[c]? = some (nm, fl) ∧ mg nm = some (.ref C) ∧ j + 1 ≤ k ∧ Mk K C f ∧ Binds K fd ps [] ∧ FnOk P w K mg base (L2.CX P w) j f fd ps (spOf T.g mg F)
  cls : ∀ (c : Nat) nm fl, T.g.cls[c]? = some (nm, fl) → ∃ C, ClsF K mg nm fl C
  exs : ∀ (e : Nat) nm, T.g.exs[e]? = some nm → ∃ C, ExcF K mg nm C
  isf : IsF T.g K mg
  rai : ∀ e ∈ T.rs, ∀ nm C, T.g.exs[e]? = some nm → mg nm = some (.ref C) → RaiF K C
  exm : ∀ (e c : Nat) nm nm' C C', T.g.exs[e]? = some nm → mg nm = some (.ref C) → T.g.exs[c]? = some nm' → mg nm' = some (.ref C') → PySem.W.exmOne K (.ref C) (.ref C') = some (T.g.sup e c)
section
variable {T : Kit} {mg : Str → Option Value} {H0 G0 G B H H' : Hp} {ow : Addr → Option Kx} {σ : St} {ρ : List C} {ts : List Cell} {v : V} {c : C}
theorem ownIx_ge : ∀ {cs : List C} {o m j : Nat}, (ownIx o cs)[m]? = some j → o ≤ j ∧ j < o + cs.length ∧ ∃ x, cs[j - o]? = some (.own x)
  | [], o, m, j, h => by simp [ownIx] at h
  | c :: cs, o, m, j, h => by
    have skip : (ownIx (o + 1) cs)[m]? = some j → o ≤ j ∧ j < o + (c :: cs).length ∧ ∃ x, (c :: cs)[j - o]? = some (.own x) := fun h => by
      obtain ⟨h1, h2, x, h3⟩ := ownIx_ge h
      refine ⟨by omega, by rw [List.length_cons]; omega, x, ?_⟩
      have : j - o = (j - (o + 1)) + 1 := by omega
      rw [this, List.getElem?_cons_succ]
      exact h3
    cases c with
    | own y =>
      have h : (o :: ownIx (o + 1) cs)[m]? = some j := h
      cases m with
      | zero =>
        simp at h
        subst h
        exact ⟨Nat.le_refl _, by rw [List.length_cons]; omega, y, by rw [Nat.sub_self]; rfl⟩
      | succ m =>
        obtain ⟨h1, h2, x, h3⟩ := ownIx_ge (show (ownIx (o + 1) cs)[m]? = some j by simpa using h)
        refine ⟨by omega, by rw [List.length_cons]; omega, x, ?_⟩
        have : j - o = (j - (o + 1)) + 1 := by omega
        rw [this, List.getElem?_cons_succ]
        exact h3
    | _ => exact skip h
theorem ownIx_inj : ∀ {cs : List C} {o m m' j : Nat}, (ownIx o cs)[m]? = some j → (ownIx o cs)[m']? = some j → m = m'
  | [], o, m, m', j, h, _ => by simp [ownIx] at h
  | c :: cs, o, m, m', j, h, h' => by
    cases c with
    | own y =>
      have h : (o :: ownIx (o + 1) cs)[m]? = some j := h
      have h' : (o :: ownIx (o + 1) cs)[m']? = some j := h'
      cases m with
      | zero =>
        cases m' with
        | zero => rfl
        | succ m' =>
          simp at h h'
          subst h
          have := (ownIx_ge h').1
          omega
      | succ m =>
        cases m' with
        | zero =>
          simp at h h'
          subst h'
          have := (ownIx_ge h).1
          omega
        | succ m' => exact congrArg (· + 1) (ownIx_inj (cs := cs) (o := o + 1) (by simpa using h) (by simpa using h'))
    | _ => exact ownIx_inj (cs := cs) (o := o + 1) h h'
theorem ownVs_at : ∀ {cs : List C} {vs : List V} {o : Nat}, vs.length = cs.length → (ownVs vs cs).length = (ownIx o cs).length ∧ ∀ {m j : Nat}, (ownIx o cs)[m]? = some j → (ownVs vs cs)[m]? = vs[j - o]?
  | [], [], o, _ => ⟨rfl, fun {m j} h => by simp [ownIx] at h⟩
  | [], _ :: _, o, h => by cases h
  | _ :: _, [], o, h => by cases h
  | c :: cs, v :: vs, o, h => by
    obtain ⟨i1, i2⟩ := ownVs_at (cs := cs) (vs := vs) (o := o + 1) (by simpa using h)
    have shift : ∀ {m j : Nat}, (ownIx (o + 1) cs)[m]? = some j → vs[j - (o + 1)]? = (v :: vs)[j - o]? := fun {m j} e => by
      have := (ownIx_ge e).1
      have : j - o = (j - (o + 1)) + 1 := by omega
      rw [this, List.getElem?_cons_succ]
    cases c with
    | own y =>
      refine ⟨by show (ownVs vs cs).length + 1 = (ownIx (o + 1) cs).length + 1; rw [i1], fun {m j} e => ?_⟩
      have e : (o :: ownIx (o + 1) cs)[m]? = some j := e
      show (v :: ownVs vs cs)[m]? = _
      cases m with
      | zero =>
        simp at e
        subst e
        rw [Nat.sub_self]
        rfl
      | succ m =>
        rw [List.getElem?_cons_succ] at e ⊢
        rw [i2 e, shift e]
    | _ => exact ⟨i1, fun {m j} e => (i2 e).trans (shift e)⟩
/-- the own parameters' slots, by temps -/
def pkT (vs : List V) (l : List Nat) : List Cell := l.map fun i => (vs[i]?, C.pk i)
theorem push_pks {vs : List V} : ∀ {l : List Nat} {ts : List Cell}, (∀ i ∈ l, ∃ u, σ[i]? = some (some u) ∧ vs[i]? = some u) → SRx T.g mg H0 G0 [] ow G B σ ρ ts H → SRx T.g mg H0 G0 [] ow G B σ ρ (ts ++ pkT vs l) H
  | [], ts, _, S => by rw [pkT, List.map_nil, List.append_nil]; exact S
  | i :: l, ts, h, S => by
    obtain ⟨u, h1, h2⟩ := h i List.mem_cons_self
    have S1 : SRx T.g mg H0 G0 [] ow G B σ ρ (ts ++ [(vs[i]?, .pk i)]) H := by
      refine S.push fun k => ⟨u, h2, fun w x e => ?_⟩
      have e1 : σ[i]? = some w := by rcases e with e | e <;> exact (cel_inl.mp e).1
      rw [h1] at e1
      exact (Option.some.inj e1).symm
    have S2 := push_pks (l := l) (fun j hj => h j (List.mem_cons_of_mem _ hj)) S1
    rw [List.append_assoc] at S2
    exact S2
/-- behind the body: the result and what comes back -/
theorem fin_sr {vs : List V} {cs : List C} (hl : vs.length = cs.length) (S : S0 T mg H0 G0 σ ρ (pkT vs (ownIx 0 cs) ++ [(some v, c)]) H) : (outsOf cs ρ).length = (ownVs vs cs).length ∧ ∃ ow' G' B', SRx T.g mg H0 G0 [] ow' G' B' [] [] ((some v, c) :: tz (ownVs vs cs) (outsOf cs ρ)) H := by
  obtain ⟨o1, o2⟩ := ownVs_at (o := 0) hl
  refine ⟨by unfold outsOf; rw [List.length_map, o1], ?_⟩
  obtain ⟨ow, G, B, S⟩ := S
  have hpl : (pkT vs (ownIx 0 cs)).length = (ownIx 0 cs).length := by unfold pkT; rw [List.length_map]
  -- a thing that comes back
  have back : ∀ {m : Nat} {w : Option V} {d : C}, (tz (ownVs vs cs) (outsOf cs ρ))[m]? = some (w, d) → ∃ j, (ownIx 0 cs)[m]? = some j ∧ (d = .und ∨ cel σ ρ (pkT vs (ownIx 0 cs) ++ [(some v, c)]) (.inl j) = some (w, d)) := fun {m w d} e => by
    obtain ⟨u, rfl, e1, e2⟩ := tz_get.mp e
    unfold outsOf at e2
    rw [List.getElem?_map] at e2
    cases q : (ownIx 0 cs)[m]? with
    | none => rw [q] at e2; cases e2
    | some j =>
      rw [q] at e2
      refine ⟨j, rfl, ?_⟩
      have e2 : outAt ρ j = d := Option.some.inj e2
      rw [o2 q, Nat.sub_zero] at e1
      unfold outAt at e2
      cases r : ρ[j]? with
      | none => rw [r] at e2; exact .inl e2.symm
      | some c' =>
        rw [r] at e2
        cases c' with
        | own x =>
          right
          have e2 : C.own x = d := e2
          subst e2
          obtain ⟨a, ha, hca, _⟩ := S.ownAt r
          have hp : cel σ ρ (pkT vs (ownIx 0 cs) ++ [(some v, c)]) (.inr m) = some (vs[j]?, .pk j) := by
            show (pkT vs (ownIx 0 cs) ++ [(some v, c)])[m]? = _
            rw [List.getElem?_append_left (by rw [hpl]; exact (List.getElem?_eq_some_iff.mp q).1)]
            unfold pkT
            rw [List.getElem?_map, q]
            rfl
          obtain ⟨u', h1, h2⟩ := S.rel _ _ _ hp
          have h3 := h2 _ _ (.inl hca)
          rw [e1] at h1
          rw [h3, ← h1] at hca
          exact hca
        | _ => exact .inl e2.symm
  obtain ⟨ow', S'⟩ := S.re (σ' := []) (ρ' := []) (as := (some v, c) :: tz (ownVs vs cs) (outsOf cs ρ)) (fun k => match k with | .inl i => .inl i | .inr 0 => .inr (pkT vs (ownIx 0 cs)).length | .inr (m + 1) => .inl ((ownIx 0 cs)[m]?.getD 0)) rfl (fun p hp => by cases hp) (fun i j e => by simp at e) (fun k w d e => by
      cases k with
      | inl i => obtain ⟨z, _⟩ := cel_inl.mp e; simp at z
      | inr n =>
        cases n with
        | zero =>
          have e : some (some v, c) = some (w, d) := e
          cases e
          refine .inr ⟨cel_last, fun k2 w2 c2 h2 e2 _ => ?_⟩
          cases k2 with
          | inl i => obtain ⟨z, _⟩ := cel_inl.mp e2; simp at z
          | inr n2 =>
            cases n2 with
            | zero => rfl
            | succ m2 => cases h2
        | succ m =>
          have e : (tz (ownVs vs cs) (outsOf cs ρ))[m]? = some (w, d) := e
          obtain ⟨j, hj, hd⟩ := back e
          rcases hd with hd | hd
          · exact .inl hd
          · refine .inr ⟨?_, fun k2 w2 c2 h2 e2 _ => ?_⟩
            · show cel σ ρ _ (.inl ((ownIx 0 cs)[m]?.getD 0)) = _
              rw [hj]; exact hd
            · cases k2 with
              | inl i => obtain ⟨z, _⟩ := cel_inl.mp e2; simp at z
              | inr n2 =>
                cases n2 with
                | zero => cases h2
                | succ m2 =>
                  have e2 : (tz (ownVs vs cs) (outsOf cs ρ))[m2]? = some (w2, c2) := e2
                  obtain ⟨j2, hj2, _⟩ := back e2
                  have h2 : (Sum.inl ((ownIx 0 cs)[m2]?.getD 0) : Kx) = .inl ((ownIx 0 cs)[m]?.getD 0) := h2
                  rw [hj, hj2] at h2
                  have := Sum.inl.inj h2
                  have h3 : j2 = j := this
                  subst h3
                  rw [ownIx_inj hj2 hj]) (fun k w j e w2 x2 e2 => by
      exfalso
      rcases e2 with e2 | e2
      · obtain ⟨z, _⟩ := cel_inl.mp e2; simp at z
      · obtain ⟨z, _⟩ := cel_inl.mp e2; simp at z)
  exact ⟨ow', G, B, S'⟩
end
section
variable {T : Kit} {k : Nat} {P : Program} {w : World} {K : PySem.W.Frag} {mg : Str → Option Value} {base : Heap}
/-- THE DEF -/
theorem fnG {f : Addr} {name qual : Str} {params : Arguments} {body : List Stmt} {scope : Scope} {dV kV doc pm cdv ct oc : Value} {an od : Option Addr}
    {osl : Array (Option Value)} {N ps : List Str} {np n : Nat} {b : Ss} (Wk : Wd T k P w K mg base) (lk : K.lookup f = some ⟨oc, od, .func (PySem.W.fnOf name qual params body scope dV kV doc pm an cdv ct), osl⟩) (hcd : PySem.W.codeIn K cdv qual = true) (S : FnScope N ps scope)
    (hnp : ps.length = np) (hn : N.length = n) (hc : chss T N scope b body = true) : FnOk P w K mg base (L2.CX P w) (k + 1) f (PySem.W.fnOf name qual params body scope dV kV doc pm an cdv ct) ps (spOf T.g mg (Gr.fnOf T np n b)) := by
  have lens : ∀ vs H Q E, spOf T.g mg (Gr.fnOf T np n b) vs H Q E → vs.length = np := fun vs H Q E ⟨cs, G, H0, ow, SR, _, hF⟩ => by
    have hl := SR.len
    rw [List.length_map] at hl
    unfold Gr.fnOf at hF
    by_cases h : cs.length = np
    · omega
    · rw [if_neg h] at hF; exact hF.elim
  refine fn_of lk hcd S (fun vs H Q E h => (lens vs H Q E h).trans hnp.symm) fun A outer s H vs Q E hr hsp => ?_
  have hvl := lens vs H Q E hsp
  obtain ⟨cs, G, H0, ow, SR0, hargs, hF⟩ := hsp
  have hl := SR0.len
  rw [List.length_map] at hl
  have hcl : cs.length = np := by omega
  have Sd0 : Sd T k (cxOf (L2.CX P w) P w K mg base N qual scope f cdv A outer s H E) (fun cls d _ H => E cls d H) :=
    ⟨⟨rfl, S.nd, hr, takes_of rfl rfl rfl rfl, Wk.bl, Wk.gi, Wk.fns, Wk.ini, Wk.cls, Wk.exs, Wk.isf⟩, fun _ => rfl, passes_of rfl, rfl, rfl, rfl, Wk.rai, Wk.exm⟩
  refine ⟨_, ss_of (H0 := H0) (G0 := G) b Sd0 hc, ?_⟩
  have start_get : ∀ {i : Nat}, i < vs.length → (L2.start N vs)[i]? = some (vs[i]?) := fun {i} hi => by
    unfold L2.start
    rw [List.getElem?_append_left (by simpa using hi), List.getElem?_map, List.getElem?_eq_getElem hi]
    rfl
  refine ⟨ownIx 0 cs, cs ++ List.replicate (n - np) .und, pkT vs (ownIx 0 cs), ?_, fun t ht j e => ?_, ?_⟩
  · obtain ⟨ow2, G2, B2, S2⟩ := Gr.SR.pad (T := T.g) (N.length - vs.length) ⟨ow, G, H0, SR0⟩
    have e : List.replicate (N.length - vs.length) C.und = List.replicate (n - np) C.und := by rw [hn, hvl]
    rw [e] at S2
    have S3 : SRx T.g mg H0 G [] ow2 G2 B2 (L2.start N vs) (cs ++ List.replicate (n - np) .und) ([] ++ pkT vs (ownIx 0 cs)) H := push_pks (fun i hi => by
      obtain ⟨m, hm⟩ := List.getElem?_of_mem hi
      have hi2 : i < vs.length := by have := (ownIx_ge hm).2.1; omega
      exact ⟨vs[i], by rw [start_get hi2, List.getElem?_eq_getElem hi2], List.getElem?_eq_getElem hi2⟩) S2
    exact ⟨ow2, G2, B2, S3⟩
  · unfold pkT at ht
    obtain ⟨i, hi, rfl⟩ := List.mem_map.mp ht
    cases e
    exact hi
  · unfold Gr.fnOf at hF
    rw [if_pos hcl] at hF
    cases hr2 : runs T (ownIx 0 cs) b (cs ++ List.replicate (n - np) .und) with
    | next ρ =>
      rw [hr2] at hF
      intro σ' H' S'
      obtain ⟨f1, ow', G', B', f2⟩ := fin_sr hl (v := .non) (c := nonC) (S'.scal fun _ => .non)
      exact hF _ _ _ _ _ f1 f2
    | ret c ρ =>
      rw [hr2] at hF
      intro v σ' H' S'
      obtain ⟨f1, ow', G', B', f2⟩ := fin_sr hl S'
      exact hF _ _ _ _ _ f1 f2
    | err m ρ =>
      rw [hr2] at hF
      exact fun σ' Cx nm H' e1 e2 S' => hF Cx nm H' e1 e2 S'.h0h
    | brk ρ => rw [hr2] at hF; exact hF.elim
    | cont ρ => rw [hr2] at hF; exact hF.elim
    | stuck => rw [hr2] at hF; exact hF.elim
end
end Gr

set_option Elab.async false
set_option linter.all false
set_option maxRecDepth 100000
set_option maxHeartbeats 4000000
/-! Gr T: the module's facts by one Bool; the law's end. -/
namespace Gr
open PySem L2 He
/-! ### the part of the heap that is looked at: no list -/
def notL (o : Obj) : Bool := match o.cls with
  | .type n => !decide (n = "list")
  | _ => true
def kfr (g : Addr → Option Obj) (as : List Addr) : PySem.W.Frag := as.filterMap fun a => match g a with
  | some o => if notL o then some (a, o) else none
  | none => none
theorem lookup_mem {α β : Type} [BEq α] [LawfulBEq α] : ∀ {l : List (α × β)} {a : α} {b : β}, l.lookup a = some b → (a, b) ∈ l
  | [], a, b, h => by cases h
  | (x, y) :: l, a, b, h => by
    rw [List.lookup_cons] at h
    cases q : (a == x) with
    | true =>
      rw [q] at h
      cases h
      rw [eq_of_beq q]
      exact List.mem_cons_self
    | false =>
      rw [q] at h
      exact List.mem_cons_of_mem _ (lookup_mem h)
theorem kfr_at {g : Addr → Option Obj} {as : List Addr} {a : Addr} {o : Obj} (h : (kfr g as).lookup a = some o) : g a = some o ∧ notL o = true := by
  have m := lookup_mem h
  obtain ⟨b, _, e⟩ := List.mem_filterMap.mp m
  cases q : g b with
  | none => rw [q] at e; cases e
  | some u =>
    rw [q] at e
    have e : (if notL u = true then some (b, u) else none) = some (a, o) := e
    by_cases hn : notL u = true
    · rw [if_pos hn] at e
      cases e
      exact ⟨q, hn⟩
    · rw [if_neg hn] at e; cases e
/-! ### what is asked -/
/-- a def: its place, its text, its names, its term -/
structure Ent where
  d : DefD
  ps : List Str
  N : List Str
  b : Ss
structure Spec where
  g : Glob
  bl : List Str
  gi : List (Str × Int)
  rs : List Nat
  es : List Ent
def tyS : List String := "NoneType" :: "bool" :: "int" :: "str" :: "list" :: "tuple" :: []
def excB (K : PySem.W.Frag) (x : Str) : Bool :=
  (Fa.glo x).ok K && (eqO (PySem.W.findIn K (.ref (ga K x)) "__getattribute__") (some (some (.builtin "BaseException.__getattribute__"))) && (eqO (PySem.W.findIn K (.ref (ga K x)) "__getattr__") (some none) &&
    (decide (PySem.W.subIn K (.ref (ga K x)) (.type "BaseException") = some true) && (PySem.W.hasDictIn K (ga K x) && (eqO (PySem.W.findIn K (.ref (ga K x)) "__class__") (some (some (.builtin "object.__class__"))) &&
    (eqO (PySem.W.specialIn K (.builtin "object.__class__") "__get__") (some (some (.builtin "getset_descriptor.__get__"))) && (decide (PySem.W.takesIn K (.builtin "object.__class__") = some true) && decide (PySem.W.mroIn K (ga K x) (.type "object") = some true))))))))
def clsB (K : PySem.W.Frag) (p : Str × List Str) : Bool := (Fa.glo p.1).ok K && ((Fa.cls p.1).ok K && (p.2.all (fun f => (Fa.noat p.1 f).ok K) && decide p.2.Nodup))
def isB (S : Spec) (K : PySem.W.Frag) : Bool :=
  (S.g.exs.zipIdx.all fun p => S.g.exs.zipIdx.all fun q => decide (PySem.W.kitOne K (.ref (ga K p.1)) (.ref (ga K q.1)) = some (S.g.sup p.2 q.2)) && decide (PySem.W.exmOne K (.ref (ga K p.1)) (.ref (ga K q.1)) = some (S.g.sup p.2 q.2))) &&
  ((S.g.exs.all fun x => decide (PySem.W.kitOne K (.ref (ga K x)) (.type "ValueError") = some true)) && (S.g.exs.all fun x => tyS.all fun t => decide (PySem.W.kitOne K (.type t) (.ref (ga K x)) = some false)))
def raiB (S : Spec) (K : PySem.W.Frag) : Bool := S.rs.all fun i => match S.g.exs[i]? with
  | some x => (Fa.exc x).ok K
  | none => false
def entB (K : PySem.W.Frag) (e : Ent) : Bool := e.d.ok K && match e.d.at_.2 with
  | none => (Fa.glo e.d.at_.1).ok K
  | some _ => (Fa.glo e.d.at_.1).ok K && (Fa.mkr e.d.at_.1).ok K
def allB (S : Spec) (K : PySem.W.Frag) : Bool :=
  (S.bl.all fun x => (Fa.free x).ok K) && ((S.gi.all fun p => (Fa.int p.1 p.2).ok K) && (S.g.cls.all (clsB K) && (S.g.exs.all (excB K) && (isB S K && (raiB S K && S.es.all (entB K))))))
abbrev AlG : Type := Bool × List FnW
def obsS (S : Spec) (K : PySem.W.Frag) : AlG := (allB S K, S.es.map fun e => fnW K e.d.at_)
def valS (S : Spec) : AlG := (true, S.es.map fun e => e.d.val)
def obsN (n : Nat) (S : Spec) (g : Addr → Option Obj) : AlG := obsS S (kfr g (asD g n))
/-- what the walk leans on -/
def SaysS (S : Spec) (K : PySem.W.Frag) : Prop := obsS S K = valS S ∧ ∀ a o, K.lookup a = some o → notL o = true
def hookG (n : Nat) (S : Spec) : PySem.W.Hook where
  α := AlG
  obs := fun s => obsN n S s.heap.get?
  val := fun _ => valS S
  says := fun _ h => ∃ K : PySem.W.Frag, K.In h ∧ SaysS S K
  of := fun _ _ e => ⟨_, fun _ _ q => (kfr_at q).1, e, fun _ _ q => (kfr_at q).2⟩
  keeps := fun _ _ _ ⟨K, hK, c⟩ k => ⟨K, PySem.W.Frag.In.keeps hK k, c⟩
theorem obsN_eq {n : Nat} {S : Spec} {g : Addr → Option Obj} {s : Shared} (h : ∀ a, g a = s.heap.get? a) : obsN n S g = (hookG n S).obs s := by
  have e : g = s.heap.get? := funext h
  rw [e] <;> rfl
/-! ### the kits -/
def kit0 (S : Spec) : Kit := ⟨S.g, [], [], S.bl, S.gi, S.rs⟩
/-- one def more -/
noncomputable def addE (T : Kit) (e : Ent) : Kit := match e.d.at_.2 with
  | none => { T with fns := T.fns ++ [(e.d.at_.1, Gr.fnOf T e.ps.length e.N.length e.b)] }
  | some _ => { T with ini := T.ini ++ [Gr.fnOf T e.ps.length e.N.length e.b] }
noncomputable def kitN (T : Kit) : List Ent → Kit
  | [] => T
  | e :: es => kitN (addE T e) es
/-- what is checked of a def, by the kernel -/
structure EntOk (T : Kit) (e : Ent) : Prop where
  sc : FnScope e.N e.ps e.d.scope
  chk : chss T e.N e.d.scope e.b e.d.body = true
  dfl : e.d.dfl = []
  kwd : e.d.kwd = []
  at_ : match e.d.at_.2 with
    | none => True
    | some m => m = "__init__" ∧ ∃ fl, T.g.cls[T.ini.length]? = some (e.d.at_.1, fl)
  bind : ∀ (kV doc pm : Value) (an : Option Addr) (cdv ct : Value) (us : List Value), us.length = e.ps.length → bindArgs (PySem.W.fnOf e.d.name e.d.qual e.d.params e.d.body e.d.scope .none kV doc pm an cdv ct) ⟨us, []⟩ = pure (e.ps.zip us)
section
variable {T : Kit} {k : Nat} {P : Program} {w : World} {K : PySem.W.Frag} {mg : Str → Option Value} {base : Heap} {S : Spec} {h : Heap}
theorem Wd.mono {k' : Nat} (W : Wd T k P w K mg base) (hk : k ≤ k') : Wd T k' P w K mg base :=
  ⟨W.bl, W.gi, fun g x F e => by
    obtain ⟨f, fd, ps, h1, h2, h3, h4⟩ := W.fns g x F e
    exact ⟨f, fd, ps, h1, h2, h3, h4.mono hk⟩, fun c F e => by
    obtain ⟨nm, fl, C, f, fd, ps, j, h1, h2, h3, h4⟩ := W.ini c F e
    exact ⟨nm, fl, C, f, fd, ps, j, h1, h2, Nat.le_trans h3 hk, h4⟩, W.cls, W.exs, W.isf, W.rai, W.exm⟩
theorem wd_add {e : Ent} (W : Wd T k P w K mg base) (X : K.In h) (G : h.Ns mainGlobals mg) (o : EntOk T e) (b : entB K e = true) (v : fnW K e.d.at_ = e.d.val) : Wd (addE T e) (k + 2) P w K mg base := by
  obtain ⟨b1, b2⟩ := ba b
  obtain ⟨fd, F⟩ := DefD.funD v b1
  have d1 : e.d.dvs K = [] := by unfold DefD.dvs; rw [o.dfl]; rfl
  have d2 : e.d.kws K = [] := by unfold DefD.kws; rw [o.kwd]; rfl
  rw [d1, d2] at F
  have hb : Binds K fd e.ps [] := FunD.bindsN F o.bind
  have kp := F.kp
  obtain ⟨oc, od, dV, kV, doc, pm, an, cdv, ct, osl, hfd, lk, hcd, hD, _⟩ := F.ex
  have hdV : dV = .none := by
    rcases hD with ⟨_, z⟩ | ⟨z, _⟩
    · exact z
    · exact absurd rfl z
  subst hfd
  have ok : FnOk P w K mg base (L2.CX P w) (k + 1) (fAd K e.d.at_) _ e.ps (spOf T.g mg (Gr.fnOf T e.ps.length e.N.length e.b)) := fnG W (by rw [hdV] at lk; exact lk) hcd o.sc rfl rfl o.chk
  have old := W.mono (k' := k + 2) (by omega)
  cases q : e.d.at_.2 with
  | none =>
    have ha : fAd K e.d.at_ = ga K e.d.at_.1 := by unfold fAd; rw [q]
    have hadd : addE T e = { T with fns := T.fns ++ [(e.d.at_.1, Gr.fnOf T e.ps.length e.N.length e.b)] } := by unfold addE; rw [q]
    rw [hadd]
    rw [q] at b2
    have hm := glo_ok X G b2
    refine ⟨old.bl, old.gi, fun g x F' eq => ?_, old.ini, old.cls, old.exs, old.isf, old.rai, old.exm⟩
    have eq : (T.fns ++ [(e.d.at_.1, Gr.fnOf T e.ps.length e.N.length e.b)])[g]? = some (x, F') := eq
    by_cases hg : g < T.fns.length
    · rw [List.getElem?_append_left hg] at eq
      exact old.fns g x F' eq
    · rw [List.getElem?_append_right (by omega)] at eq
      cases z : g - T.fns.length with
      | succ n => rw [z] at eq; simp at eq
      | zero =>
        rw [z] at eq
        cases eq
        rw [ha] at ok kp
        exact ⟨_, _, e.ps, hm, kp, by rw [hdV] at hb; exact hb, ok.mono (by omega)⟩
  | some m =>
    have oa := o.at_
    rw [q] at oa
    obtain ⟨rfl, fl, hfl⟩ := oa
    have ha : fAd K e.d.at_ = ma K (ga K e.d.at_.1) "__init__" := by unfold fAd; rw [q]
    have hadd : addE T e = { T with ini := T.ini ++ [Gr.fnOf T e.ps.length e.N.length e.b] } := by unfold addE; rw [q]
    rw [hadd]
    rw [q] at b2
    obtain ⟨b3, b4⟩ := ba b2
    have hm := glo_ok X G b3
    have hmk := mkr_ok b4
    refine ⟨old.bl, old.gi, old.fns, fun c F' eq => ?_, old.cls, old.exs, old.isf, old.rai, old.exm⟩
    have eq : (T.ini ++ [Gr.fnOf T e.ps.length e.N.length e.b])[c]? = some F' := eq
    by_cases hg : c < T.ini.length
    · rw [List.getElem?_append_left hg] at eq
      exact old.ini c F' eq
    · rw [List.getElem?_append_right (by omega)] at eq
      cases z : c - T.ini.length with
      | succ n => rw [z] at eq; simp at eq
      | zero =>
        rw [z] at eq
        cases eq
        have hc : c = T.ini.length := by omega
        subst hc
        rw [ha] at ok
        exact ⟨_, fl, _, _, _, e.ps, k + 1, hfl, hm, by omega, hmk, by rw [hdV] at hb; exact hb, ok⟩
def EntOks (T : Kit) : List Ent → Prop
  | [] => True
  | e :: es => EntOk T e ∧ EntOks (addE T e) es
theorem wd_all (X : K.In h) (G : h.Ns mainGlobals mg) : ∀ {es : List Ent} {T : Kit} {k : Nat}, Wd T k P w K mg base → EntOks T es → (∀ e ∈ es, entB K e = true ∧ fnW K e.d.at_ = e.d.val) → Wd (kitN T es) (k + 2 * es.length) P w K mg base
  | [], T, k, W, _, _ => W
  | e :: es, T, k, W, o, b => by
    obtain ⟨b1, b2⟩ := b e List.mem_cons_self
    have := wd_all X G (es := es) (wd_add W X G o.1 b1 b2) o.2 fun e' he => b e' (List.mem_cons_of_mem _ he)
    have e2 : k + 2 * (e :: es).length = k + 2 + 2 * es.length := by rw [List.length_cons]; omega
    rw [e2]
    exact this
theorem zip_all {α : Type} {l : List α} {f : α × Nat → Bool} (h : l.zipIdx.all f = true) {i : Nat} {x : α} (hx : l[i]? = some x) : f (x, i) = true := by
  refine List.all_eq_true.mp h (x, i) (List.mem_of_getElem? (i := i) ?_)
  rw [List.getElem?_zipIdx, hx]
  simp
/-- the facts that hold of no def yet -/
theorem wd_zero (X : K.In h) (G : h.Ns mainGlobals mg) (hex : ∀ n b, S.g.excTy n = some b → n = "ValueError" ∧ b = true) (b : allB S K = true) : Wd (kit0 S) 0 P w K mg base := by
  obtain ⟨b1, b⟩ := ba b
  obtain ⟨b2, b⟩ := ba b
  obtain ⟨b3, b⟩ := ba b
  obtain ⟨b4, b⟩ := ba b
  obtain ⟨b5, b⟩ := ba b
  obtain ⟨b6, b7⟩ := ba b
  obtain ⟨i1, i⟩ := ba b5
  obtain ⟨i2, i3⟩ := ba i
  have glo : ∀ {e : Nat} {nm : Str}, S.g.exs[e]? = some nm → mg nm = some (.ref (ga K nm)) := fun {e nm} h1 => by
    have q := List.all_eq_true.mp b4 nm (List.mem_of_getElem? h1)
    exact glo_ok X G (ba q).1
  have same : ∀ {e : Nat} {nm : Str} {C : Addr}, S.g.exs[e]? = some nm → mg nm = some (.ref C) → C = ga K nm := fun {e nm C} h1 h2 => by
    rw [glo h1] at h2
    cases h2
    rfl
  refine ⟨fun x hx => free_ok X G (List.all_eq_true.mp b1 x hx), fun p hp => ?_, fun g x F e => (by cases e), fun c F e => (by cases e), fun c nm fl e => ?_, fun e nm h1 => ?_, ⟨fun e c nm nm' C C' h1 h2 h3 h4 => ?_, fun e n b nm C h1 h2 h3 => ?_, fun c nm C h1 h2 t ht => ?_⟩, fun e he nm C h1 h2 => ?_, fun e c nm nm' C C' h1 h2 h3 h4 => ?_⟩
  · obtain ⟨t, q⟩ := int_ok X G (List.all_eq_true.mp b2 p hp)
    exact ⟨_, q, t, rfl⟩
  · obtain ⟨c1, c⟩ := ba (List.all_eq_true.mp b3 (nm, fl) (List.mem_of_getElem? e))
    obtain ⟨c2, c⟩ := ba c
    obtain ⟨c3, c4⟩ := ba c
    exact ⟨ga K nm, glo_ok X G c1, cls_ok c2, fun f hf => noat_ok (List.all_eq_true.mp c3 f hf), of_decide_eq_true c4⟩
  · obtain ⟨c1, c⟩ := ba (List.all_eq_true.mp b4 nm (List.mem_of_getElem? h1))
    obtain ⟨c2, c⟩ := ba c
    obtain ⟨c3, c⟩ := ba c
    obtain ⟨c4, c⟩ := ba c
    obtain ⟨c5, c⟩ := ba c
    obtain ⟨c6, c⟩ := ba c
    obtain ⟨c7, c⟩ := ba c
    obtain ⟨c8, c9⟩ := ba c
    exact ⟨ga K nm, glo_ok X G c1, ⟨eqO_ok c2, eqO_ok c3, of_decide_eq_true c4, c5, eqO_ok c6, eqO_ok c7, of_decide_eq_true c8, of_decide_eq_true c9⟩⟩
  · rw [same h1 h2, same h3 h4]
    exact of_decide_eq_true (ba (zip_all (zip_all i1 h1) h3)).1
  · obtain ⟨rfl, rfl⟩ := hex n b h3
    rw [same h1 h2]
    exact of_decide_eq_true (List.all_eq_true.mp i2 nm (List.mem_of_getElem? h1))
  · rw [same h1 h2]
    exact of_decide_eq_true (List.all_eq_true.mp (List.all_eq_true.mp i3 nm (List.mem_of_getElem? h1)) t ht)
  · rw [same h1 h2]
    have q := List.all_eq_true.mp b6 e he
    have h1' : S.g.exs[e]? = some nm := h1
    rw [h1'] at q
    obtain ⟨c1, c2, c3, c4⟩ := exc_ok q
    exact ⟨⟨_, _, _, _, PySem.F.excBase_ValueError, c1⟩, c2, c3, c4⟩
  · rw [same h1 h2, same h3 h4]
    exact of_decide_eq_true (ba (zip_all (zip_all i1 h1) h3)).2
/-! ### the law's end -/
theorem rpA_ints {H : Hp} : ∀ ns : List Int, RpA H (ns.map V.int) (ns.map PyData.int)
  | [] => .nil
  | n :: ns => .cons (.int n) (rpA_ints ns)
/-- the script, as the law has it -/
abbrev scr (ns : List Int) : C := .bor (.py (.list (ns.map PyData.int)))
theorem law_sp {n : Nat} {F : Fn} (hL : ∀ a o, K.lookup a = some o → notL o = true) (hF : ∀ ns : List Int, ns.length ≤ n → F [scr ns] = .ok (bool true) []) (H : Hp) (a : Addr) (ns : List Int) (hn : ns.length ≤ n) (hS : SqL K H a (ns.map V.int)) :
    spOf T.g mg F [.ref a] H (fun v _ => v = .bl true) fun _ _ _ => False := by
  have hr : Rd H a (.lst (ns.map V.int)) := by
    rcases hS with hS | ⟨o, its, m, h1, h2, _⟩
    · exact hS
    · have := hL a o h1
      unfold notL at this
      rw [h2] at this
      cases this
  refine ⟨[scr ns], fun _ => none, H, fun _ => none, ⟨rfl, fun _ _ z => z, fun _ _ z => (by cases z), fun _ _ z => z, fun _ _ z => (by cases z), fun _ _ z => z, fun _ _ z => (by cases z), fun _ _ z => (by cases z), fun i j z => ?_, fun k v c e => ?_, fun p hp => (by cases hp)⟩, fun c hc => ?_, ?_⟩
  · cases i with
    | zero => cases z
    | succ i => simp at z
  · cases k with
    | inr j => have e : ([] : List Cell)[j]? = some (v, c) := e; simp at e
    | inl i =>
      obtain ⟨e1, e2⟩ := cel_inl.mp e
      cases i with
      | succ i => simp at e2
      | zero =>
        cases e1
        cases e2
        exact ⟨_, rfl, Rp.lst hr (rpA_ints ns)⟩
  · have := List.mem_singleton.mp hc
    subst this
    rfl
  · rw [hF ns hn]
    intro v H' ow' G' B' _ S'
    obtain ⟨u, e, r⟩ := S'.rel (.inr 0) (some v) (bool true) rfl
    cases e
    have r : Rp G' v (.bool true) := r
    exact r.blV
/-- what walk_ofE asks -/
theorem law_of {es : List Ent} {eL : Ent} {x : Str} {n : Nat} {fa : Addr} (hes : S.es = es ++ [eL]) (hx : eL.ps = [x]) (hat : eL.d.at_.2 = none) (hex : ∀ n b, S.g.excTy n = some b → n = "ValueError" ∧ b = true) (ho : EntOks (kit0 S) es) (hl : EntOk (kitN (kit0 S) es) eL)
    (hF : ∀ ns : List Int, ns.length ≤ n → Gr.fnOf (kitN (kit0 S) es) eL.ps.length eL.N.length eL.b [scr ns] = .ok (bool true) [])
    (X : K.In h) (c : SaysS S K) (G : h.Ns mainGlobals mg) (hfa : mg eL.d.at_.1 = some (.ref fa)) :
    ∃ (fd : FuncData) (sp : Sp), (∀ (s : Shared) (u : Value), BindsTo s fd ⟨[u], []⟩ [(x, u)]) ∧
      (∀ (H : Hp) (a : Addr) (ns : List Int), ns.length ≤ n → Only H → SqL K H a (ns.map V.int) → sp [.ref a] H (fun v _ => v = .bl true) fun _ _ _ => False) ∧
      ∀ base : Heap, K.In base → base.Ns mainGlobals mg → FnOk P w K mg base (L2.CX P w) (2 * es.length + 1) fa fd [x] sp := by
  obtain ⟨c, cl⟩ := c
  have c1 : allB S K = true := congrArg (fun z : AlG => z.1) c
  have c2 : (S.es.map fun e => fnW K e.d.at_) = S.es.map fun e => e.d.val := congrArg (fun z : AlG => z.2) c
  have ents : ∀ e ∈ S.es, entB K e = true ∧ fnW K e.d.at_ = e.d.val := fun e he => by
    obtain ⟨_, b⟩ := ba c1
    obtain ⟨_, b⟩ := ba b
    obtain ⟨_, b⟩ := ba b
    obtain ⟨_, b⟩ := ba b
    obtain ⟨_, b⟩ := ba b
    obtain ⟨_, b⟩ := ba b
    refine ⟨List.all_eq_true.mp b e he, ?_⟩
    obtain ⟨i, hi⟩ := List.getElem?_of_mem he
    have e2 : (S.es.map fun e => fnW K e.d.at_)[i]? = (S.es.map fun e => e.d.val)[i]? := by rw [c2]
    rw [List.getElem?_map, List.getElem?_map, hi] at e2
    exact Option.some.inj e2
  obtain ⟨l1, l2⟩ := ents eL (by rw [hes]; simp)
  obtain ⟨b1, b2⟩ := ba l1
  obtain ⟨fd, F⟩ := DefD.funD l2 b1
  have d1 : eL.d.dvs K = [] := by unfold DefD.dvs; rw [hl.dfl]; rfl
  have d2 : eL.d.kws K = [] := by unfold DefD.kws; rw [hl.kwd]; rfl
  rw [d1, d2] at F
  rw [hat] at b2
  have hm := glo_ok X G b2
  have ha : fAd K eL.d.at_ = ga K eL.d.at_.1 := by unfold fAd; rw [hat]
  rw [hm] at hfa
  cases hfa
  refine ⟨fd, spOf S.g mg (Gr.fnOf (kitN (kit0 S) es) eL.ps.length eL.N.length eL.b), fun s u => ?_, fun H a ns hn _ hS => law_sp (T := kit0 S) cl hF H a ns hn hS, fun base _ _ => ?_⟩
  · have := FunD.bindsA F hl.bind s [u] (by rw [hx]; rfl)
    rw [hx] at this
    exact this
  · have W := wd_all (P := P) (w := w) (base := base) X G (wd_zero X G hex c1) ho fun e he => ents e (by rw [hes]; exact List.mem_append_left _ he)
    obtain ⟨oc, od, dV, kV, doc, pm, an, cdv, ct, osl, hfd, lk, hcd, hD, _⟩ := F.ex
    have hdV : dV = .none := by
      rcases hD with ⟨_, z⟩ | ⟨z, _⟩
      · exact z
      · exact absurd rfl z
    subst hfd
    rw [ha] at lk
    have ok := fnG W (by rw [hdV] at lk; exact lk) hcd hl.sc rfl rfl hl.chk
    have e0 : 0 + 2 * es.length + 1 = 2 * es.length + 1 := by omega
    rw [e0] at ok
    have eg : (kitN (kit0 S) es).g = S.g := by
      have : ∀ (es : List Ent) (T : Kit), (kitN T es).g = T.g := fun es => by
        induction es with
        | nil => exact fun _ => rfl
        | cons e es ih =>
          intro T
          show (kitN (addE T e) es).g = T.g
          rw [ih]
          unfold addE
          split <;> rfl
      exact this es _
    rw [eg, hx] at ok
    rw [hdV, hx]
    exact ok
theorem cx_no {H : Hp} {s : Shared} {e : Value} {s' : Shared} (h : L2.CX P w [] H s (fun _ _ _ => False) e s') : False := by
  obtain ⟨_, _, _, _, _, _, _, _, _, _, _, _, z⟩ := h
  exact z
end
/-- the walk of a law, what leaves a def told over its world -/
theorem walk_ofW {l : PySem.W.OpenLaw} {n k : Nat} {q : Program} {loose : List Str} {XP : (Str → Option Value) → Heap → Prop} {YP : World → Heap → Prop} {d : DefRec} {x : Str}
    (hn : l.most = some n) (hn2 : n ≤ sizeLine) (hdf : d.params.defaults = []) (hr : Room k callerA)
    (F : ∀ (w : World) (mg : Str → Option Value) (fa : Addr) (h : Heap), YP w h → h.Ns mainGlobals mg → mg d.name = some (.ref fa) →
      ∃ (K : PySem.W.Frag) (fd : FuncData) (sp : Sp), K.In h ∧ (∀ (s : Shared) (u : Value), BindsTo s fd ⟨[u], []⟩ [(x, u)]) ∧
        (∀ (H : Hp) (a : Addr) (ns : List Int), ns.length ≤ n → Only H → SqL K H a (ns.map V.int) → sp [.ref a] H (fun v _ => v = .bl true) fun _ _ _ => False) ∧
        ∀ base : Heap, K.In base → base.Ns mainGlobals mg → FnOk l.prog w K mg base (L2.CX l.prog w) k fa fd [x] sp) :
    PySem.W.WalkO q loose XP YP l.row.toRowW d [] (fun f vs => PySem.call f vs) := by
  refine Att.attach_call hn hdf fun w s₀ s₁ mg mb fa o pm cd doc a vs ns G Y ho hd hcd hmg hobj hints hlen hg => ?_
  obtain ⟨K, fd, sp, KX, hb, hsp, hF⟩ := F w mg fa _ Y G.T.g hmg
  exact law_call KX G.T.g G.T.b G.T.builtins G.T.nolimit hg hobj hints (Nat.le_trans hlen hn2) hr hF hb (fun H hO hS => hsp H a ns hlen hO hS) fun H e s' z => cx_no z
end Gr

set_option Elab.async false
set_option linter.all false
set_option maxRecDepth 100000
set_option maxHeartbeats 4000000
/-! Gr U: the evaluator's rows, for the maths. -/
namespace Gr
open PySem L2
/-- a range's guard, that nothing opens -/
noncomputable def rgO (i j : Int) : Bool := @decide (rgOk i j = true) (Classical.propDecidable _)
theorem rgO_eq (i j : Int) : rgO i j = rgOk i j := by
  unfold rgO
  cases h : rgOk i j with
  | true => exact @decide_eq_true _ (Classical.propDecidable _) rfl
  | false => exact @decide_eq_false _ (Classical.propDecidable _) (fun z => by cases z)
theorem rgO_of {i j : Int} (h : -4000000000000000000 ≤ i ∧ i ≤ 4000000000000000000 ∧ -4000000000000000000 ≤ j ∧ j ≤ 4000000000000000000) : rgO i j = true := by
  rw [rgO_eq]
  unfold rgOk
  rw [decide_eq_true_eq]
  omega
/-- a thing that nothing opens -/
noncomputable def opq {α : Type} (a : α) : α := Classical.choose (⟨a, rfl⟩ : ∃ x, x = a)
theorem opq_eq {α : Type} (a : α) : opq a = a := Classical.choose_spec (⟨a, rfl⟩ : ∃ x, x = a)
noncomputable def xev (K : Kit) : E → List C → RE := opq (ev K)
theorem xev_eq (K : Kit) : xev K = ev K := opq_eq _
noncomputable def xevs (K : Kit) : Es → List C → RL := opq (evs K)
theorem xevs_eq (K : Kit) : xevs K = evs K := opq_eq _
noncomputable def xevP (K : Kit) : Oe → List C → (Option Int → List C → RE) → RE := opq (evP K)
theorem xevP_eq (K : Kit) : xevP K = evP K := opq_eq _
noncomputable def xevR (K : Kit) : Rg → List C → (Int → Int → List C → RE) → RE := opq (evR K)
theorem xevR_eq (K : Kit) : xevR K = evR K := opq_eq _
noncomputable def xevC (K : Kit) : Oe → List C → RE := opq (evC K)
theorem xevC_eq (K : Kit) : xevC K = evC K := opq_eq _
noncomputable def xevI (K : Kit) : It → List C → RI := opq (evI K)
theorem xevI_eq (K : Kit) : xevI K = evI K := opq_eq _
noncomputable def xrun (K : Kit) (fx : List Nat) : S → List C → RS := opq (Gr.run K fx)
theorem xrun_eq (K : Kit) (fx : List Nat) : xrun K fx = Gr.run K fx := opq_eq _
noncomputable def xruns (K : Kit) (fx : List Nat) : Ss → List C → RS := opq (Gr.runs K fx)
theorem xruns_eq (K : Kit) (fx : List Nat) : xruns K fx = Gr.runs K fx := opq_eq _
theorem fnOf_x (K : Kit) (np n : Nat) (b : Ss) (cs : List C) : Gr.fnOf K np n b cs = if cs.length = np then
    match xruns K (ownIx 0 cs) b (cs ++ List.replicate (n - np) .und) with
    | .next ρ => .ok nonC (outsOf cs ρ)
    | .ret c ρ => .ok c (outsOf cs ρ)
    | .err n _ => .err n
    | _ => .stuck
  else .stuck := by rw [xruns_eq]; rfl
section
variable {K : Kit} {fx : List Nat} {ρ : List C} {c : C} {n : Nat} {cs : List C}
@[simp] theorem toRS_ok {k : C → List C → RS} : (RE.ok c ρ).toRS k = k c ρ := id rfl
@[simp] theorem toRS_err {k : C → List C → RS} : (RE.err n ρ).toRS k = .err n ρ := id rfl
@[simp] theorem toRSL_ok {k : List C → List C → RS} : (RL.ok cs ρ).toRS k = k cs ρ := id rfl
@[simp] theorem toRSL_err {k : List C → List C → RS} : (RL.err n ρ).toRS k = .err n ρ := id rfl
@[simp] theorem bind_ok {k : C → List C → RE} : (RE.ok c ρ).bind k = k c ρ := id rfl
@[simp] theorem bind_err {k : C → List C → RE} : (RE.err n ρ).bind k = .err n ρ := id rfl
@[simp] theorem bindL_ok {k : List C → List C → RE} : (RL.ok cs ρ).bind k = k cs ρ := id rfl
@[simp] theorem bindL_err {k : List C → List C → RE} : (RL.err n ρ).bind k = .err n ρ := id rfl
@[simp] theorem toRI_ok {k : C → List C → RI} : (RE.ok c ρ).toRI k = k c ρ := id rfl
@[simp] theorem toRI_err {k : C → List C → RI} : (RE.err n ρ).toRI k = .err n ρ := id rfl
@[simp] theorem ev_v {i : Nat} : xev K (.v i) ρ = (match ρ[i]? with
    | some (.fro x) => .ok (.fro x) ρ
    | some (.bor x) => .ok (.bor x) ρ
    | some (.own _) => .ok (.pk i) ρ
    | some (.lkd _) => .ok (.pk i) ρ
    | some (.exc n) => .ok (.exc n) ρ
    | _ => .stuck) := by simp only [xev_eq, xevs_eq, xevP_eq, xevR_eq, xevC_eq, xevI_eq, xrun_eq, xruns_eq]; unfold ev; rfl
@[simp] theorem ev_int {i : Int} : xev K (.int i) ρ = .ok (.fro (.py (.int i))) ρ := by simp only [xev_eq, xevs_eq, xevP_eq, xevR_eq, xevC_eq, xevI_eq, xrun_eq, xruns_eq]; unfold ev; rfl
@[simp] theorem ev_bl {b : Bool} : xev K (.bl b) ρ = .ok (.fro (.py (.bool b))) ρ := by simp only [xev_eq, xevs_eq, xevP_eq, xevR_eq, xevC_eq, xevI_eq, xrun_eq, xruns_eq]; unfold ev; rfl
@[simp] theorem ev_non : xev K .non ρ = .ok (.fro (.py .none)) ρ := by simp only [xev_eq, xevs_eq, xevP_eq, xevR_eq, xevC_eq, xevI_eq, xrun_eq, xruns_eq]; unfold ev; rfl
@[simp] theorem ev_str {s : Str} : xev K (.str s) ρ = .ok (.fro (.py (.str s))) ρ := by simp only [xev_eq, xevs_eq, xevP_eq, xevR_eq, xevC_eq, xevI_eq, xrun_eq, xruns_eq]; unfold ev; rfl
@[simp] theorem ev_gint {x : Str} {i : Int} : xev K (.gint x i) ρ = .ok (.fro (.py (.int i))) ρ := by simp only [xev_eq, xevs_eq, xevP_eq, xevR_eq, xevC_eq, xevI_eq, xrun_eq, xruns_eq]; unfold ev; rfl
@[simp] theorem ev_neg {a : E} : xev K (.neg a) ρ = ((xev K a ρ).bind fun c ρ => match see ρ c with
    | some (.int i) => .ok (num (-i)) ρ
    | _ => .stuck) := by simp only [xev_eq, xevs_eq, xevP_eq, xevR_eq, xevC_eq, xevI_eq, xrun_eq, xruns_eq]; rw [ev]; try rfl
@[simp] theorem ev_op {o : Op} {a b : E} : xev K (.op o a b) ρ = ((xev K a ρ).bind fun c ρ => (xev K b ρ).bind fun c' ρ => match see ρ c, see ρ c' with
    | some d, some e => match opC o d e with
      | some r => match r with
        | .own (.py (.list ds)) => if clear c ds && clear c' ds then .ok r ρ else .stuck
        | .fro (.py (.tuple ds)) => .ok (if isBor c || isBor c' then .bor (.py (.tuple ds)) else .fro (.py (.tuple ds))) ρ
        | r => .ok r ρ
      | none => .stuck
    | _, _ => .stuck) := by simp only [xev_eq, xevs_eq, xevP_eq, xevR_eq, xevC_eq, xevI_eq, xrun_eq, xruns_eq]; rw [ev]; try rfl
@[simp] theorem ev_cm {o : Cm} {a b : E} : xev K (.cm o a b) ρ = ((xev K a ρ).bind fun c ρ => (xev K b ρ).bind fun c' ρ => match cmR ρ o c c' with
    | some b => .ok (bool b) ρ
    | none => .stuck) := by simp only [xev_eq, xevs_eq, xevP_eq, xevR_eq, xevC_eq, xevI_eq, xrun_eq, xruns_eq]; rw [ev]; try rfl
@[simp] theorem ev_isn {neg : Bool} {a : E} : xev K (.isn neg a) ρ = ((xev K a ρ).bind fun c ρ => match isnC neg ρ c with
    | some b => .ok (bool b) ρ
    | none => .stuck) := by simp only [xev_eq, xevs_eq, xevP_eq, xevR_eq, xevC_eq, xevI_eq, xrun_eq, xruns_eq]; rw [ev]; try rfl
@[simp] theorem ev_chn {o p : Cm} {a b d : E} : xev K (.chn o p a b d) ρ = ((xev K a ρ).bind fun c ρ => (xev K b ρ).bind fun c' ρ => match cmR ρ o c c' with
    | some false => .ok (bool false) ρ
    | some true => (xev K d ρ).bind fun c2 ρ => match cmR ρ p c' c2 with
      | some b => .ok (bool b) ρ
      | none => .stuck
    | none => .stuck) := by simp only [xev_eq, xevs_eq, xevP_eq, xevR_eq, xevC_eq, xevI_eq, xrun_eq, xruns_eq]; rw [ev]; try rfl
@[simp] theorem ev_and {a b : E} : xev K (.and a b) ρ = ((xev K a ρ).bind fun c ρ => match c with
    | .fro (.py (.bool true)) => xev K b ρ
    | .fro (.py (.bool false)) => .ok (bool false) ρ
    | _ => .stuck) := by simp only [xev_eq, xevs_eq, xevP_eq, xevR_eq, xevC_eq, xevI_eq, xrun_eq, xruns_eq]; rw [ev]; try rfl
@[simp] theorem ev_or {a b : E} : xev K (.or a b) ρ = ((xev K a ρ).bind fun c ρ => match c with
    | .fro (.py (.bool true)) => .ok (bool true) ρ
    | .fro (.py (.bool false)) => xev K b ρ
    | _ => .stuck) := by simp only [xev_eq, xevs_eq, xevP_eq, xevR_eq, xevC_eq, xevI_eq, xrun_eq, xruns_eq]; rw [ev]; try rfl
@[simp] theorem ev_not {a : E} : xev K (.not a) ρ = ((xev K a ρ).bind fun c ρ => match c with
    | .fro (.py (.bool b)) => .ok (bool (!b)) ρ
    | _ => .stuck) := by simp only [xev_eq, xevs_eq, xevP_eq, xevR_eq, xevC_eq, xevI_eq, xrun_eq, xruns_eq]; rw [ev]; try rfl
@[simp] theorem ev_ix {a b : E} : xev K (.ix a b) ρ = ((xev K a ρ).bind fun c ρ => (xev K b ρ).bind fun c' ρ => match ixC ρ c c' with
    | some r => .ok r ρ
    | none => .stuck) := by simp only [xev_eq, xevs_eq, xevP_eq, xevR_eq, xevC_eq, xevI_eq, xrun_eq, xruns_eq]; rw [ev]; try rfl
@[simp] theorem ev_sl {a : E} {lo hi : Oe} : xev K (.sl a lo hi) ρ = ((xev K a ρ).bind fun c ρ => xevP K lo ρ fun l ρ => xevP K hi ρ fun h ρ => match slC ρ c l h with
    | some r => .ok r ρ
    | none => .stuck) := by simp only [xev_eq, xevs_eq, xevP_eq, xevR_eq, xevC_eq, xevI_eq, xrun_eq, xruns_eq]; rw [ev]; try rfl
@[simp] theorem ev_sls {a : E} {lo hi st : Oe} : xev K (.sls a lo hi st) ρ = ((xev K a ρ).bind fun c ρ => xevP K lo ρ fun l ρ => xevP K hi ρ fun h ρ => xevP K st ρ fun k ρ => match slS ρ c l h k with
    | some r => .ok r ρ
    | none => .stuck) := by simp only [xev_eq, xevs_eq, xevP_eq, xevR_eq, xevC_eq, xevI_eq, xrun_eq, xruns_eq]; rw [ev]; try rfl
@[simp] theorem ev_tup {es : Es} : xev K (.tup es) ρ = ((xevs K es ρ).bind fun cs ρ => match fzDs ρ cs with
    | some (ds, ρ) => .ok (.fro (.py (.tuple ds))) ρ
    | none => .stuck) := by simp only [xev_eq, xevs_eq, xevP_eq, xevR_eq, xevC_eq, xevI_eq, xrun_eq, xruns_eq]; rw [ev]; try rfl
@[simp] theorem ev_lst {es : Es} : xev K (.lst es) ρ = ((xevs K es ρ).bind fun cs ρ => match fzDs ρ cs with
    | some (ds, ρ) => .ok (.own (.py (.list ds))) ρ
    | none => .stuck) := by simp only [xev_eq, xevs_eq, xevP_eq, xevR_eq, xevC_eq, xevI_eq, xrun_eq, xruns_eq]; rw [ev]; try rfl
@[simp] theorem ev_bi {b : Bi} {es : Es} : xev K (.bi b es) ρ = ((xevs K es ρ).bind fun cs ρ => match biC ρ b cs with
    | some r => .ok r ρ
    | none => .stuck) := by simp only [xev_eq, xevs_eq, xevP_eq, xevR_eq, xevC_eq, xevI_eq, xrun_eq, xruns_eq]; rw [ev]; try rfl
@[simp] theorem ev_rng {tu : Bool} {r : Rg} : xev K (.rng tu r) ρ = (xevR K r ρ fun i j ρ => if rgO i j && decide ((j - i).toNat ≤ line) then .ok (if tu then .fro (.py (.tuple (rgD i j))) else .own (.py (.list (rgD i j)))) ρ else .stuck) := by simp only [xev_eq, xevs_eq, xevP_eq, xevR_eq, xevC_eq, xevI_eq, xrun_eq, xruns_eq]; rw [ev]; simp only [rgO_eq]
@[simp] theorem ev_trev {a : E} : xev K (.trev a) ρ = ((xev K a ρ).bind fun c ρ => match see ρ c with
    | some (.list ds) => if clear c ds then .ok (.fro (.py (.tuple ds.reverse))) ρ else .stuck
    | _ => .stuck) := by simp only [xev_eq, xevs_eq, xevP_eq, xevR_eq, xevC_eq, xevI_eq, xrun_eq, xruns_eq]; rw [ev]; try rfl
@[simp] theorem ev_frz {a : E} : xev K (.frz a) ρ = ((xev K a ρ).bind fun c ρ => match fz ρ c with
    | some (x, ρ) => .ok (.fro x) ρ
    | none => .stuck) := by simp only [xev_eq, xevs_eq, xevP_eq, xevR_eq, xevC_eq, xevI_eq, xrun_eq, xruns_eq]; rw [ev]; try rfl
@[simp] theorem ev_lens {a : E} : xev K (.lens a) ρ = ((xev K a ρ).bind fun c ρ => match lensC ρ c with
    | some r => .ok r ρ
    | none => .stuck) := by simp only [xev_eq, xevs_eq, xevP_eq, xevR_eq, xevC_eq, xevI_eq, xrun_eq, xruns_eq]; rw [ev]; try rfl
@[simp] theorem ev_disp {a b : E} : xev K (.disp a b) ρ = ((xev K a ρ).bind fun c ρ => (xev K b ρ).bind fun c' ρ => match dispC ρ c c' with
    | some kvs => .ok (.own (.dik kvs)) ρ
    | none => .stuck) := by simp only [xev_eq, xevs_eq, xevP_eq, xevR_eq, xevC_eq, xevI_eq, xrun_eq, xruns_eq]; rw [ev]; try rfl
@[simp] theorem ev_dnew {t : Bool} : xev K (.dnew t) ρ = (.ok (.own (if t then .dit [] else .dik [])) ρ) := by simp only [xev_eq, xevs_eq, xevP_eq, xevR_eq, xevC_eq, xevI_eq, xrun_eq, xruns_eq]; rw [ev]; try rfl
@[simp] theorem ev_call {g : Nat} {ms : List Nat} {es : Es} : xev K (.call g ms es) ρ = ((xevs K es ρ).bind fun cs ρ => match K.fns[g]? with
    | some (_, F) => callR F ms cs ρ
    | none => .stuck) := by simp only [xev_eq, xevs_eq, xevP_eq, xevR_eq, xevC_eq, xevI_eq, xrun_eq, xruns_eq]; rw [ev]; try rfl
@[simp] theorem ev_mk {k : Nat} {ms : List Nat} {es : Es} : xev K (.mk k ms es) ρ = ((xevs K es ρ).bind fun cs ρ => match K.ini[k]? with
    | some F => mkR F k ms cs ρ
    | none => .stuck) := by simp only [xev_eq, xevs_eq, xevP_eq, xevR_eq, xevC_eq, xevI_eq, xrun_eq, xruns_eq]; rw [ev]; try rfl
@[simp] theorem ev_fld {a : E} {k j : Nat} : xev K (.fld a k j) ρ = ((xev K a ρ).bind fun c ρ => match look ρ c with
    | some (.obj k' fs) => if k' = k then match fs[j]? with
      | some d => .ok (itemC c d) ρ
      | none => .stuck else .stuck
    | _ => .stuck) := by simp only [xev_eq, xevs_eq, xevP_eq, xevR_eq, xevC_eq, xevI_eq, xrun_eq, xruns_eq]; rw [ev]; try rfl
@[simp] theorem ev_isi {o : Bool} {a : E} {cs : List Cl} : xev K (.isi o a cs) ρ = ((xev K a ρ).bind fun c ρ => match isiC K.g ρ c cs with
    | some b => .ok (bool b) ρ
    | none => .stuck) := by simp only [xev_eq, xevs_eq, xevP_eq, xevR_eq, xevC_eq, xevI_eq, xrun_eq, xruns_eq]; rw [ev]; try rfl
@[simp] theorem evs_nil : xevs K .nil ρ = .ok [] ρ := by simp only [xev_eq, xevs_eq, xevP_eq, xevR_eq, xevC_eq, xevI_eq, xrun_eq, xruns_eq]; unfold evs; rfl
@[simp] theorem evs_cons {e : E} {es : Es} : xevs K (.cons e es) ρ = (match xev K e ρ with
    | .ok c ρ => match xevs K es ρ with
      | .ok cs ρ => .ok (c :: cs) ρ
      | r => r
    | .err n ρ => .err n ρ
    | .stuck => .stuck) := by simp only [xev_eq, xevs_eq, xevP_eq, xevR_eq, xevC_eq, xevI_eq, xrun_eq, xruns_eq]; rw [evs]; try rfl
@[simp] theorem runs_nil : xruns K fx .nil ρ = .next ρ := by simp only [xev_eq, xevs_eq, xevP_eq, xevR_eq, xevC_eq, xevI_eq, xrun_eq, xruns_eq]; unfold runs; rfl
@[simp] theorem runs_cons {s : S} {ss : Ss} : xruns K fx (.cons s ss) ρ = (match xrun K fx s ρ with
    | .next ρ => xruns K fx ss ρ
    | r => r) := by simp only [xev_eq, xevs_eq, xevP_eq, xevR_eq, xevC_eq, xevI_eq, xrun_eq, xruns_eq]; rw [runs]; try rfl
theorem runs_gh {fr wp : List Nat} {ss : Ss} : xruns K fx (.gh fr wp ss) ρ = xruns K fx ss (ghost ρ fr wp) := by simp only [xruns_eq]; rw [runs]
@[simp] theorem run_set {i : Nat} {e : E} : xrun K fx (.set i e) ρ = ((xev K e ρ).toRS fun c ρ => match lay ρ c with
    | some (c, ρ) => match setN fx ρ i c with
      | some ρ => .next ρ
      | none => .stuck
    | none => .stuck) := by simp only [xev_eq, xevs_eq, xevP_eq, xevR_eq, xevC_eq, xevI_eq, xrun_eq, xruns_eq]; rw [run]; try rfl
@[simp] theorem run_setT {is : List Nat} {e : E} : xrun K fx (.setT is e) ρ = ((xev K e ρ).toRS fun c ρ => match setTg fx ρ (.tup is) c with
    | some ρ => .next ρ
    | none => .stuck) := by simp only [xev_eq, xevs_eq, xevP_eq, xevR_eq, xevC_eq, xevI_eq, xrun_eq, xruns_eq]; rw [run]; try rfl
@[simp] theorem run_aug {i : Nat} {o : Op} {e : E} : xrun K fx (.aug i o e) ρ = (match see ρ (ρ[i]?.getD .und) with
    | some (.int a) => (xev K e ρ).toRS fun c ρ => match augC o a (see ρ c) with
      | some r => match setN fx ρ i (num r) with
        | some ρ => .next ρ
        | none => .stuck
      | none => .stuck
    | _ => .stuck) := by simp only [xev_eq, xevs_eq, xevP_eq, xevR_eq, xevC_eq, xevI_eq, xrun_eq, xruns_eq]; rw [run]; try rfl
@[simp] theorem run_setI {i : Nat} {k e : E} : xrun K fx (.setI i k e) ρ = ((xev K e ρ).toRS fun c ρ => match fzD ρ c with
    | some (d, ρ) => if isOwn ρ i then (xev K k ρ).toRS fun c' ρ => match fzD ρ c' with
      | some (kd, ρ) => match mutC ρ i (setIX kd d) with
        | some ρ => .next ρ
        | none => .stuck
      | none => .stuck
      else .stuck
    | none => .stuck) := by simp only [xev_eq, xevs_eq, xevP_eq, xevR_eq, xevC_eq, xevI_eq, xrun_eq, xruns_eq]; rw [run]; try rfl
@[simp] theorem run_setF {i c j : Nat} {e : E} : xrun K fx (.setF i c j e) ρ = ((xev K e ρ).toRS fun c' ρ => match fzD ρ c' with
    | some (d, ρ) => match mutC ρ i (setFX c j d) with
      | some ρ => .next ρ
      | none => .stuck
    | none => .stuck) := by simp only [xev_eq, xevs_eq, xevP_eq, xevR_eq, xevC_eq, xevI_eq, xrun_eq, xruns_eq]; rw [run]; try rfl
@[simp] theorem run_mt {i : Nat} {m : Mt} {es : Es} : xrun K fx (.mt i m es) ρ = (if isOwnL ρ i then (xevs K es ρ).toRS fun cs ρ => match fzDs ρ cs with
    | some (ds, ρ) => match mutC ρ i (mtX m ds) with
      | some ρ => .next ρ
      | none => .stuck
    | none => .stuck
    else .stuck) := by simp only [xev_eq, xevs_eq, xevP_eq, xevR_eq, xevC_eq, xevI_eq, xrun_eq, xruns_eq]; rw [run]; try rfl
@[simp] theorem run_ex {e : E} : xrun K fx (.ex e) ρ = ((xev K e ρ).toRS fun _ ρ => .next ρ) := by simp only [xev_eq, xevs_eq, xevP_eq, xevR_eq, xevC_eq, xevI_eq, xrun_eq, xruns_eq]; rw [run]; try rfl
@[simp] theorem run_ife {c : E} {a b : Ss} : xrun K fx (.ife c a b) ρ = ((xev K c ρ).toRS fun c ρ => match c with
    | .fro (.py (.bool true)) => xruns K fx a ρ
    | .fro (.py (.bool false)) => xruns K fx b ρ
    | _ => .stuck) := by simp only [xev_eq, xevs_eq, xevP_eq, xevR_eq, xevC_eq, xevI_eq, xrun_eq, xruns_eq]; rw [run]; try rfl
@[simp] theorem run_ret {e : E} : xrun K fx (.ret e) ρ = ((xev K e ρ).toRS fun c ρ => match retC ρ c with
    | some (c, ρ) => .ret c ρ
    | none => .stuck) := by simp only [xev_eq, xevs_eq, xevP_eq, xevR_eq, xevC_eq, xevI_eq, xrun_eq, xruns_eq]; rw [run]; try rfl
@[simp] theorem run_retN  : xrun K fx .retN ρ = (.ret nonC ρ) := by simp only [xev_eq, xevs_eq, xevP_eq, xevR_eq, xevC_eq, xevI_eq, xrun_eq, xruns_eq]; rw [run]; try rfl
@[simp] theorem run_rais {n : Nat} : xrun K fx (.rais n) ρ = (.err n ρ) := by simp only [xev_eq, xevs_eq, xevP_eq, xevR_eq, xevC_eq, xevI_eq, xrun_eq, xruns_eq]; rw [run]; try rfl
@[simp] theorem run_tryK {body : Ss} {n i j : Nat} : xrun K fx (.tryK body n i j) ρ = (match xruns K fx body ρ with
    | .err m ρ => if K.g.sup m n then (match setN fx ρ i (.exc m) with
      | some ρ => match setN fx ρ j (.exc m) with
        | some ρ => .next (ρ.set i .und)
        | none => .stuck
      | none => .stuck) else .err m ρ
    | r => r) := by simp only [xev_eq, xevs_eq, xevP_eq, xevR_eq, xevC_eq, xevI_eq, xrun_eq, xruns_eq]; rw [run]; try rfl
@[simp] theorem run_pass  : xrun K fx .pass ρ = (.next ρ) := by simp only [xev_eq, xevs_eq, xevP_eq, xevR_eq, xevC_eq, xevI_eq, xrun_eq, xruns_eq]; rw [run]; try rfl
@[simp] theorem run_ext {i : Nat} {es : Es} : xrun K fx (.ext i es) ρ = (if isOwnL ρ i then (xevs K es ρ).toRS fun cs ρ => match extA ρ cs with
    | some ys => match mutC ρ i (extX ys) with
      | some ρ => .next ρ
      | none => .stuck
    | none => .stuck
    else .stuck) := by simp only [xev_eq, xevs_eq, xevP_eq, xevR_eq, xevC_eq, xevI_eq, xrun_eq, xruns_eq]; rw [run]; try rfl
@[simp] theorem run_tryA {body : Ss} {n i j : Nat} {e : E} : xrun K fx (.tryA body n i j e) ρ = (match xruns K fx body ρ with
    | .err m ρ => if K.g.sup m n then (match setN fx ρ i (.exc m) with
      | some ρ => (xev K e ρ).toRS fun c ρ => match lay ρ c with
        | some (c, ρ) => match setN fx ρ j c with
          | some ρ => .next (ρ.set i .und)
          | none => .stuck
        | none => .stuck
      | none => .stuck) else .err m ρ
    | r => r) := by simp only [xev_eq, xevs_eq, xevP_eq, xevR_eq, xevC_eq, xevI_eq, xrun_eq, xruns_eq]; rw [run]; try rfl
@[simp] theorem run_tryO {body : Ss} {n j : Nat} {e : E} : xrun K fx (.tryO body n j e) ρ = (match xruns K fx body ρ with
    | .err m ρ => if K.g.sup m n then ((xev K e ρ).toRS fun c ρ => match lay ρ c with
      | some (c, ρ) => match setN fx ρ j c with
        | some ρ => .next ρ
        | none => .stuck
      | none => .stuck) else .err m ρ
    | r => r) := by simp only [xev_eq, xevs_eq, xevP_eq, xevR_eq, xevC_eq, xevI_eq, xrun_eq, xruns_eq]; rw [run]; try rfl
@[simp] theorem run_no  : xrun K fx .no ρ = .stuck := by simp only [xev_eq, xevs_eq, xevP_eq, xevR_eq, xevC_eq, xevI_eq, xrun_eq, xruns_eq]; rw [run]; try rfl
@[simp] theorem run_brk  : xrun K fx .brk ρ = (.brk ρ) := by simp only [xev_eq, xevs_eq, xevP_eq, xevR_eq, xevC_eq, xevI_eq, xrun_eq, xruns_eq]; rw [run]; try rfl
@[simp] theorem run_cont  : xrun K fx .cont ρ = (.cont ρ) := by simp only [xev_eq, xevs_eq, xevP_eq, xevR_eq, xevC_eq, xevI_eq, xrun_eq, xruns_eq]; rw [run]; try rfl
@[simp] theorem evP_no {k : Option Int → List C → RE} : xevP K .no ρ k = k none ρ := by simp only [xev_eq, xevs_eq, xevP_eq, xevR_eq, xevC_eq, xevI_eq, xrun_eq, xruns_eq]; rw [evP]
@[simp] theorem evP_yes {e : E} {k : Option Int → List C → RE} : xevP K (.yes e) ρ k = ((xev K e ρ).bind fun c ρ => match see ρ c with
    | some (.int i) => k (some i) ρ
    | _ => .stuck) := by simp only [xev_eq, xevs_eq, xevP_eq, xevR_eq, xevC_eq, xevI_eq, xrun_eq, xruns_eq]; rw [evP]; try rfl
@[simp] theorem evR_one {b : E} {k : Int → Int → List C → RE} : xevR K (.one b) ρ k = ((xev K b ρ).bind fun c ρ => match see ρ c with
    | some (.int j) => k 0 j ρ
    | _ => .stuck) := by simp only [xev_eq, xevs_eq, xevP_eq, xevR_eq, xevC_eq, xevI_eq, xrun_eq, xruns_eq]; rw [evR]; try rfl
@[simp] theorem evR_two {a b : E} {k : Int → Int → List C → RE} : xevR K (.two a b) ρ k = ((xev K a ρ).bind fun c ρ => (xev K b ρ).bind fun c' ρ => match see ρ c, see ρ c' with
    | some (.int i), some (.int j) => k i j ρ
    | _, _ => .stuck) := by simp only [xev_eq, xevs_eq, xevP_eq, xevR_eq, xevC_eq, xevI_eq, xrun_eq, xruns_eq]; rw [evR]; try rfl
@[simp] theorem look_fro {x : Tx} : look ρ (.fro x) = some x := id rfl
@[simp] theorem look_bor {x : Tx} : look ρ (.bor x) = some x := id rfl
@[simp] theorem look_own {x : Tx} : look ρ (.own x) = some x := id rfl
@[simp] theorem look_pk {i : Nat} : look ρ (.pk i) = (match ρ[i]? with
    | some (.own x) => some x
    | some (.lkd x) => some x
    | _ => none) := id rfl
@[simp] theorem see_fro {d : PyData} : see ρ (.fro (.py d)) = some d := id rfl
@[simp] theorem see_bor {d : PyData} : see ρ (.bor (.py d)) = some d := id rfl
@[simp] theorem see_own {d : PyData} : see ρ (.own (.py d)) = some d := id rfl
@[simp] theorem see_pk {i : Nat} : see ρ (.pk i) = (look ρ (.pk i)).bind Tx.see := id rfl
@[simp] theorem Tx_see {d : PyData} : Tx.see (.py d) = some d := id rfl
end
@[simp] theorem opC_add {i j : Int} : opC .add (.int i) (.int j) = some (.fro (.py (.int (i + j)))) := id rfl
@[simp] theorem opC_sub {i j : Int} : opC .sub (.int i) (.int j) = some (.fro (.py (.int (i - j)))) := id rfl
/-- guards that nothing opens -/
noncomputable def mulO (i j : Int) : Bool := @decide ((-18446744073709551616 < i ∧ i < 18446744073709551616) ∨ (-18446744073709551616 < j ∧ j < 18446744073709551616)) (Classical.propDecidable _)
noncomputable def fdivO (j : Int) : Bool := @decide (0 < j ∧ j < 1073741824) (Classical.propDecidable _)
theorem mulO_iff (i j : Int) : mulO i j = true ↔ (-18446744073709551616 < i ∧ i < 18446744073709551616) ∨ (-18446744073709551616 < j ∧ j < 18446744073709551616) := @decide_eq_true_iff _ (Classical.propDecidable _)
theorem fdivO_iff (j : Int) : fdivO j = true ↔ 0 < j ∧ j < 1073741824 := @decide_eq_true_iff _ (Classical.propDecidable _)
@[simp] theorem mulO_r {i j : Int} (h : -1000000000 ≤ j ∧ j ≤ 1000000000) : mulO i j = true := (mulO_iff i j).mpr (.inr ⟨by omega, by omega⟩)
@[simp] theorem mulO_l {i j : Int} (h : -1000000000 ≤ i ∧ i ≤ 1000000000) : mulO i j = true := (mulO_iff i j).mpr (.inl ⟨by omega, by omega⟩)
@[simp] theorem fdivO_of {j : Int} (h : 0 < j ∧ j < 1073741824) : fdivO j = true := (fdivO_iff j).mpr h
@[simp] theorem opC_mul {i j : Int} : opC .mul (.int i) (.int j) = (if mulO i j = true then some (.fro (.py (.int (i * j)))) else none) := by
  show (if _ then _ else _) = _
  by_cases h : mulO i j = true
  · rw [if_pos h, if_pos ((mulO_iff i j).mp h)]
  · rw [if_neg h, if_neg (fun z => h ((mulO_iff i j).mpr z))]
@[simp] theorem opC_fdiv {i j : Int} : opC .fdiv (.int i) (.int j) = (if fdivO j = true then some (.fro (.py (.int (i / j)))) else none) := by
  show (if _ then _ else _) = _
  by_cases h : fdivO j = true
  · rw [if_pos h, if_pos ((fdivO_iff j).mp h)]
  · rw [if_neg h, if_neg (fun z => h ((fdivO_iff j).mpr z))]
@[simp] theorem opC_mod {i j : Int} : opC .mod (.int i) (.int j) = (if 0 < j then some (.fro (.py (.int (i % j)))) else none) := id rfl
@[simp] theorem opC_shl {i j : Int} : opC .shl (.int i) (.int j) = (if 0 ≤ j ∧ j ≤ 1000000 ∧ i.natAbs < 18446744073709551616 then some (.fro (.py (.int (i * 2 ^ j.toNat)))) else none) := id rfl
@[simp] theorem opC_bor {i j : Int} : opC .bor (.int i) (.int j) = some (.fro (.py (.int (Builtin.bitOr i j)))) := id rfl
@[simp] theorem opC_pow {i j : Int} : opC .pow (.int i) (.int j) = (if 0 ≤ j ∧ j ≤ 1000000 ∧ i.natAbs < 18446744073709551616 then some (.fro (.py (.int (i ^ j.toNat)))) else none) := id rfl
@[simp] theorem opC_addL {a b : List PyData} : opC .add (.list a) (.list b) = (if a.length + b.length ≤ line then some (.own (.py (.list (a ++ b)))) else none) := id rfl
@[simp] theorem opC_addT {a b : List PyData} : opC .add (.tuple a) (.tuple b) = (if a.length + b.length ≤ line then some (.fro (.py (.tuple (a ++ b)))) else none) := id rfl
@[simp] theorem kitB_NoneType_int : kitB "NoneType" "int" = some false := by decide +kernel
@[simp] theorem kitB_NoneType_bool : kitB "NoneType" "bool" = some false := by decide +kernel
@[simp] theorem kitB_NoneType_str : kitB "NoneType" "str" = some false := by decide +kernel
@[simp] theorem kitB_NoneType_list : kitB "NoneType" "list" = some false := by decide +kernel
@[simp] theorem kitB_NoneType_tuple : kitB "NoneType" "tuple" = some false := by decide +kernel
@[simp] theorem kitB_NoneType_dict : kitB "NoneType" "dict" = some false := by decide +kernel
@[simp] theorem kitB_NoneType_ValueError : kitB "NoneType" "ValueError" = some false := by decide +kernel
@[simp] theorem kitB_bool_int : kitB "bool" "int" = some true := by decide +kernel
@[simp] theorem kitB_bool_bool : kitB "bool" "bool" = some true := by decide +kernel
@[simp] theorem kitB_bool_str : kitB "bool" "str" = some false := by decide +kernel
@[simp] theorem kitB_bool_list : kitB "bool" "list" = some false := by decide +kernel
@[simp] theorem kitB_bool_tuple : kitB "bool" "tuple" = some false := by decide +kernel
@[simp] theorem kitB_bool_dict : kitB "bool" "dict" = some false := by decide +kernel
@[simp] theorem kitB_bool_ValueError : kitB "bool" "ValueError" = some false := by decide +kernel
@[simp] theorem kitB_int_int : kitB "int" "int" = some true := by decide +kernel
@[simp] theorem kitB_int_bool : kitB "int" "bool" = some false := by decide +kernel
@[simp] theorem kitB_int_str : kitB "int" "str" = some false := by decide +kernel
@[simp] theorem kitB_int_list : kitB "int" "list" = some false := by decide +kernel
@[simp] theorem kitB_int_tuple : kitB "int" "tuple" = some false := by decide +kernel
@[simp] theorem kitB_int_dict : kitB "int" "dict" = some false := by decide +kernel
@[simp] theorem kitB_int_ValueError : kitB "int" "ValueError" = some false := by decide +kernel
@[simp] theorem kitB_str_int : kitB "str" "int" = some false := by decide +kernel
@[simp] theorem kitB_str_bool : kitB "str" "bool" = some false := by decide +kernel
@[simp] theorem kitB_str_str : kitB "str" "str" = some true := by decide +kernel
@[simp] theorem kitB_str_list : kitB "str" "list" = some false := by decide +kernel
@[simp] theorem kitB_str_tuple : kitB "str" "tuple" = some false := by decide +kernel
@[simp] theorem kitB_str_dict : kitB "str" "dict" = some false := by decide +kernel
@[simp] theorem kitB_str_ValueError : kitB "str" "ValueError" = some false := by decide +kernel
@[simp] theorem kitB_list_int : kitB "list" "int" = some false := by decide +kernel
@[simp] theorem kitB_list_bool : kitB "list" "bool" = some false := by decide +kernel
@[simp] theorem kitB_list_str : kitB "list" "str" = some false := by decide +kernel
@[simp] theorem kitB_list_list : kitB "list" "list" = some true := by decide +kernel
@[simp] theorem kitB_list_tuple : kitB "list" "tuple" = some false := by decide +kernel
@[simp] theorem kitB_list_dict : kitB "list" "dict" = some false := by decide +kernel
@[simp] theorem kitB_list_ValueError : kitB "list" "ValueError" = some false := by decide +kernel
@[simp] theorem kitB_tuple_int : kitB "tuple" "int" = some false := by decide +kernel
@[simp] theorem kitB_tuple_bool : kitB "tuple" "bool" = some false := by decide +kernel
@[simp] theorem kitB_tuple_str : kitB "tuple" "str" = some false := by decide +kernel
@[simp] theorem kitB_tuple_list : kitB "tuple" "list" = some false := by decide +kernel
@[simp] theorem kitB_tuple_tuple : kitB "tuple" "tuple" = some true := by decide +kernel
@[simp] theorem kitB_tuple_dict : kitB "tuple" "dict" = some false := by decide +kernel
@[simp] theorem kitB_tuple_ValueError : kitB "tuple" "ValueError" = some false := by decide +kernel
@[simp] theorem kitB_dict_int : kitB "dict" "int" = some false := by decide +kernel
@[simp] theorem kitB_dict_bool : kitB "dict" "bool" = some false := by decide +kernel
@[simp] theorem kitB_dict_str : kitB "dict" "str" = some false := by decide +kernel
@[simp] theorem kitB_dict_list : kitB "dict" "list" = some false := by decide +kernel
@[simp] theorem kitB_dict_tuple : kitB "dict" "tuple" = some false := by decide +kernel
@[simp] theorem kitB_dict_dict : kitB "dict" "dict" = some true := by decide +kernel
@[simp] theorem kitB_dict_ValueError : kitB "dict" "ValueError" = some false := by decide +kernel
end Gr

set_option Elab.async false
set_option linter.all false
set_option maxRecDepth 100000
set_option maxHeartbeats 4000000
/-! Gr V: loops and comprehensions, for the maths. -/
namespace Gr
open PySem L2
/-- a loop whose turns are told by a state of the turn's number -/
theorem for_run {lk : Lk} {fx : List Nat} {tg : Tg} {body : List C → RS} {cs : List C} (st : Nat → List C) (hlk : ∀ k, k ≤ cs.length → lkIs (st k) lk)
    (h : ∀ k c, cs[k]? = some c → ∃ ρ1, setTg fx (st k) tg c = some ρ1 ∧ (body ρ1 = .next (st (k + 1)) ∨ body ρ1 = .cont (st (k + 1)))) : forGo lk fx tg body cs (st 0) = .next (unlock (st cs.length) lk) := by
  have go : ∀ n k, cs.length - k = n → k ≤ cs.length → forGo lk fx tg body (cs.drop k) (st k) = .next (unlock (st cs.length) lk) := by
    intro n
    induction n with
    | zero =>
      intro k e hk
      have : k = cs.length := by omega
      subst this
      rw [List.drop_length]
      unfold forGo
      rw [if_pos (hlk _ (Nat.le_refl _))]
    | succ n ih =>
      intro k e hk
      have hlt : k < cs.length := by omega
      rw [List.drop_eq_getElem_cons hlt]
      unfold forGo
      rw [if_pos (hlk _ hk)]
      obtain ⟨ρ1, h1, h2⟩ := h k cs[k] (List.getElem?_eq_getElem hlt)
      rw [h1]
      rcases h2 with h2 | h2
      · simp only [h2]
        exact ih (k + 1) (by omega) hlt
      · simp only [h2]
        exact ih (k + 1) (by omega) hlt
  have := go _ 0 rfl (Nat.zero_le _)
  rwa [List.drop_zero] at this
@[simp] theorem evC_no {K : Kit} {ρ : List C} : xevC K .no ρ = .ok (bool true) ρ := by simp only [xev_eq, xevs_eq, xevP_eq, xevR_eq, xevC_eq, xevI_eq, xrun_eq, xruns_eq]; rw [evC]
@[simp] theorem evC_yes {K : Kit} {ρ : List C} {e : E} : xevC K (.yes e) ρ = xev K e ρ := by simp only [xev_eq, xevs_eq, xevP_eq, xevR_eq, xevC_eq, xevI_eq, xrun_eq, xruns_eq]; rw [evC]
@[simp] theorem evI_of {K : Kit} {ρ : List C} {e : E} : xevI K (.of e) ρ = ((xev K e ρ).toRI fun c ρ => match lockC ρ c with
    | some (ds, lk, ρ) => .ok (ds.map (itemC c)) lk ρ
    | none => .stuck) := by simp only [xev_eq, xevs_eq, xevP_eq, xevR_eq, xevC_eq, xevI_eq, xrun_eq, xruns_eq]; rw [evI]; try rfl
@[simp] theorem evI_rng {K : Kit} {ρ : List C} {r : Rg} : xevI K (.rng r) ρ = ((xevR K r ρ fun i j ρ => if rgO i j then .ok (.fro (.py (.list (rgD i j)))) ρ else .stuck).toRI fun c ρ => match c with
    | .fro (.py (.list ds)) => .ok (ds.map fun d => .fro (.py d)) .no ρ
    | _ => .stuck) := by
  have e : (fun i j ρ => if rgO i j then RE.ok (.fro (.py (.list (rgD i j)))) ρ else .stuck) = fun i j ρ => if rgOk i j then RE.ok (.fro (.py (.list (rgD i j)))) ρ else .stuck := by
    funext i j ρ
    rw [rgO_eq]
  simp only [xev_eq, xevs_eq, xevP_eq, xevR_eq, xevC_eq, xevI_eq, xrun_eq, xruns_eq]
  rw [evI, e]; try rfl
@[simp] theorem evI_enum {K : Kit} {ρ : List C} {e : E} : xevI K (.enum e) ρ = ((xev K e ρ).toRI fun c ρ => match enumC ρ c with
    | some (ds, lk, ρ) => .ok (ds.zipIdx.map fun p => .fro (.py (.tuple [.int (p.2 : Nat), p.1]))) lk ρ
    | none => .stuck) := by simp only [xev_eq, xevs_eq, xevP_eq, xevR_eq, xevC_eq, xevI_eq, xrun_eq, xruns_eq]; rw [evI]; try rfl
@[simp] theorem evI_rev {K : Kit} {ρ : List C} {e : E} : xevI K (.rev e) ρ = ((xev K e ρ).toRI fun c ρ => match lockC ρ c with
    | some (ds, lk, ρ) => .ok (ds.reverse.map (itemC c)) lk ρ
    | none => .stuck) := by simp only [xev_eq, xevs_eq, xevP_eq, xevR_eq, xevC_eq, xevI_eq, xrun_eq, xruns_eq]; rw [evI]; try rfl
@[simp] theorem evI_zip {K : Kit} {ρ : List C} {a b : E} : xevI K (.zip a b) ρ = ((xev K a ρ).toRI fun c ρ => (xev K b ρ).toRI fun c' ρ => match zipC c c' with
    | some ds => .ok (ds.map fun d => .fro (.py d)) .no ρ
    | none => .stuck) := by simp only [xev_eq, xevs_eq, xevP_eq, xevR_eq, xevC_eq, xevI_eq, xrun_eq, xruns_eq]; rw [evI]; try rfl
end Gr

set_option Elab.async false
set_option linter.all false
set_option maxRecDepth 100000
set_option maxHeartbeats 4000000
/-! Gr W: more rows for the maths: cells, operators, built-ins, calls. -/
namespace Gr
open PySem L2
section
variable {K : Kit} {fx : List Nat} {ρ : List C} {c : C} {n : Nat} {cs : List C} {x : Tx} {d : PyData} {i : Nat}
/-! guards that simp does not open -/
def allSc (ds : List PyData) : Bool := ds.all isSc
def srt (c : C) (ds : List PyData) : Bool := sortable ds && clear c ds && ds.all dp
def srtO (ds : List PyData) : Bool := sortable ds && ds.all dp
def dpo (a b : PyData) : Bool := dp a || dp b
def dpp (a : PyData) : Bool := dp a
@[simp] theorem clear_own {ds : List PyData} : clear (.own x) ds = true := id rfl
@[simp] theorem clear_fro {ds : List PyData} : clear (.fro x) ds = true := id rfl
@[simp] theorem clear_pk {ds : List PyData} : clear (.pk i) ds = true := id rfl
@[simp] theorem clear_bor {ds : List PyData} : clear (.bor x) ds = allSc ds := id rfl
@[simp] theorem allSc_nil : allSc [] = true := id rfl
@[simp] theorem allSc_cons {ds : List PyData} : allSc (d :: ds) = (isSc d && allSc ds) := id rfl
@[simp] theorem allSc_append {ds es : List PyData} : allSc (ds ++ es) = (allSc ds && allSc es) := List.all_append
@[simp] theorem allSc_ints {ns : List Int} : allSc (ns.map .int) = true := by unfold allSc; rw [List.all_map]; exact List.all_eq_true.mpr fun _ _ => rfl
@[simp] theorem isSc_int {k : Int} : isSc (.int k) = true := id rfl
@[simp] theorem isSc_bool {k : Bool} : isSc (.bool k) = true := id rfl
@[simp] theorem isSc_str {k : Str} : isSc (.str k) = true := id rfl
@[simp] theorem isSc_none : isSc .none = true := id rfl
@[simp] theorem isSc_list {k : List PyData} : isSc (.list k) = false := id rfl
@[simp] theorem isSc_tuple {k : List PyData} : isSc (.tuple k) = false := id rfl
@[simp] theorem asB_py : asB (.py d) = if isSc d = true then .fro (.py d) else .bor (.py d) := id rfl
@[simp] theorem srt_own {ds : List PyData} : srt (.own x) ds = srtO ds := by unfold srt srtO; simp
@[simp] theorem srt_fro {ds : List PyData} : srt (.fro x) ds = srtO ds := by unfold srt srtO; simp
@[simp] theorem srt_pk {ds : List PyData} : srt (.pk i) ds = srtO ds := by unfold srt srtO; simp
@[simp] theorem srt_bor {ds : List PyData} : srt (.bor x) ds = (srtO ds && allSc ds) := by unfold srt srtO; rw [clear_bor]; cases sortable ds <;> cases allSc ds <;> cases ds.all dp <;> rfl
@[simp] theorem isBor_own : isBor (.own x) = false := id rfl
@[simp] theorem isBor_fro : isBor (.fro x) = false := id rfl
@[simp] theorem isBor_pk : isBor (.pk i) = false := id rfl
@[simp] theorem isBor_bor : isBor (.bor x) = true := id rfl
@[simp] theorem items_list {ds : List PyData} : items (.list ds) = some ds := id rfl
@[simp] theorem items_tuple {ds : List PyData} : items (.tuple ds) = some ds := id rfl
@[simp] theorem itemC_fro : itemC (.fro x) d = .fro (.py d) := id rfl
@[simp] theorem itemC_own : itemC (.own x) d = .fro (.py d) := id rfl
@[simp] theorem itemC_pk : itemC (.pk i) d = .fro (.py d) := id rfl
@[simp] theorem itemC_bor : itemC (.bor x) d = asB (.py d) := id rfl
@[simp] theorem itemC_fro' : itemC (.fro x) = fun d => .fro (.py d) := id rfl
@[simp] theorem itemC_own' : itemC (.own x) = fun d => .fro (.py d) := id rfl
@[simp] theorem itemC_pk' : itemC (.pk i) = fun d => .fro (.py d) := id rfl
/-! comparing -/
@[simp] theorem dpo_int {k : Int} {b : PyData} : dpo (.int k) b = true := id rfl
@[simp] theorem dpo_int' {k : Int} {b : PyData} : dpo b (.int k) = true := by unfold dpo; exact Bool.or_true _
@[simp] theorem dpo_str {k : Str} {b : PyData} : dpo (.str k) b = true := id rfl
@[simp] theorem dpo_str' {k : Str} {b : PyData} : dpo b (.str k) = true := by unfold dpo; exact Bool.or_true _
@[simp] theorem dpo_bool {k : Bool} {b : PyData} : dpo (.bool k) b = true := id rfl
@[simp] theorem dpo_bool' {k : Bool} {b : PyData} : dpo b (.bool k) = true := by unfold dpo; exact Bool.or_true _
@[simp] theorem dpo_none {b : PyData} : dpo .none b = true := id rfl
@[simp] theorem dpo_none' {b : PyData} : dpo b .none = true := by unfold dpo; exact Bool.or_true _
@[simp] theorem dpo_nil {b : PyData} : dpo (.list []) b = true := id rfl
@[simp] theorem dpo_nil' {b : PyData} : dpo b (.list []) = true := by unfold dpo; exact Bool.or_true _
@[simp] theorem dpo_pair {k l : Int} {b : PyData} : dpo (.tuple [.int k, .int l]) b = true := id rfl
@[simp] theorem dpo_pair' {k l : Int} {b : PyData} : dpo b (.tuple [.int k, .int l]) = true := by unfold dpo; exact Bool.or_true _
theorem dpo_l {a b : PyData} (h : dp a = true) : dpo a b = true := by unfold dpo; rw [h]; rfl
theorem dpo_r {a b : PyData} (h : dp b = true) : dpo a b = true := by unfold dpo; rw [h]; exact Bool.or_true _
theorem dp_ints (ns : List Int) : dp (.list (ns.map .int)) = true := by
  show (ns.map PyData.int).all (dep 7) = true
  rw [List.all_map]; exact List.all_eq_true.mpr fun _ _ => rfl
theorem dp_intsT (ns : List Int) : dp (.tuple (ns.map .int)) = true := dp_ints ns
@[simp] theorem cmR_eq {o : Cm} {a b : C} : cmR ρ o a b = (look ρ a).bind fun x => (look ρ b).bind fun y => cmX o x y := id rfl
@[simp] theorem cmX_py {o : Cm} {a b : PyData} : cmX o (.py a) (.py b) = cmC o a b := id rfl
@[simp] theorem cmX_in_dik {a : PyData} {kvs : List (Key × D)} : cmX .isin (.py a) (.dik kvs) = (keyOf a).map fun k => (valD kvs k).isSome := by
  show (getX (.dik kvs) a).map (·.isSome) = _; unfold getX; simp [Option.map_map, Function.comp_def]
@[simp] theorem cmX_nin_dik {a : PyData} {kvs : List (Key × D)} : cmX .notin (.py a) (.dik kvs) = (keyOf a).map fun k => !(valD kvs k).isSome := by
  show (getX (.dik kvs) a).map (!·.isSome) = _; unfold getX; simp [Option.map_map, Function.comp_def]
@[simp] theorem cmX_in_dit {a : PyData} {kvs : List (List Key × D)} : cmX .isin (.py a) (.dit kvs) = (tkeyOf a).map fun k => (valD kvs k).isSome := by
  show (getX (.dit kvs) a).map (·.isSome) = _; unfold getX; simp [Option.map_map, Function.comp_def]
@[simp] theorem cmX_nin_dit {a : PyData} {kvs : List (List Key × D)} : cmX .notin (.py a) (.dit kvs) = (tkeyOf a).map fun k => !(valD kvs k).isSome := by
  show (getX (.dit kvs) a).map (!·.isSome) = _; unfold getX; simp [Option.map_map, Function.comp_def]
@[simp] theorem cmC_eq {a b : PyData} : cmC .eq a b = if dpo a b = true then some (PyData.eqv a b) else none := id rfl
@[simp] theorem cmC_ne {a b : PyData} : cmC .ne a b = if dpo a b = true then some (!PyData.eqv a b) else none := id rfl
@[simp] theorem cmC_lt {a b : Int} : cmC .lt (.int a) (.int b) = some (decide (a < b)) := id rfl
@[simp] theorem cmC_le {a b : Int} : cmC .le (.int a) (.int b) = some (decide (a ≤ b)) := id rfl
@[simp] theorem cmC_gt {a b : Int} : cmC .gt (.int a) (.int b) = some (decide (b < a)) := id rfl
@[simp] theorem cmC_ge {a b : Int} : cmC .ge (.int a) (.int b) = some (decide (b ≤ a)) := id rfl
@[simp] theorem cmC_in {a : PyData} {b : List PyData} : cmC .isin a (.list b) = if dpo a (.list b) = true then some (b.any fun z => PyData.eqv z a) else none := id rfl
@[simp] theorem cmC_inT {a : PyData} {b : List PyData} : cmC .isin a (.tuple b) = if dpo a (.tuple b) = true then some (b.any fun z => PyData.eqv z a) else none := id rfl
@[simp] theorem cmC_nin {a : PyData} {b : List PyData} : cmC .notin a (.list b) = if dpo a (.list b) = true then some (!b.any fun z => PyData.eqv z a) else none := id rfl
@[simp] theorem cmC_ninT {a : PyData} {b : List PyData} : cmC .notin a (.tuple b) = if dpo a (.tuple b) = true then some (!b.any fun z => PyData.eqv z a) else none := id rfl
@[simp] theorem eqv_int {a b : Int} : PyData.eqv (.int a) (.int b) = decide (a = b) := W.Datum.eqv a b
@[simp] theorem eqv_str {a b : Str} : PyData.eqv (.str a) (.str b) = decide (a = b) := W.Datum.eqv a b
@[simp] theorem eqv_bool {a b : Bool} : PyData.eqv (.bool a) (.bool b) = decide (a = b) := W.Datum.eqv a b
@[simp] theorem eqv_list {a b : List PyData} : PyData.eqv (.list a) (.list b) = PyData.eqvAll a b := by simp only [PyData.eqv]
@[simp] theorem eqv_tuple {a b : List PyData} : PyData.eqv (.tuple a) (.tuple b) = PyData.eqvAll a b := by simp only [PyData.eqv]
@[simp] theorem eqv_none : PyData.eqv .none .none = true := by simp only [PyData.eqv]
@[simp] theorem eqvAll_nil : PyData.eqvAll [] [] = true := by simp only [PyData.eqvAll]
@[simp] theorem eqvAll_nc {a : PyData} {as : List PyData} : PyData.eqvAll [] (a :: as) = false := by simp [PyData.eqvAll]
@[simp] theorem eqvAll_cn {a : PyData} {as : List PyData} : PyData.eqvAll (a :: as) [] = false := by simp [PyData.eqvAll]
@[simp] theorem eqvAll_cc {a b : PyData} {as bs : List PyData} : PyData.eqvAll (a :: as) (b :: bs) = (PyData.eqv a b && PyData.eqvAll as bs) := by rw [PyData.eqvAll]
@[simp] theorem eqvAll_ints {a b : List Int} : PyData.eqvAll (a.map .int) (b.map .int) = decide (a = b) := W.eqvAll_map a b
/-! built-ins -/
@[simp] theorem bi_len : biC ρ .len [c] = (look ρ c).bind fun x => match x with
      | .py (.list ds) => some (num ds.length)
      | .py (.tuple ds) => some (num ds.length)
      | .py (.str s) => if s.length ≤ line then some (num s.length) else none
      | .dik kvs => some (num kvs.length)
      | _ => none := id rfl
@[simp] theorem bi_sum : biC ρ .sum [c] = (see ρ c).bind fun d => match d with
      | .list ds => (intsD ds).map fun ns => num ns.sum
      | _ => none := id rfl
@[simp] theorem bi_sorted : biC ρ .sorted [c] = (see ρ c).bind fun d => (items d).bind fun ds => if srt c ds then some (.own (.py (.list (sortD ds)))) else none := id rfl
@[simp] theorem bi_list : biC ρ .list [c] = (see ρ c).bind fun d => (items d).bind fun ds => if clear c ds then some (.own (.py (.list ds))) else none := id rfl
@[simp] theorem bi_tuple : biC ρ .tuple [c] = (see ρ c).bind fun d => match d with
    | .list ds => if clear c ds then some (.fro (.py (.tuple ds))) else none
    | .tuple ds => some (if isBor c then .bor (.py (.tuple ds)) else .fro (.py (.tuple ds)))
    | _ => none := id rfl
@[simp] theorem bi_all : biC ρ .all [c] = (see ρ c).bind fun d => match d with
    | .list ds => (boolsD ds).map fun bs => bool (bs.all id)
    | _ => none := id rfl
@[simp] theorem bi_any : biC ρ .any [c] = (see ρ c).bind fun d => match d with
    | .list ds => (boolsD ds).map fun bs => bool (bs.any id)
    | _ => none := id rfl
@[simp] theorem bi_min1 : biC ρ .min1 [c] = match (see ρ c).bind items with
    | some ds => match intsD ds with
      | some (n :: ns) => some (num (ns.foldl (fun a y => if y < a then y else a) n))
      | _ => none
    | none => none := id rfl
@[simp] theorem bi_max1 : biC ρ .max1 [c] = match (see ρ c).bind items with
    | some ds => match intsD ds with
      | some (n :: ns) => some (num (ns.foldl (fun a y => if a < y then y else a) n))
      | _ => none
    | none => none := id rfl
@[simp] theorem bi_min2 {a b : C} : biC ρ .min2 [a, b] = match see ρ a, see ρ b with
    | some (.int i), some (.int j) => some (num (if j < i then j else i))
    | _, _ => none := id rfl
@[simp] theorem bi_max2 {a b : C} : biC ρ .max2 [a, b] = match see ρ a, see ρ b with
    | some (.int i), some (.int j) => some (num (if j > i then j else i))
    | _, _ => none := id rfl
@[simp] theorem bi_int : biC ρ .int [c] = match see ρ c with
    | some (.int i) => some (num i)
    | some (.bool k) => some (num (if k then 1 else 0))
    | _ => none := id rfl
@[simp] theorem bi_abs : biC ρ .abs [c] = match see ρ c with
    | some (.int i) => some (num (if i < 0 then -i else i))
    | _ => none := id rfl
theorem bi_sortedK : biC ρ .sortedK [c] = match look ρ c with
    | some (.dik kvs) => (keysI kvs).bind fun ns => if ns.length < 64 then some (.own (.py (.list (sortD (ns.map .int))))) else none
    | _ => none := id rfl
theorem bi_lnT : biC ρ .lenT [c] = match look ρ c with
    | some (.dit kvs) => some (num kvs.length)
    | _ => none := id rfl
@[simp] theorem bi_str : biC ρ .str [c] = match see ρ c with
    | some (.int i) => if i.natAbs.log2 < 1920 then some (.fro (.py (.str (toString i)))) else none
    | _ => none := id rfl
@[simp] theorem intsD_nil : intsD [] = some [] := id rfl
@[simp] theorem intsD_cons {k : Int} {ds : List PyData} : intsD (.int k :: ds) = (intsD ds).map (k :: ·) := id rfl
@[simp] theorem intsD_ints : ∀ {ns : List Int}, intsD (ns.map .int) = some ns
  | [] => rfl
  | n :: ns => by rw [List.map_cons, intsD_cons, intsD_ints]; rfl
@[simp] theorem boolsD_bools : ∀ {ns : List Bool}, boolsD (ns.map .bool) = some ns
  | [] => rfl
  | n :: ns => by rw [List.map_cons]; show (boolsD (ns.map .bool)).map (n :: ·) = _; rw [boolsD_bools]; rfl
@[simp] theorem num_eq {k : Int} : num k = .fro (.py (.int k)) := id rfl
@[simp] theorem bool_eq {k : Bool} : Gr.bool k = .fro (.py (.bool k)) := id rfl
@[simp] theorem nonC_eq : nonC = .fro (.py .none) := id rfl
/-! indexes -/
@[simp] theorem ixC_eq {a b : C} : ixC ρ a b = (look ρ a).bind fun x => (see ρ b).bind fun k => ixX a x k := id rfl
@[simp] theorem ixX_list {a : C} {ds : List PyData} {k : Int} : ixX a (.py (.list ds)) (.int k) = (L2.atI ds k).map (itemC a) := id rfl
@[simp] theorem ixX_tuple {a : C} {ds : List PyData} {k : Int} : ixX a (.py (.tuple ds)) (.int k) = (L2.atI ds k).map (itemC a) := id rfl
@[simp] theorem ixX_dik {a : C} {kvs : List (Key × D)} : ixX a (.dik kvs) d = (keyOf d).bind fun k => (valD kvs k).map (itemC a) := by
  show ((keyOf d).map fun k => valD kvs k).bind (fun r => r.map (itemC a)) = _
  cases keyOf d <;> rfl
@[simp] theorem ixX_dit {a : C} {kvs : List (List Key × D)} : ixX a (.dit kvs) d = (tkeyOf d).bind fun k => (valD kvs k).map (itemC a) := by
  show ((tkeyOf d).map fun k => valD kvs k).bind (fun r => r.map (itemC a)) = _
  cases tkeyOf d <;> rfl
@[simp] theorem slC_fro {ds : List PyData} {lo hi : Option Int} : slC ρ (.fro (.py (.list ds))) lo hi = some (.own (.py (.list (cutD ds lo hi)))) := id rfl
@[simp] theorem slC_own {ds : List PyData} {lo hi : Option Int} : slC ρ (.own (.py (.list ds))) lo hi = some (.own (.py (.list (cutD ds lo hi)))) := id rfl
@[simp] theorem slC_froT {ds : List PyData} {lo hi : Option Int} : slC ρ (.fro (.py (.tuple ds))) lo hi = some (.fro (.py (.tuple (cutD ds lo hi)))) := id rfl
@[simp] theorem slC_bor {ds : List PyData} {lo hi : Option Int} : slC ρ (.bor (.py (.list ds))) lo hi = if allSc ds = true then some (.own (.py (.list (cutD ds lo hi)))) else none := id rfl
@[simp] theorem slC_borT {ds : List PyData} {lo hi : Option Int} : slC ρ (.bor (.py (.tuple ds))) lo hi = some (.bor (.py (.tuple (cutD ds lo hi)))) := id rfl
@[simp] theorem slC_pk {lo hi : Option Int} : slC ρ (.pk i) lo hi = (look ρ (.pk i)).bind fun x => match x with
  | .py (.list ds) => some (.own (.py (.list (cutD ds lo hi))))
  | .py (.tuple ds) => some (.fro (.py (.tuple (cutD ds lo hi))))
  | _ => none := by
  unfold slC
  cases look ρ (.pk i) with
  | none => rfl
  | some x => cases x with
    | py d => cases d <;> rfl
    | _ => rfl
@[simp] theorem slS_fro {ds : List PyData} {lo hi st : Option Int} : slS ρ (.fro (.py (.list ds))) lo hi st = if st = some 0 then none else some (.own (.py (.list (stepD ds lo hi st)))) := by
  show (if clear (.fro (.py (.list ds))) ds && !decide (st = some 0) then _ else _) = _
  by_cases h : st = some 0 <;> simp [h]
@[simp] theorem slS_own {ds : List PyData} {lo hi st : Option Int} : slS ρ (.own (.py (.list ds))) lo hi st = if st = some 0 then none else some (.own (.py (.list (stepD ds lo hi st)))) := by
  show (if clear (.own (.py (.list ds))) ds && !decide (st = some 0) then _ else _) = _
  by_cases h : st = some 0 <;> simp [h]
@[simp] theorem slS_bor {ds : List PyData} {lo hi st : Option Int} : slS ρ (.bor (.py (.list ds))) lo hi st = if allSc ds = true then (if st = some 0 then none else some (.own (.py (.list (stepD ds lo hi st))))) else none := by
  show (if clear (.bor (.py (.list ds))) ds && !decide (st = some 0) then _ else _) = _
  by_cases h : st = some 0 <;> cases h2 : allSc ds <;> simp [h, h2]
theorem stepD_map {α : Type} (f : α → PyData) (ns : List α) (lo hi st : Option Int) : stepD (ns.map f) lo hi st = (stepD ns lo hi st).map f := by
  unfold stepD
  rw [List.length_map, List.map_filterMap]
  refine congrArg (fun f => List.filterMap f _) (funext fun i => ?_)
  rw [List.getElem?_map]
/-! storing -/
@[simp] theorem lay_fro : lay ρ (.fro x) = some (.fro x, ρ) := id rfl
@[simp] theorem lay_bor : lay ρ (.bor x) = some (.bor x, ρ) := id rfl
@[simp] theorem lay_own : lay ρ (.own x) = some (.own x, ρ) := id rfl
@[simp] theorem lay_exc : lay ρ (.exc n) = some (.exc n, ρ) := id rfl
@[simp] theorem lay_pk : lay ρ (.pk i) = (fz ρ (.pk i)).map fun p => (.fro p.1, p.2) := id rfl
@[simp] theorem fz_fro : fz ρ (.fro x) = some (x, ρ) := id rfl
@[simp] theorem fz_own : fz ρ (.own x) = some (x, ρ) := id rfl
@[simp] theorem fz_pk : fz ρ (.pk i) = (match ρ[i]? with
    | some (.own x) => some (x, ρ.set i (.fro x))
    | _ => none) := id rfl
@[simp] theorem fzD_fro : fzD ρ (.fro (.py d)) = some (d, ρ) := id rfl
@[simp] theorem fzD_own : fzD ρ (.own (.py d)) = some (d, ρ) := id rfl
@[simp] theorem fzD_pk : fzD ρ (.pk i) = (fz ρ (.pk i)).bind fun p => p.1.see.map fun d => (d, p.2) := id rfl
@[simp] theorem fzDs_nil : fzDs ρ [] = some ([], ρ) := id rfl
@[simp] theorem fzDs_cons : fzDs ρ (c :: cs) = (fzD ρ c).bind fun p => (fzDs p.2 cs).map fun q => (p.1 :: q.1, q.2) := id rfl
@[simp] theorem setN_eq : setN fx ρ i c = if free fx ρ i = true then some (ρ.set i c) else none := id rfl
/-- not walked just now -/
def slack : C → Bool
  | .lkd _ => false
  | _ => true
def lse : Option C → Bool
  | some c => slack c
  | none => false
@[simp] theorem slack_und : slack .und = true := id rfl
@[simp] theorem slack_fro : slack (.fro x) = true := id rfl
@[simp] theorem slack_bor : slack (.bor x) = true := id rfl
@[simp] theorem slack_own : slack (.own x) = true := id rfl
@[simp] theorem slack_exc : slack (.exc n) = true := id rfl
@[simp] theorem slack_lkd : slack (.lkd x) = false := id rfl
@[simp] theorem slack_asB : slack (asB x) = true := by unfold asB; split <;> rfl
@[simp] theorem lse_some : lse (some c) = slack c := id rfl
@[simp] theorem lse_none : lse none = false := id rfl
@[simp] theorem free_eq : free fx ρ i = (!fx.contains i && lse ρ[i]?) := by
  unfold free
  cases ρ[i]? with
  | none => rfl
  | some a => cases a <;> rfl
@[simp] theorem setNs_nil : setNs fx ρ [] [] = some ρ := id rfl
@[simp] theorem setNs_cons {is : List Nat} : setNs fx ρ (i :: is) (c :: cs) = (setN fx ρ i c).bind fun ρ => setNs fx ρ is cs := id rfl
@[simp] theorem setTg_nm : setTg fx ρ (.nm i) c = setN fx ρ i c := id rfl
@[simp] theorem setTg_fro {is : List Nat} {ds : List PyData} : setTg fx ρ (.tup is) (.fro (.py (.tuple ds))) = setNs fx ρ is (ds.map fun d => .fro (.py d)) := id rfl
@[simp] theorem setTg_bor {is : List Nat} {ds : List PyData} : setTg fx ρ (.tup is) (.bor (.py (.tuple ds))) = setNs fx ρ is (ds.map fun d => asB (.py d)) := id rfl
@[simp] theorem mutC_eq {f : Tx → Option Tx} : mutC ρ i f = (match ρ[i]? with
  | some (.own x) => (f x).map fun y => ρ.set i (.own y)
  | _ => none) := id rfl
@[simp] theorem isOwn_eq : isOwn ρ i = (match ρ[i]? with
  | some (.own _) => true
  | _ => false) := id rfl
@[simp] theorem isOwnL_eq : isOwnL ρ i = (match ρ[i]? with
  | some (.own (.py (.list _))) => true
  | _ => false) := id rfl
@[simp] theorem mtX_append {xs : List PyData} : mtX .append [d] (.py (.list xs)) = if xs.length < line then some (.py (.list (xs ++ [d]))) else none := id rfl
@[simp] theorem mtX_extend {xs ys : List PyData} : mtX .extend [.list ys] (.py (.list xs)) = if xs.length + ys.length ≤ line then some (.py (.list (xs ++ ys))) else none := id rfl
@[simp] theorem extX_list {xs ys : List PyData} : extX ys (.py (.list xs)) = if xs.length + ys.length ≤ line then some (.py (.list (xs ++ ys))) else none := id rfl
@[simp] theorem mtX_reverse {xs : List PyData} : mtX .reverse [] (.py (.list xs)) = some (.py (.list xs.reverse)) := id rfl
@[simp] theorem mtX_insert {xs : List PyData} {k : Int} : mtX .insert [.int k, d] (.py (.list xs)) = if xs.length < line then (if 0 ≤ k ∧ k ≤ xs.length then some (.py (.list (xs.take k.toNat ++ d :: xs.drop k.toNat))) else none) else none := id rfl
@[simp] theorem setIX_list {k : Int} {ds : List PyData} : setIX (.int k) d (.py (.list ds)) = (ixN ds.length k).map fun j => .py (.list (ds.set j d)) := id rfl
@[simp] theorem setIX_dik {k : PyData} {kvs : List (Key × D)} : setIX k d (.dik kvs) = (keyOf k).bind fun k => if kvs.length < line then some (.dik (putD kvs k d)) else none := id rfl
@[simp] theorem setIX_dit {k : PyData} {kvs : List (List Key × D)} : setIX k d (.dit kvs) = (tkeyOf k).bind fun k => if kvs.length < line then some (.dit (putD kvs k d)) else none := id rfl
@[simp] theorem keyOf_int {k : Int} : keyOf (.int k) = some (.inl k) := id rfl
@[simp] theorem keyOf_str {k : Str} : keyOf (.str k) = some (.inr k) := id rfl
@[simp] theorem tkeyOf_tuple {ds : List PyData} : tkeyOf (.tuple ds) = keysOf ds := id rfl
@[simp] theorem keysOf_nil : keysOf [] = some [] := id rfl
@[simp] theorem keysOf_cons {ds : List PyData} : keysOf (d :: ds) = (keyOf d).bind fun k => (keysOf ds).map fun ks => k :: ks := id rfl
@[simp] theorem setFX_eq {c j k : Nat} {fs : List PyData} : setFX c j d (.obj k fs) = if k = c ∧ j ≤ fs.length ∧ fs.length < 1000 then (if j = fs.length then some (.obj k (fs ++ [d])) else some (.obj k (fs.set j d))) else none := id rfl
@[simp] theorem retC_fro : retC ρ (.fro x) = some (.fro x, ρ) := id rfl
@[simp] theorem retC_own : retC ρ (.own x) = some (.own x, ρ) := id rfl
@[simp] theorem retC_exc : retC ρ (.exc n) = some (.exc n, ρ) := id rfl
@[simp] theorem retC_pk : retC ρ (.pk i) = (match ρ[i]? with
    | some (.own x) => some (.own x, ρ.set i .und)
    | _ => none) := id rfl
@[simp] theorem augC_add {a b : Int} : augC .add a (some (.int b)) = some (a + b) := id rfl
@[simp] theorem augC_sub {a b : Int} : augC .sub a (some (.int b)) = some (a - b) := id rfl
@[simp] theorem isnC_py {ng : Bool} : isnC ng ρ (.fro (.py .none)) = some (!ng) := id rfl
@[simp] theorem isnC_int {ng : Bool} {k : Int} : isnC ng ρ (.fro (.py (.int k))) = some ng := id rfl
@[simp] theorem isnC_list {ng : Bool} {ds : List PyData} : isnC ng ρ (.fro (.py (.list ds))) = some ng := id rfl
@[simp] theorem isnC_tuple {ng : Bool} {ds : List PyData} : isnC ng ρ (.fro (.py (.tuple ds))) = some ng := id rfl
@[simp] theorem isnC_listO {ng : Bool} {ds : List PyData} : isnC ng ρ (.own (.py (.list ds))) = some ng := id rfl
@[simp] theorem isnC_str {ng : Bool} {k : Str} : isnC ng ρ (.fro (.py (.str k))) = some ng := id rfl
@[simp] theorem isnC_exc {ng : Bool} : isnC ng ρ (.exc n) = some ng := id rfl
@[simp] theorem isnC_pk {ng : Bool} : isnC ng ρ (.pk i) = (look ρ (.pk i)).map fun x => match x with
    | .py .none => !ng
    | _ => ng := id rfl
/-! calls -/
@[simp] theorem callR_eq {F : Fn} {ms : List Nat} : callR F ms cs ρ = (match pass0 ρ ms cs with
  | none => .stuck
  | some (cs', ρ') => match pass1s ρ' ms cs' with
    | none => .stuck
    | some as => if passOk ms cs' then match F as with
      | .ok c outs => match backIs ρ' (muts ms cs') outs, resC c with
        | some ρ'', some c => .ok c ρ''
        | _, _ => .stuck
      | .err n => .err n (lostIs ρ' (muts ms cs'))
      | .stuck => .stuck
    else .stuck) := id rfl
@[simp] theorem mkR_eq {F : Fn} {k : Nat} {ms : List Nat} : mkR F k ms cs ρ = (match pass0 ρ ms cs with
  | none => .stuck
  | some (cs', ρ') => match pass1s ρ' ms cs' with
    | none => .stuck
    | some as => if (muts ms cs').isEmpty then match F (.own (.obj k []) :: as) with
      | .ok (.fro (.py .none)) [.own x] => .ok (.own x) ρ'
      | .ok _ _ => .stuck
      | .err n => .err n ρ'
      | .stuck => .stuck
    else .stuck) := id rfl
@[simp] theorem pass0_nil : Gr.pass0 ρ [] [] = some ([], ρ) := id rfl
@[simp] theorem pass0_fro {ms : List Nat} : Gr.pass0 ρ (0 :: ms) (.fro x :: cs) = (Gr.pass0 ρ ms cs).map fun q => (.fro x :: q.1, q.2) := id rfl
@[simp] theorem pass0_own {ms : List Nat} : Gr.pass0 ρ (0 :: ms) (.own x :: cs) = (Gr.pass0 ρ ms cs).map fun q => (.fro x :: q.1, q.2) := id rfl
@[simp] theorem pass0_bor {ms : List Nat} : Gr.pass0 ρ (0 :: ms) (.bor x :: cs) = (Gr.pass0 ρ ms cs).map fun q => (.bor x :: q.1, q.2) := id rfl
@[simp] theorem pass0_exc {ms : List Nat} : Gr.pass0 ρ (0 :: ms) (.exc n :: cs) = (Gr.pass0 ρ ms cs).map fun q => (.exc n :: q.1, q.2) := id rfl
@[simp] theorem pass0_pk {ms : List Nat} : Gr.pass0 ρ (0 :: ms) (.pk i :: cs) = (fz ρ (.pk i)).bind fun p => (Gr.pass0 p.2 ms cs).map fun q => (.fro p.1 :: q.1, q.2) := id rfl
@[simp] theorem pass0_succ {m : Nat} {ms : List Nat} : Gr.pass0 ρ ((m + 1) :: ms) (c :: cs) = (Gr.pass0 ρ ms cs).map fun q => (c :: q.1, q.2) := id rfl
@[simp] theorem pass0_1 {ms : List Nat} : Gr.pass0 ρ (1 :: ms) (c :: cs) = (Gr.pass0 ρ ms cs).map fun q => (c :: q.1, q.2) := id rfl
@[simp] theorem pass0_2 {ms : List Nat} : Gr.pass0 ρ (2 :: ms) (c :: cs) = (Gr.pass0 ρ ms cs).map fun q => (c :: q.1, q.2) := id rfl
@[simp] theorem pass1s_nil : pass1s ρ [] [] = some [] := id rfl
@[simp] theorem pass1s_cons {m : Nat} {ms : List Nat} : pass1s ρ (m :: ms) (c :: cs) = (pass1 ρ m c).bind fun a => (pass1s ρ ms cs).map fun as => a :: as := id rfl
@[simp] theorem p1_fro {m : Nat} : pass1 ρ m (.fro x) = some (.fro x) := by unfold pass1; rfl
@[simp] theorem p1_bor {m : Nat} : pass1 ρ m (.bor x) = some (.bor x) := by unfold pass1; rfl
@[simp] theorem p1_exc {m : Nat} : pass1 ρ m (.exc n) = some (.exc n) := by unfold pass1; rfl
@[simp] theorem pass1_own : pass1 ρ 1 (.own x) = some (.bor x) := id rfl
@[simp] theorem pass1_pk1 : pass1 ρ 1 (.pk i) = (look ρ (.pk i)).map .bor := id rfl
@[simp] theorem pass1_pk2 : pass1 ρ 2 (.pk i) = (match ρ[i]? with
    | some (.own x) => some (.own x)
    | _ => none) := id rfl
@[simp] theorem isPk_fro {k m : Nat} : isPk k m (.fro x) = none := id rfl
@[simp] theorem isPk_bor {k m : Nat} : isPk k m (.bor x) = none := id rfl
@[simp] theorem isPk_own {k m : Nat} : isPk k m (.own x) = none := id rfl
@[simp] theorem isPk_exc {k m : Nat} : isPk k m (.exc n) = none := id rfl
@[simp] theorem isPk_pk {k m : Nat} : isPk k m (.pk i) = if m = k then some i else none := id rfl
@[simp] theorem pks_nil {k : Nat} {cs : List C} : pks k [] cs = [] := by unfold pks; rfl
@[simp] theorem pks_cons {k m : Nat} {ms : List Nat} : pks k (m :: ms) (c :: cs) = (match isPk k m c with
  | some i => i :: pks k ms cs
  | none => pks k ms cs) := id rfl
@[simp] theorem passOk_eq {ms : List Nat} : passOk ms cs = (decide (pks 2 ms cs).Nodup && (pks 1 ms cs).all fun i => !(pks 2 ms cs).contains i) := id rfl
@[simp] theorem backIs_nil : backIs ρ [] [] = some ρ := id rfl
@[simp] theorem backIs_cons {is : List Nat} {outs : List C} : backIs ρ (i :: is) (.own x :: outs) = backIs (ρ.set i (.own x)) is outs := id rfl
@[simp] theorem lostIs_nil : lostIs ρ [] = ρ := id rfl
@[simp] theorem lostIs_cons {is : List Nat} : lostIs ρ (i :: is) = lostIs (ρ.set i .und) is := id rfl
@[simp] theorem resC_fro : resC (.fro x) = some (.fro x) := id rfl
@[simp] theorem resC_own : resC (.own x) = some (.own x) := id rfl
@[simp] theorem resC_exc : resC (.exc n) = some (.exc n) := id rfl
@[simp] theorem ownIx_nil : ownIx i [] = [] := id rfl
@[simp] theorem ownIx_fro : ownIx i (.fro x :: cs) = ownIx (i + 1) cs := id rfl
@[simp] theorem ownIx_bor : ownIx i (.bor x :: cs) = ownIx (i + 1) cs := id rfl
@[simp] theorem ownIx_exc : ownIx i (.exc n :: cs) = ownIx (i + 1) cs := id rfl
@[simp] theorem ownIx_own : ownIx i (.own x :: cs) = i :: ownIx (i + 1) cs := id rfl
@[simp] theorem outsOf_eq : outsOf cs ρ = (ownIx 0 cs).map (outAt ρ) := id rfl
@[simp] theorem outAt_eq : outAt ρ i = (match ρ[i]? with
  | some (.own x) => .own x
  | _ => .und) := id rfl
/-! walks -/
@[simp] theorem lockC_fro {ds : List PyData} : lockC ρ (.fro (.py (.list ds))) = some (ds, .no, ρ) := id rfl
@[simp] theorem lockC_froT {ds : List PyData} : lockC ρ (.fro (.py (.tuple ds))) = some (ds, .no, ρ) := id rfl
@[simp] theorem lockC_bor {ds : List PyData} : lockC ρ (.bor (.py (.list ds))) = some (ds, .no, ρ) := id rfl
@[simp] theorem lockC_borT {ds : List PyData} : lockC ρ (.bor (.py (.tuple ds))) = some (ds, .no, ρ) := id rfl
@[simp] theorem lockC_own {ds : List PyData} : lockC ρ (.own (.py (.list ds))) = some (ds, .no, ρ) := id rfl
@[simp] theorem lockC_pk : lockC ρ (.pk i) = (match ρ[i]? with
    | some (.own (.py (.list ds))) => some (ds, .at i (.py (.list ds)) true, ρ.set i (.lkd (.py (.list ds))))
    | some (.lkd (.py (.list ds))) => some (ds, .at i (.py (.list ds)) false, ρ)
    | some (.own (.py (.tuple ds))) => some (ds, .no, ρ)
    | some (.lkd (.py (.tuple ds))) => some (ds, .no, ρ)
    | _ => none) := by
  unfold lockC
  rw [look_pk]
  cases h : ρ[i]? with
  | none => rfl
  | some c =>
    cases c with
    | own y =>
      cases y with
      | py d =>
        cases d with
        | list ds =>
          show (match ρ[i]? with
            | some (.own _) => some (ds, Lk.at i (.py (.list ds)) true, ρ.set i (.lkd (.py (.list ds))))
            | some (.lkd _) => some (ds, Lk.at i (.py (.list ds)) false, ρ)
            | _ => none) = _
          rw [h]
        | _ => rfl
      | _ => rfl
    | lkd y =>
      cases y with
      | py d =>
        cases d with
        | list ds =>
          show (match ρ[i]? with
            | some (.own _) => some (ds, Lk.at i (.py (.list ds)) true, ρ.set i (.lkd (.py (.list ds))))
            | some (.lkd _) => some (ds, Lk.at i (.py (.list ds)) false, ρ)
            | _ => none) = _
          rw [h]
        | _ => rfl
      | _ => rfl
    | _ => rfl
@[simp] theorem isi_py {g : Glob} {cs : List Cl} : isiC g ρ (.fro x) cs = isiAll g (.inl x) cs := id rfl
@[simp] theorem isi_pk {g : Glob} {cs : List Cl} : isiC g ρ (.pk i) cs = (look ρ (.pk i)).bind fun x => isiAll g (.inl x) cs := id rfl
@[simp] theorem isi_bor {g : Glob} {cs : List Cl} : isiC g ρ (.bor x) cs = isiAll g (.inl x) cs := id rfl
@[simp] theorem isi_own {g : Glob} {cs : List Cl} : isiC g ρ (.own x) cs = isiAll g (.inl x) cs := id rfl
@[simp] theorem isi_exc {g : Glob} {cs : List Cl} : isiC g ρ (.exc n) cs = isiAll g (.inr n) cs := id rfl
@[simp] theorem isiAll_nil {g : Glob} {y : Tx ⊕ Nat} : isiAll g y [] = some false := id rfl
@[simp] theorem isiAll_cons {g : Glob} {y : Tx ⊕ Nat} {k : Cl} {cs : List Cl} : isiAll g y (k :: cs) = (isiOne g y k).bind fun b => if b then some true else isiAll g y cs := id rfl
@[simp] theorem isiOne_ty {g : Glob} {m : String} : isiOne g (.inl (.py d)) (.ty m) = (tyOf d).bind fun t => kitB t m := id rfl
@[simp] theorem isiOne_tyE {g : Glob} {m : String} : isiOne g (.inr n) (.ty m) = g.excTy m := id rfl
@[simp] theorem isiOne_exc {g : Glob} {k : Nat} : isiOne g (.inr n) (.exc k) = some (g.sup n k) := id rfl
@[simp] theorem isiOne_excD {g : Glob} {k : Nat} : isiOne g (.inl (.py d)) (.exc k) = some false := id rfl
@[simp] theorem tyOf_none : tyOf .none = some "NoneType" := id rfl
@[simp] theorem tyOf_bool {k : Bool} : tyOf (.bool k) = some "bool" := id rfl
@[simp] theorem tyOf_int {k : Int} : tyOf (.int k) = some "int" := id rfl
@[simp] theorem tyOf_str {k : Str} : tyOf (.str k) = some "str" := id rfl
@[simp] theorem tyOf_list {k : List PyData} : tyOf (.list k) = some "list" := id rfl
@[simp] theorem tyOf_tuple {k : List PyData} : tyOf (.tuple k) = some "tuple" := id rfl
end
end Gr

set_option Elab.async false
set_option linter.all false
set_option maxRecDepth 100000
set_option maxHeartbeats 4000000
/-! Gr X: loops and comprehensions without functions in them, for the maths. -/
namespace Gr
open PySem L2
noncomputable section
def forB (K : Kit) (lk : Lk) (fx : List Nat) (tg : Tg) (b : Ss) (cs ρ : List C) : RS := opq (fun (cs ρ : List C) => forGo lk fx tg (fun ρ => xruns K (lk.fx ++ fx) b ρ) cs ρ) cs ρ
theorem forB_eq (K : Kit) (lk : Lk) (fx : List Nat) (tg : Tg) (b : Ss) (cs ρ : List C) : forB K lk fx tg b cs ρ = forGo lk fx tg (fun ρ => xruns K (lk.fx ++ fx) b ρ) cs ρ := by
  unfold forB
  rw [opq_eq]
def forR (K : Kit) (fx : List Nat) (tg : Tg) (b : Ss) : RI → RS
  | .ok cs lk ρ => forB K lk fx tg b cs ρ
  | .err n ρ => .err n ρ
  | .stuck => .stuck
def lcB (K : Kit) (lk : Lk) (own : List Nat) (tg : Tg) (cond : Oe) (elt : E) (cs : List C) (acc : List PyData) (ρ : List C) : RE := opq (fun (cs : List C) (acc : List PyData) (ρ : List C) => lcGo lk own tg (fun ρ => xevC K cond ρ) (fun ρ => xev K elt ρ) cs acc ρ) cs acc ρ
theorem lcB_eq (K : Kit) (lk : Lk) (own : List Nat) (tg : Tg) (cond : Oe) (elt : E) (cs : List C) (acc : List PyData) (ρ : List C) : lcB K lk own tg cond elt cs acc ρ = lcGo lk own tg (fun ρ => xevC K cond ρ) (fun ρ => xev K elt ρ) cs acc ρ := by
  unfold lcB
  rw [opq_eq]
def lcW (K : Kit) (own : List Nat) (tg : Tg) (cond : Oe) (elt : E) (cs : List C) (lk : Lk) (ρ : List C) : RE := if ownOk ρ own then
      (match lcB K lk own tg cond elt cs [] (wipeC ρ own) with
      | .ok c ρ' => .ok c (backC ρ ρ' own)
      | r => .stuck)
    else .stuck
def lcE (K : Kit) (own : List Nat) (tg : Tg) (cond : Oe) (elt : E) (r : RI) : RE := r.go fun cs lk ρ => lcW K own tg cond elt cs lk ρ
def forKB (K : Kit) (fx : List Nat) (tg : Tg) (b : Ss) (cs ρ : List C) : RS := opq (fun (cs ρ : List C) => forGoK fx tg (fun ρ => xruns K fx b ρ) cs ρ) cs ρ
theorem forKB_eq (K : Kit) (fx : List Nat) (tg : Tg) (b : Ss) (cs ρ : List C) : forKB K fx tg b cs ρ = forGoK fx tg (fun ρ => xruns K fx b ρ) cs ρ := by
  unfold forKB
  rw [opq_eq]
def whB (K : Kit) (fx : List Nat) (c : E) (b : Ss) (n : Nat) (ρ : List C) : RS := opq (fun (n : Nat) (ρ : List C) => whlGo (fun ρ => xev K c ρ) (fun ρ => xruns K fx b ρ) n ρ) n ρ
theorem whB_eq (K : Kit) (fx : List Nat) (c : E) (b : Ss) (n : Nat) (ρ : List C) : whB K fx c b n ρ = whlGo (fun ρ => xev K c ρ) (fun ρ => xruns K fx b ρ) n ρ := by
  unfold whB
  rw [opq_eq]
end
section
variable {K : Kit} {fx : List Nat} {ρ : List C} {c : C} {n : Nat} {cs : List C} {tg : Tg} {it : It} {b : Ss} {own : List Nat} {cond : Oe} {elt : E} {lk : Lk}
@[simp] theorem run_for : xrun K fx (.forS tg it b) ρ = forR K fx tg b (xevI K it ρ) := by
  rw [xrun_eq, xevI_eq, run]
  cases evI K it ρ with
  | ok cs lk ρ => show _ = forB _ _ _ _ _ _ _; rw [forB_eq, xruns_eq]
  | _ => rfl
theorem run_forK {i : Nat} : xrun K fx (.forK tg i b) ρ = (match keysAt ρ i with
    | some (ds, ρ) => forKB K fx tg b (ds.map fun d => .fro (.py d)) ρ
    | none => .stuck) := by
  rw [xrun_eq, run]
  cases keysAt ρ i with
  | some p => obtain ⟨ds, ρ⟩ := p; show _ = forKB _ _ _ _ _ _; rw [forKB_eq, xruns_eq]
  | none => rfl
/-- where nothing is raised the walk over keys is a walk over things -/
theorem forGoK_eq {body : List C → RS} : ∀ (cs ρ : List C), (∀ n ρ', forGo .no fx tg body cs ρ ≠ .err n ρ') → forGoK fx tg body cs ρ = forGo .no fx tg body cs ρ
  | [], ρ, _ => by
    unfold forGoK forGo
    rw [if_pos (show lkIs ρ .no from trivial)]
    rfl
  | c :: cs, ρ, h => by
    unfold forGoK forGo
    unfold forGo at h
    rw [if_pos (show lkIs ρ .no from trivial)] at h ⊢
    cases q : setTg fx ρ tg c with
    | none => rfl
    | some ρ1 =>
      simp only [q] at h ⊢
      cases q1 : body ρ1 with
      | next ρ2 => simp only [q1] at h ⊢; exact forGoK_eq cs ρ2 h
      | cont ρ2 => simp only [q1] at h ⊢; exact forGoK_eq cs ρ2 h
      | brk ρ2 => exact (if_pos (show lkIs ρ2 .no from trivial)).symm
      | ret c ρ2 => exact (if_pos (show lkIs ρ2 .no from trivial)).symm
      | err n ρ2 =>
        simp only [q1] at h
        exact absurd (if_pos (show lkIs ρ2 .no from trivial)) (h n (unlock ρ2 .no))
      | stuck => rfl
theorem forK_of {cs : List C} {r : RS} (h : forB K .no fx tg b cs ρ = r) (hn : ∀ n ρ', r ≠ .err n ρ') : forKB K fx tg b cs ρ = r := by
  rw [forB_eq] at h
  have e : (Lk.no.fx ++ fx) = fx := rfl
  rw [e] at h
  rw [forKB_eq, forGoK_eq _ _ (by rw [h]; exact hn), h]
@[simp] theorem forR_ok : forR K fx tg b (.ok cs lk ρ) = forB K lk fx tg b cs ρ := id rfl
@[simp] theorem forR_err : forR K fx tg b (.err n ρ) = .err n ρ := id rfl
@[simp] theorem fx_no : Lk.fx .no = [] := id rfl
@[simp] theorem fx_at {i : Nat} {x : Tx} {b : Bool} : Lk.fx (.at i x b) = [i] := id rfl
@[simp] theorem unlock_no : unlock ρ .no = ρ := id rfl
@[simp] theorem unlock_new {i : Nat} {x : Tx} : unlock ρ (.at i x true) = ρ.set i (.own x) := id rfl
@[simp] theorem unlock_old {i : Nat} {x : Tx} : unlock ρ (.at i x false) = ρ := id rfl
@[simp] theorem atI_0 {α : Type} {a : α} {l : List α} : L2.atI (a :: l) (0 : Int) = some a := L2.atI_nat (j := 0) rfl
@[simp] theorem atI_1 {α : Type} {a b : α} {l : List α} : L2.atI (a :: b :: l) (1 : Int) = some b := L2.atI_nat (j := 1) rfl
@[simp] theorem atI_2 {α : Type} {a b c : α} {l : List α} : L2.atI (a :: b :: c :: l) (2 : Int) = some c := L2.atI_nat (j := 2) rfl
@[simp] theorem atI_3 {α : Type} {a b c d : α} {l : List α} : L2.atI (a :: b :: c :: d :: l) (3 : Int) = some d := L2.atI_nat (j := 3) rfl
theorem forB_nil : forB K .no fx tg b [] ρ = .next ρ := by
  rw [forB_eq]
  unfold forGo
  rw [if_pos (show lkIs ρ .no from trivial)]
  rfl
open Classical in
theorem forB_cons : forB K .no fx tg b (c :: cs) ρ = (match setTg fx ρ tg c with
    | none => .stuck
    | some ρ1 => match xruns K fx b ρ1 with
      | .next ρ2 => forB K .no fx tg b cs ρ2
      | .cont ρ2 => forB K .no fx tg b cs ρ2
      | .brk ρ2 => .next ρ2
      | .ret c ρ2 => .ret c ρ2
      | .err n ρ2 => .err n ρ2
      | .stuck => .stuck) := by
  simp only [forB_eq]
  conv => lhs; unfold forGo
  rw [if_pos (show lkIs ρ .no from trivial)]
  cases setTg fx ρ tg c with
  | none => rfl
  | some ρ1 =>
    have e : xruns K (Lk.no.fx ++ fx) b ρ1 = xruns K fx b ρ1 := rfl
    simp only [e]
    cases xruns K fx b ρ1 with
    | brk ρ2 => exact if_pos (show lkIs ρ2 .no from trivial)
    | ret c ρ2 => exact if_pos (show lkIs ρ2 .no from trivial)
    | err n ρ2 => exact if_pos (show lkIs ρ2 .no from trivial)
    | _ => rfl
@[simp] theorem ev_lc : xev K (.lc own tg it cond elt) ρ = lcE K own tg cond elt (xevI K it ρ) := by
  rw [xev_eq, xevI_eq, ev]
  unfold lcE
  refine congrArg (fun f => RI.go (evI K it ρ) f) (funext fun cs => funext fun lk => funext fun ρ => ?_)
  unfold lcW
  rw [lcB_eq, xevC_eq, xev_eq]
  all_goals
    by_cases h : ownOk ρ own = true
    · rw [if_pos h, if_pos h]
      cases lcGo lk own tg (fun ρ => evC K cond ρ) (fun ρ => ev K elt ρ) cs [] (wipeC ρ own) <;> rfl
    · rw [if_neg h, if_neg h]
open Classical in
@[simp] theorem lcE_ok : lcE K own tg cond elt (.ok cs .no ρ) = lcW K own tg cond elt cs .no ρ := by
  show (match lcW K own tg cond elt cs .no ρ with
    | .ok c ρ' => if lkIs ρ' .no then RE.ok c (unlock ρ' .no) else .stuck
    | _ => .stuck) = _
  have : ∀ n r, lcW K own tg cond elt cs .no ρ ≠ .err n r := by
    intro n r h
    unfold lcW at h
    split at h
    · split at h <;> cases h
    · cases h
  cases h : lcW K own tg cond elt cs .no ρ with
  | ok c ρ' => exact if_pos (show lkIs ρ' .no from trivial)
  | err n r => exact absurd h (this n r)
  | stuck => rfl
open Classical in
@[simp] theorem lcE_at {j : Nat} {x : Tx} {nw : Bool} : lcE K own tg cond elt (.ok cs (.at j x nw) ρ) = (match lcW K own tg cond elt cs (.at j x nw) ρ with
    | .ok c ρ' => if ρ'[j]? = some (.lkd x) then .ok c (unlock ρ' (.at j x nw)) else .stuck
    | _ => .stuck) := by
  show (match lcW K own tg cond elt cs (.at j x nw) ρ with
    | .ok c ρ' => _
    | _ => _) = _
  cases h : lcW K own tg cond elt cs (.at j x nw) ρ with
  | ok c ρ' => 
    show @ite _ _ _ _ _ = @ite _ _ _ _ _
    by_cases hh : ρ'[j]? = some (.lkd x)
    · rw [if_pos hh, if_pos (show lkIs ρ' (.at j x nw) from hh)]
    · rw [if_neg hh, if_neg (show ¬ lkIs ρ' (.at j x nw) from hh)]
  | _ => rfl
theorem lcW_ok {ρ' : List C} (h1 : ownOk ρ own = true) (h2 : lcB K lk own tg cond elt cs [] (wipeC ρ own) = .ok c ρ') : lcW K own tg cond elt cs lk ρ = .ok c (backC ρ ρ' own) := by
  unfold lcW
  rw [if_pos h1, h2]
@[simp] theorem run_whl {k : Nat} {e : E} : xrun K fx (.whl k e b) ρ = whB K fx e b k ρ := by rw [whB_eq, xrun_eq, xev_eq, xruns_eq, run]
end
/-- a walk's turns: a number, a state, the slots -/
theorem for_st {α σ : Type} {K : Kit} {lk : Lk} {fx : List Nat} {tg : Tg} {b : Ss} (g : α → C) (f : σ → α → σ) (I : Nat → σ → List C → Prop) (hlk : ∀ i s ρ, I i s ρ → lkIs ρ lk) (xs : List α)
    (h : ∀ i s x ρ, xs[i]? = some x → I i s ρ → ∃ ρ1 ρ2, setTg fx ρ tg (g x) = some ρ1 ∧ (xruns K (lk.fx ++ fx) b ρ1 = .next ρ2 ∨ xruns K (lk.fx ++ fx) b ρ1 = .cont ρ2) ∧ I (i + 1) (f s x) ρ2) (s : σ) (ρ : List C) (h0 : I 0 s ρ) :
    ∃ ρ', I xs.length (xs.foldl f s) ρ' ∧ forB K lk fx tg b (xs.map g) ρ = .next (unlock ρ' lk) := by
  simp only [forB_eq]
  have go : ∀ (ys : List α) (i : Nat) (s : σ) (ρ : List C), I i s ρ → i + ys.length = xs.length → (∀ j, ys[j]? = xs[i + j]?) → ∃ ρ', I xs.length (ys.foldl f s) ρ' ∧ forGo lk fx tg (fun ρ => xruns K (lk.fx ++ fx) b ρ) (ys.map g) ρ = .next (unlock ρ' lk) := by
    intro ys
    induction ys with
    | nil =>
      intro i s ρ hi hn _
      refine ⟨ρ, ?_, ?_⟩
      · rw [← hn]; exact hi
      · rw [List.map_nil]
        unfold forGo
        rw [if_pos (hlk _ _ _ hi)]
    | cons y ys ih =>
      intro i s ρ hi hn hx
      have hy : xs[i]? = some y := by have := hx 0; simpa using this.symm
      obtain ⟨ρ1, ρ2, h1, h2, h3⟩ := h i s y ρ hy hi
      obtain ⟨ρ', h4, h5⟩ := ih (i + 1) (f s y) ρ2 h3 (by rw [List.length_cons] at hn; omega) fun j => by
        have := hx (j + 1)
        rw [List.getElem?_cons_succ] at this
        rw [this]; congr 1; omega
      refine ⟨ρ', h4, ?_⟩
      rw [List.map_cons]
      unfold forGo
      rw [if_pos (hlk _ _ _ hi), h1]
      rcases h2 with h2 | h2
      · simp only [h2]
        exact h5
      · simp only [h2]
        exact h5
  exact go xs 0 s ρ h0 (by omega) fun j => by rw [Nat.zero_add]
/-- a comprehension's turns, each of which leaves the slots as they were -/
theorem lc_gen {α : Type} {K : Kit} {lk : Lk} {own : List Nat} {tg : Tg} {cond : Oe} {elt : E} {ρ : List C} (g : α → C) (q : α → Bool) (f : α → PyData) (ρ1 : α → List C) (hk : lkIs ρ lk) :
    ∀ (xs : List α) (acc : List PyData), acc.length + xs.length ≤ line →
      (∀ x ∈ xs, setTg [] ρ tg (g x) = some (ρ1 x) ∧ xevC K cond (ρ1 x) = .ok (bool (q x)) (ρ1 x) ∧ (q x = true → ∃ c, xev K elt (ρ1 x) = .ok c (ρ1 x) ∧ fzD (ρ1 x) c = some (f x, ρ1 x)) ∧ wipeC (ρ1 x) own = ρ) →
      lcB K lk own tg cond elt (xs.map g) acc ρ = .ok (.own (.py (.list (acc ++ (xs.filter q).map f)))) ρ := by
  intro xs
  induction xs with
  | nil =>
    intro acc _ _
    rw [lcB_eq, List.map_nil]
    unfold lcGo
    rw [if_pos hk]
    simp
  | cons x xs ih =>
    intro acc hl h
    rw [List.length_cons] at hl
    obtain ⟨h1, h2, h3, h4⟩ := h x List.mem_cons_self
    rw [lcB_eq, List.map_cons]
    unfold lcGo
    rw [if_pos hk, h1]
    simp only [h2]
    have ih' := fun acc hl => ih acc hl fun y hy => h y (List.mem_cons_of_mem _ hy)
    cases hq : q x with
    | false =>
      show lcGo lk own tg (fun ρ => xevC K cond ρ) (fun ρ => xev K elt ρ) (xs.map g) acc (wipeC (ρ1 x) own) = _
      rw [h4, ← lcB_eq, ih' acc (by omega), List.filter_cons_of_neg (by rw [hq]; exact Bool.false_ne_true)]
    | true =>
      obtain ⟨c, h5, h6⟩ := h3 hq
      show (match xev K elt (ρ1 x) with
        | .ok c ρ3 => match fzD ρ3 c with
          | some (d, ρ4) => if acc.length < line then lcGo lk own tg (fun ρ => xevC K cond ρ) (fun ρ => xev K elt ρ) (xs.map g) (acc ++ [d]) (wipeC ρ4 own) else .stuck
          | none => .stuck
        | _ => .stuck) = _
      rw [h5]
      simp only [h6]
      rw [if_pos (by omega), h4, ← lcB_eq, ih' (acc ++ [f x]) (by rw [List.length_append]; simp; omega), List.filter_cons_of_pos hq, List.map_cons, List.append_assoc]
      rfl
/-- the same without a test -/
theorem lc_all {α : Type} {K : Kit} {lk : Lk} {own : List Nat} {tg : Tg} {elt : E} {ρ : List C} (g : α → C) (f : α → PyData) (ρ1 : α → List C) (hk : lkIs ρ lk) (xs : List α) (hl : xs.length ≤ line)
      (h : ∀ x ∈ xs, setTg [] ρ tg (g x) = some (ρ1 x) ∧ (∃ c, xev K elt (ρ1 x) = .ok c (ρ1 x) ∧ fzD (ρ1 x) c = some (f x, ρ1 x)) ∧ wipeC (ρ1 x) own = ρ) :
      lcB K lk own tg .no elt (xs.map g) [] ρ = .ok (.own (.py (.list (xs.map f)))) ρ := by
  have := lc_gen (K := K) (lk := lk) (own := own) (tg := tg) (cond := .no) (elt := elt) g (fun _ => true) f ρ1 hk xs [] (by simpa using hl) fun x hx => ⟨(h x hx).1, evC_no, fun _ => (h x hx).2.1, (h x hx).2.2⟩
  rwa [List.nil_append, List.filter_eq_self.mpr fun _ _ => rfl] at this
/-! data of pairs -/
theorem boolsD_map {α : Type} (f : α → Bool) (xs : List α) : boolsD (xs.map fun x => .bool (f x)) = some (xs.map f) := by
  induction xs with
  | nil => rfl
  | cons x xs ih => rw [List.map_cons]; show (boolsD (xs.map fun x => .bool (f x))).map (f x :: ·) = _; rw [ih]; rfl
theorem atI_nn {α : Type} {ds : List α} {k : Nat} (h : k < ds.length) : L2.atI ds (k : Int) = some ds[k] := L2.atI_nat (List.getElem?_eq_getElem h)
abbrev pyP (p : Int × Int) : PyData := .tuple [.int p.1, .int p.2]
theorem any_pyP (s : List (Int × Int)) (a b : Int) : ((s.map pyP).any fun z => PyData.eqv z (.tuple [.int a, .int b])) = decide ((a, b) ∈ s) := by
  rw [List.any_map, Bool.eq_iff_iff, List.any_eq_true, decide_eq_true_eq]
  constructor
  · rintro ⟨⟨x, y⟩, hm, h⟩
    simp at h
    obtain ⟨rfl, rfl⟩ := h
    exact hm
  · intro hm
    exact ⟨_, hm, by simp⟩
theorem sort_pairs {ds : List PyData} (h : ∀ d ∈ ds, ∃ a b, d = .tuple [.int a, .int b]) : srtO ds = true := by
  unfold srtO sortable
  rw [Bool.and_eq_true, Bool.and_eq_true, Bool.or_eq_true]
  refine ⟨⟨List.all_eq_true.mpr fun d hd => List.all_eq_true.mpr fun e he => ?_, .inl (List.all_eq_true.mpr fun d hd => ?_)⟩, List.all_eq_true.mpr fun d hd => ?_⟩
  · obtain ⟨a, b, rfl⟩ := h d hd
    obtain ⟨a', b', rfl⟩ := h e he
    rfl
  · obtain ⟨a, b, rfl⟩ := h d hd
    rfl
  · obtain ⟨a, b, rfl⟩ := h d hd
    rfl
theorem sort_prs (s : List (Int × Int)) : srtO (s.map pyP) = true := sort_pairs fun d hd => by
  obtain ⟨p, _, rfl⟩ := List.mem_map.mp hd
  exact ⟨_, _, rfl⟩
theorem sort_ints (s : List Int) : srtO (s.map .int) = true := by
  unfold srtO sortable
  rw [Bool.and_eq_true, Bool.and_eq_true, Bool.or_eq_true]
  refine ⟨⟨List.all_eq_true.mpr fun d hd => List.all_eq_true.mpr fun e he => ?_, .inr (List.all_eq_true.mpr fun d hd => ?_)⟩, List.all_eq_true.mpr fun d hd => ?_⟩
  · obtain ⟨a, _, rfl⟩ := List.mem_map.mp hd
    obtain ⟨b, _, rfl⟩ := List.mem_map.mp he
    rfl
  · obtain ⟨a, _, rfl⟩ := List.mem_map.mp hd
    rfl
  · obtain ⟨a, _, rfl⟩ := List.mem_map.mp hd
    rfl
def cutZ {α : Type} (ns : List α) (lo hi : Option Int) : List α := (ns.drop (HT.sIx ns.length 0 lo)).take (HT.sIx ns.length ns.length hi - HT.sIx ns.length 0 lo)
theorem cutD_map {α : Type} (f : α → PyData) (ns : List α) (lo hi : Option Int) : cutD (ns.map f) lo hi = (cutZ ns lo hi).map f := by
  unfold cutD cutZ
  rw [List.length_map, List.map_take, List.map_drop]
theorem cutZ_len {α : Type} (ns : List α) (lo hi : Option Int) : (cutZ ns lo hi).length ≤ ns.length := by
  unfold cutZ
  rw [List.length_take, List.length_drop]
  omega
theorem cutZ_to {α : Type} (ns : List α) (k : Nat) : cutZ ns none (some (k : Int)) = ns.take k := by
  unfold cutZ
  rw [HT.sIx_none, HT.sIx_nat, List.drop_zero, Nat.sub_zero]
  by_cases h : k ≤ ns.length
  · rw [Nat.min_eq_left h]
  · rw [Nat.min_eq_right (by omega), List.take_of_length_le (Nat.le_refl _), List.take_of_length_le (by omega)]
theorem cutZ_from {α : Type} (ns : List α) (k : Nat) : cutZ ns (some (k : Int)) none = ns.drop k := by
  unfold cutZ
  rw [HT.sIx_none, HT.sIx_nat]
  by_cases h : k ≤ ns.length
  · rw [Nat.min_eq_left h, List.take_of_length_le (by rw [List.length_drop]; omega)]
  · rw [Nat.min_eq_right (by omega), List.drop_of_length_le (Nat.le_refl _), List.drop_of_length_le (by omega), List.take_nil]
/-! sorted -/
def le2 (a b : Int × Int) : Bool := decide (a.1 < b.1 ∨ (a.1 = b.1 ∧ a.2 ≤ b.2))
def srt2 (s : List (Int × Int)) : List (Int × Int) := s.mergeSort le2
theorem le2_trans (a b c : Int × Int) (h : le2 a b = true) (h' : le2 b c = true) : le2 a c = true := by
  unfold le2 at *; simp only [decide_eq_true_eq] at *; omega
theorem le2_total (a b : Int × Int) : (le2 a b || le2 b a) = true := by
  unfold le2; simp only [Bool.or_eq_true, decide_eq_true_eq]; omega
theorem le2_anti (a b : Int × Int) (h : le2 a b = true) (h' : le2 b a = true) : a = b := by
  unfold le2 at *; simp only [decide_eq_true_eq] at *
  obtain ⟨a1, a2⟩ := a
  obtain ⟨b1, b2⟩ := b
  simp only at h h'
  have e1 : a1 = b1 := by omega
  have e2 : a2 = b2 := by omega
  rw [e1, e2]
theorem srt2_perm (s : List (Int × Int)) : (srt2 s).Perm s := List.mergeSort_perm _ _
theorem srt2_le (s : List (Int × Int)) : (srt2 s).Pairwise fun a b => le2 a b = true := List.pairwise_mergeSort le2_trans le2_total s
theorem srt2_eq {s t : List (Int × Int)} (h : s.Perm t) : srt2 s = srt2 t :=
  List.Perm.eq_of_pairwise (le := fun a b => le2 a b = true) (fun a b _ _ => le2_anti a b) (srt2_le s) (srt2_le t) (((srt2_perm s).trans h).trans (srt2_perm t).symm)
theorem sortD_prs (s : List (Int × Int)) : sortD (s.map pyP) = (srt2 s).map pyP := by
  unfold sortD srt2
  refine (List.map_mergeSort fun a _ b _ => ?_).symm
  exact (congrFun (congrFun (PySem.W.dataLe_ii (fun p : Int × Int => p.1) fun p => p.2) a) b).symm
def srtI (s : List Int) : List Int := s.mergeSort fun a b => decide (a ≤ b)
theorem srtI_perm (s : List Int) : (srtI s).Perm s := List.mergeSort_perm _ _
theorem srtI_le (s : List Int) : (srtI s).Pairwise fun a b => a ≤ b := by
  have := List.pairwise_mergeSort (le := fun a b : Int => decide (a ≤ b)) (fun a b c h h' => by simp only [decide_eq_true_eq] at *; omega) (fun a b => by simp only [Bool.or_eq_true, decide_eq_true_eq]; omega) s
  exact this.imp fun h => of_decide_eq_true h
theorem srtI_eq {s t : List Int} (h : s.Perm t) : srtI s = srtI t :=
  List.Perm.eq_of_pairwise (le := fun a b : Int => a ≤ b) (fun a b _ _ h h' => by omega) (srtI_le s) (srtI_le t) (((srtI_perm s).trans h).trans (srtI_perm t).symm)
theorem sortD_ints (s : List Int) : sortD (s.map .int) = (srtI s).map .int := by
  unfold sortD srtI
  refine (List.map_mergeSort fun a _ b _ => ?_).symm
  exact (congrFun (congrFun (PySem.W.dataLe_int (fun p : Int => p)) a) b).symm
@[simp] theorem eqvAll_prs : ∀ {a b : List (Int × Int)}, PyData.eqvAll (a.map pyP) (b.map pyP) = decide (a = b)
  | [], [] => by simp
  | [], _ :: _ => by simp
  | _ :: _, [] => by simp
  | (a, b) :: as, (c, d) :: bs => by
    rw [List.map_cons, List.map_cons, eqvAll_cc, eqvAll_prs]
    simp [Bool.eq_iff_iff]
theorem dp_prs (s : List (Int × Int)) : dp (.list (s.map pyP)) = true := by
  show (s.map pyP).all (dep 7) = true
  rw [List.all_map]; exact List.all_eq_true.mpr fun _ _ => rfl
theorem dp_prsT (s : List (Int × Int)) : dp (.tuple (s.map pyP)) = true := dp_prs s
@[simp] theorem eqvAll_e {ds : List PyData} : PyData.eqvAll ds [] = ds.isEmpty := by cases ds <;> simp
/-! a web made -/
/-- the lesser first -/
abbrev lo2 (p : Int × Int) : Int × Int := (if p.2 < p.1 then p.2 else p.1, if p.1 < p.2 then p.2 else p.1)
/-- pairs that make a web of p places -/
def Ties (p : Int) (s : List (Int × Int)) : Prop := (∀ x ∈ s, x.1 ≠ x.2 ∧ 0 ≤ x.1 ∧ x.1 < p ∧ 0 ≤ x.2 ∧ x.2 < p) ∧ (s.map lo2).Nodup
/-- the web's ties -/
abbrev webT (s : List (Int × Int)) : PyData := .tuple ((srt2 (s.map lo2)).map pyP)
abbrev webX (p : Int) (s : List (Int × Int)) : Tx := .obj 0 [.int p, webT s]
@[simp] theorem itemC_bor' {x : Tx} : itemC (.bor x) = fun d => asB (.py d) := id rfl
def webStep (p : Int) (f : List (Int × Int)) (x : Int × Int) : List (Int × Int) ⊕ Unit := if x.1 = x.2 ∨ (lo2 x).1 < 0 ∨ p ≤ (lo2 x).2 ∨ lo2 x ∈ f then .inr () else .inl (f ++ [lo2 x])
theorem lo2_eq {x y : Int × Int} (h : lo2 x = lo2 y) : x = y ∨ x = (y.2, y.1) := by
  obtain ⟨a, b⟩ := x
  obtain ⟨c, d⟩ := y
  simp only [lo2, Prod.mk.injEq] at h ⊢
  split at h <;> split at h <;> split at h <;> split at h <;> omega
/-! a walk that may end ahead of time -/
def foldX {α σ τ : Type} (f : σ → α → σ ⊕ τ) : σ → List α → σ ⊕ τ
  | s, [] => .inl s
  | s, x :: xs => match f s x with
    | .inl s' => foldX f s' xs
    | .inr t => .inr t
theorem foldX_cons {α σ τ : Type} {f : σ → α → σ ⊕ τ} {s : σ} {x : α} {xs : List α} : foldX f s (x :: xs) = (match f s x with
    | .inl s' => foldX f s' xs
    | .inr t => .inr t) := rfl
open Classical in
noncomputable def exitB (lk : Lk) : RS → RS
  | .brk ρ2 => if lkIs ρ2 lk then .next (unlock ρ2 lk) else .stuck
  | .ret c ρ2 => if lkIs ρ2 lk then .ret c (unlock ρ2 lk) else .stuck
  | .err n ρ2 => if lkIs ρ2 lk then .err n (unlock ρ2 lk) else .stuck
  | _ => .stuck
def isExit : RS → Prop
  | .brk _ => True
  | .ret _ _ => True
  | .err _ _ => True
  | _ => False
@[simp] theorem isExit_brk {ρ : List C} : isExit (.brk ρ) = True := id rfl
@[simp] theorem isExit_ret {c : C} {ρ : List C} : isExit (.ret c ρ) = True := id rfl
@[simp] theorem isExit_err {n : Nat} {ρ : List C} : isExit (.err n ρ) = True := id rfl
@[simp] theorem exitB_ret {c : C} {ρ : List C} : exitB .no (.ret c ρ) = .ret c ρ := by unfold exitB; exact if_pos (show lkIs ρ .no from trivial)
@[simp] theorem exitB_brk {ρ : List C} : exitB .no (.brk ρ) = .next ρ := by unfold exitB; exact if_pos (show lkIs ρ .no from trivial)
@[simp] theorem exitB_err {n : Nat} {ρ : List C} : exitB .no (.err n ρ) = .err n ρ := by unfold exitB; exact if_pos (show lkIs ρ .no from trivial)
theorem for_ex {α σ τ : Type} {K : Kit} {lk : Lk} {fx : List Nat} {tg : Tg} {b : Ss} (g : α → C) (f : σ → α → σ ⊕ τ) (I : Nat → σ → List C → Prop) (Ex : τ → RS → Prop) (hlk : ∀ i s ρ, I i s ρ → lkIs ρ lk) (xs : List α)
    (h : ∀ i s x ρ, xs[i]? = some x → I i s ρ → ∃ ρ1, setTg fx ρ tg (g x) = some ρ1 ∧ match f s x with
      | .inl s' => ∃ ρ2, (xruns K (lk.fx ++ fx) b ρ1 = .next ρ2 ∨ xruns K (lk.fx ++ fx) b ρ1 = .cont ρ2) ∧ I (i + 1) s' ρ2
      | .inr t => isExit (xruns K (lk.fx ++ fx) b ρ1) ∧ Ex t (xruns K (lk.fx ++ fx) b ρ1)) (s : σ) (ρ : List C) (h0 : I 0 s ρ) :
    match foldX f s xs with
    | .inl s' => ∃ ρ', I xs.length s' ρ' ∧ forB K lk fx tg b (xs.map g) ρ = .next (unlock ρ' lk)
    | .inr t => ∃ r, Ex t r ∧ forB K lk fx tg b (xs.map g) ρ = exitB lk r := by
  simp only [forB_eq]
  have go : ∀ (ys : List α) (i : Nat) (s : σ) (ρ : List C), I i s ρ → i + ys.length = xs.length → (∀ j, ys[j]? = xs[i + j]?) → match foldX f s ys with
      | .inl s' => ∃ ρ', I xs.length s' ρ' ∧ forGo lk fx tg (fun ρ => xruns K (lk.fx ++ fx) b ρ) (ys.map g) ρ = .next (unlock ρ' lk)
      | .inr t => ∃ r, Ex t r ∧ forGo lk fx tg (fun ρ => xruns K (lk.fx ++ fx) b ρ) (ys.map g) ρ = exitB lk r := by
    intro ys
    induction ys with
    | nil =>
      intro i s ρ hi hn _
      refine ⟨ρ, ?_, ?_⟩
      · rw [← hn]; exact hi
      · rw [List.map_nil]
        unfold forGo
        rw [if_pos (hlk _ _ _ hi)]
    | cons y ys ih =>
      intro i s ρ hi hn hx
      have hy : xs[i]? = some y := by have := hx 0; simpa using this.symm
      obtain ⟨ρ1, h1, h2⟩ := h i s y ρ hy hi
      unfold foldX
      cases hf : f s y with
      | inl s' =>
        rw [hf] at h2
        obtain ⟨ρ2, h2, h3⟩ := h2
        have h4 := ih (i + 1) s' ρ2 h3 (by rw [List.length_cons] at hn; omega) fun j => by
          have := hx (j + 1)
          rw [List.getElem?_cons_succ] at this
          rw [this]; congr 1; omega
        have e : forGo lk fx tg (fun ρ => xruns K (lk.fx ++ fx) b ρ) ((y :: ys).map g) ρ = forGo lk fx tg (fun ρ => xruns K (lk.fx ++ fx) b ρ) (ys.map g) ρ2 := by
          rw [List.map_cons]
          conv => lhs; unfold forGo
          rw [if_pos (hlk _ _ _ hi), h1]
          rcases h2 with h2 | h2
          · simp only [h2]
          · simp only [h2]
        rw [e]
        exact h4
      | inr t =>
        rw [hf] at h2
        obtain ⟨h2, h3⟩ := h2
        refine ⟨_, h3, ?_⟩
        rw [List.map_cons]
        unfold forGo
        rw [if_pos (hlk _ _ _ hi), h1]
        cases hr : xruns K (lk.fx ++ fx) b ρ1 with
        | next ρ2 => rw [hr] at h2; exact h2.elim
        | cont ρ2 => rw [hr] at h2; exact h2.elim
        | stuck => rw [hr] at h2; exact h2.elim
        | _ => simp only [hr]; rfl
  exact go xs 0 s ρ h0 (by omega) fun j => by rw [Nat.zero_add]
theorem web_inl {p : Int} : ∀ {s f0 f : List (Int × Int)}, foldX (webStep p) f0 s = .inl f → (∀ x ∈ s, x.1 ≠ x.2 ∧ 0 ≤ (lo2 x).1 ∧ (lo2 x).2 < p ∧ lo2 x ∉ f0) ∧ (s.map lo2).Nodup
  | [], _, _, _ => ⟨fun x h => absurd h List.not_mem_nil, List.nodup_nil⟩
  | x :: s, f0, f, h => by
    rw [foldX_cons] at h
    split at h
    · next s' e =>
      unfold webStep at e
      split at e
      · cases e
      · next hx =>
        cases e
        have ⟨h1, h2⟩ := web_inl h
        simp only [not_or] at hx
        obtain ⟨k1, k2, k3, k4⟩ := hx
        refine ⟨fun y hy => ?_, ?_⟩
        · rcases List.mem_cons.mp hy with rfl | hy
          · exact ⟨k1, Int.not_lt.mp k2, Int.not_le.mp k3, k4⟩
          · obtain ⟨q1, q2, q3, q4⟩ := h1 y hy
            exact ⟨q1, q2, q3, fun hh => q4 (List.mem_append_left _ hh)⟩
        · rw [List.map_cons, List.nodup_cons]
          refine ⟨fun hm => ?_, h2⟩
          obtain ⟨y, hy, e⟩ := List.mem_map.mp hm
          exact (h1 y hy).2.2.2 (by rw [e]; exact List.mem_append_right _ (List.mem_singleton.mpr rfl))
    · cases h
theorem web_ok {p : Int} : ∀ {s f0 : List (Int × Int)}, Ties p s → (∀ x ∈ s, lo2 x ∉ f0) → foldX (webStep p) f0 s = .inl (f0 ++ s.map lo2)
  | [], f0, _, _ => by unfold foldX; rw [List.map_nil, List.append_nil]
  | x :: s, f0, h, hd => by
    rw [foldX_cons, show webStep p f0 x = if x.1 = x.2 ∨ (lo2 x).1 < 0 ∨ p ≤ (lo2 x).2 ∨ lo2 x ∈ f0 then .inr () else .inl (f0 ++ [lo2 x]) from rfl]
    obtain ⟨h1, h2⟩ := h
    rw [List.map_cons, List.nodup_cons] at h2
    have ⟨k1, k2, k3, k4, k5⟩ := h1 x List.mem_cons_self
    have k6 := hd x List.mem_cons_self
    have : ¬ (x.1 = x.2 ∨ (lo2 x).1 < 0 ∨ p ≤ (lo2 x).2 ∨ lo2 x ∈ f0) := by
      simp only [not_or]
      refine ⟨k1, ?_, ?_, k6⟩
      · show ¬ (if x.2 < x.1 then x.2 else x.1) < 0
        split <;> omega
      · show ¬ p ≤ (if x.1 < x.2 then x.2 else x.1)
        split <;> omega
    rw [if_neg this]
    show foldX (webStep p) (f0 ++ [lo2 x]) s = _
    rw [web_ok ⟨fun y hy => h1 y (List.mem_cons_of_mem _ hy), h2.2⟩, List.map_cons, List.append_assoc]
    · rfl
    · intro y hy hm
      rcases List.mem_append.mp hm with hm | hm
      · exact hd y (List.mem_cons_of_mem _ hy) hm
      · exact h2.1 (List.mem_map.mpr ⟨y, hy, List.mem_singleton.mp hm⟩)
/-- what makes a list of pairs no web's -/
def Bad (p : Int) (ps : List (Int × Int)) (q : Int × Int) : Prop := q.1 = q.2 ∨ q.1 < 0 ∨ q.2 < 0 ∨ p ≤ q.1 ∨ p ≤ q.2 ∨ q ∈ ps ∨ (q.2, q.1) ∈ ps
theorem lo2_swap (q : Int × Int) : lo2 (q.2, q.1) = lo2 q := by
  show ((if q.1 < q.2 then q.1 else q.2), (if q.2 < q.1 then q.1 else q.2)) = ((if q.2 < q.1 then q.2 else q.1), (if q.1 < q.2 then q.2 else q.1))
  rw [Prod.mk.injEq]
  constructor <;> split <;> split <;> omega
theorem web_bad {p : Int} {a b : List (Int × Int)} {q : Int × Int} (h : Bad p (a ++ b) q) : foldX (webStep p) [] (a ++ [q] ++ b) = .inr () := by
  cases hf : foldX (webStep p) [] (a ++ [q] ++ b) with
  | inr u => rfl
  | inl f =>
    exfalso
    have ⟨h1, h2⟩ := web_inl hf
    obtain ⟨k1, k2, k3, -⟩ := h1 q (List.mem_append_left _ (List.mem_append_right _ (List.mem_singleton.mpr rfl)))
    have k2 : 0 ≤ (if q.2 < q.1 then q.2 else q.1) := k2
    have k3 : (if q.1 < q.2 then q.2 else q.1) < p := k3
    have hno : ∀ r ∈ a ++ b, lo2 r ≠ lo2 q := by
      intro r hr e
      rw [List.map_append, List.map_append, List.map_cons, List.map_nil, List.append_assoc, List.nodup_append] at h2
      obtain ⟨_, h3, h4⟩ := h2
      rcases List.mem_append.mp hr with hr | hr
      · exact h4 _ (List.mem_map.mpr ⟨r, hr, rfl⟩) _ (List.mem_append_left _ (List.mem_singleton.mpr rfl)) e
      · rw [List.singleton_append, List.nodup_cons] at h3
        exact h3.1 (List.mem_map.mpr ⟨r, hr, e⟩)
    rcases h with h | h | h | h | h | h | h
    · exact k1 h
    · split at k2 <;> omega
    · split at k2 <;> omega
    · split at k3 <;> omega
    · split at k3 <;> omega
    · exact hno _ h rfl
    · exact hno _ h (lo2_swap q)
end Gr

set_option Elab.async false
set_option linter.all false
set_option maxRecDepth 100000
set_option maxHeartbeats 4000000
/-! Gr Y: numbers of sets, and sets by their numbers, in plain lists. -/
namespace Gr
open PySem L2
theorem rgD_nat (n : Nat) : rgD 0 (n : Int) = ((List.range' 0 n).map fun i : Nat => (i : Int)).map .int := by
  unfold rgD
  rw [List.map_map, ← List.range_eq_range', show ((n : Int) - 0).toNat = n from by omega]
  refine List.map_congr_left fun i _ => ?_
  show PyData.int (0 + (i : Int)) = .int (i : Int)
  rw [Int.zero_add]
theorem rgC_nat (n : Nat) : ((rgD 0 (n : Int)).map fun d => C.fro (.py d)) = ((List.range' 0 n).map fun i : Nat => (i : Int)).map fun a => C.fro (.py (.int a)) := by
  rw [rgD_nat, List.map_map, List.map_map, List.map_map]
  rfl
theorem rgC_to (a b : Int) : ((rgD a b).map fun d => C.fro (.py d)) = ((List.range (b - a).toNat).map fun i : Nat => a + (i : Int)).map fun a => C.fro (.py (.int a)) := by
  unfold rgD
  rw [List.map_map, List.map_map]
  rfl
theorem range'_get {n i x : Nat} (h : ((List.range' 0 n))[i]? = some x) : x = i ∧ i < n := by
  rw [← List.range_eq_range'] at h
  have hi := (List.getElem?_eq_some_iff.mp h).1
  rw [List.length_range] at hi
  rw [List.getElem?_range hi] at h
  cases h
  exact ⟨rfl, hi⟩
theorem range'Z_get {n i : Nat} {x : Int} (h : ((List.range' 0 n).map fun i : Nat => (i : Int))[i]? = some x) : x = (i : Int) ∧ i < n := by
  rw [List.getElem?_map] at h
  cases q : (List.range' 0 n)[i]? with
  | none => rw [q] at h; cases h
  | some k =>
    rw [q] at h
    cases h
    obtain ⟨rfl, hi⟩ := range'_get q
    exact ⟨rfl, hi⟩
theorem atI_int {xs : List Int} {k : Nat} (h : k < xs.length) : L2.atI (xs.map PyData.int) (k : Int) = some (.int (xs.getD k 0)) := by
  rw [atI_nn (by rw [List.length_map]; exact h)]
  simp [List.getD_eq_getElem?_getD, List.getElem?_eq_getElem h]
def bin : Nat → Nat → Nat
  | _, 0 => 1
  | 0, _ + 1 => 0
  | n + 1, k + 1 => bin n k + bin n (k + 1)
theorem bin_0 (n : Nat) : bin n 0 = 1 := by cases n <;> rfl
theorem bin_ss (n k : Nat) : bin (n + 1) (k + 1) = bin n k + bin n (k + 1) := rfl
theorem bin_gt : ∀ {n k : Nat}, n < k → bin n k = 0
  | 0, 0, h => absurd h (Nat.lt_irrefl 0)
  | 0, k + 1, _ => rfl
  | n + 1, 0, h => absurd h (Nat.not_lt_zero _)
  | n + 1, k + 1, h => by rw [bin_ss, bin_gt (by omega : n < k), bin_gt (by omega : n < k + 1)]
theorem bin_self : ∀ n : Nat, bin n n = 1
  | 0 => rfl
  | n + 1 => by rw [bin_ss, bin_self n, bin_gt (Nat.lt_succ_self n)]
theorem bin_pos : ∀ {n k : Nat}, k ≤ n → 0 < bin n k
  | n, 0, _ => by rw [bin_0]; exact Nat.one_pos
  | 0, k + 1, h => absurd h (by omega)
  | n + 1, k + 1, h => by
    rw [bin_ss]
    have := bin_pos (n := n) (k := k) (by omega)
    omega
theorem bin_mul : ∀ n k : Nat, (n + 1) * bin n k = bin (n + 1) (k + 1) * (k + 1)
  | 0, 0 => rfl
  | 0, k + 1 => by rw [bin_ss]; simp [bin]
  | n + 1, 0 => by
    have h := bin_mul n 0
    rw [bin_0] at h ⊢
    rw [bin_ss (n + 1) 0, bin_0]
    rw [Nat.mul_one, Nat.zero_add, Nat.mul_one] at h ⊢
    omega
  | n + 1, k + 1 => by
    have h1 := bin_mul n k
    have h2 := bin_mul n (k + 1)
    have e2 : bin (n + 1) (k + 1) = bin n k + bin n (k + 1) := rfl
    have e3 : (n + 1) * bin (n + 1) (k + 1) = (n + 1) * bin n k + (n + 1) * bin n (k + 1) := by rw [e2, Nat.mul_add]
    have e4 : (n + 1 + 1) * bin (n + 1) (k + 1) = (n + 1) * bin (n + 1) (k + 1) + bin (n + 1) (k + 1) := Nat.succ_mul _ _
    have e5 : (bin (n + 1) (k + 1) + bin (n + 1) (k + 1 + 1)) * (k + 1 + 1) = bin (n + 1) (k + 1) * (k + 1) + bin (n + 1) (k + 1) + bin (n + 1) (k + 1 + 1) * (k + 1 + 1) := by rw [Nat.add_mul, Nat.mul_succ (bin (n + 1) (k + 1)) (k + 1)]
    rw [bin_ss (n + 1) (k + 1), e4, e5, e3, h1, h2]
    omega
theorem bin_next {n k : Nat} (h : k ≤ n) : bin n (k + 1) * (k + 1) = bin n k * (n - k) := by
  have h1 := bin_mul n k
  rw [bin_ss, Nat.add_mul (bin n k)] at h1
  have h2 : (n + 1) * bin n k = bin n k * (k + 1) + bin n k * (n - k) := by
    rw [← Nat.mul_add, Nat.mul_comm]
    congr 1
    omega
  omega
theorem bin_step {n k : Nat} (h : k ≤ n) : (bin n k : Int) * ((n : Int) - k) / ((k : Int) + 1) = bin n (k + 1) := by
  have h1 := bin_next h
  have h2 : (bin n k : Int) * ((n : Int) - k) = (bin n (k + 1) : Int) * ((k : Int) + 1) := by
    have : ((n : Int) - k) = ((n - k : Nat) : Int) := by omega
    rw [this, show ((k : Int) + 1) = ((k + 1 : Nat) : Int) from rfl, ← Int.natCast_mul, ← Int.natCast_mul, h1]
  rw [h2]
  exact Int.mul_ediv_cancel _ (by omega)
/-- how many sets, as the program counts them -/
def chz (n s : Int) : Int := if s < 0 ∨ n < s then 0 else (bin n.toNat s.toNat : Nat)
theorem chz_nat (n s : Nat) : chz (n : Int) (s : Int) = (bin n s : Nat) := by
  unfold chz
  by_cases h : n < s
  · rw [if_pos (by omega), bin_gt h]; rfl
  · rw [if_neg (by omega)]; rfl
theorem chz_neg {n s : Int} (h : s < 0) : chz n s = 0 := by unfold chz; rw [if_pos (.inl h)]
/-- the set at a number: m places from a on, r of them still to be had -/
def un : Nat → Int → Nat → Int → List Int
  | 0, _, _, _ => []
  | _ + 1, _, 0, _ => []
  | m + 1, a, r + 1, left => if left < (bin m r : Nat) then a :: un m (a + 1) r left else un m (a + 1) (r + 1) (left - (bin m r : Nat))
theorem un_r0 (m : Nat) (a left : Int) : un m a 0 left = [] := by cases m <;> rfl
/-- a number of a set -/
def Nm (m r : Nat) (left : Int) : Prop := 0 ≤ left ∧ left < (bin m r : Nat)
theorem Nm.zero {r : Nat} {left : Int} (h : Nm 0 r left) : r = 0 := by
  cases r with
  | zero => rfl
  | succ r => obtain ⟨h1, h2⟩ := h; exfalso; have : bin 0 (r + 1) = 0 := rfl; omega
theorem Nm.skip {m r : Nat} {left : Int} (h : Nm (m + 1) (r + 1) left) (hn : ¬ left < (bin m r : Nat)) : Nm m (r + 1) (left - (bin m r : Nat)) := by
  obtain ⟨h1, h2⟩ := h
  rw [bin_ss] at h2
  constructor <;> omega
theorem un_len : ∀ {m r : Nat} {a left : Int}, Nm m r left → (un m a r left).length = r
  | 0, r, a, left, h => by rw [h.zero]; rfl
  | m + 1, 0, a, left, h => rfl
  | m + 1, r + 1, a, left, h => by
    unfold un
    split
    · next hl => rw [List.length_cons, un_len ⟨h.1, hl⟩]
    · next hl => exact un_len (h.skip hl)
theorem un_in : ∀ {m r : Nat} {a left : Int}, ∀ x ∈ un m a r left, a ≤ x ∧ x < a + m
  | 0, r, a, left, x, hx => absurd hx List.not_mem_nil
  | m + 1, 0, a, left, x, hx => absurd hx List.not_mem_nil
  | m + 1, r + 1, a, left, x, hx => by
    unfold un at hx
    split at hx
    · rcases List.mem_cons.mp hx with rfl | hx
      · omega
      · have := un_in x hx
        omega
    · have := un_in x hx
      omega
theorem un_lt : ∀ {m r : Nat} {a left : Int}, (un m a r left).Pairwise (· < ·)
  | 0, r, a, left => List.Pairwise.nil
  | m + 1, 0, a, left => List.Pairwise.nil
  | m + 1, r + 1, a, left => by
    unfold un
    split
    · exact .cons (fun x hx => by have := un_in x hx; omega) un_lt
    · exact un_lt
/-- the first set, the last set -/
theorem un_first : ∀ {m r : Nat} {a : Int}, r ≤ m → un m a r 0 = (List.range r).map fun i : Nat => a + (i : Int)
  | 0, r, a, h => by rw [Nat.le_zero.mp h]; rfl
  | m + 1, 0, a, h => rfl
  | m + 1, r + 1, a, h => by
    unfold un
    rw [if_pos (by have := bin_pos (n := m) (k := r) (by omega); omega), un_first (by omega), List.range_succ_eq_map, List.map_cons, List.map_map]
    refine congr (congrArg List.cons (by simp)) (List.map_congr_left fun i _ => ?_)
    show a + 1 + (i : Int) = a + ((i + 1 : Nat) : Int)
    omega
theorem un_last : ∀ {m r : Nat} {a : Int}, r ≤ m → un m a r ((bin m r : Nat) - 1) = (List.range r).map fun i : Nat => a + ((m - r : Nat) : Int) + (i : Int)
  | 0, r, a, h => by rw [Nat.le_zero.mp h]; rfl
  | m + 1, 0, a, h => rfl
  | m + 1, r + 1, a, h => by
    unfold un
    by_cases hm : r = m
    · subst hm
      have h1 : bin (r + 1) (r + 1) = 1 := bin_self _
      have h2 : bin r r = 1 := bin_self _
      rw [h1, h2, if_pos (by omega), show (((1 : Nat) : Int) - 1) = 0 from rfl, un_first (Nat.le_refl _), List.range_succ_eq_map, List.map_cons, List.map_map]
      refine congr (congrArg List.cons (by simp)) (List.map_congr_left fun i _ => ?_)
      show a + 1 + (i : Int) = a + ((r + 1 - (r + 1) : Nat) : Int) + ((i + 1 : Nat) : Int)
      omega
    · have hp := bin_pos (n := m) (k := r + 1) (by omega)
      rw [bin_ss, if_neg (by omega)]
      rw [show ((bin m r + bin m (r + 1) : Nat) : Int) - 1 - (bin m r : Nat) = (bin m (r + 1) : Nat) - 1 from by omega, un_last (by omega)]
      refine List.map_congr_left fun i _ => ?_
      omega
/-- the next number's set is greater -/
theorem un_next : ∀ {m r : Nat} {a left : Int}, Nm m r left → left + 1 < (bin m r : Nat) → un m a r left < un m a r (left + 1)
  | 0, r, a, left, h, h2 => by have := h.zero; subst this; obtain ⟨h1, _⟩ := h; have : bin 0 0 = 1 := rfl; omega
  | m + 1, 0, a, left, h, h2 => by obtain ⟨h1, _⟩ := h; have : bin (m + 1) 0 = 1 := rfl; omega
  | m + 1, r + 1, a, left, h, h2 => by
    rw [bin_ss] at h2
    unfold un
    by_cases h3 : left < (bin m r : Nat)
    · rw [if_pos h3]
      by_cases h4 : left + 1 < (bin m r : Nat)
      · rw [if_pos h4]
        exact List.cons_lt_cons_iff.mpr (.inr ⟨rfl, un_next ⟨h.1, h3⟩ h4⟩)
      · rw [if_neg h4]
        have hl : (un m (a + 1) (r + 1) (left + 1 - (bin m r : Nat))).length = r + 1 := un_len ⟨by omega, by omega⟩
        have hi := un_in (m := m) (r := r + 1) (a := a + 1) (left := left + 1 - (bin m r : Nat))
        cases hu : un m (a + 1) (r + 1) (left + 1 - (bin m r : Nat)) with
        | nil => rw [hu] at hl; cases hl
        | cons x xs =>
          have := hi x (by rw [hu]; exact List.mem_cons_self)
          exact List.cons_lt_cons_iff.mpr (.inl (by omega))
    · rw [if_neg h3, if_neg (by omega), show left + 1 - (bin m r : Nat) = (left - (bin m r : Nat)) + 1 from by omega]
      exact un_next (h.skip h3) (by omega)
/-! as the program goes through the places -/
def uStep (p g : Int) (s : List Int × Int) (a : Int) : List Int × Int :=
  if (s.1.length : Int) < g ∧ s.2 < chz (p - a - 1) (g - s.1.length - 1) then (s.1 ++ [a], s.2)
  else if (s.1.length : Int) < g then (s.1, s.2 - chz (p - a - 1) (g - s.1.length - 1)) else s
theorem un_fold (p g : Nat) : ∀ (m a : Nat) (f : List Int) (left : Int), a + m = p → f.length ≤ g →
    (((List.range' a m).map fun i : Nat => (i : Int)).foldl (uStep (p : Int) (g : Int)) (f, left)).1 = f ++ un m (a : Int) (g - f.length) left
  | 0, a, f, left, h, hf => by simp [un]
  | m + 1, a, f, left, h, hf => by
    rw [List.range'_succ, List.map_cons, List.foldl_cons]
    have hb : (p : Int) - (a : Int) - 1 = (m : Int) := by omega
    by_cases hg : f.length < g
    · obtain ⟨r, hr⟩ : ∃ r, g - f.length = r + 1 := ⟨g - f.length - 1, by omega⟩
      have hs : (g : Int) - (f.length : Int) - 1 = (r : Int) := by omega
      rw [hr]
      unfold un
      unfold uStep
      simp only [hb, hs, chz_nat]
      by_cases hl : left < (bin m r : Nat)
      · rw [if_pos ⟨by omega, hl⟩, if_pos hl]
        have := un_fold p g m (a + 1) (f ++ [(a : Int)]) left (by omega) (by rw [List.length_append, List.length_singleton]; omega)
        rw [show g - (f ++ [(a : Int)]).length = r from by rw [List.length_append, List.length_singleton]; omega] at this
        unfold uStep at this
        rw [this, List.append_assoc]
        rfl
      · rw [if_neg (fun h => hl h.2), if_pos (by omega), if_neg hl]
        have := un_fold p g m (a + 1) f (left - (bin m r : Nat)) (by omega) hf
        rw [hr] at this
        unfold uStep at this
        rw [this]
        rfl
    · have e : uStep (p : Int) (g : Int) (f, left) (a : Int) = (f, left) := by
        unfold uStep
        simp only
        rw [if_neg (fun h => by omega), if_neg (by omega)]
      rw [e, un_fold p g m (a + 1) f left (by omega) hf, show g - f.length = 0 from by omega, un_r0, un_r0]
/-- a set led back to its number -/
def nStep (p : Int) (xs : List Int) (s : Int × Nat) (a : Int) : Int × Nat :=
  if s.2 < xs.length ∧ xs.getD s.2 0 = a then (s.1, s.2 + 1)
  else if s.2 < xs.length then (s.1 + chz (p - a - 1) ((xs.length : Int) - s.2 - 1), s.2) else s
theorem nr_fold (p : Nat) : ∀ (m a r : Nat) (left n : Int) (pre : List Int), a + m = p → Nm m r left →
    (((List.range' a m).map fun i : Nat => (i : Int)).foldl (nStep (p : Int) (pre ++ un m (a : Int) r left)) (n, pre.length)).1 = n + left
  | 0, a, r, left, n, pre, h, hn => by
    have hr := hn.zero
    subst hr
    obtain ⟨h1, h2⟩ := hn
    have : bin 0 0 = 1 := rfl
    simp
    omega
  | m + 1, a, 0, left, n, pre, h, hn => by
    obtain ⟨h1, h2⟩ := hn
    rw [bin_0] at h2
    have h0 : left = 0 := by omega
    subst h0
    rw [List.range'_succ, List.map_cons, List.foldl_cons, un_r0, List.append_nil]
    have e : nStep (p : Int) pre (n, pre.length) (a : Int) = (n, pre.length) := by
      unfold nStep
      rw [if_neg (fun h => by have := h.1; simp only at this; omega), if_neg (by simp only; omega)]
    rw [e]
    have := nr_fold p m (a + 1) 0 0 n pre (by omega) ⟨Int.le_refl _, by rw [bin_0]; omega⟩
    rwa [un_r0, List.append_nil] at this
  | m + 1, a, r + 1, left, n, pre, h, hn => by
    rw [List.range'_succ, List.map_cons, List.foldl_cons]
    have hb : (p : Int) - (a : Int) - 1 = (m : Int) := by omega
    by_cases hl : left < (bin m r : Nat)
    · have e : un (m + 1) (a : Int) (r + 1) left = (a : Int) :: un m ((a : Int) + 1) r left := by
        conv => lhs; unfold un
        rw [if_pos hl]
      rw [e]
      have e2 : nStep (p : Int) (pre ++ (a : Int) :: un m ((a : Int) + 1) r left) (n, pre.length) (a : Int) = (n, pre.length + 1) := by
        unfold nStep
        simp only
        rw [if_pos ⟨by rw [List.length_append, List.length_cons]; omega, by simp⟩]
      rw [e2]
      have := nr_fold p m (a + 1) r left n (pre ++ [(a : Int)]) (by omega) ⟨hn.1, hl⟩
      rw [List.append_assoc, List.singleton_append, List.length_append, List.length_singleton] at this
      exact this
    · have e : un (m + 1) (a : Int) (r + 1) left = un m ((a : Int) + 1) (r + 1) (left - (bin m r : Nat)) := by
        conv => lhs; unfold un
        rw [if_neg hl]
      rw [e]
      have hlen := un_len (a := (a : Int) + 1) (hn.skip hl)
      have hin := un_in (m := m) (r := r + 1) (a := (a : Int) + 1) (left := left - (bin m r : Nat))
      have := nr_fold p m (a + 1) (r + 1) (left - (bin m r : Nat)) (n + (bin m r : Nat)) pre (by omega) (hn.skip hl)
      rw [show ((a + 1 : Nat) : Int) = (a : Int) + 1 from rfl] at this
      generalize un m ((a : Int) + 1) (r + 1) (left - (bin m r : Nat)) = ys at hlen hin this ⊢
      have e2 : nStep (p : Int) (pre ++ ys) (n, pre.length) (a : Int) = (n + (bin m r : Nat), pre.length) := by
        unfold nStep
        simp only
        have h1 : ¬ (pre.length < (pre ++ ys).length ∧ (pre ++ ys).getD pre.length 0 = (a : Int)) := by
          rintro ⟨_, h2⟩
          cases ys with
          | nil => cases hlen
          | cons y ys =>
            have h3 := hin y List.mem_cons_self
            simp at h2
            omega
        rw [if_neg h1, if_pos (by rw [List.length_append]; omega)]
        have h4 : (((pre ++ ys).length : Nat) : Int) - (pre.length : Int) - 1 = (r : Int) := by rw [List.length_append]; omega
        rw [hb, h4, chz_nat]
      rw [e2, this]
      omega
/-- how many sets are ahead, by sums -/
def ahS (p : Int) (rest : Nat) (s : Int) (a : Int) : Int := s + (bin (p - a - 1).toNat rest : Nat)
def ah (p : Int) : Int → List Int → Int → Int
  | _, [], s => s
  | a, x :: xs, s => ah p (x + 1) xs ((((List.range (x - a).toNat).map fun i : Nat => a + (i : Int))).foldl (ahS p xs.length) s)
theorem ah_skip (p a : Int) (x : Int) (xs : List Int) (s : Int) (h : a < x) : ah p a (x :: xs) s = ah p (a + 1) (x :: xs) (ahS p xs.length s a) := by
  unfold ah
  obtain ⟨k, hk⟩ : ∃ k, (x - a).toNat = k + 1 := ⟨(x - a).toNat - 1, by omega⟩
  rw [hk, show (x - (a + 1)).toNat = k from by omega, List.range_succ_eq_map, List.map_cons, List.foldl_cons, List.map_map]
  congr 1
  rw [show a + ((0 : Nat) : Int) = a from by omega]
  congr 1
  refine List.map_congr_left fun i _ => ?_
  show a + ((i + 1 : Nat) : Int) = a + 1 + (i : Int)
  omega
theorem ah_un (p : Nat) : ∀ (m a r : Nat) (left s : Int), a + m = p → Nm m r left → ah (p : Int) (a : Int) (un m (a : Int) r left) s = s + left
  | 0, a, r, left, s, h, hn => by
    have hr := hn.zero
    subst hr
    obtain ⟨h1, h2⟩ := hn
    have : bin 0 0 = 1 := rfl
    show s = s + left
    omega
  | m + 1, a, 0, left, s, h, hn => by
    obtain ⟨h1, h2⟩ := hn
    rw [bin_0] at h2
    show s = s + left
    omega
  | m + 1, a, r + 1, left, s, h, hn => by
    unfold un
    by_cases hl : left < (bin m r : Nat)
    · rw [if_pos hl]
      unfold ah
      rw [show ((a : Int) - (a : Int)).toNat = 0 from by omega]
      exact ah_un p m (a + 1) r left s (by omega) ⟨hn.1, hl⟩
    · rw [if_neg hl]
      have hlen := un_len (a := (a : Int) + 1) (hn.skip hl)
      have hin := un_in (m := m) (r := r + 1) (a := (a : Int) + 1) (left := left - (bin m r : Nat))
      have := ah_un p m (a + 1) (r + 1) (left - (bin m r : Nat)) (s + (bin m r : Nat)) (by omega) (hn.skip hl)
      rw [show ((a + 1 : Nat) : Int) = (a : Int) + 1 from rfl] at this
      generalize un m ((a : Int) + 1) (r + 1) (left - (bin m r : Nat)) = ys at hlen hin this ⊢
      cases ys with
      | nil => cases hlen
      | cons y ys =>
        have h3 := hin y List.mem_cons_self
        rw [ah_skip _ _ _ _ _ (by omega)]
        have e : ahS (p : Int) ys.length s (a : Int) = s + (bin m r : Nat) := by
          unfold ahS
          rw [List.length_cons] at hlen
          rw [show ((p : Int) - (a : Int) - 1).toNat = m from by omega, show ys.length = r from by omega]
        rw [e, this]
        omega
/-! rows of sums -/
def binRow (n : Nat) : List Int := (List.range (n + 1)).map fun j => (bin n j : Nat)
theorem binRow_next (n : Nat) : binRow (n + 1) = 1 :: (((List.range n).map fun j => ((bin n j : Nat) : Int) + (bin n (j + 1) : Nat)) ++ [1]) := by
  unfold binRow
  rw [List.range_succ_eq_map, List.map_cons, List.map_map, List.range_succ, List.map_append, bin_0]
  refine congrArg (List.cons ((1 : Nat) : Int)) (congr (congrArg List.append (List.map_congr_left fun j _ => ?_)) ?_)
  · show ((bin (n + 1) (j + 1) : Nat) : Int) = _
    rw [bin_ss]
    rfl
  · show [((bin (n + 1) (n + 1) : Nat) : Int)] = [1]
    rw [bin_self]
    rfl
theorem binRow_0 : binRow 0 = [1] := rfl
theorem binRow_len (n : Nat) : (binRow n).length = n + 1 := by unfold binRow; rw [List.length_map, List.length_range]
theorem binRow_get {n j : Nat} (h : j ≤ n) : (binRow n)[j]? = some ((bin n j : Nat) : Int) := by
  unfold binRow
  rw [List.getElem?_map, List.getElem?_range (by omega)]
  rfl
end Gr

set_option Elab.async false
set_option linter.all false
set_option maxRecDepth 100000
set_option maxHeartbeats 4000000
/-! Gr Z: all sets of so many places, in plain lists. -/
namespace Gr
open PySem L2
def sets (m : Nat) (a : Int) (r : Nat) : List (List Int) := (List.range (bin m r)).map fun n : Nat => un m a r (n : Int)
theorem sets_len (m : Nat) (a : Int) (r : Nat) : (sets m a r).length = bin m r := by unfold sets; rw [List.length_map, List.length_range]
theorem sets_0 (m : Nat) (a : Int) : sets m a 0 = [[]] := by
  unfold sets
  rw [bin_0]
  show [un m a 0 ((0 : Nat) : Int)] = [[]]
  rw [un_r0]
theorem sets_none (a : Int) (r : Nat) : sets 0 a (r + 1) = [] := rfl
theorem range_add (n k : Nat) : List.range (n + k) = List.range n ++ (List.range k).map (n + ·) := List.range_add
theorem sets_ss (m : Nat) (a : Int) (r : Nat) : sets (m + 1) a (r + 1) = (sets m (a + 1) r).map (a :: ·) ++ sets m (a + 1) (r + 1) := by
  unfold sets
  rw [bin_ss, range_add, List.map_append, List.map_map, List.map_map]
  refine congr (congrArg _ (List.map_congr_left fun n hn => ?_)) (List.map_congr_left fun n hn => ?_)
  · rw [List.mem_range] at hn
    show un (m + 1) a (r + 1) (n : Int) = a :: un m (a + 1) r (n : Int)
    conv => lhs; unfold un
    rw [if_pos (by omega)]
  · show un (m + 1) a (r + 1) ((bin m r + n : Nat) : Int) = un m (a + 1) (r + 1) (n : Int)
    conv => lhs; unfold un
    rw [if_neg (by omega), show ((bin m r + n : Nat) : Int) - (bin m r : Nat) = (n : Int) from by omega]
/-- the least place that a row may be made longer by -/
def leastR (a : Int) (r : List Int) : Int := match r.getLast? with
  | some x => x + 1
  | none => a
def extR (hi a : Int) (r : List Int) : List (List Int) := (List.range (hi - leastR a r).toNat).map fun i : Nat => r ++ [leastR a r + (i : Int)]
theorem extR_cons (hi a : Int) (r : List Int) : extR hi a (a :: r) = (extR hi (a + 1) r).map (a :: ·) := by
  have e : leastR a (a :: r) = leastR (a + 1) r := by
    unfold leastR
    cases r with
    | nil => rfl
    | cons x xs => rw [List.getLast?_cons_cons]; cases h : (x :: xs).getLast? with
      | none => simp at h
      | some y => rfl
  unfold extR
  rw [e, List.map_map]
  rfl
theorem extR_ne (hi a b : Int) {r : List Int} (h : r ≠ []) : extR hi a r = extR hi b r := by
  have e : leastR a r = leastR b r := by
    unfold leastR
    cases q : r.getLast? with
    | none => exact absurd (List.getLast?_eq_none_iff.mp q) h
    | some x => rfl
  unfold extR
  rw [e]
theorem fm_congr {α β : Type} {f g : α → List β} : ∀ {l : List α}, (∀ x ∈ l, f x = g x) → l.flatMap f = l.flatMap g
  | [], _ => rfl
  | x :: l, h => by rw [List.flatMap_cons, List.flatMap_cons, h x List.mem_cons_self, fm_congr fun y hy => h y (List.mem_cons_of_mem _ hy)]
theorem sets_mem {m : Nat} {a : Int} {r : Nat} {x : List Int} (h : x ∈ sets m a r) : x.length = r ∧ (∀ y ∈ x, a ≤ y ∧ y < a + m) ∧ x.Pairwise (· < ·) := by
  unfold sets at h
  obtain ⟨n, hn, rfl⟩ := List.mem_map.mp h
  rw [List.mem_range] at hn
  exact ⟨un_len ⟨by omega, by omega⟩, un_in, un_lt⟩
theorem sets_ext : ∀ (m : Nat) (a : Int) (k : Nat), sets (m + 1) a (k + 1) = (sets m a k).flatMap (extR (a + m + 1) a)
  | 0, a, 0 => by
    rw [sets_ss, sets_0, sets_none, sets_0]
    show [[a]] ++ [] = (extR (a + ((0 : Nat) : Int) + 1) a []) ++ []
    unfold extR leastR
    rw [show (a + ((0 : Nat) : Int) + 1 - (match ([] : List Int).getLast? with | some x => x + 1 | none => a)).toNat = 1 from by show (a + ((0 : Nat) : Int) + 1 - a).toNat = 1; omega]
    show [[a]] ++ [] = [[] ++ [a + ((0 : Nat) : Int)]] ++ []
    rw [show a + ((0 : Nat) : Int) = a from by omega]
    rfl
  | 0, a, k + 1 => by
    rw [sets_ss, sets_none, sets_none, sets_none]
    rfl
  | m + 1, a, 0 => by
    rw [sets_ss, sets_0, sets_ext m (a + 1) 0, sets_0, sets_0]
    show [a :: []] ++ (extR (a + 1 + (m : Int) + 1) (a + 1) [] ++ []) = extR (a + ((m + 1 : Nat) : Int) + 1) a [] ++ []
    rw [List.append_nil, List.append_nil]
    unfold extR
    show [[a]] ++ (List.range (a + 1 + (m : Int) + 1 - (a + 1)).toNat).map (fun i : Nat => [] ++ [a + 1 + (i : Int)]) = (List.range (a + ((m + 1 : Nat) : Int) + 1 - a).toNat).map (fun i : Nat => [] ++ [a + (i : Int)])
    rw [show (a + 1 + (m : Int) + 1 - (a + 1)).toNat = m + 1 from by omega, show (a + ((m + 1 : Nat) : Int) + 1 - a).toNat = (m + 1) + 1 from by omega, List.range_succ_eq_map (n := m + 1), List.map_cons, List.map_map]
    refine congr (congrArg List.cons ?_) (List.map_congr_left fun i _ => ?_)
    · show [a] = [] ++ [a + ((0 : Nat) : Int)]
      rw [show a + ((0 : Nat) : Int) = a from by omega]
      rfl
    · show [] ++ [a + 1 + (i : Int)] = [] ++ [a + ((i + 1 : Nat) : Int)]
      rw [show a + ((i + 1 : Nat) : Int) = a + 1 + (i : Int) from by omega]
  | m + 1, a, k + 1 => by
    rw [sets_ss (m + 1), sets_ext m (a + 1) k, sets_ext m (a + 1) (k + 1), sets_ss m a k, List.flatMap_append, List.flatMap_map]
    have h1 : (a + 1 + (m : Int) + 1) = (a + ((m + 1 : Nat) : Int) + 1) := by omega
    rw [h1, List.map_flatMap]
    refine congr (congrArg _ ?_) ?_
    · refine congrArg (fun f => List.flatMap f (sets m (a + 1) k)) (funext fun r => ?_)
      exact (extR_cons _ _ _).symm
    · refine fm_congr fun r hr => extR_ne _ _ _ fun e => ?_
      have := sets_mem hr
      rw [e] at this
      exact absurd this.1 (by simp)
theorem bin_up (n k : Nat) : bin n k ≤ bin (n + 1) (k + 1) := by rw [bin_ss]; omega
theorem bin_ups (n k : Nat) : ∀ j, bin n k ≤ bin (n + j) (k + j)
  | 0 => Nat.le_refl _
  | j + 1 => Nat.le_trans (bin_ups n k j) (bin_up (n + j) (k + j))
end Gr

set_option Elab.async false
set_option linter.all false
set_option maxRecDepth 100000
set_option maxHeartbeats 4000000
/-! Tg A: plain ends, plain operations, and what an evaluator's end says of a plain one. -/
namespace Gr
open PySem L2
/-- a plain end -/
inductive M (α : Type) where
  | ok (a : α)
  | err (n : Nat)
  | stuck
def bnd {α β : Type} (m : M α) (k : α → M β) : M β := match m with
  | .ok a => k a
  | .err n => .err n
  | .stuck => .stuck
/-- behind what may have given back -/
def bndS {σ γ β : Type} (m : M (σ ⊕ γ)) (k2 : γ → β) (k : σ → M β) : M β := match m with
  | .ok (.inl s) => k s
  | .ok (.inr v) => .ok (k2 v)
  | .err n => .err n
  | .stuck => .stuck
@[simp] theorem bndS_inl {σ γ β : Type} {s : σ} {k2 : γ → β} {k : σ → M β} : bndS (.ok (.inl s)) k2 k = k s := rfl
@[simp] theorem bndS_inr {σ γ β : Type} {v : γ} {k2 : γ → β} {k : σ → M β} : bndS (.ok (.inr v)) k2 k = .ok (k2 v) := rfl
@[simp] theorem bndS_err {σ γ β : Type} {n : Nat} {k2 : γ → β} {k : σ → M β} : bndS (.err n) k2 k = .err n := rfl
@[simp] theorem bndS_stuck {σ γ β : Type} {k2 : γ → β} {k : σ → M β} : bndS .stuck k2 k = .stuck := rfl
def lett {α β : Type} (v : α) (k : α → β) : β := k v
@[simp] theorem bnd_ok {α β : Type} {a : α} {k : α → M β} : bnd (.ok a) k = k a := rfl
@[simp] theorem bnd_err {α β : Type} {n : Nat} {k : α → M β} : bnd (.err n) k = .err n := rfl
@[simp] theorem bnd_stuck {α β : Type} {k : α → M β} : bnd .stuck k = .stuck := rfl
@[simp] theorem lett_eq {α β : Type} {v : α} {k : α → β} : lett v k = k v := rfl
/-! plain operations -/
def idx {α : Type} (xs : List α) (i : Int) : M α := match L2.atI xs i with
  | some a => .ok a
  | none => .stuck
def fdivM (a b : Int) : M Int := if 0 < b ∧ b < 1073741824 then .ok (a / b) else .stuck
def modM (a b : Int) : M Int := if 0 < b then .ok (a % b) else .stuck
def mulM (a b : Int) : M Int := if (-1000000000 ≤ a ∧ a ≤ 1000000000) ∨ (-1000000000 ≤ b ∧ b ≤ 1000000000) then .ok (a * b) else .stuck
def powM (a b : Int) : M Int := if 0 ≤ b ∧ b ≤ 1000000 ∧ a.natAbs ≤ 1000000000 then .ok (a ^ b.toNat) else .stuck
def catM {α : Type} (a b : List α) : M (List α) := if a.length + b.length ≤ line then .ok (a ++ b) else .stuck
def pushM {α : Type} (a : List α) (x : α) : M (List α) := if a.length < line then .ok (a ++ [x]) else .stuck
def insM {α : Type} (a : List α) (i : Int) (x : α) : M (List α) := if a.length < line ∧ 0 ≤ i ∧ i ≤ a.length then .ok (a.take i.toNat ++ x :: a.drop i.toNat) else .stuck
def setM {α : Type} (a : List α) (i : Int) (x : α) : M (List α) := match ixN a.length i with
  | some j => .ok (a.set j x)
  | none => .stuck
/-- the numbers from a up to b -/
def upto (a b : Int) : List Int := (List.range (b - a).toNat).map fun i : Nat => a + (i : Int)
def rngM (a b : Int) : M (List Int) := if -1000000000 ≤ a ∧ a ≤ 1000000000 ∧ -1000000000 ≤ b ∧ b ≤ 1000000000 then .ok (upto a b) else .stuck
def rngLM (a b : Int) : M (List Int) := if (-1000000000 ≤ a ∧ a ≤ 1000000000 ∧ -1000000000 ≤ b ∧ b ≤ 1000000000) ∧ (b - a).toNat ≤ line then .ok (upto a b) else .stuck
def min1M : List Int → M Int
  | [] => .stuck
  | n :: ns => .ok (ns.foldl (fun a y => if y < a then y else a) n)
def max1M : List Int → M Int
  | [] => .stuck
  | n :: ns => .ok (ns.foldl (fun a y => if a < y then y else a) n)
def min2 (a b : Int) : Int := if b < a then b else a
def max2 (a b : Int) : Int := if b > a then b else a
def getO {α : Type} : Option α → M α
  | some a => .ok a
  | none => .stuck
def lcT {α β : Type} (xs : List α) (c : α → Bool) (f : α → β) : M (List β) := if xs.length ≤ line then .ok ((xs.filter c).map f) else .stuck
def lcA {α β : Type} (xs : List α) (f : α → β) : M (List β) := if xs.length ≤ line then .ok (xs.map f) else .stuck
def lcGM {α β : Type} (c : α → M Bool) (f : α → M β) : List α → List β → M (List β)
  | [], acc => .ok acc
  | x :: xs, acc => match c x with
    | .ok false => lcGM c f xs acc
    | .ok true => match f x with
      | .ok y => if acc.length < line then lcGM c f xs (acc ++ [y]) else .stuck
      | _ => .stuck
    | _ => .stuck
def lcM {α β : Type} (xs : List α) (c : α → M Bool) (f : α → M β) : M (List β) := lcGM c f xs []
def fldM {α σ : Type} : List α → σ → (σ → α → M σ) → M σ
  | [], s, _ => .ok s
  | x :: xs, s, f => match f s x with
    | .ok s => fldM xs s f
    | .err n => .err n
    | .stuck => .stuck
/-- a walk that may give back -/
def fldR {α σ β : Type} : List α → σ → (σ → α → M (σ ⊕ β)) → M (σ ⊕ β)
  | [], s, _ => .ok (.inl s)
  | x :: xs, s, f => match f s x with
    | .ok (.inl s) => fldR xs s f
    | .ok (.inr b) => .ok (.inr b)
    | .err n => .err n
    | .stuck => .stuck
/-- a walk that may be left -/
def fldB {α σ : Type} : List α → σ → (σ → α → M (σ ⊕ σ)) → M σ
  | [], s, _ => .ok s
  | x :: xs, s, f => match f s x with
    | .ok (.inl s) => fldB xs s f
    | .ok (.inr s) => .ok s
    | .err n => .err n
    | .stuck => .stuck
def whlM {σ : Type} : Nat → σ → (σ → M Bool) → (σ → M σ) → M σ
  | 0, _, _, _ => .stuck
  | n + 1, s, c, f => match c s with
    | .ok true => match f s with
      | .ok s => whlM n s c f
      | .err n => .err n
      | .stuck => .stuck
    | .ok false => .ok s
    | .err n => .err n
    | .stuck => .stuck
/-- a walk as long as, that may give back -/
def whlR {σ β : Type} : Nat → σ → (σ → M Bool) → (σ → M (σ ⊕ β)) → M (σ ⊕ β)
  | 0, _, _, _ => .stuck
  | n + 1, s, c, f => match c s with
    | .ok true => match f s with
      | .ok (.inl s) => whlR n s c f
      | .ok (.inr b) => .ok (.inr b)
      | .err n => .err n
      | .stuck => .stuck
    | .ok false => .ok (.inl s)
    | .err n => .err n
    | .stuck => .stuck
/-- is it among them -/
def isIn {α : Type} [DecidableEq α] (x : α) (xs : List α) : Bool := decide (x ∈ xs)
@[simp] theorem isIn_iff {α : Type} [DecidableEq α] {x : α} {xs : List α} : isIn x xs = true ↔ x ∈ xs := by unfold isIn; exact decide_eq_true_iff
@[simp] theorem isIn_not {α : Type} [DecidableEq α] {x : α} {xs : List α} : isIn x xs = false ↔ x ∉ xs := by unfold isIn; exact decide_eq_false_iff_not
/-! dicts -/
def dget {κ V : Type} [DecidableEq κ] (kvs : List (κ × V)) (k : κ) : Option V := (kvs.find? fun kv => decide (kv.1 = k)).map (·.2)
def dgetM {κ V : Type} [DecidableEq κ] (kvs : List (κ × V)) (k : κ) : M V := match dget kvs k with
  | some v => .ok v
  | none => .stuck
def dput {κ V : Type} [DecidableEq κ] (kvs : List (κ × V)) (k : κ) (v : V) : List (κ × V) :=
  if kvs.any (fun kv => decide (kv.1 = k)) then kvs.map fun kv => if kv.1 = k then (kv.1, v) else kv else kvs ++ [(k, v)]
def dputM {κ V : Type} [DecidableEq κ] (kvs : List (κ × V)) (k : κ) (v : V) : M (List (κ × V)) := if kvs.length < line then .ok (dput kvs k v) else .stuck
def dhas {κ V : Type} [DecidableEq κ] (kvs : List (κ × V)) (k : κ) : Bool := (dget kvs k).isSome
/-! exceptions -/
def supE (n k : Nat) : Bool := decide (n < 15) && (n == k || k == 0)
theorem sup_ok {l : List (List Nat)} (hl : l.length = 15) {k : Nat} (h : ((List.range 15).all fun n => (l.getD n []).contains k == supE n k) = true) (n : Nat) : (l.getD n []).contains k = supE n k := by
  by_cases hn : n < 15
  · have := List.all_eq_true.mp h n (List.mem_range.mpr hn)
    exact eq_of_beq this
  · rw [List.getD_eq_getElem?_getD, List.getElem?_eq_none (by omega)]
    unfold supE
    rw [decide_eq_false hn]
    rfl
/-- an exception that may be kept -/
abbrev cX : Option Nat → C
  | none => .fro (.py .none)
  | some n => .exc n
/-! how plain things are data -/
abbrev eI (n : Int) : D := .int n
abbrev eB (b : Bool) : D := .bool b
abbrev eS (s : Str) : D := .str s
abbrev eN (_ : Unit) : D := .none
abbrev eD (d : D) : D := d
abbrev eT {α : Type} (e : α → D) (xs : List α) : D := .tuple (xs.map e)
abbrev eL {α : Type} (e : α → D) (xs : List α) : D := .list (xs.map e)
abbrev eP {α β : Type} (e : α → D) (f : β → D) (p : α × β) : D := .tuple [e p.1, f p.2]
abbrev eP3 {α β γ : Type} (e : α → D) (f : β → D) (g : γ → D) (p : α × β × γ) : D := .tuple [e p.1, f p.2.1, g p.2.2]
abbrev eP4 {α β γ δ : Type} (e : α → D) (f : β → D) (g : γ → D) (h : δ → D) (p : α × β × γ × δ) : D := .tuple [e p.1, f p.2.1, g p.2.2.1, h p.2.2.2]
abbrev eO {α : Type} (e : α → D) (o : Option α) : D := match o with
  | none => .none
  | some a => e a
structure WebT where
  places : Int
  ties : List (Int × Int)
  deriving DecidableEq
abbrev xW (w : WebT) : Tx := .obj 0 [eI w.places, eT (eP eI eI) w.ties]
abbrev xK {κ V : Type} (ek : κ → Key) (ev : V → D) (kvs : List (κ × V)) : Tx := .dik (kvs.map fun p => (ek p.1, ev p.2))
abbrev xT {κ V : Type} (ek : κ → List Key) (ev : V → D) (kvs : List (κ × V)) : Tx := .dit (kvs.map fun p => (ek p.1, ev p.2))
abbrev kI (n : Int) : Key := .inl n
abbrev kS (s : Str) : Key := .inr s
abbrev kT (xs : List Int) : List Key := xs.map .inl
abbrev kP (p : Int × Int) : List Key := [.inl p.1, .inl p.2]
/-! what may be compared -/
class EqE {α : Type} [DecidableEq α] (e : α → D) (n : outParam Nat) : Prop where
  eqv : ∀ a b, PyData.eqv (e a) (e b) = decide (a = b)
  dep : ∀ a k, n ≤ k → dep k (e a) = true
instance : EqE eI 0 := ⟨fun a b => eqv_int, fun a k _ => by cases k <;> rfl⟩
instance : EqE eB 0 := ⟨fun a b => eqv_bool, fun a k _ => by cases k <;> rfl⟩
instance : EqE eS 0 := ⟨fun a b => eqv_str, fun a k _ => by cases k <;> rfl⟩
theorem eqvAll_en {α : Type} [DecidableEq α] {e : α → D} {n : Nat} [h : EqE e n] : ∀ a b : List α, PyData.eqvAll (a.map e) (b.map e) = decide (a = b)
  | [], [] => by simp
  | [], _ :: _ => by simp
  | _ :: _, [] => by simp
  | x :: xs, y :: ys => by
    rw [List.map_cons, List.map_cons, eqvAll_cc, h.eqv, eqvAll_en xs ys]
    simp [Bool.eq_iff_iff]
instance {α : Type} [DecidableEq α] {e : α → D} {n : Nat} [h : EqE e n] : EqE (eT e) (n + 1) := ⟨fun a b => by rw [eqv_tuple, eqvAll_en], fun a k hk => by
  obtain ⟨j, rfl⟩ : ∃ j, k = j + 1 := ⟨k - 1, by omega⟩
  show (a.map e).all (Gr.dep j) = true
  rw [List.all_map]; exact List.all_eq_true.mpr fun x _ => h.dep x j (by omega)⟩
instance {α : Type} [DecidableEq α] {e : α → D} {n : Nat} [h : EqE e n] : EqE (eL e) (n + 1) := ⟨fun a b => by rw [eqv_list, eqvAll_en], fun a k hk => by
  obtain ⟨j, rfl⟩ : ∃ j, k = j + 1 := ⟨k - 1, by omega⟩
  show (a.map e).all (Gr.dep j) = true
  rw [List.all_map]; exact List.all_eq_true.mpr fun x _ => h.dep x j (by omega)⟩
instance {α β : Type} [DecidableEq α] [DecidableEq β] {e : α → D} {f : β → D} {n m : Nat} [h : EqE e n] [g : EqE f m] : EqE (eP e f) (max n m + 1) := ⟨fun a b => by
  rw [eqv_tuple, eqvAll_cc, eqvAll_cc, h.eqv, g.eqv]
  simp [Bool.eq_iff_iff, Prod.ext_iff], fun a k hk => by
  obtain ⟨j, rfl⟩ : ∃ j, k = j + 1 := ⟨k - 1, by omega⟩
  show [e a.1, f a.2].all (Gr.dep j) = true
  rw [List.all_cons, List.all_cons, h.dep _ j (by omega), g.dep _ j (by omega)]; rfl⟩
instance {α β γ : Type} [DecidableEq α] [DecidableEq β] [DecidableEq γ] {e : α → D} {f : β → D} {g : γ → D} {n m l : Nat} [h1 : EqE e n] [h2 : EqE f m] [h3 : EqE g l] : EqE (eP3 e f g) (max n (max m l) + 1) := ⟨fun a b => by
  rw [eqv_tuple, eqvAll_cc, eqvAll_cc, eqvAll_cc, h1.eqv, h2.eqv, h3.eqv]
  simp [Bool.eq_iff_iff, Prod.ext_iff], fun a k hk => by
  obtain ⟨j, rfl⟩ : ∃ j, k = j + 1 := ⟨k - 1, by omega⟩
  show [e a.1, f a.2.1, g a.2.2].all (Gr.dep j) = true
  rw [List.all_cons, List.all_cons, List.all_cons, h1.dep _ j (by omega), h2.dep _ j (by omega), h3.dep _ j (by omega)]; rfl⟩
instance {α β γ δ : Type} [DecidableEq α] [DecidableEq β] [DecidableEq γ] [DecidableEq δ] {e : α → D} {f : β → D} {g : γ → D} {p : δ → D} {n m l q : Nat} [h1 : EqE e n] [h2 : EqE f m] [h3 : EqE g l] [h4 : EqE p q] : EqE (eP4 e f g p) (max n (max m (max l q)) + 1) := ⟨fun a b => by
  rw [eqv_tuple, eqvAll_cc, eqvAll_cc, eqvAll_cc, eqvAll_cc, h1.eqv, h2.eqv, h3.eqv, h4.eqv]
  simp [Bool.eq_iff_iff, Prod.ext_iff], fun a k hk => by
  obtain ⟨j, rfl⟩ : ∃ j, k = j + 1 := ⟨k - 1, by omega⟩
  show [e a.1, f a.2.1, g a.2.2.1, p a.2.2.2].all (Gr.dep j) = true
  rw [List.all_cons, List.all_cons, List.all_cons, List.all_cons, h1.dep _ j (by omega), h2.dep _ j (by omega), h3.dep _ j (by omega), h4.dep _ j (by omega)]; rfl⟩
theorem EqE.dp {α : Type} [DecidableEq α] {e : α → D} {n : Nat} (h : EqE e n) (hn : n ≤ 8) (a : α) : dp (e a) = true := h.dep a 8 hn
/-- a thing that may be none -/
class NoneE {α : Type} (e : α → D) : Prop where
  no : ∀ a, PyData.eqv .none (e a) = false ∧ PyData.eqv (e a) .none = false ∧ e a ≠ .none
instance : NoneE eI := ⟨fun a => ⟨by simp [PyData.eqv], by simp [PyData.eqv], fun h => by cases h⟩⟩
instance : NoneE eS := ⟨fun a => ⟨by simp [PyData.eqv], by simp [PyData.eqv], fun h => by cases h⟩⟩
instance {α : Type} {e : α → D} : NoneE (eT e) := ⟨fun a => ⟨by simp [PyData.eqv], by simp [PyData.eqv], fun h => by cases h⟩⟩
instance {α : Type} {e : α → D} : NoneE (eL e) := ⟨fun a => ⟨by simp [PyData.eqv], by simp [PyData.eqv], fun h => by cases h⟩⟩
instance {α β : Type} {e : α → D} {f : β → D} : NoneE (eP e f) := ⟨fun a => ⟨by simp [PyData.eqv], by simp [PyData.eqv], fun h => by cases h⟩⟩
instance {α β γ : Type} {e : α → D} {f : β → D} {g : γ → D} : NoneE (eP3 e f g) := ⟨fun a => ⟨by simp [PyData.eqv], by simp [PyData.eqv], fun h => by cases h⟩⟩
theorem eqv_nn : PyData.eqv .none .none = true := by simp
instance {α : Type} [DecidableEq α] {e : α → D} {n : Nat} [h : EqE e n] [g : NoneE e] : EqE (eO e) n := ⟨fun a b => by
  cases a with
  | none =>
    cases b with
    | none => simp
    | some b => simp [eO, (g.no b).1]
  | some a =>
    cases b with
    | none => simp [eO, (g.no a).2.1]
    | some b => simp [eO, h.eqv], fun a k hk => by
  cases a with
  | none => cases k <;> rfl
  | some a => exact h.dep a k hk⟩
end Gr

set_option Elab.async false
set_option linter.all false
set_option maxRecDepth 100000
set_option maxHeartbeats 4000000
/-! Tg B: what an evaluator's end says of a plain end: expressions. -/
namespace Gr
open PySem L2
abbrev cI (n : Int) : C := .fro (.py (.int n))
abbrev cB (b : Bool) : C := .fro (.py (.bool b))
abbrev cS (s : Str) : C := .fro (.py (.str s))
abbrev cF (d : D) : C := .fro (.py d)
abbrev cO (d : D) : C := .own (.py d)
def J {α X : Type} (r : X) (m : M α) (P : α → X → Prop) (Q : Nat → X → Prop) : Prop := match m with
  | .ok a => P a r
  | .err n => Q n r
  | .stuck => True
/-- an expression that leaves the slots -/
def JV (K : Kit) (e : E) (ρ : List C) {α : Type} (m : M α) (R : α → C) : Prop := J (xev K e ρ) m (fun a r => r = .ok (R a) ρ) (fun n r => r = .err n ρ)
/-- what is walked -/
def JI (K : Kit) (it : It) (ρ : List C) {α : Type} (m : M (List α)) (g : α → C) (lk : Lk) (ρL : List C) : Prop := J (xevI K it ρ) m (fun xs r => r = .ok (xs.map g) lk ρL) (fun n r => r = .err n ρ)
section
variable {K : Kit} {fx : List Nat} {ρ : List C} {e a b : E} {c c' : C} {x : Tx} {i : Nat} {α β γ X : Type}
theorem J.imp {r : X} {m : M α} {P P' : α → X → Prop} {Q : Nat → X → Prop} (h : J r m P Q) (hp : ∀ a, P a r → P' a r) : J r m P' Q := by
  cases m with
  | ok a => exact hp a h
  | err n => exact h
  | stuck => trivial
theorem focus {r : X} {m : M α} {k : α → M β} {P : β → X → Prop} {Q : Nat → X → Prop} {R : α → C} (hm : JV K e ρ m R) (er : ∀ n, xev K e ρ = .err n ρ → Q n r) (h : ∀ a, xev K e ρ = .ok (R a) ρ → J r (k a) P Q) : J r (bnd m k) P Q := by
  cases m with
  | ok a => exact h a hm
  | err n => exact er n hm
  | stuck => trivial
theorem focusI {it : It} {r : X} {m : M (List α)} {k : List α → M β} {P : β → X → Prop} {Q : Nat → X → Prop} {g : α → C} {lk : Lk} {ρL : List C} (hm : JI K it ρ m g lk ρL) (er : ∀ n, xevI K it ρ = .err n ρ → Q n r) (h : ∀ xs, xevI K it ρ = .ok (xs.map g) lk ρL → J r (k xs) P Q) : J r (bnd m k) P Q := by
  cases m with
  | ok a => exact h a hm
  | err n => exact er n hm
  | stuck => trivial
theorem jv_ok {R : α → C} {v : α} (h : xev K e ρ = .ok (R v) ρ) : JV K e ρ (.ok v) R := h
theorem jv_st {R : α → C} : JV K e ρ .stuck R := trivial
/-! names and constants -/
theorem t_v (h : ρ[i]? = some (.fro x)) : xev K (.v i) ρ = .ok (.fro x) ρ := by rw [ev_v, h]
theorem t_vb (h : ρ[i]? = some (.bor x)) : xev K (.v i) ρ = .ok (.bor x) ρ := by rw [ev_v, h]
theorem t_vo (h : ρ[i]? = some (.own x)) : xev K (.v i) ρ = .ok (.pk i) ρ := by rw [ev_v, h]
theorem t_vl (h : ρ[i]? = some (.lkd x)) : xev K (.v i) ρ = .ok (.pk i) ρ := by rw [ev_v, h]
theorem t_vx {o : Option Nat} (h : ρ[i]? = some (cX o)) : xev K (.v i) ρ = .ok (cX o) ρ := by rw [ev_v, h]; cases o <;> rfl
theorem t_int {n : Int} : xev K (.int n) ρ = .ok (cI n) ρ := ev_int
theorem t_bl {n : Bool} : xev K (.bl n) ρ = .ok (cB n) ρ := ev_bl
theorem t_non : xev K .non ρ = .ok (cF .none) ρ := ev_non
theorem t_str {s : Str} : xev K (.str s) ρ = .ok (cS s) ρ := ev_str
theorem t_gint {s : Str} {n : Int} : xev K (.gint s n) ρ = .ok (cI n) ρ := ev_gint
theorem t_neg {n : Int} (h : xev K a ρ = .ok (cI n) ρ) : xev K (.neg a) ρ = .ok (cI (-n)) ρ := by rw [ev_neg, h]; rfl
theorem er_neg {n : Nat} (h : xev K a ρ = .err n ρ) : xev K (.neg a) ρ = .err n ρ := by rw [ev_neg, h]; rfl
/-! operators -/
theorem er_op1 {o : Op} {n : Nat} (h : xev K a ρ = .err n ρ) : xev K (.op o a b) ρ = .err n ρ := by rw [ev_op, h]; rfl
theorem er_op2 {o : Op} {n : Nat} (h : xev K a ρ = .ok c ρ) (h' : xev K b ρ = .err n ρ) : xev K (.op o a b) ρ = .err n ρ := by rw [ev_op, h, bind_ok, h']; rfl
theorem t_add {n m : Int} (h : xev K a ρ = .ok (cI n) ρ) (h' : xev K b ρ = .ok (cI m) ρ) : xev K (.op .add a b) ρ = .ok (cI (n + m)) ρ := by rw [ev_op, h, bind_ok, h']; rfl
theorem t_sub {n m : Int} (h : xev K a ρ = .ok (cI n) ρ) (h' : xev K b ρ = .ok (cI m) ρ) : xev K (.op .sub a b) ρ = .ok (cI (n - m)) ρ := by rw [ev_op, h, bind_ok, h']; rfl
theorem t_fdiv {n m : Int} (hm : 0 < m ∧ m < 1073741824) (h : xev K a ρ = .ok (cI n) ρ) (h' : xev K b ρ = .ok (cI m) ρ) : xev K (.op .fdiv a b) ρ = .ok (cI (n / m)) ρ := by
  rw [ev_op, h, bind_ok, h', bind_ok]
  simp only [see_fro, opC_fdiv, fdivO_of hm, if_true]
theorem t_mod {n m : Int} (hm : 0 < m) (h : xev K a ρ = .ok (cI n) ρ) (h' : xev K b ρ = .ok (cI m) ρ) : xev K (.op .mod a b) ρ = .ok (cI (n % m)) ρ := by
  rw [ev_op, h, bind_ok, h', bind_ok]
  simp only [see_fro, opC_mod, if_pos hm]
theorem t_mul {n m : Int} (hm : (-1000000000 ≤ n ∧ n ≤ 1000000000) ∨ (-1000000000 ≤ m ∧ m ≤ 1000000000)) (h : xev K a ρ = .ok (cI n) ρ) (h' : xev K b ρ = .ok (cI m) ρ) : xev K (.op .mul a b) ρ = .ok (cI (n * m)) ρ := by
  rw [ev_op, h, bind_ok, h', bind_ok]
  have e : mulO n m = true := hm.elim (fun z => mulO_l z) fun z => mulO_r z
  simp only [see_fro, opC_mul, e, if_true]
theorem jv_fdiv {n m : Int} (h : xev K a ρ = .ok (cI n) ρ) (h' : xev K b ρ = .ok (cI m) ρ) : JV K (.op .fdiv a b) ρ (fdivM n m) cI := by
  unfold fdivM
  split
  · next g => exact jv_ok (t_fdiv g h h')
  · trivial
theorem jv_mod {n m : Int} (h : xev K a ρ = .ok (cI n) ρ) (h' : xev K b ρ = .ok (cI m) ρ) : JV K (.op .mod a b) ρ (modM n m) cI := by
  unfold modM
  split
  · next g => exact jv_ok (t_mod g h h')
  · trivial
theorem jv_mul {n m : Int} (h : xev K a ρ = .ok (cI n) ρ) (h' : xev K b ρ = .ok (cI m) ρ) : JV K (.op .mul a b) ρ (mulM n m) cI := by
  unfold mulM
  split
  · next g => exact jv_ok (t_mul g h h')
  · trivial
theorem jv_pow {n m : Int} (h : xev K a ρ = .ok (cI n) ρ) (h' : xev K b ρ = .ok (cI m) ρ) : JV K (.op .pow a b) ρ (powM n m) cI := by
  unfold powM
  split
  · next g =>
    refine jv_ok ?_
    rw [ev_op, h, bind_ok, h', bind_ok]
    have g' : 0 ≤ m ∧ m ≤ 1000000 ∧ n.natAbs < 18446744073709551616 := ⟨g.1, g.2.1, by omega⟩
    simp only [see_fro, opC_pow, if_pos g']
  · trivial
theorem clear_nb (h : isBor c = false) (ds : List D) : clear c ds = true := by cases c <;> first | rfl | cases h
theorem jv_catL {e : α → D} {xs ys : List α} (h : xev K a ρ = .ok c ρ) (s : see ρ c = some (.list (xs.map e))) (h' : xev K b ρ = .ok c' ρ) (s' : see ρ c' = some (.list (ys.map e))) (g : isBor c = false) (g' : isBor c' = false) : JV K (.op .add a b) ρ (catM xs ys) fun zs => cO (eL e zs) := by
  unfold catM
  split
  · next z =>
    refine jv_ok ?_
    rw [ev_op, h, bind_ok, h', bind_ok]
    have z' : (xs.map e).length + (ys.map e).length ≤ line := by rw [List.length_map, List.length_map]; exact z
    simp only [s, s', opC_addL, if_pos z', clear_nb g, clear_nb g', Bool.and_self, if_true, eL, List.map_append]
  · trivial
theorem jv_catT {e : α → D} {xs ys : List α} (h : xev K a ρ = .ok c ρ) (s : see ρ c = some (.tuple (xs.map e))) (h' : xev K b ρ = .ok c' ρ) (s' : see ρ c' = some (.tuple (ys.map e))) (g : isBor c = false) (g' : isBor c' = false) : JV K (.op .add a b) ρ (catM xs ys) fun zs => cF (eT e zs) := by
  unfold catM
  split
  · next z =>
    refine jv_ok ?_
    rw [ev_op, h, bind_ok, h', bind_ok]
    have z' : (xs.map e).length + (ys.map e).length ≤ line := by rw [List.length_map, List.length_map]; exact z
    simp only [s, s', opC_addT, if_pos z', g, g', eT, List.map_append]
    rfl
  · trivial
/-! comparisons -/
theorem er_cm1 {o : Cm} {n : Nat} (h : xev K a ρ = .err n ρ) : xev K (.cm o a b) ρ = .err n ρ := by rw [ev_cm, h]; rfl
theorem er_cm2 {o : Cm} {n : Nat} (h : xev K a ρ = .ok c ρ) (h' : xev K b ρ = .err n ρ) : xev K (.cm o a b) ρ = .err n ρ := by rw [ev_cm, h, bind_ok, h']; rfl
theorem t_cm {o : Cm} {v : Bool} (h : xev K a ρ = .ok c ρ) (h' : xev K b ρ = .ok c' ρ) (g : cmR ρ o c c' = some v) : xev K (.cm o a b) ρ = .ok (cB v) ρ := by rw [ev_cm, h, bind_ok, h', bind_ok, g]; rfl
theorem t_lt {n m : Int} (h : xev K a ρ = .ok (cI n) ρ) (h' : xev K b ρ = .ok (cI m) ρ) : xev K (.cm .lt a b) ρ = .ok (cB (decide (n < m))) ρ := t_cm h h' rfl
theorem t_le {n m : Int} (h : xev K a ρ = .ok (cI n) ρ) (h' : xev K b ρ = .ok (cI m) ρ) : xev K (.cm .le a b) ρ = .ok (cB (decide (n ≤ m))) ρ := t_cm h h' rfl
theorem t_gt {n m : Int} (h : xev K a ρ = .ok (cI n) ρ) (h' : xev K b ρ = .ok (cI m) ρ) : xev K (.cm .gt a b) ρ = .ok (cB (decide (m < n))) ρ := t_cm h h' rfl
theorem t_ge {n m : Int} (h : xev K a ρ = .ok (cI n) ρ) (h' : xev K b ρ = .ok (cI m) ρ) : xev K (.cm .ge a b) ρ = .ok (cB (decide (m ≤ n))) ρ := t_cm h h' rfl
theorem dpo_en [DecidableEq α] {e : α → D} {n : Nat} [g : EqE e n] (hn : n ≤ 8) (v : α) (d : D) : dpo d (e v) = true := dpo_r (EqE.dp g hn v)
theorem dpo_en' [DecidableEq α] {e : α → D} {n : Nat} [g : EqE e n] (hn : n ≤ 8) (v : α) (d : D) : dpo (e v) d = true := dpo_l (EqE.dp g hn v)
theorem cm_eq [DecidableEq α] {e : α → D} {n : Nat} [g : EqE e n] {u v : α} (hn : n ≤ 8) (s : look ρ c = some (.py (e u))) (s' : look ρ c' = some (.py (e v))) : cmR ρ .eq c c' = some (decide (u = v)) := by
  rw [cmR_eq, s, s', Option.bind_some, Option.bind_some, cmX_py, cmC_eq, if_pos (dpo_en hn _ _), g.eqv]
theorem cm_ne [DecidableEq α] {e : α → D} {n : Nat} [g : EqE e n] {u v : α} (hn : n ≤ 8) (s : look ρ c = some (.py (e u))) (s' : look ρ c' = some (.py (e v))) : cmR ρ .ne c c' = some (!decide (u = v)) := by
  rw [cmR_eq, s, s', Option.bind_some, Option.bind_some, cmX_py, cmC_ne, if_pos (dpo_en hn _ _), g.eqv]
theorem any_en [DecidableEq α] {e : α → D} {n : Nat} [g : EqE e n] (u : α) : ∀ xs : List α, ((xs.map e).any fun z => PyData.eqv z (e u)) = isIn u xs
  | [] => by simp [isIn]
  | y :: ys => by
    rw [List.map_cons, List.any_cons, any_en u ys, g.eqv]
    unfold isIn
    simp only [List.mem_cons, Bool.decide_or]
    congr 1
    simp only [eq_comm]
theorem cm_inL [DecidableEq α] {e : α → D} {n : Nat} [g : EqE e n] {u : α} {xs : List α} (hn : n ≤ 8) (s : look ρ c = some (.py (e u))) (s' : look ρ c' = some (.py (.list (xs.map e)))) : cmR ρ .isin c c' = some (isIn u xs) := by
  rw [cmR_eq, s, s', Option.bind_some, Option.bind_some, cmX_py, cmC_in, if_pos (dpo_en' hn _ _), any_en]
theorem cm_inT [DecidableEq α] {e : α → D} {n : Nat} [g : EqE e n] {u : α} {xs : List α} (hn : n ≤ 8) (s : look ρ c = some (.py (e u))) (s' : look ρ c' = some (.py (.tuple (xs.map e)))) : cmR ρ .isin c c' = some (isIn u xs) := by
  rw [cmR_eq, s, s', Option.bind_some, Option.bind_some, cmX_py, cmC_inT, if_pos (dpo_en' hn _ _), any_en]
theorem cm_ninL [DecidableEq α] {e : α → D} {n : Nat} [g : EqE e n] {u : α} {xs : List α} (hn : n ≤ 8) (s : look ρ c = some (.py (e u))) (s' : look ρ c' = some (.py (.list (xs.map e)))) : cmR ρ .notin c c' = some (!isIn u xs) := by
  rw [cmR_eq, s, s', Option.bind_some, Option.bind_some, cmX_py, cmC_nin, if_pos (dpo_en' hn _ _), any_en]
theorem cm_ninT [DecidableEq α] {e : α → D} {n : Nat} [g : EqE e n] {u : α} {xs : List α} (hn : n ≤ 8) (s : look ρ c = some (.py (e u))) (s' : look ρ c' = some (.py (.tuple (xs.map e)))) : cmR ρ .notin c c' = some (!isIn u xs) := by
  rw [cmR_eq, s, s', Option.bind_some, Option.bind_some, cmX_py, cmC_ninT, if_pos (dpo_en' hn _ _), any_en]
/-! chains, and, or, not -/
theorem er_chn1 {o p : Cm} {d : E} {n : Nat} (h : xev K a ρ = .err n ρ) : xev K (.chn o p a b d) ρ = .err n ρ := by rw [ev_chn, h]; rfl
theorem er_chn2 {o p : Cm} {d : E} {n : Nat} (h : xev K a ρ = .ok c ρ) (h' : xev K b ρ = .err n ρ) : xev K (.chn o p a b d) ρ = .err n ρ := by rw [ev_chn, h, bind_ok, h']; rfl
theorem t_chn {o p : Cm} {d : E} {c2 : C} {u v : Bool} (h : xev K a ρ = .ok c ρ) (h' : xev K b ρ = .ok c' ρ) (h2 : xev K d ρ = .ok c2 ρ) (g : cmR ρ o c c' = some u) (g' : cmR ρ p c' c2 = some v) : xev K (.chn o p a b d) ρ = .ok (cB (u && v)) ρ := by
  rw [ev_chn, h, bind_ok, h', bind_ok, g]
  cases u with
  | false => rfl
  | true => simp only [h2, bind_ok, g']; rfl
/-- a chain whose last thing is a plain end -/
theorem jv_chn {o p : Cm} {d : E} {u : Bool} {m : M α} {R : α → C} {v : α → Bool} (h : xev K a ρ = .ok c ρ) (h' : xev K b ρ = .ok c' ρ) (g : cmR ρ o c c' = some u) (hd : JV K d ρ m R) (g' : ∀ z, cmR ρ p c' (R z) = some (v z)) : JV K (.chn o p a b d) ρ (if u = true then bnd m fun z => .ok (v z) else .ok false) cB := by
  cases u with
  | false => exact jv_ok (by rw [ev_chn, h, bind_ok, h', bind_ok, g]; rfl)
  | true =>
    rw [if_pos rfl]
    refine focus hd (fun n z => ?_) fun z hz => ?_
    · rw [ev_chn, h, bind_ok, h', bind_ok, g]; simp only [z]; rfl
    · refine jv_ok ?_
      rw [ev_chn, h, bind_ok, h', bind_ok, g]; simp only [hz, bind_ok, g']; rfl
theorem er_and {n : Nat} (h : xev K a ρ = .err n ρ) : xev K (.and a b) ρ = .err n ρ := by rw [ev_and, h]; rfl
theorem er_or {n : Nat} (h : xev K a ρ = .err n ρ) : xev K (.or a b) ρ = .err n ρ := by rw [ev_or, h]; rfl
theorem er_not {n : Nat} (h : xev K a ρ = .err n ρ) : xev K (.not a) ρ = .err n ρ := by rw [ev_not, h]; rfl
theorem t_and {u v : Bool} (h : xev K a ρ = .ok (cB u) ρ) (h' : xev K b ρ = .ok (cB v) ρ) : xev K (.and a b) ρ = .ok (cB (u && v)) ρ := by
  rw [ev_and, h]
  cases u with
  | false => rfl
  | true => exact h'
theorem t_or {u v : Bool} (h : xev K a ρ = .ok (cB u) ρ) (h' : xev K b ρ = .ok (cB v) ρ) : xev K (.or a b) ρ = .ok (cB (u || v)) ρ := by
  rw [ev_or, h]
  cases u with
  | true => rfl
  | false => exact h'
theorem t_not {u : Bool} (h : xev K a ρ = .ok (cB u) ρ) : xev K (.not a) ρ = .ok (cB (!u)) ρ := by rw [ev_not, h]; rfl
theorem jv_and {u : Bool} {m : M Bool} (h : xev K a ρ = .ok (cB u) ρ) (h' : JV K b ρ m cB) : JV K (.and a b) ρ (if u = true then m else .ok false) cB := by
  have e : xev K (.and a b) ρ = if u = true then xev K b ρ else .ok (cB false) ρ := by rw [ev_and, h]; cases u <;> rfl
  unfold JV
  rw [e]
  cases u with
  | false => rfl
  | true => exact h'
theorem jv_or {u : Bool} {m : M Bool} (h : xev K a ρ = .ok (cB u) ρ) (h' : JV K b ρ m cB) : JV K (.or a b) ρ (if u = true then .ok true else m) cB := by
  have e : xev K (.or a b) ρ = if u = true then .ok (cB true) ρ else xev K b ρ := by rw [ev_or, h]; cases u <;> rfl
  unfold JV
  rw [e]
  cases u with
  | true => rfl
  | false => exact h'
/-! none or not -/
theorem er_isn {ng : Bool} {n : Nat} (h : xev K a ρ = .err n ρ) : xev K (.isn ng a) ρ = .err n ρ := by rw [ev_isn, h]; rfl
theorem t_isn {ng v : Bool} (h : xev K a ρ = .ok c ρ) (g : isnC ng ρ c = some v) : xev K (.isn ng a) ρ = .ok (cB v) ρ := by rw [ev_isn, h, bind_ok, g]; rfl
theorem isn_O {e : α → D} [g : NoneE e] {ng : Bool} {o : Option α} (s : look ρ c = some (.py (eO e o))) (hx : ∀ n, c ≠ .exc n) : isnC ng ρ c = some (if ng = true then o.isSome else o.isNone) := by
  have e1 : isnC ng ρ c = (look ρ c).map fun x => match x with
    | .py .none => !ng
    | _ => ng := by cases c <;> first | rfl | exact absurd rfl (hx _)
  rw [e1, s]
  cases o with
  | none => cases ng <;> rfl
  | some v =>
    have := (g.no v).2.2
    show some (match Tx.py (e v) with
    | .py .none => !ng
    | _ => ng) = _
    cases q : e v with
    | none => exact absurd q this
    | _ => cases ng <;> rfl
theorem isn_X {ng : Bool} {o : Option Nat} : isnC ng ρ (cX o) = some (if ng = true then o.isSome else o.isNone) := by
  cases o with
  | none => cases ng <;> rfl
  | some n => cases ng <;> rfl
/-! tuples and lists -/
theorem ts_nil : xevs K .nil ρ = .ok [] ρ := evs_nil
theorem ts_cons {es : Es} {cs : List C} (h : xev K a ρ = .ok c ρ) (h' : xevs K es ρ = .ok cs ρ) : xevs K (.cons a es) ρ = .ok (c :: cs) ρ := by rw [evs_cons, h]; simp only [h']
theorem er_s1 {es : Es} {n : Nat} (h : xev K a ρ = .err n ρ) : xevs K (.cons a es) ρ = .err n ρ := by rw [evs_cons, h]
theorem er_s2 {es : Es} {n : Nat} (h : xev K a ρ = .ok c ρ) (h' : xevs K es ρ = .err n ρ) : xevs K (.cons a es) ρ = .err n ρ := by rw [evs_cons, h]; simp only [h']
theorem t_tup {es : Es} {cs : List C} {ds : List D} (h : xevs K es ρ = .ok cs ρ) (g : fzDs ρ cs = some (ds, ρ)) : xev K (.tup es) ρ = .ok (cF (.tuple ds)) ρ := by rw [ev_tup, h, bindL_ok, g]
theorem t_lst {es : Es} {cs : List C} {ds : List D} (h : xevs K es ρ = .ok cs ρ) (g : fzDs ρ cs = some (ds, ρ)) : xev K (.lst es) ρ = .ok (cO (.list ds)) ρ := by rw [ev_lst, h, bindL_ok, g]
theorem er_tup {es : Es} {n : Nat} (h : xevs K es ρ = .err n ρ) : xev K (.tup es) ρ = .err n ρ := by rw [ev_tup, h]; rfl
theorem er_lst {es : Es} {n : Nat} (h : xevs K es ρ = .err n ρ) : xev K (.lst es) ρ = .err n ρ := by rw [ev_lst, h]; rfl
theorem er_bi {f : Bi} {es : Es} {n : Nat} (h : xevs K es ρ = .err n ρ) : xev K (.bi f es) ρ = .err n ρ := by rw [ev_bi, h]; rfl
theorem er_call {g : Nat} {ms : List Nat} {es : Es} {n : Nat} (h : xevs K es ρ = .err n ρ) : xev K (.call g ms es) ρ = .err n ρ := by rw [ev_call, h]; rfl
theorem er_mk {g : Nat} {ms : List Nat} {es : Es} {n : Nat} (h : xevs K es ρ = .err n ρ) : xev K (.mk g ms es) ρ = .err n ρ := by rw [ev_mk, h]; rfl
theorem t_bi {f : Bi} {es : Es} {cs : List C} (h : xevs K es ρ = .ok cs ρ) (g : biC ρ f cs = some c) : xev K (.bi f es) ρ = .ok c ρ := by rw [ev_bi, h, bindL_ok, g]
theorem bi_lenL {e : α → D} {xs : List α} (s : look ρ c = some (.py (.list (xs.map e)))) : biC ρ .len [c] = some (cI (xs.length : Nat)) := by rw [bi_len, s, Option.bind_some]; simp only [List.length_map]; rfl
theorem bi_lenT {e : α → D} {xs : List α} (s : look ρ c = some (.py (.tuple (xs.map e)))) : biC ρ .len [c] = some (cI (xs.length : Nat)) := by rw [bi_len, s, Option.bind_some]; simp only [List.length_map]; rfl
theorem bi_lenK {κ V : Type} {ek : κ → Key} {ev : V → D} {kvs : List (κ × V)} (s : look ρ c = some (xK ek ev kvs)) : biC ρ .len [c] = some (cI (kvs.length : Nat)) := by rw [bi_len, s, Option.bind_some]; simp only [List.length_map]; rfl
theorem bi_listL {e : α → D} {xs : List α} (s : see ρ c = some (.list (xs.map e))) (g : isBor c = false) : biC ρ .list [c] = some (cO (eL e xs)) := by rw [bi_list, s, Option.bind_some, items_list, Option.bind_some, if_pos (clear_nb g _)]
theorem bi_listT {e : α → D} {xs : List α} (s : see ρ c = some (.tuple (xs.map e))) (g : isBor c = false) : biC ρ .list [c] = some (cO (eL e xs)) := by rw [bi_list, s, Option.bind_some, items_tuple, Option.bind_some, if_pos (clear_nb g _)]
theorem bi_listB {xs : List Int} : biC ρ .list [.bor (.py (.list (xs.map .int)))] = some (cO (eL eI xs)) := by rw [bi_list, see_bor, Option.bind_some, items_list, Option.bind_some, if_pos (by rw [clear_bor, allSc_ints])]
theorem bi_tupL {e : α → D} {xs : List α} (s : see ρ c = some (.list (xs.map e))) (g : isBor c = false) : biC ρ .tuple [c] = some (cF (eT e xs)) := by rw [bi_tuple, s, Option.bind_some]; simp only [clear_nb g, if_true]
theorem bi_tupT {e : α → D} {xs : List α} (s : see ρ c = some (.tuple (xs.map e))) (g : isBor c = false) : biC ρ .tuple [c] = some (cF (eT e xs)) := by rw [bi_tuple, s, Option.bind_some]; simp only [g]; rfl
theorem bools_en : ∀ bs : List Bool, boolsD (bs.map eB) = some bs
  | [] => rfl
  | b :: bs => by rw [List.map_cons]; unfold boolsD; rw [bools_en bs]; rfl
theorem ints_en : ∀ bs : List Int, intsD (bs.map eI) = some bs
  | [] => rfl
  | b :: bs => by rw [List.map_cons]; unfold intsD; rw [ints_en bs]; rfl
theorem bi_allE {bs : List Bool} (s : see ρ c = some (.list (bs.map eB))) : biC ρ .all [c] = some (cB (bs.all id)) := by rw [bi_all, s, Option.bind_some]; simp only [bools_en]; rfl
theorem bi_anyE {bs : List Bool} (s : see ρ c = some (.list (bs.map eB))) : biC ρ .any [c] = some (cB (bs.any id)) := by rw [bi_any, s, Option.bind_some]; simp only [bools_en]; rfl
theorem bi_sumE {xs : List Int} (s : see ρ c = some (.list (xs.map eI))) : biC ρ .sum [c] = some (cI xs.sum) := by rw [bi_sum, s, Option.bind_some]; simp only [ints_en]; rfl
theorem bi_min2E {n m : Int} : biC ρ .min2 [cI n, cI m] = some (cI (min2 n m)) := by rw [bi_min2]; rfl
theorem bi_max2E {n m : Int} : biC ρ .max2 [cI n, cI m] = some (cI (max2 n m)) := by rw [bi_max2]; rfl
theorem bi_intI {n : Int} : biC ρ .int [cI n] = some (cI n) := by rw [bi_int]; rfl
theorem bi_intB {u : Bool} : biC ρ .int [cB u] = some (cI (if u = true then 1 else 0)) := by rw [bi_int]; rfl
theorem jv_min1 {es : Es} {cs : List C} {xs : List Int} (h : xevs K es ρ = .ok [c] ρ) (s : (see ρ c).bind items = some (xs.map eI)) : JV K (.bi .min1 es) ρ (min1M xs) cI := by
  cases xs with
  | nil => trivial
  | cons n ns => exact jv_ok (t_bi h (by rw [bi_min1, s]; simp only [ints_en]; rfl))
theorem jv_max1 {es : Es} {cs : List C} {xs : List Int} (h : xevs K es ρ = .ok [c] ρ) (s : (see ρ c).bind items = some (xs.map eI)) : JV K (.bi .max1 es) ρ (max1M xs) cI := by
  cases xs with
  | nil => trivial
  | cons n ns => exact jv_ok (t_bi h (by rw [bi_max1, s]; simp only [ints_en]; rfl))
/-! sorted -/
class Alk {α : Type} (e : α → D) : Prop where
  alk : ∀ a b, PySem.W.alike (e a) (e b) = true
instance : Alk eI := ⟨fun _ _ => rfl⟩
instance : Alk eS := ⟨fun _ _ => rfl⟩
instance : Alk eB := ⟨fun _ _ => rfl⟩
theorem alk_all {e : α → D} [g : Alk e] : ∀ a b : List α, PySem.W.alikeAll (a.map e) (b.map e) = true
  | [], _ => rfl
  | _ :: _, [] => rfl
  | x :: xs, y :: ys => by rw [List.map_cons, List.map_cons, PySem.W.alikeAll, g.alk, alk_all xs ys]; rfl
instance {e : α → D} [g : Alk e] : Alk (eT e) := ⟨fun a b => by show PySem.W.alikeAll _ _ = true; exact alk_all a b⟩
instance {e : α → D} [g : Alk e] : Alk (eL e) := ⟨fun a b => by show PySem.W.alikeAll _ _ = true; exact alk_all a b⟩
instance {e : α → D} {f : β → D} [g : Alk e] [h : Alk f] : Alk (eP e f) := ⟨fun a b => by
  show (PySem.W.alike (e a.1) (e b.1) && (PySem.W.alike (f a.2) (f b.2) && true)) = true
  rw [g.alk, h.alk]; rfl⟩
instance {e : α → D} {f : β → D} {p : γ → D} [g : Alk e] [h : Alk f] [q : Alk p] : Alk (eP3 e f p) := ⟨fun a b => by
  show (PySem.W.alike (e a.1) (e b.1) && (PySem.W.alike (f a.2.1) (f b.2.1) && (PySem.W.alike (p a.2.2) (p b.2.2) && true))) = true
  rw [g.alk, h.alk, q.alk]; rfl⟩
/-- things that are sorted without a look at them -/
class SrtE {α : Type} (e : α → D) : Prop where
  srt : ∀ a, (match e a with | .none => false | .tuple _ => false | _ => true) = true
class SrtP {α : Type} (e : α → D) : Prop where
  srt : ∀ a, (match e a with | .tuple (_ :: _) => true | _ => false) = true
instance : SrtE eI := ⟨fun _ => rfl⟩
instance : SrtE eS := ⟨fun _ => rfl⟩
instance {e : α → D} : SrtE (eL e) := ⟨fun _ => rfl⟩
instance {e : α → D} {f : β → D} : SrtP (eP e f) := ⟨fun _ => rfl⟩
instance {e : α → D} {f : β → D} {g : γ → D} : SrtP (eP3 e f g) := ⟨fun _ => rfl⟩
/-- Python's order of data -/
def leE {α : Type} (e : α → D) (a b : α) : Bool := PySem.W.dataLe false id (e a) (e b)
def srtBy {α : Type} (e : α → D) (xs : List α) : List α := xs.mergeSort (leE e)
theorem sortD_en {e : α → D} (xs : List α) : sortD (xs.map e) = (srtBy e xs).map e := by
  unfold sortD srtBy
  exact (List.map_mergeSort (f := e) (r := leE e) (s := PySem.W.dataLe false id) fun a _ b _ => rfl).symm
theorem srtBy_I (xs : List Int) : srtBy eI xs = srtI xs := by
  have := (sortD_en (e := eI) xs).symm.trans (sortD_ints xs)
  exact List.map_inj_right (f := eI) (fun a b h => by cases h; rfl) |>.mp this
theorem srtBy_P (xs : List (Int × Int)) : srtBy (eP eI eI) xs = srt2 xs := by
  have := (sortD_en (e := eP eI eI) xs).symm.trans (sortD_prs xs)
  exact List.map_inj_right (f := eP eI eI) (fun a b h => by obtain ⟨a1, a2⟩ := a; obtain ⟨b1, b2⟩ := b; cases h; rfl) |>.mp this
/-- a list of sets sorted: none of them empty -/
def srtTM {α : Type} (e : α → D) (xs : List (List α)) : M (List (List α)) := if xs.all (fun x => !x.isEmpty) then .ok (srtBy (eT e) xs) else .stuck
theorem srtO_en [DecidableEq α] {e : α → D} {n : Nat} [q : EqE e n] [g : Alk e] (hn : n ≤ 8) (xs : List α) (h : ((xs.map e).all fun d => match d with | .tuple (_ :: _) => true | _ => false) = true ∨ ((xs.map e).all fun d => match d with | .none => false | .tuple _ => false | _ => true) = true) : srtO (xs.map e) = true := by
  unfold srtO sortable
  rw [Bool.and_eq_true, Bool.and_eq_true, Bool.or_eq_true]
  refine ⟨⟨?_, h⟩, ?_⟩
  · refine List.all_eq_true.mpr fun d hd => List.all_eq_true.mpr fun f hf => ?_
    obtain ⟨u, _, rfl⟩ := List.mem_map.mp hd
    obtain ⟨v, _, rfl⟩ := List.mem_map.mp hf
    exact g.alk u v
  · refine List.all_eq_true.mpr fun d hd => ?_
    obtain ⟨u, _, rfl⟩ := List.mem_map.mp hd
    exact EqE.dp q hn u
theorem srt_nb (h : isBor c = false) (ds : List D) : srt c ds = srtO ds := by
  cases c with
  | bor x => cases h
  | _ => unfold srt srtO; show (sortable ds && true && ds.all dp) = _; rw [Bool.and_true]
theorem bi_srtE [DecidableEq α] {e : α → D} {n : Nat} [q : EqE e n] [g : Alk e] [z : SrtE e] {xs : List α} (hn : n ≤ 8) (s : (see ρ c).bind items = some (xs.map e)) (hb : isBor c = false) : biC ρ .sorted [c] = some (cO (eL e (srtBy e xs))) := by
  obtain ⟨d, hd, hi⟩ := Option.bind_eq_some_iff.mp s
  rw [bi_sorted, hd, Option.bind_some, hi, Option.bind_some, srt_nb hb, if_pos, sortD_en]
  refine srtO_en hn xs (.inr ?_)
  rw [List.all_map]; exact List.all_eq_true.mpr fun a _ => z.srt a
theorem bi_srtP [DecidableEq α] {e : α → D} {n : Nat} [q : EqE e n] [g : Alk e] [z : SrtP e] {xs : List α} (hn : n ≤ 8) (s : (see ρ c).bind items = some (xs.map e)) (hb : isBor c = false) : biC ρ .sorted [c] = some (cO (eL e (srtBy e xs))) := by
  obtain ⟨d, hd, hi⟩ := Option.bind_eq_some_iff.mp s
  rw [bi_sorted, hd, Option.bind_some, hi, Option.bind_some, srt_nb hb, if_pos, sortD_en]
  refine srtO_en hn xs (.inl ?_)
  rw [List.all_map]; exact List.all_eq_true.mpr fun a _ => z.srt a
theorem jv_srtT [DecidableEq α] {e : α → D} {n : Nat} [q : EqE e n] [g : Alk e] {es : Es} {xs : List (List α)} (hn : n ≤ 7) (h : xevs K es ρ = .ok [c] ρ) (s : (see ρ c).bind items = some (xs.map (eT e))) (hb : isBor c = false) : JV K (.bi .sorted es) ρ (srtTM e xs) fun ys => cO (eL (eT e) ys) := by
  unfold srtTM
  split
  · next w =>
    refine jv_ok (t_bi h ?_)
    obtain ⟨d, hd, hi⟩ := Option.bind_eq_some_iff.mp s
    rw [bi_sorted, hd, Option.bind_some, hi, Option.bind_some, srt_nb hb, if_pos, sortD_en]
    refine srtO_en (n := n + 1) (by omega) xs (.inl ?_)
    rw [List.all_map]
    refine List.all_eq_true.mpr fun a ha => ?_
    have := List.all_eq_true.mp w a ha
    cases a with
    | nil => cases this
    | cons _ _ => rfl
  · trivial
end
end Gr

set_option Elab.async false
set_option linter.all false
set_option maxRecDepth 100000
set_option maxHeartbeats 4000000
/-! Tg C: indexes, slices, dicts, fields, calls, comprehensions, walks. -/
namespace Gr
open PySem L2
section
variable {K : Kit} {fx : List Nat} {ρ ρL : List C} {e a b : E} {c c' : C} {x : Tx} {i : Nat} {α β γ X : Type}
theorem er_ix1 {n : Nat} (h : xev K a ρ = .err n ρ) : xev K (.ix a b) ρ = .err n ρ := by rw [ev_ix, h]; rfl
theorem er_ix2 {n : Nat} (h : xev K a ρ = .ok c ρ) (h' : xev K b ρ = .err n ρ) : xev K (.ix a b) ρ = .err n ρ := by rw [ev_ix, h, bind_ok, h']; rfl
theorem atI_map {e : α → β} {xs : List α} {j : Int} : L2.atI (xs.map e) j = (L2.atI xs j).map e := by
  unfold L2.atI
  rw [List.length_map]
  cases ixN xs.length j with
  | none => rfl
  | some k => simp
theorem jv_ixL {e : α → D} {xs : List α} {j : Int} {R : α → C} (h : xev K a ρ = .ok c ρ) (s : look ρ c = some (.py (.list (xs.map e)))) (h' : xev K b ρ = .ok (cI j) ρ) (g : ∀ v, itemC c (e v) = R v) : JV K (.ix a b) ρ (idx xs j) R := by
  unfold idx
  split
  · next v w =>
    refine jv_ok ?_
    rw [ev_ix, h, bind_ok, h', bind_ok]
    have : ixC ρ c (cI j) = some (R v) := by
      show (look ρ c).bind (fun x => (see ρ (cI j)).bind fun k => ixX c x k) = _
      rw [s, Option.bind_some, see_fro, Option.bind_some]
      show (L2.atI (xs.map e) j).map (itemC c) = _
      rw [atI_map, w]
      exact congrArg some (g v)
    rw [this]
  · trivial
theorem jv_ixT {e : α → D} {xs : List α} {j : Int} {R : α → C} (h : xev K a ρ = .ok c ρ) (s : look ρ c = some (.py (.tuple (xs.map e)))) (h' : xev K b ρ = .ok (cI j) ρ) (g : ∀ v, itemC c (e v) = R v) : JV K (.ix a b) ρ (idx xs j) R := by
  unfold idx
  split
  · next v w =>
    refine jv_ok ?_
    rw [ev_ix, h, bind_ok, h', bind_ok]
    have : ixC ρ c (cI j) = some (R v) := by
      show (look ρ c).bind (fun x => (see ρ (cI j)).bind fun k => ixX c x k) = _
      rw [s, Option.bind_some, see_fro, Option.bind_some]
      show (L2.atI (xs.map e) j).map (itemC c) = _
      rw [atI_map, w]
      exact congrArg some (g v)
    rw [this]
  · trivial
/-- a part of a tuple of few things -/
theorem t_ixP {ds : List D} {d : D} {j : Int} (h : xev K a ρ = .ok c ρ) (s : look ρ c = some (.py (.tuple ds))) (h' : xev K b ρ = .ok (cI j) ρ) (g : L2.atI ds j = some d) (q : itemC c d = c') : xev K (.ix a b) ρ = .ok c' ρ := by
  rw [ev_ix, h, bind_ok, h', bind_ok]
  have : ixC ρ c (cI j) = some c' := by
    show (look ρ c).bind (fun x => (see ρ (cI j)).bind fun k => ixX c x k) = _
    rw [s, Option.bind_some, see_fro, Option.bind_some]
    show (L2.atI ds j).map (itemC c) = _
    rw [g]
    exact congrArg some q
  rw [this]
theorem at0 {d : D} {ds : List D} : L2.atI (d :: ds) 0 = some d := by
  show L2.atI (d :: ds) ((0 : Nat) : Int) = _
  rw [atI_nn (by simp)]; rfl
theorem at1 {d f : D} {ds : List D} : L2.atI (d :: f :: ds) 1 = some f := by
  show L2.atI (d :: f :: ds) ((1 : Nat) : Int) = _
  rw [atI_nn (by simp)]; rfl
theorem at2 {d f g : D} {ds : List D} : L2.atI (d :: f :: g :: ds) 2 = some g := by
  show L2.atI (d :: f :: g :: ds) ((2 : Nat) : Int) = _
  rw [atI_nn (by simp)]; rfl
theorem at3 {d f g h : D} {ds : List D} : L2.atI (d :: f :: g :: h :: ds) 3 = some h := by
  show L2.atI (d :: f :: g :: h :: ds) ((3 : Nat) : Int) = _
  rw [atI_nn (by simp)]; rfl
/-! dicts -/
class KeyI {κ : Type} (e : κ → D) (ek : κ → Key) : Prop where
  key : ∀ k, keyOf (e k) = some (ek k)
  inj : ∀ k l, ek k = ek l ↔ k = l
class KeyT {κ : Type} (e : κ → D) (ek : κ → List Key) : Prop where
  key : ∀ k, tkeyOf (e k) = some (ek k)
  inj : ∀ k l, ek k = ek l ↔ k = l
instance : KeyI eI kI := ⟨fun _ => rfl, fun k l => ⟨fun h => by cases h; rfl, fun h => by rw [h]⟩⟩
instance : KeyI eS kS := ⟨fun _ => rfl, fun k l => ⟨fun h => by cases h; rfl, fun h => by rw [h]⟩⟩
theorem keysOf_ints : ∀ xs : List Int, keysOf (xs.map eI) = some (xs.map .inl)
  | [] => rfl
  | x :: xs => by rw [List.map_cons, keysOf_cons, keysOf_ints xs]; rfl
instance : KeyT (eT eI) kT := ⟨fun k => by show keysOf _ = _; exact keysOf_ints k, fun k l => ⟨fun h => List.map_inj_right (f := (Sum.inl : Int → Key)) (fun a b z => by cases z; rfl) |>.mp h, fun h => by rw [h]⟩⟩
instance : KeyT (eP eI eI) kP := ⟨fun k => rfl, fun k l => ⟨fun h => by obtain ⟨a, b⟩ := k; obtain ⟨c, d⟩ := l; cases h; rfl, fun h => by rw [h]⟩⟩
section
variable {κ V Q : Type} [DecidableEq κ] [DecidableEq Q] {ek : κ → Q} {ev : V → D}
theorem valD_map (inj : ∀ k l, ek k = ek l ↔ k = l) (kvs : List (κ × V)) (k : κ) : valD (kvs.map fun p => (ek p.1, ev p.2)) (ek k) = (dget kvs k).map ev := by
  unfold valD dget
  rw [List.find?_map]
  have e : ((fun kv : Q × D => decide (kv.1 = ek k)) ∘ fun p : κ × V => (ek p.1, ev p.2)) = fun kv => decide (kv.1 = k) := by
    funext p
    exact decide_eq_decide.mpr (inj _ _)
  rw [e]
  cases List.find? (fun kv => decide (kv.1 = k)) kvs <;> rfl
theorem putD_map (inj : ∀ k l, ek k = ek l ↔ k = l) (kvs : List (κ × V)) (k : κ) (v : V) : putD (kvs.map fun p => (ek p.1, ev p.2)) (ek k) (ev v) = (dput kvs k v).map fun p => (ek p.1, ev p.2) := by
  unfold putD dput
  have e : ((kvs.map fun p => (ek p.1, ev p.2)).any fun kv => decide (kv.1 = ek k)) = kvs.any fun kv => decide (kv.1 = k) := by
    rw [List.any_map]
    congr 1
    funext p
    exact decide_eq_decide.mpr (inj _ _)
  rw [e]
  split
  · rw [List.map_map, List.map_map]
    refine List.map_congr_left fun p _ => ?_
    show (if ek p.1 = ek k then (ek p.1, ev v) else (ek p.1, ev p.2)) = _
    by_cases h : p.1 = k
    · rw [if_pos ((inj _ _).mpr h)]
      show _ = (fun p : κ × V => (ek p.1, ev p.2)) (if p.1 = k then (p.1, v) else p)
      rw [if_pos h]
    · rw [if_neg fun z => h ((inj _ _).mp z)]
      show _ = (fun p : κ × V => (ek p.1, ev p.2)) (if p.1 = k then (p.1, v) else p)
      rw [if_neg h]
  · rw [List.map_append]; rfl
end
theorem cm_inK {κ V : Type} [DecidableEq κ] {e : κ → D} {ek : κ → Key} {ev : V → D} [g : KeyI e ek] {kvs : List (κ × V)} {k : κ} (s : look ρ c = some (.py (e k))) (s' : look ρ c' = some (xK ek ev kvs)) : cmR ρ .isin c c' = some (dhas kvs k) := by
  rw [cmR_eq, s, s', Option.bind_some, Option.bind_some, cmX_in_dik, g.key, Option.map_some, valD_map g.inj, Option.isSome_map]; rfl
theorem cm_ninK {κ V : Type} [DecidableEq κ] {e : κ → D} {ek : κ → Key} {ev : V → D} [g : KeyI e ek] {kvs : List (κ × V)} {k : κ} (s : look ρ c = some (.py (e k))) (s' : look ρ c' = some (xK ek ev kvs)) : cmR ρ .notin c c' = some (!dhas kvs k) := by
  rw [cmR_eq, s, s', Option.bind_some, Option.bind_some, cmX_nin_dik, g.key, Option.map_some, valD_map g.inj, Option.isSome_map]; rfl
theorem cm_inDT {κ V : Type} [DecidableEq κ] {e : κ → D} {ek : κ → List Key} {ev : V → D} [g : KeyT e ek] {kvs : List (κ × V)} {k : κ} (s : look ρ c = some (.py (e k))) (s' : look ρ c' = some (xT ek ev kvs)) : cmR ρ .isin c c' = some (dhas kvs k) := by
  rw [cmR_eq, s, s', Option.bind_some, Option.bind_some, cmX_in_dit, g.key, Option.map_some, valD_map g.inj, Option.isSome_map]; rfl
theorem cm_ninDT {κ V : Type} [DecidableEq κ] {e : κ → D} {ek : κ → List Key} {ev : V → D} [g : KeyT e ek] {kvs : List (κ × V)} {k : κ} (s : look ρ c = some (.py (e k))) (s' : look ρ c' = some (xT ek ev kvs)) : cmR ρ .notin c c' = some (!dhas kvs k) := by
  rw [cmR_eq, s, s', Option.bind_some, Option.bind_some, cmX_nin_dit, g.key, Option.map_some, valD_map g.inj, Option.isSome_map]; rfl
theorem jv_ixK {κ V : Type} [DecidableEq κ] {e : κ → D} {ek : κ → Key} {ev : V → D} [g : KeyI e ek] {kvs : List (κ × V)} {k : κ} {R : V → C} (h : xev K a ρ = .ok c ρ) (s : look ρ c = some (xK ek ev kvs)) (h' : xev K b ρ = .ok c' ρ) (s' : see ρ c' = some (e k)) (q : ∀ v, itemC c (ev v) = R v) : JV K (.ix a b) ρ (dgetM kvs k) R := by
  unfold dgetM
  split
  · next v w =>
    refine jv_ok ?_
    rw [ev_ix, h, bind_ok, h', bind_ok]
    have : ixC ρ c c' = some (R v) := by
      show (look ρ c).bind (fun x => (see ρ c').bind fun k => ixX c x k) = _
      rw [s, Option.bind_some, s', Option.bind_some]
      have e1 : ixX c (xK ek ev kvs) (e k) = (getX (xK ek ev kvs) (e k)).bind fun r => r.map (itemC c) := by
        unfold ixX
        cases e k <;> rfl
      rw [e1]
      show ((keyOf (e k)).map fun k => valD _ k).bind _ = _
      rw [g.key, Option.map_some, Option.bind_some, valD_map g.inj, w]
      exact congrArg some (q v)
    rw [this]
  · trivial
theorem jv_ixDT {κ V : Type} [DecidableEq κ] {e : κ → D} {ek : κ → List Key} {ev : V → D} [g : KeyT e ek] {kvs : List (κ × V)} {k : κ} {R : V → C} (h : xev K a ρ = .ok c ρ) (s : look ρ c = some (xT ek ev kvs)) (h' : xev K b ρ = .ok c' ρ) (s' : see ρ c' = some (e k)) (q : ∀ v, itemC c (ev v) = R v) : JV K (.ix a b) ρ (dgetM kvs k) R := by
  unfold dgetM
  split
  · next v w =>
    refine jv_ok ?_
    rw [ev_ix, h, bind_ok, h', bind_ok]
    have : ixC ρ c c' = some (R v) := by
      show (look ρ c).bind (fun x => (see ρ c').bind fun k => ixX c x k) = _
      rw [s, Option.bind_some, s', Option.bind_some]
      have e1 : ixX c (xT ek ev kvs) (e k) = (getX (xT ek ev kvs) (e k)).bind fun r => r.map (itemC c) := by
        unfold ixX
        cases e k <;> rfl
      rw [e1]
      show ((tkeyOf (e k)).map fun k => valD _ k).bind _ = _
      rw [g.key, Option.map_some, Option.bind_some, valD_map g.inj, w]
      exact congrArg some (q v)
    rw [this]
  · trivial
theorem t_dnew {t : Bool} : xev K (.dnew t) ρ = .ok (.own (if t then .dit [] else .dik [])) ρ := ev_dnew
theorem t_disp {κ V : Type} {e : κ → D} {ek : κ → Key} {ev : V → D} [g : KeyI e ek] {k : κ} {v : V} (h : xev K a ρ = .ok c ρ) (s : see ρ c = some (e k)) (h' : xev K b ρ = .ok c' ρ) (s' : see ρ c' = some (ev v)) (q : isSc (ev v) = true) : xev K (.disp a b) ρ = .ok (.own (xK ek ev [(k, v)])) ρ := by
  rw [ev_disp, h, bind_ok, h', bind_ok]
  have : dispC ρ c c' = some [(ek k, ev v)] := by
    unfold dispC
    rw [s, s']
    simp only [g.key, q, if_true]
  rw [this]; rfl
/-! slices -/
def PO (K : Kit) (o : Oe) (ρ : List C) (v : Option Int) : Prop := ∀ k : Option Int → List C → RE, xevP K o ρ k = k v ρ
theorem tp_no : PO K .no ρ none := fun k => evP_no
theorem tp_yes {j : Int} (h : xev K a ρ = .ok (cI j) ρ) : PO K (.yes a) ρ (some j) := fun k => by rw [evP_yes, h]; rfl
theorem er_sl1 {lo hi : Oe} {n : Nat} (h : xev K a ρ = .err n ρ) : xev K (.sl a lo hi) ρ = .err n ρ := by rw [ev_sl, h]; rfl
theorem er_sl2 {hi : Oe} {n : Nat} (h : xev K a ρ = .ok c ρ) (h' : xev K b ρ = .err n ρ) : xev K (.sl a (.yes b) hi) ρ = .err n ρ := by rw [ev_sl, h, bind_ok, evP_yes, h']; rfl
theorem er_sl3 {lo : Oe} {v : Option Int} {n : Nat} (h : xev K a ρ = .ok c ρ) (g : PO K lo ρ v) (h' : xev K b ρ = .err n ρ) : xev K (.sl a lo (.yes b)) ρ = .err n ρ := by rw [ev_sl, h, bind_ok, g, evP_yes, h']; rfl
theorem t_slL {lo hi : Oe} {u v : Option Int} {e : α → D} {xs : List α} (h : xev K a ρ = .ok c ρ) (s : look ρ c = some (.py (.list (xs.map e)))) (g : PO K lo ρ u) (g' : PO K hi ρ v) (q : isBor c = false) : xev K (.sl a lo hi) ρ = .ok (cO (eL e (cutZ xs u v))) ρ := by
  rw [ev_sl, h, bind_ok, g, g']
  have : slC ρ c u v = some (cO (eL e (cutZ xs u v))) := by
    unfold slC
    rw [s, Option.bind_some]
    cases c <;> first | (show some (cO (.list (cutD (xs.map e) u v))) = _; rw [cutD_map]; done) | cases q
  rw [this]
theorem t_slB {lo hi : Oe} {u v : Option Int} {xs : List Int} (h : xev K a ρ = .ok (.bor (.py (eL eI xs))) ρ) (g : PO K lo ρ u) (g' : PO K hi ρ v) : xev K (.sl a lo hi) ρ = .ok (cO (eL eI (cutZ xs u v))) ρ := by
  rw [ev_sl, h, bind_ok, g, g']
  have : slC ρ (.bor (.py (eL eI xs))) u v = some (cO (eL eI (cutZ xs u v))) := by
    unfold slC
    rw [look_bor, Option.bind_some]
    have : (xs.map eI).all isSc = true := by rw [List.all_map]; exact List.all_eq_true.mpr fun _ _ => rfl
    simp only [this, if_true, eL, ← cutD_map]
  rw [this]
theorem t_slT {lo hi : Oe} {u v : Option Int} {e : α → D} {xs : List α} (h : xev K a ρ = .ok c ρ) (s : look ρ c = some (.py (.tuple (xs.map e)))) (g : PO K lo ρ u) (g' : PO K hi ρ v) (q : isBor c = false) : xev K (.sl a lo hi) ρ = .ok (cF (eT e (cutZ xs u v))) ρ := by
  rw [ev_sl, h, bind_ok, g, g']
  have : slC ρ c u v = some (cF (eT e (cutZ xs u v))) := by
    unfold slC
    rw [s, Option.bind_some]
    cases c <;> first | (show some (cF (.tuple (cutD (xs.map e) u v))) = _; rw [cutD_map]; done) | cases q
  rw [this]
theorem stepD_mapE {e : α → β} (xs : List α) (u v w : Option Int) : stepD (xs.map e) u v w = (stepD xs u v w).map e := by
  unfold stepD
  rw [List.length_map, List.map_filterMap]
  congr 1
  funext i
  simp
theorem t_slsL {lo hi st : Oe} {u v w : Option Int} {e : α → D} {xs : List α} (h : xev K a ρ = .ok c ρ) (s : look ρ c = some (.py (.list (xs.map e)))) (g : PO K lo ρ u) (g' : PO K hi ρ v) (g2 : PO K st ρ w) (q : isBor c = false) (z : w ≠ some 0) : xev K (.sls a lo hi st) ρ = .ok (cO (eL e (stepD xs u v w))) ρ := by
  rw [ev_sls, h, bind_ok, g, g', g2]
  have : slS ρ c u v w = some (cO (eL e (stepD xs u v w))) := by
    unfold slS
    rw [s, Option.bind_some]
    simp only [clear_nb q, decide_eq_false z, Bool.not_false, Bool.and_self, if_true, eL, stepD_mapE]
  rw [this]
theorem t_slsB {lo hi st : Oe} {u v w : Option Int} {xs : List Int} (h : xev K a ρ = .ok (.bor (.py (eL eI xs))) ρ) (g : PO K lo ρ u) (g' : PO K hi ρ v) (g2 : PO K st ρ w) (z : w ≠ some 0) : xev K (.sls a lo hi st) ρ = .ok (cO (eL eI (stepD xs u v w))) ρ := by
  rw [ev_sls, h, bind_ok, g, g', g2]
  have : slS ρ (.bor (.py (eL eI xs))) u v w = some (cO (eL eI (stepD xs u v w))) := by
    unfold slS
    rw [look_bor, Option.bind_some]
    simp only [clear_bor, allSc_ints, decide_eq_false z, Bool.not_false, Bool.and_self, if_true, eL, stepD_mapE]
  rw [this]
/-! ranges, fields, isinstance -/
theorem rgD_en (n m : Int) : rgD n m = (upto n m).map eI := by
  unfold rgD upto
  rw [List.map_map]; rfl
def RO (K : Kit) (r : Rg) (ρ : List C) (n m : Int) : Prop := ∀ k : Int → Int → List C → RE, xevR K r ρ k = k n m ρ
theorem tr_one {m : Int} (h : xev K b ρ = .ok (cI m) ρ) : RO K (.one b) ρ 0 m := fun k => by rw [evR_one, h]; rfl
theorem tr_two {n m : Int} (h : xev K a ρ = .ok (cI n) ρ) (h' : xev K b ρ = .ok (cI m) ρ) : RO K (.two a b) ρ n m := fun k => by rw [evR_two, h, bind_ok, h']; rfl
theorem ji_rng {r : Rg} {n m : Int} (h : RO K r ρ n m) : JI K (.rng r) ρ (rngM n m) cI .no ρ := by
  unfold rngM
  split
  · next g =>
    show _ = _
    have : rgO n m = true := rgO_of (by omega)
    rw [evI_rng, h]
    simp only [this, if_true, toRI_ok, rgD_en, List.map_map]
    rfl
  · trivial
theorem jv_rngL {r : Rg} {n m : Int} (h : RO K r ρ n m) : JV K (.rng false r) ρ (rngLM n m) fun xs => cO (eL eI xs) := by
  unfold rngLM
  split
  · next g =>
    refine jv_ok ?_
    have e1 : rgO n m = true := rgO_of (by omega)
    have e2 : (m - n).toNat ≤ line := g.2
    rw [ev_rng, h, e1, decide_eq_true e2]
    simp only [Bool.and_self, if_true, rgD_en]
    rfl
  · trivial
theorem jv_rngT {r : Rg} {n m : Int} (h : RO K r ρ n m) : JV K (.rng true r) ρ (rngLM n m) fun xs => cF (eT eI xs) := by
  unfold rngLM
  split
  · next g =>
    refine jv_ok ?_
    have e1 : rgO n m = true := rgO_of (by omega)
    have e2 : (m - n).toNat ≤ line := g.2
    rw [ev_rng, h, e1, decide_eq_true e2]
    simp only [Bool.and_self, if_true, rgD_en]
  · trivial
theorem t_trev {e : α → D} {xs : List α} (h : xev K a ρ = .ok c ρ) (s : see ρ c = some (.list (xs.map e))) (q : isBor c = false) : xev K (.trev a) ρ = .ok (cF (eT e xs.reverse)) ρ := by
  rw [ev_trev, h, bind_ok, s]
  simp only [clear_nb q, if_true, eT, List.map_reverse]
theorem er_fld {k j n : Nat} (h : xev K a ρ = .err n ρ) : xev K (.fld a k j) ρ = .err n ρ := by rw [ev_fld, h]; rfl
theorem t_fld {k j : Nat} {fs : List D} {d : D} (h : xev K a ρ = .ok c ρ) (s : look ρ c = some (.obj k fs)) (g : fs[j]? = some d) (q : itemC c d = c') : xev K (.fld a k j) ρ = .ok c' ρ := by
  rw [ev_fld, h, bind_ok, s]
  simp only [if_true, g, q]
theorem er_isi {o : Bool} {cs : List Cl} {n : Nat} (h : xev K a ρ = .err n ρ) : xev K (.isi o a cs) ρ = .err n ρ := by rw [ev_isi, h]; rfl
theorem t_isi {o v : Bool} {cs : List Cl} (h : xev K a ρ = .ok c ρ) (g : isiC K.g ρ c cs = some v) : xev K (.isi o a cs) ρ = .ok (cB v) ρ := by rw [ev_isi, h, bind_ok, g]; rfl
/-- the class names that an exception that may be kept is asked for -/
theorem isi_X {g : Glob} {n : Nat} {o : Option Nat} (hs : ∀ m, g.sup m n = supE m n) : isiC g ρ (cX o) [.exc n] = some (match o with | none => false | some m => supE m n) := by
  cases o with
  | none => rfl
  | some m => show ((some (g.sup m n)).bind fun b => if b then some true else some false) = _; rw [hs]; show (if supE m n = true then some true else some false) = some (supE m n); generalize supE m n = z; cases z <;> rfl
def lensM (xs : List Int) : M Int := if xs.length ≤ 1000 then .ok (ndist xs : Nat) else .stuck
theorem er_lens {n : Nat} (h : xev K a ρ = .err n ρ) : xev K (.lens a) ρ = .err n ρ := by rw [ev_lens, h]; rfl
theorem jv_lens {xs : List Int} (h : xev K a ρ = .ok c ρ) (s : see ρ c = some (.tuple (xs.map eI))) : JV K (.lens a) ρ (lensM xs) cI := by
  unfold lensM
  split
  · next g =>
    refine jv_ok ?_
    rw [ev_lens, h, bind_ok]
    unfold lensC
    rw [s]
    simp only [ints_en, if_pos g]
    rfl
  · trivial
/-! calls -/
/-- a def's end -/
def JF (r : RF) {α : Type} (m : M α) (Rl : α → C → List C → Prop) : Prop := J r m (fun a r => ∃ c os, r = .ok c os ∧ Rl a c os) (fun n r => r = .err n)
/-- one thing, and nothing handed in is changed -/
abbrev dt {α : Type} (R : α → C) : α → C → List C → Prop := fun a c os => c = R a ∧ os = []
/-- what a call hands on, when it changes nothing -/
def passes (ρ : List C) (ms : List Nat) (cs : List C) : Option (List C) := match pass0 ρ ms cs with
  | some (cs', _) => if (muts ms cs').isEmpty && passOk ms cs' then pass1s ρ ms cs' else none
  | none => none
/-- the slots stay behind a call -/
def keeps (ρ : List C) (ms : List Nat) (cs : List C) : Prop := (pass0 ρ ms cs).map (·.2) = some ρ
theorem jv_call {g : Nat} {nm : Str} {F : Fn} {ms : List Nat} {es : Es} {cs as : List C} {m : M α} {R : α → C} (hK : K.fns[g]? = some (nm, F)) (h : xevs K es ρ = .ok cs ρ) (hp : passes ρ ms cs = some as) (hk : keeps ρ ms cs) (hF : JF (F as) m (dt R)) (hR : ∀ v, resC (R v) = some (R v)) : JV K (.call g ms es) ρ m R := by
  have e1 : xev K (.call g ms es) ρ = callR F ms cs ρ := by rw [ev_call, h, bindL_ok, hK]
  unfold passes at hp
  cases q : pass0 ρ ms cs with
  | none => rw [q] at hp; cases hp
  | some cr =>
    obtain ⟨cs', ρ'⟩ := cr
    have := hk
    unfold keeps at this
    rw [q] at this
    have := Option.some.inj this
    simp only at this
    subst this
    rw [q] at hp
    simp only at hp
    split at hp
    · next z =>
      obtain ⟨z1, z2⟩ := and2 z
      have z1' : muts ms cs' = [] := List.isEmpty_iff.mp z1
      have e2 : callR F ms cs ρ' = match F as with
        | .ok c outs => match backIs ρ' [] outs, resC c with
          | some ρ'', some c => .ok c ρ''
          | _, _ => .stuck
        | .err n => .err n ρ'
        | .stuck => .stuck := by
        unfold callR
        rw [q]
        simp only [hp, z2, if_true, z1']
        rfl
      unfold JV
      rw [e1, e2]
      cases m with
      | stuck => trivial
      | err n => have hF : F as = .err n := hF; show _ = _; rw [hF]
      | ok v =>
        obtain ⟨c, os, hF, rfl, rfl⟩ := hF
        show _ = _
        rw [hF]
        simp only [backIs_nil, hR]
    · cases hp
/-- an instance is made -/
theorem jv_mk {k : Nat} {F : Fn} {ms : List Nat} {es : Es} {cs as : List C} {m : M α} {R : α → Tx} (hK : K.ini[k]? = some F) (h : xevs K es ρ = .ok cs ρ) (hp : passes ρ ms cs = some as) (hk : keeps ρ ms cs) (hF : JF (F (.own (.obj k []) :: as)) m (fun v c os => c = nonC ∧ os = [.own (R v)])) : JV K (.mk k ms es) ρ m fun v => .own (R v) := by
  have e1 : xev K (.mk k ms es) ρ = mkR F k ms cs ρ := by rw [ev_mk, h, bindL_ok, hK]
  unfold passes at hp
  cases q : pass0 ρ ms cs with
  | none => rw [q] at hp; cases hp
  | some cr =>
    obtain ⟨cs', ρ'⟩ := cr
    have := hk
    unfold keeps at this
    rw [q] at this
    have := Option.some.inj this
    simp only at this
    subst this
    rw [q] at hp
    simp only at hp
    split at hp
    · next z =>
      obtain ⟨z1, z2⟩ := and2 z
      unfold JV
      rw [e1]
      unfold mkR
      rw [q]
      cases m with
      | stuck => trivial
      | err n =>
        have hF : _ = RF.err n := hF
        show _ = _
        simp only [hp, z1, if_true, hF]
      | ok v =>
        obtain ⟨c, os, hF, rfl, rfl⟩ := hF
        show _ = _
        simp only [hp, z1, if_true, hF]
        rfl
    · cases hp
/-! walks -/
theorem it_of {ds : List D} {lk : Lk} {e : α → D} {xs : List α} {g : α → C} (h : xev K a ρ = .ok c ρ) (hl : lockC ρ c = some (ds, lk, ρL)) (hd : ds = xs.map e) (hg : ∀ v, itemC c (e v) = g v) : xevI K (.of a) ρ = .ok (xs.map g) lk ρL := by
  rw [evI_of, h, toRI_ok, hl]
  subst hd
  simp only [List.map_map]
  congr 1
  exact List.map_congr_left fun v _ => hg v
theorem it_rev {ds : List D} {lk : Lk} {e : α → D} {xs : List α} {g : α → C} (h : xev K a ρ = .ok c ρ) (hl : lockC ρ c = some (ds, lk, ρL)) (hd : ds = xs.map e) (hg : ∀ v, itemC c (e v) = g v) : xevI K (.rev a) ρ = .ok (xs.reverse.map g) lk ρL := by
  rw [evI_rev, h, toRI_ok, hl]
  subst hd
  simp only [← List.map_reverse, List.map_map]
  congr 1
  exact List.map_congr_left fun v _ => hg v
/-- things with their numbers -/
def enumZ (xs : List α) : List (Int × α) := xs.zipIdx.map fun p => ((p.2 : Int), p.1)
theorem it_enum {ds : List D} {lk : Lk} {e : α → D} {xs : List α} (h : xev K a ρ = .ok c ρ) (hl : enumC ρ c = some (ds, lk, ρL)) (hd : ds = xs.map e) : xevI K (.enum a) ρ = .ok ((enumZ xs).map fun p => cF (eP eI e p)) lk ρL := by
  rw [evI_enum, h, toRI_ok, hl]
  subst hd
  unfold enumZ
  simp only [List.zipIdx_map, List.map_map]
  rfl
theorem it_zip {e : α → D} {f : β → D} {xs : List α} {ys : List β} (h : xev K a ρ = .ok (cF (eT e xs)) ρ) (h' : xev K b ρ = .ok (cF (eT f ys)) ρ) : xevI K (.zip a b) ρ = .ok ((xs.zip ys).map fun p => cF (eP e f p)) .no ρ := by
  rw [evI_zip, h, toRI_ok, h', toRI_ok]
  show RI.ok (((List.zipWith (fun x y => PyData.tuple [x, y]) (xs.map e) (ys.map f))).map fun d => .fro (.py d)) .no ρ = _
  rw [List.zipWith_map, List.zip, List.map_zipWith, List.map_zipWith]
theorem er_iof {n : Nat} (h : xev K a ρ = .err n ρ) : xevI K (.of a) ρ = .err n ρ := by rw [evI_of, h]; rfl
theorem er_irev {n : Nat} (h : xev K a ρ = .err n ρ) : xevI K (.rev a) ρ = .err n ρ := by rw [evI_rev, h]; rfl
theorem er_ienum {n : Nat} (h : xev K a ρ = .err n ρ) : xevI K (.enum a) ρ = .err n ρ := by rw [evI_enum, h]; rfl
theorem er_lc {own : List Nat} {tg : Tg} {it : It} {cond : Oe} {elt : E} {n : Nat} (h : xevI K it ρ = .err n ρ) : xev K (.lc own tg it cond elt) ρ = .err n ρ := by
  rw [ev_lc, h]; rfl
theorem er_rng1 {n : Nat} (h : xev K a ρ = .err n ρ) : xevI K (.rng (.one a)) ρ = .err n ρ := by rw [evI_rng, evR_one, h]; rfl
theorem er_rng2 {n : Nat} (h : xev K a ρ = .err n ρ) : xevI K (.rng (.two a b)) ρ = .err n ρ := by rw [evI_rng, evR_two, h]; rfl
theorem er_rng3 {n : Nat} (h : xev K a ρ = .ok c ρ) (h' : xev K b ρ = .err n ρ) : xevI K (.rng (.two a b)) ρ = .err n ρ := by rw [evI_rng, evR_two, h, bind_ok, h']; rfl
end
end Gr

set_option Elab.async false
set_option linter.all false
set_option maxRecDepth 100000
set_option maxHeartbeats 4000000
/-! Tg D: comprehensions, statements, defs. -/
namespace Gr
open PySem L2
section
variable {K : Kit} {fx : List Nat} {ρ ρL : List C} {e a b : E} {c c' : C} {x : Tx} {i : Nat} {α β γ X σ : Type}
/-! comprehensions -/
theorem lcB_nil {lk : Lk} {own : List Nat} {tg : Tg} {cond : Oe} {elt : E} {acc : List D} (h : lkIs ρ lk) : lcB K lk own tg cond elt [] acc ρ = .ok (cO (.list acc)) ρ := by
  rw [lcB_eq]; unfold lcGo; exact if_pos h
theorem lc_go {lk : Lk} {own : List Nat} {tg : Tg} {cond : Oe} {elt : E} {g : α → C} {ρw : List C} {ρb : α → List C} {u : α → M Bool} {f : α → M β} {en : β → D} {R : β → C} (hl : lkIs ρw lk)
    (ht : ∀ v, setTg [] ρw tg (g v) = some (ρb v)) (hc : ∀ v, J (xevC K cond (ρb v)) (u v) (fun z r => r = .ok (cB z) (ρb v)) (fun n r => r = .err n (ρb v))) (he : ∀ v, JV K elt (ρb v) (f v) R) (hf : ∀ v y, fzD (ρb v) (R y) = some (en y, ρb v)) (hw : ∀ v, wipeC (ρb v) own = ρw) :
    ∀ (xs : List α) (acc : List β), J (lcB K lk own tg cond elt (xs.map g) (acc.map en) ρw) (lcGM u f xs acc) (fun ys r => r = .ok (cO (eL en ys)) ρw) (fun _ _ => False)
  | [], acc => by
    show _ = _
    rw [List.map_nil, lcB_nil hl]
  | v :: xs, acc => by
    have ih := lc_go (lk := lk) (own := own) (cond := cond) (elt := elt) hl ht hc he hf hw xs
    simp only [lcB_eq] at ih ⊢
    rw [List.map_cons]
    unfold lcGo lcGM
    rw [if_pos hl, ht v]
    have h1 := hc v
    cases q : u v with
    | stuck => trivial
    | err n => trivial
    | ok z =>
      rw [q] at h1
      have h1 : xevC K cond (ρb v) = .ok (cB z) (ρb v) := h1
      cases z with
      | false => simp only [h1, hw]; exact ih acc
      | true =>
        simp only [h1]
        have h2 := he v
        unfold JV at h2
        cases q2 : f v with
        | stuck => trivial
        | err n => trivial
        | ok y =>
          rw [q2] at h2
          have h2 : xev K elt (ρb v) = .ok (R y) (ρb v) := h2
          simp only [h2, hf, List.length_map, hw]
          by_cases hn : acc.length < line
          · rw [if_pos hn, if_pos hn, show acc.map en ++ [en y] = (acc ++ [y]).map en from by rw [List.map_append]; rfl]
            exact ih (acc ++ [y])
          · rw [if_neg hn, if_neg hn]; trivial
open Classical in
theorem lc_end {own : List Nat} {tg : Tg} {it : It} {cond : Oe} {elt : E} {cs : List C} {lk : Lk} {ρw : List C} {r : C} (hi : xevI K it ρ = .ok cs lk ρL) (ho : ownOk ρL own = true) (hw : wipeC ρL own = ρw) (hb : lcB K lk own tg cond elt cs [] ρw = .ok r ρw) (hl : lkIs (backC ρL ρw own) lk) (hu : unlock (backC ρL ρw own) lk = ρ) : xev K (.lc own tg it cond elt) ρ = .ok r ρ := by
  rw [ev_lc, hi]
  have e1 : lcW K own tg cond elt cs lk ρL = .ok r (backC ρL ρw own) := by
    rw [lcW_ok ho (by rw [hw]; exact hb)]
  show (match lcW K own tg cond elt cs lk ρL with
    | .ok c ρ' => if lkIs ρ' lk then RE.ok c (unlock ρ' lk) else .stuck
    | _ => .stuck) = _
  rw [e1]
  simp only
  rw [if_pos hl, hu]
theorem jv_lc {own : List Nat} {tg : Tg} {it : It} {cond : Oe} {elt : E} {lk : Lk} {g : α → C} {ρw : List C} {ρb : α → List C} {xs : List α} {u : α → M Bool} {f : α → M β} {en : β → D} {R : β → C} (hi : xevI K it ρ = .ok (xs.map g) lk ρL) (ho : ownOk ρL own = true) (hw0 : wipeC ρL own = ρw) (hl : lkIs ρw lk)
    (ht : ∀ v, setTg [] ρw tg (g v) = some (ρb v)) (hc : ∀ v, J (xevC K cond (ρb v)) (u v) (fun z r => r = .ok (cB z) (ρb v)) (fun n r => r = .err n (ρb v))) (he : ∀ v, JV K elt (ρb v) (f v) R) (hf : ∀ v y, fzD (ρb v) (R y) = some (en y, ρb v)) (hw : ∀ v, wipeC (ρb v) own = ρw)
    (hl2 : lkIs (backC ρL ρw own) lk) (hu : unlock (backC ρL ρw own) lk = ρ) : JV K (.lc own tg it cond elt) ρ (lcM xs u f) fun ys => cO (eL en ys) := by
  have h := lc_go (lk := lk) (own := own) (K := K) (cond := cond) (elt := elt) hl ht hc he hf hw xs []
  unfold lcM
  unfold JV
  cases q : lcGM u f xs [] with
  | stuck => trivial
  | err n => rw [q] at h; exact h.elim
  | ok ys => rw [q] at h; exact lc_end hi ho hw0 h hl2 hu
theorem tc_no {ρ : List C} : J (xevC K .no ρ) (.ok true) (fun z r => r = .ok (cB z) ρ) (fun n r => r = .err n ρ) := evC_no
theorem tc_yes {ρ : List C} {m : M Bool} (h : JV K a ρ m cB) : J (xevC K (.yes a) ρ) m (fun z r => r = .ok (cB z) ρ) (fun n r => r = .err n ρ) := by rw [evC_yes]; exact h
theorem lcGM_T {u : α → Bool} {f : α → β} : ∀ (xs : List α) (acc : List β), acc.length + xs.length ≤ line → lcGM (fun v => .ok (u v)) (fun v => .ok (f v)) xs acc = .ok (acc ++ (xs.filter u).map f)
  | [], acc, _ => by unfold lcGM; simp
  | x :: xs, acc, h => by
    rw [List.length_cons] at h
    unfold lcGM
    cases q : u x with
    | false =>
      simp only [q]
      rw [lcGM_T xs acc (by omega), List.filter_cons_of_neg (by rw [q]; exact Bool.false_ne_true)]
    | true =>
      simp only [q]
      rw [if_pos (by omega), lcGM_T xs (acc ++ [f x]) (by rw [List.length_append, List.length_singleton]; omega), List.filter_cons_of_pos q, List.append_assoc]
      rfl
theorem lcM_T {u : α → Bool} {f : α → β} {xs : List α} (h : xs.length ≤ line) : lcM xs (fun v => .ok (u v)) (fun v => .ok (f v)) = .ok ((xs.filter u).map f) := by
  unfold lcM
  rw [lcGM_T xs [] (by rw [List.length_nil]; omega), List.nil_append]
/-- a comprehension whose parts are plain -/
theorem jv_lcT {own : List Nat} {tg : Tg} {it : It} {cond : Oe} {elt : E} {lk : Lk} {g : α → C} {ρw : List C} {ρb : α → List C} {xs : List α} {u : α → Bool} {f : α → β} {en : β → D} {R : β → C} (hi : xevI K it ρ = .ok (xs.map g) lk ρL) (ho : ownOk ρL own = true) (hw0 : wipeC ρL own = ρw) (hl : lkIs ρw lk)
    (ht : ∀ v, setTg [] ρw tg (g v) = some (ρb v)) (hc : ∀ v, xevC K cond (ρb v) = .ok (cB (u v)) (ρb v)) (he : ∀ v, xev K elt (ρb v) = .ok (R (f v)) (ρb v)) (hf : ∀ v y, fzD (ρb v) (R y) = some (en y, ρb v)) (hw : ∀ v, wipeC (ρb v) own = ρw)
    (hl2 : lkIs (backC ρL ρw own) lk) (hu : unlock (backC ρL ρw own) lk = ρ) : JV K (.lc own tg it cond elt) ρ (lcT xs u f) fun ys => cO (eL en ys) := by
  have h := jv_lc (u := fun v => .ok (u v)) (f := fun v => .ok (f v)) hi ho hw0 hl ht hc (fun v => jv_ok (he v)) hf hw hl2 hu
  unfold lcT
  split
  · next z => rw [lcM_T z] at h; exact h
  · trivial
theorem jv_lcA {own : List Nat} {tg : Tg} {it : It} {elt : E} {lk : Lk} {g : α → C} {ρw : List C} {ρb : α → List C} {xs : List α} {f : α → β} {en : β → D} {R : β → C} (hi : xevI K it ρ = .ok (xs.map g) lk ρL) (ho : ownOk ρL own = true) (hw0 : wipeC ρL own = ρw) (hl : lkIs ρw lk)
    (ht : ∀ v, setTg [] ρw tg (g v) = some (ρb v)) (he : ∀ v, xev K elt (ρb v) = .ok (R (f v)) (ρb v)) (hf : ∀ v y, fzD (ρb v) (R y) = some (en y, ρb v)) (hw : ∀ v, wipeC (ρb v) own = ρw)
    (hl2 : lkIs (backC ρL ρw own) lk) (hu : unlock (backC ρL ρw own) lk = ρ) : JV K (.lc own tg it .no elt) ρ (lcA xs f) fun ys => cO (eL en ys) := by
  have h := jv_lcT (u := fun _ => true) hi ho hw0 hl ht (fun v => evC_no) he hf hw hl2 hu
  have e1 : lcT xs (fun _ => true) f = lcA xs f := by
    unfold lcT lcA
    rw [List.filter_eq_self.mpr fun _ _ => rfl]
  rw [← e1]; exact h
/-! statements -/
abbrev anyE : Nat → RS → Prop := fun n r => ∃ ρ', r = .err n ρ'
abbrev atE (ρ : List C) : Nat → RS → Prop := fun n r => r = .err n ρ
/-- behind the block the slots are E s -/
abbrev nx (E : σ → List C) : σ → RS → Prop := fun s r => r = .next (E s)
/-- behind a turn -/
abbrev tn (E : σ → List C) : σ → RS → Prop := fun s r => r = .next (E s) ∨ r = .cont (E s)
/-- a turn, or given back -/
abbrev tr (E : σ → List C) (P : β → RS → Prop) : σ ⊕ β → RS → Prop := fun z r => match z with
  | .inl s => r = .next (E s) ∨ r = .cont (E s)
  | .inr v => P v r
abbrev nr (E : σ → List C) (P : β → RS → Prop) : σ ⊕ β → RS → Prop := fun z r => match z with
  | .inl s => r = .next (E s)
  | .inr v => P v r
abbrev tb (E : σ → List C) : σ ⊕ σ → RS → Prop := fun z r => match z with
  | .inl s => r = .next (E s) ∨ r = .cont (E s)
  | .inr s => r = .brk (E s)
/-- a def's end, with the things handed in to be changed -/
abbrev rt (cs : List C) (Rl : α → C → List C → Prop) : α → RS → Prop := fun v r => (∃ c ρ', r = .ret c ρ' ∧ Rl v c (outsOf cs ρ')) ∨ (∃ ρ', r = .next ρ' ∧ Rl v nonC (outsOf cs ρ'))
abbrev rx (cs : List C) (Rl : α → C → List C → Prop) : α → RS → Prop := fun v r => ∃ c ρ', r = .ret c ρ' ∧ Rl v c (outsOf cs ρ')
theorem js_nil {s : σ} {E : σ → List C} {Q : Nat → RS → Prop} (h : ρ = E s) : J (xruns K fx .nil ρ) (.ok s) (nx E) Q := by show xruns K fx .nil ρ = _; rw [runs_nil, h]
theorem js_nilT {s : σ} {E : σ → List C} {Q : Nat → RS → Prop} (h : ρ = E s) : J (xruns K fx .nil ρ) (.ok s) (tn E) Q := .inl (by rw [runs_nil, h])
theorem js_nilR {s : σ} {E : σ → List C} {P : β → RS → Prop} {Q : Nat → RS → Prop} (h : ρ = E s) : J (xruns K fx .nil ρ) (.ok (.inl s)) (tr E P) Q := .inl (by rw [runs_nil, h])
theorem js_nilN {s : σ} {E : σ → List C} {P : β → RS → Prop} {Q : Nat → RS → Prop} (h : ρ = E s) : J (xruns K fx .nil ρ) (.ok (.inl s)) (nr E P) Q := by show xruns K fx .nil ρ = _; rw [runs_nil, h]
theorem js_nilB {s : σ} {E : σ → List C} {Q : Nat → RS → Prop} (h : ρ = E s) : J (xruns K fx .nil ρ) (.ok (.inl s)) (tb E) Q := .inl (by rw [runs_nil, h])
theorem js_end {cs : List C} {v : α} {Rl : α → C → List C → Prop} {Q : Nat → RS → Prop} (h : Rl v nonC (outsOf cs ρ)) : J (xruns K fx .nil ρ) (.ok v) (rt cs Rl) Q := .inr ⟨ρ, by rw [runs_nil], h⟩
variable {P : β → RS → Prop} {Q : Nat → RS → Prop} {ss : Ss} {m : M β}
/-- a thing is stored -/
def setL (fx : List Nat) (ρ : List C) (i : Nat) (c : C) : Option (List C) := match lay ρ c with
  | some (c, ρ) => setN fx ρ i c
  | none => none
theorem run_set' (h : xev K e ρ = .ok c ρ) {ρ' : List C} (hs : setL fx ρ i c = some ρ') : xrun K fx (.set i e) ρ = .next ρ' := by
  rw [run_set, h, toRS_ok]
  unfold setL at hs
  split at hs
  · next hl => (try rw [hl]); simp only [hs]
  · cases hs
theorem er_set {n : Nat} (h : xev K e ρ = .err n ρ) : xruns K fx (.cons (.set i e) ss) ρ = .err n ρ := by rw [runs_cons, run_set, h]; rfl
theorem js_set {v : α} {R : α → C} {ρ' : α → List C} {k : α → M β} (h : xev K e ρ = .ok (R v) ρ) (hs : ∀ v, setL fx ρ i (R v) = some (ρ' v)) (hk : ∀ v, J (xruns K fx ss (ρ' v)) (k v) P Q) : J (xruns K fx (.cons (.set i e) ss) ρ) (lett v k) P Q := by
  rw [runs_cons, run_set' h (hs v)]; exact hk v
/-- a thing that is told by a plain end is stored -/
theorem js_setM {mm : M α} {R : α → C} {ρ' : α → List C} {k : α → M β} (h : JV K e ρ mm R) (hq : ∀ n, Q n (.err n ρ)) (hs : ∀ v, setL fx ρ i (R v) = some (ρ' v)) (hk : ∀ v, J (xruns K fx ss (ρ' v)) (k v) P Q) : J (xruns K fx (.cons (.set i e) ss) ρ) (bnd mm k) P Q := by
  refine focus h (fun n z => ?_) fun v hv => ?_
  · rw [er_set z]; exact hq n
  · rw [runs_cons, run_set' hv (hs v)]; exact hk v
theorem er_setT {is : List Nat} {n : Nat} (h : xev K e ρ = .err n ρ) : xruns K fx (.cons (.setT is e) ss) ρ = .err n ρ := by rw [runs_cons, run_setT, h]; rfl
theorem js_setT {is : List Nat} {v : α} {R : α → C} {ρ' : α → List C} {k : α → M β} (h : xev K e ρ = .ok (R v) ρ) (hs : ∀ v, setTg fx ρ (.tup is) (R v) = some (ρ' v)) (hk : ∀ v, J (xruns K fx ss (ρ' v)) (k v) P Q) : J (xruns K fx (.cons (.setT is e) ss) ρ) (lett v k) P Q := by
  rw [runs_cons, run_setT, h, toRS_ok, hs v]; exact hk v
theorem js_setTM {is : List Nat} {mm : M α} {R : α → C} {ρ' : α → List C} {k : α → M β} (h : JV K e ρ mm R) (hq : ∀ n, Q n (.err n ρ)) (hs : ∀ v, setTg fx ρ (.tup is) (R v) = some (ρ' v)) (hk : ∀ v, J (xruns K fx ss (ρ' v)) (k v) P Q) : J (xruns K fx (.cons (.setT is e) ss) ρ) (bnd mm k) P Q := by
  refine focus h (fun n z => ?_) fun v hv => ?_
  · rw [er_setT z]; exact hq n
  · rw [runs_cons, run_setT, hv, toRS_ok, hs v]; exact hk v
theorem er_aug {o : Op} {n : Nat} {u : Int} (hx : see ρ (ρ[i]?.getD .und) = some (.int u)) (h : xev K e ρ = .err n ρ) : xruns K fx (.cons (.aug i o e) ss) ρ = .err n ρ := by
  rw [runs_cons, run_aug, hx]; simp only [h]; rfl
theorem js_augA {u v : Int} {ρ' : Int → List C} {k : Int → M β} (hx : see ρ (ρ[i]?.getD .und) = some (.int u)) (h : xev K e ρ = .ok (cI v) ρ) (hs : ∀ v, setN fx ρ i (cI v) = some (ρ' v)) (hk : ∀ v, J (xruns K fx ss (ρ' v)) (k v) P Q) : J (xruns K fx (.cons (.aug i .add e) ss) ρ) (lett (u + v) k) P Q := by
  rw [runs_cons, run_aug, hx]
  simp only [h, toRS_ok, see_fro, augC_add, num, hs]
  exact hk _
theorem js_augS {u v : Int} {ρ' : Int → List C} {k : Int → M β} (hx : see ρ (ρ[i]?.getD .und) = some (.int u)) (h : xev K e ρ = .ok (cI v) ρ) (hs : ∀ v, setN fx ρ i (cI v) = some (ρ' v)) (hk : ∀ v, J (xruns K fx ss (ρ' v)) (k v) P Q) : J (xruns K fx (.cons (.aug i .sub e) ss) ρ) (lett (u - v) k) P Q := by
  rw [runs_cons, run_aug, hx]
  simp only [h, toRS_ok, see_fro, augC_sub, num, hs]
  exact hk _
/-! d[k] = v; xs[i] = v -/
theorem er_setI1 {kk : E} {n : Nat} (h : xev K e ρ = .err n ρ) : xruns K fx (.cons (.setI i kk e) ss) ρ = .err n ρ := by rw [runs_cons, run_setI, h]; rfl
theorem er_setI2 {kk : E} {n : Nat} {d : D} (h : xev K e ρ = .ok c ρ) (hf : fzD ρ c = some (d, ρ)) (ho : isOwn ρ i = true) (h' : xev K kk ρ = .err n ρ) : xruns K fx (.cons (.setI i kk e) ss) ρ = .err n ρ := by
  rw [runs_cons, run_setI, h, toRS_ok, hf]; simp only [ho, if_true, h']; rfl
theorem run_setI' {kk : E} {d kd : D} {ρ' : List C} (h : xev K e ρ = .ok c ρ) (hf : fzD ρ c = some (d, ρ)) (ho : isOwn ρ i = true) (h' : xev K kk ρ = .ok c' ρ) (hf' : fzD ρ c' = some (kd, ρ)) (hm : mutC ρ i (setIX kd d) = some ρ') : xrun K fx (.setI i kk e) ρ = .next ρ' := by
  rw [run_setI, h, toRS_ok, hf]
  simp only [ho, if_true, h', toRS_ok, hf', hm]
theorem js_setK {κ V : Type} [DecidableEq κ] {kk : E} {ek : κ → D} {ky : κ → Key} {ev : V → D} [g : KeyI ek ky] {kvs : List (κ × V)} {kz : κ} {v : V} {ρ' : List (κ × V) → List C} {k : List (κ × V) → M β} (hx : ρ[i]? = some (.own (xK ky ev kvs))) (h : xev K e ρ = .ok c ρ) (hf : fzD ρ c = some (ev v, ρ)) (h' : xev K kk ρ = .ok c' ρ) (hf' : fzD ρ c' = some (ek kz, ρ)) (hs : ∀ q, ρ.set i (.own (xK ky ev q)) = ρ' q) (hk : ∀ q, J (xruns K fx ss (ρ' q)) (k q) P Q) : J (xruns K fx (.cons (.setI i kk e) ss) ρ) (bnd (dputM kvs kz v) k) P Q := by
  unfold dputM
  split
  · next z =>
    have hm : mutC ρ i (setIX (ek kz) (ev v)) = some (ρ' (dput kvs kz v)) := by
      rw [mutC_eq, hx]
      have z' : (kvs.map fun p => (ky p.1, ev p.2)).length < line := by rw [List.length_map]; exact z
      simp only [setIX_dik, g.key, Option.bind_some, if_pos z', Option.map_some, putD_map g.inj, hs]
    rw [bnd_ok, runs_cons, run_setI' h hf (by rw [isOwn_eq, hx]) h' hf' hm]
    exact hk _
  · trivial
theorem js_setDT {κ V : Type} [DecidableEq κ] {kk : E} {ek : κ → D} {ky : κ → List Key} {ev : V → D} [g : KeyT ek ky] {kvs : List (κ × V)} {kz : κ} {v : V} {ρ' : List (κ × V) → List C} {k : List (κ × V) → M β} (hx : ρ[i]? = some (.own (xT ky ev kvs))) (h : xev K e ρ = .ok c ρ) (hf : fzD ρ c = some (ev v, ρ)) (h' : xev K kk ρ = .ok c' ρ) (hf' : fzD ρ c' = some (ek kz, ρ)) (hs : ∀ q, ρ.set i (.own (xT ky ev q)) = ρ' q) (hk : ∀ q, J (xruns K fx ss (ρ' q)) (k q) P Q) : J (xruns K fx (.cons (.setI i kk e) ss) ρ) (bnd (dputM kvs kz v) k) P Q := by
  unfold dputM
  split
  · next z =>
    have hm : mutC ρ i (setIX (ek kz) (ev v)) = some (ρ' (dput kvs kz v)) := by
      rw [mutC_eq, hx]
      have z' : (kvs.map fun p => (ky p.1, ev p.2)).length < line := by rw [List.length_map]; exact z
      simp only [setIX_dit, g.key, Option.bind_some, if_pos z', Option.map_some, putD_map g.inj, hs]
    rw [bnd_ok, runs_cons, run_setI' h hf (by rw [isOwn_eq, hx]) h' hf' hm]
    exact hk _
  · trivial
theorem js_setX {kk : E} {en : α → D} {xs : List α} {j : Int} {v : α} {ρ' : List α → List C} {k : List α → M β} (hx : ρ[i]? = some (cO (eL en xs))) (h : xev K e ρ = .ok c ρ) (hf : fzD ρ c = some (en v, ρ)) (h' : xev K kk ρ = .ok (cI j) ρ) (hs : ∀ q, ρ.set i (cO (eL en q)) = ρ' q) (hk : ∀ q, J (xruns K fx ss (ρ' q)) (k q) P Q) : J (xruns K fx (.cons (.setI i kk e) ss) ρ) (bnd (setM xs j v) k) P Q := by
  unfold setM
  split
  · next z hz =>
    have hm : mutC ρ i (setIX (.int j) (en v)) = some (ρ' (xs.set z v)) := by
      rw [mutC_eq, hx]
      simp only [setIX_list, List.length_map, hz, Option.map_some, ← List.map_set, ← hs]
    rw [bnd_ok, runs_cons, run_setI' h hf (by rw [isOwn_eq, hx]) h' fzD_fro hm]
    exact hk _
  · trivial
/-! self.f = v -/
theorem er_setF {cc j n : Nat} (h : xev K e ρ = .err n ρ) : xruns K fx (.cons (.setF i cc j e) ss) ρ = .err n ρ := by rw [runs_cons, run_setF, h]; rfl
theorem js_setF {cc j : Nat} {en : α → D} {v : α} {ρ' : α → List C} {k : α → M β} (h : xev K e ρ = .ok c ρ) (hf : fzD ρ c = some (en v, ρ)) (hm : ∀ v, mutC ρ i (setFX cc j (en v)) = some (ρ' v)) (hk : ∀ v, J (xruns K fx ss (ρ' v)) (k v) P Q) : J (xruns K fx (.cons (.setF i cc j e) ss) ρ) (lett v k) P Q := by
  rw [runs_cons, run_setF, h, toRS_ok, hf]
  simp only [hm]
  exact hk v
/-! methods of lists -/
theorem er_mt {mt : Mt} {es : Es} {n : Nat} (ho : isOwnL ρ i = true) (h : xevs K es ρ = .err n ρ) : xruns K fx (.cons (.mt i mt es) ss) ρ = .err n ρ := by rw [runs_cons, run_mt, if_pos ho, h]; rfl
theorem js_push {es : Es} {en : α → D} {xs : List α} {v : α} {cs : List C} {ρ' : List α → List C} {k : List α → M β} (hx : ρ[i]? = some (cO (eL en xs))) (h : xevs K es ρ = .ok cs ρ) (hf : fzDs ρ cs = some ([en v], ρ)) (hs : ∀ q, ρ.set i (cO (eL en q)) = ρ' q) (hk : ∀ q, J (xruns K fx ss (ρ' q)) (k q) P Q) : J (xruns K fx (.cons (.mt i .append es) ss) ρ) (bnd (pushM xs v) k) P Q := by
  unfold pushM
  split
  · next z =>
    have z' : (xs.map en).length < line := by rw [List.length_map]; exact z
    have hm : mutC ρ i (mtX .append [en v]) = some (ρ' (xs ++ [v])) := by
      rw [mutC_eq, hx]
      simp only [mtX_append, if_pos z', Option.map_some, ← hs, eL, List.map_append, List.map_cons, List.map_nil]
    rw [bnd_ok, runs_cons, run_mt, if_pos (by rw [isOwnL_eq, hx]), h, toRSL_ok, hf]
    simp only [hm]
    exact hk _
  · trivial
theorem js_revL {en : α → D} {xs : List α} {ρ' : List α → List C} {k : List α → M β} (hx : ρ[i]? = some (cO (eL en xs))) (hs : ∀ q, ρ.set i (cO (eL en q)) = ρ' q) (hk : ∀ q, J (xruns K fx ss (ρ' q)) (k q) P Q) : J (xruns K fx (.cons (.mt i .reverse .nil) ss) ρ) (lett xs.reverse k) P Q := by
  have hm : mutC ρ i (mtX .reverse []) = some (ρ' xs.reverse) := by
    rw [mutC_eq, hx]
    simp only [mtX_reverse, Option.map_some, ← hs, eL, List.map_reverse]
  rw [runs_cons, run_mt, if_pos (by rw [isOwnL_eq, hx]), evs_nil, toRSL_ok]
  simp only [fzDs_nil, hm]
  exact hk _
theorem js_ins {es : Es} {en : α → D} {xs : List α} {v : α} {j : Int} {cs : List C} {ρ' : List α → List C} {k : List α → M β} (hx : ρ[i]? = some (cO (eL en xs))) (h : xevs K es ρ = .ok cs ρ) (hf : fzDs ρ cs = some ([.int j, en v], ρ)) (hs : ∀ q, ρ.set i (cO (eL en q)) = ρ' q) (hk : ∀ q, J (xruns K fx ss (ρ' q)) (k q) P Q) : J (xruns K fx (.cons (.mt i .insert es) ss) ρ) (bnd (insM xs j v) k) P Q := by
  unfold insM
  split
  · next z =>
    have z' : (xs.map en).length < line := by rw [List.length_map]; exact z.1
    have z2 : 0 ≤ j ∧ j ≤ ((xs.map en).length : Int) := by rw [List.length_map]; exact z.2
    have hm : mutC ρ i (mtX .insert [.int j, en v]) = some (ρ' (xs.take j.toNat ++ v :: xs.drop j.toNat)) := by
      rw [mutC_eq, hx]
      simp only [mtX_insert, if_pos z', if_pos z2, Option.map_some, ← hs, eL, List.map_append, List.map_cons, List.map_take, List.map_drop]
    rw [bnd_ok, runs_cons, run_mt, if_pos (by rw [isOwnL_eq, hx]), h, toRSL_ok, hf]
    simp only [hm]
    exact hk _
  · trivial
theorem er_ext {es : Es} {n : Nat} (ho : isOwnL ρ i = true) (h : xevs K es ρ = .err n ρ) : xruns K fx (.cons (.ext i es) ss) ρ = .err n ρ := by rw [runs_cons, run_ext, if_pos ho, h]; rfl
theorem er_ex {n : Nat} (h : xev K e ρ = .err n ρ) : xruns K fx (.cons (.ex e) ss) ρ = .err n ρ := by rw [runs_cons, run_ex, h]; rfl
theorem js_ex {mm : M α} {R : α → C} {k : α → M β} (h : JV K e ρ mm R) (hq : ∀ n, Q n (.err n ρ)) (hk : ∀ v, J (xruns K fx ss ρ) (k v) P Q) : J (xruns K fx (.cons (.ex e) ss) ρ) (bnd mm k) P Q := by
  refine focus h (fun n z => ?_) fun v hv => ?_
  · rw [er_ex z]; exact hq n
  · rw [runs_cons, run_ex, hv, toRS_ok]; exact hk v
theorem js_pass (hk : J (xruns K fx ss ρ) m P Q) : J (xruns K fx (.cons .pass ss) ρ) m P Q := by rw [runs_cons, run_pass]; exact hk
/-! if -/
theorem er_if {u v : Ss} {n : Nat} (h : xev K e ρ = .err n ρ) : xruns K fx (.cons (.ife e u v) ss) ρ = .err n ρ := by rw [runs_cons, run_ife, h]; rfl
theorem run_if {u v : Ss} {z : Bool} (h : xev K e ρ = .ok (cB z) ρ) : xrun K fx (.ife e u v) ρ = if z = true then xruns K fx u ρ else xruns K fx v ρ := by
  rw [run_ife, h, toRS_ok]; cases z <;> rfl
/-- both ways come together behind it -/
theorem js_if {u v : Ss} {z : Bool} {mu mv : M σ} {E : σ → List C} {k : σ → M β} (h : xev K e ρ = .ok (cB z) ρ) (hu : J (xruns K fx u ρ) mu (nx E) Q) (hv : J (xruns K fx v ρ) mv (nx E) Q) (hq : ∀ n r, Q n r → ∃ ρ', r = .err n ρ') (hk : ∀ s, J (xruns K fx ss (E s)) (k s) P Q) : J (xruns K fx (.cons (.ife e u v) ss) ρ) (bnd (if z = true then mu else mv) k) P Q := by
  rw [runs_cons, run_if h]
  have go : ∀ {w : Ss} {mw : M σ}, J (xruns K fx w ρ) mw (nx E) Q → J (match xruns K fx w ρ with | .next ρ => xruns K fx ss ρ | r => r) (bnd mw k) P Q := fun {w mw} hw => by
    cases mw with
    | stuck => trivial
    | err n =>
      have hw : Q n _ := hw
      obtain ⟨ρ', e1⟩ := hq _ _ hw
      rw [e1] at hw ⊢
      exact hw
    | ok s =>
      have hw : _ = _ := hw
      rw [hw]
      exact hk s
  cases z with
  | true => exact go hu
  | false => exact go hv
/-- the way of yes leaves the block -/
theorem js_ifx {u : Ss} {z : Bool} {mu : M β} {P' : β → RS → Prop} (h : xev K e ρ = .ok (cB z) ρ) (hu : J (xruns K fx u ρ) mu P' Q) (hp : ∀ v r, P' v r → P v r ∧ ∀ ρ', r ≠ .next ρ') (hq : ∀ n r, Q n r → ∃ ρ', r = .err n ρ') (hk : J (xruns K fx ss ρ) m P Q) : J (xruns K fx (.cons (.ife e u .nil) ss) ρ) (if z = true then mu else m) P Q := by
  rw [runs_cons, run_if h]
  cases z with
  | false => simp only [Bool.false_eq_true, if_false, runs_nil]; exact hk
  | true =>
    simp only [if_true]
    cases mu with
    | stuck => trivial
    | err n =>
      have hu : Q n _ := hu
      obtain ⟨ρ', e1⟩ := hq _ _ hu
      rw [e1] at hu ⊢
      exact hu
    | ok s =>
      have hu : P' s _ := hu
      obtain ⟨h1, h2⟩ := hp _ _ hu
      show P s _
      cases q : xruns K fx u ρ with
      | next ρ' => exact absurd q (h2 ρ')
      | _ => rw [q] at h1; exact h1
/-- the last of a block -/
theorem js_ifl {u v : Ss} {z : Bool} {mu mv : M β} (h : xev K e ρ = .ok (cB z) ρ) (hu : J (xruns K fx u ρ) mu P Q) (hv : J (xruns K fx v ρ) mv P Q) : J (xruns K fx (.cons (.ife e u v) .nil) ρ) (if z = true then mu else mv) P Q := by
  have e1 : xruns K fx (.cons (.ife e u v) .nil) ρ = if z = true then xruns K fx u ρ else xruns K fx v ρ := by
    rw [runs_cons, run_if h]
    cases z with
    | true => simp only [if_true, runs_nil]; cases xruns K fx u ρ <;> rfl
    | false => simp only [Bool.false_eq_true, if_false, runs_nil]; cases xruns K fx v ρ <;> rfl
  rw [e1]
  cases z with
  | true => exact hu
  | false => exact hv
/-! given back, raised, left -/
theorem er_ret {n : Nat} (h : xev K e ρ = .err n ρ) : xruns K fx (.cons (.ret e) ss) ρ = .err n ρ := by rw [runs_cons, run_ret, h]; rfl
theorem js_ret {cs : List C} {v : α} {Rl : α → C → List C → Prop} {ρ' : List C} (h : xev K e ρ = .ok c ρ) (hr : retC ρ c = some (c', ρ')) (g : Rl v c' (outsOf cs ρ')) : J (xruns K fx (.cons (.ret e) ss) ρ) (.ok v) (rx cs Rl) Q := ⟨c', ρ', by rw [runs_cons, run_ret, h, toRS_ok, hr], g⟩
theorem js_retN {cs : List C} {v : α} {Rl : α → C → List C → Prop} (g : Rl v nonC (outsOf cs ρ)) : J (xruns K fx (.cons .retN ss) ρ) (.ok v) (rx cs Rl) Q := ⟨_, ρ, by rw [runs_cons, run_retN], g⟩
theorem js_rais {n : Nat} (hq : Q n (.err n ρ)) : J (xruns K fx (.cons (.rais n) ss) ρ) (.err n) P Q := by
  show Q n _
  rw [runs_cons, run_rais]; exact hq
theorem js_cont {s : σ} {E : σ → List C} (h : ρ = E s) : J (xruns K fx (.cons .cont ss) ρ) (.ok s) (tn E) Q := .inr (by rw [runs_cons, run_cont, h])
theorem js_contR {s : σ} {E : σ → List C} {P : β → RS → Prop} (h : ρ = E s) : J (xruns K fx (.cons .cont ss) ρ) (.ok (.inl s)) (tr E P) Q := .inr (by rw [runs_cons, run_cont, h])
theorem js_brk {s : σ} {E : σ → List C} (h : ρ = E s) : J (xruns K fx (.cons .brk ss) ρ) (.ok (.inr s)) (tb E) Q := by show _ = _; rw [runs_cons, run_brk, h]
theorem js_inr {r : RS} {E : σ → List C} {P' : β → RS → Prop} (h : J r m P' Q) : J r (bnd m fun v => .ok (Sum.inr (α := σ) v)) (tr E P') Q := by
  cases m with
  | ok v => exact h
  | err n => exact h
  | stuck => trivial
/-! loops -/
theorem fold_go {lk : Lk} {tg : Tg} {b : Ss} {g : α → C} {E : σ → List C} {Eb : σ → α → List C} {f : σ → α → M σ} (hl : ∀ s, lkIs (E s) lk) (ht : ∀ s v, setTg fx (E s) tg (g v) = some (Eb s v)) (hb : ∀ s v, J (xruns K (lk.fx ++ fx) b (Eb s v)) (f s v) (tn E) (fun n r => ∃ ρ', r = .err n ρ' ∧ lkIs ρ' lk)) :
    ∀ (xs : List α) (s : σ), J (forB K lk fx tg b (xs.map g) (E s)) (fldM xs s f) (fun s r => r = .next (unlock (E s) lk)) anyE
  | [], s => by
    show _ = _
    rw [forB_eq, List.map_nil]; unfold forGo; rw [if_pos (hl s)]
  | v :: xs, s => by
    have ih := fold_go (lk := lk) (tg := tg) (b := b) hl ht hb xs
    simp only [forB_eq] at ih ⊢
    rw [List.map_cons]
    unfold forGo fldM
    rw [if_pos (hl s), ht s v]
    have h1 := hb s v
    cases q : f s v with
    | stuck => trivial
    | err n =>
      rw [q] at h1
      obtain ⟨ρ', e1, e2⟩ := h1
      refine ⟨unlock ρ' lk, ?_⟩
      simp only [e1, if_pos e2]
    | ok s' =>
      rw [q] at h1
      rcases h1 with h1 | h1
      · simp only [h1]; exact ih s'
      · simp only [h1]; exact ih s'
theorem js_seq {s : S} {r : RS} (h : xrun K fx s ρ = r) (hn : ∀ ρ', r ≠ .next ρ') : xruns K fx (.cons s ss) ρ = r := by
  rw [runs_cons, h]
  cases r with
  | next ρ' => exact absurd rfl (hn ρ')
  | _ => rfl
theorem er_for {tg : Tg} {it : It} {b : Ss} {n : Nat} (h : xevI K it ρ = .err n ρ) : xruns K fx (.cons (.forS tg it b) ss) ρ = .err n ρ := by rw [runs_cons, run_for, h]; rfl
theorem js_for {tg : Tg} {it : It} {b : Ss} {lk : Lk} {g : α → C} {xs : List α} {E : σ → List C} {s0 : σ} {Eb : σ → α → List C} {f : σ → α → M σ} {k : σ → M β} {E' : σ → List C} (hi : xevI K it ρ = .ok (xs.map g) lk ρL) (h0 : ρL = E s0) (hl : ∀ s, lkIs (E s) lk) (ht : ∀ s v, setTg fx (E s) tg (g v) = some (Eb s v)) (hb : ∀ s v, J (xruns K (lk.fx ++ fx) b (Eb s v)) (f s v) (tn E) (fun n r => ∃ ρ', r = .err n ρ' ∧ lkIs ρ' lk)) (hu : ∀ s, unlock (E s) lk = E' s) (hk : ∀ s, J (xruns K fx ss (E' s)) (k s) P anyE) : J (xruns K fx (.cons (.forS tg it b) ss) ρ) (bnd (fldM xs s0 f) k) P anyE := by
  have h := fold_go (K := K) (fx := fx) hl ht hb xs s0
  have e1 : xrun K fx (.forS tg it b) ρ = forB K lk fx tg b (xs.map g) (E s0) := by rw [run_for, hi, forR_ok, h0]
  cases q : fldM xs s0 f with
  | stuck => trivial
  | err n =>
    rw [q] at h
    obtain ⟨ρ', h⟩ := h
    exact ⟨ρ', js_seq (e1.trans h) fun _ z => by cases z⟩
  | ok s =>
    rw [q] at h
    have h : _ = _ := h
    rw [bnd_ok, runs_cons, e1, h]
    simp only [hu]
    exact hk s
theorem foldR_go {tg : Tg} {b : Ss} {g : α → C} {E : σ → List C} {Eb : σ → α → List C} {f : σ → α → M (σ ⊕ β)} {cs : List C} {Rl : β → C → List C → Prop} (ht : ∀ s v, setTg fx (E s) tg (g v) = some (Eb s v)) (hb : ∀ s v, J (xruns K fx b (Eb s v)) (f s v) (tr E (rx cs Rl)) anyE) :
    ∀ (xs : List α) (s : σ), J (forB K .no fx tg b (xs.map g) (E s)) (fldR xs s f) (nr E (rx cs Rl)) anyE
  | [], s => by
    show _ = _
    rw [forB_eq, List.map_nil]; unfold forGo; rw [if_pos (show lkIs (E s) .no from trivial)]; rfl
  | v :: xs, s => by
    have ih := foldR_go (tg := tg) (b := b) ht hb xs
    simp only [forB_eq] at ih ⊢
    rw [List.map_cons]
    unfold forGo fldR
    rw [if_pos (show lkIs (E s) .no from trivial), ht s v]
    have h1 := hb s v
    have e0 : Lk.no.fx ++ fx = fx := rfl
    rw [e0]
    rw [e0] at ih
    cases q : f s v with
    | stuck => trivial
    | err n =>
      rw [q] at h1
      obtain ⟨ρ', e1⟩ := h1
      refine ⟨ρ', ?_⟩
      simp only [e1]
      exact if_pos (show lkIs ρ' .no from trivial)
    | ok z =>
      rw [q] at h1
      cases z with
      | inl s' =>
        have h1 : _ ∨ _ := h1
        rcases h1 with h1 | h1
        · simp only [h1]; exact ih s'
        · simp only [h1]; exact ih s'
      | inr w =>
        obtain ⟨c, ρ', e1, e2⟩ := h1
        refine ⟨c, ρ', ?_, e2⟩
        simp only [e1]
        exact if_pos (show lkIs ρ' .no from trivial)
/-- a walk that may give back -/
theorem js_forR {tg : Tg} {it : It} {b : Ss} {g : α → C} {xs : List α} {E : σ → List C} {s0 : σ} {Eb : σ → α → List C} {f : σ → α → M (σ ⊕ γ)} {k : σ → M β} {k2 : γ → β} {cs : List C} {Rl : γ → C → List C → Prop} {P : β → RS → Prop} (hi : xevI K it ρ = .ok (xs.map g) .no ρL) (h0 : ρL = E s0) (ht : ∀ s v, setTg fx (E s) tg (g v) = some (Eb s v)) (hb : ∀ s v, J (xruns K fx b (Eb s v)) (f s v) (tr E (rx cs Rl)) anyE) (hp : ∀ v r, rx cs Rl v r → P (k2 v) r) (hk : ∀ s, J (xruns K fx ss (E s)) (k s) P anyE) : J (xruns K fx (.cons (.forS tg it b) ss) ρ) (bndS (fldR xs s0 f) k2 k) P anyE := by
  have h := foldR_go (K := K) (fx := fx) ht hb xs s0
  have e1 : xrun K fx (.forS tg it b) ρ = forB K .no fx tg b (xs.map g) (E s0) := by rw [run_for, hi, forR_ok, h0]
  cases q : fldR xs s0 f with
  | stuck => trivial
  | err n =>
    rw [q] at h
    obtain ⟨ρ', h⟩ := h
    exact ⟨ρ', js_seq (e1.trans h) fun _ z => by cases z⟩
  | ok z =>
    rw [q] at h
    cases z with
    | inl s =>
      have h : _ = _ := h
      rw [bndS_inl, runs_cons, e1, h]
      exact hk s
    | inr w =>
      obtain ⟨c, ρ', e2, e3⟩ := h
      have e4 : xruns K fx (.cons (.forS tg it b) ss) ρ = .ret c ρ' := js_seq (e1.trans e2) fun _ z => by cases z
      show P (k2 w) _
      rw [e4]
      exact hp w _ ⟨c, ρ', rfl, e3⟩
theorem foldB_go {tg : Tg} {b : Ss} {g : α → C} {E : σ → List C} {Eb : σ → α → List C} {f : σ → α → M (σ ⊕ σ)} (ht : ∀ s v, setTg fx (E s) tg (g v) = some (Eb s v)) (hb : ∀ s v, J (xruns K fx b (Eb s v)) (f s v) (tb E) anyE) :
    ∀ (xs : List α) (s : σ), J (forB K .no fx tg b (xs.map g) (E s)) (fldB xs s f) (nx E) anyE
  | [], s => by
    show _ = _
    rw [forB_eq, List.map_nil]; unfold forGo; rw [if_pos (show lkIs (E s) .no from trivial)]; rfl
  | v :: xs, s => by
    have ih := foldB_go (tg := tg) (b := b) ht hb xs
    simp only [forB_eq] at ih ⊢
    rw [List.map_cons]
    unfold forGo fldB
    rw [if_pos (show lkIs (E s) .no from trivial), ht s v]
    have h1 := hb s v
    have e0 : Lk.no.fx ++ fx = fx := rfl
    rw [e0]
    rw [e0] at ih
    cases q : f s v with
    | stuck => trivial
    | err n =>
      rw [q] at h1
      obtain ⟨ρ', e1⟩ := h1
      refine ⟨ρ', ?_⟩
      simp only [e1]
      exact if_pos (show lkIs ρ' .no from trivial)
    | ok z =>
      rw [q] at h1
      cases z with
      | inl s' =>
        have h1 : _ ∨ _ := h1
        rcases h1 with h1 | h1
        · simp only [h1]; exact ih s'
        · simp only [h1]; exact ih s'
      | inr s' =>
        have h1 : _ = _ := h1
        show _ = _
        simp only [h1]
        exact if_pos (show lkIs (E s') .no from trivial)
theorem js_forB {tg : Tg} {it : It} {b : Ss} {g : α → C} {xs : List α} {E : σ → List C} {s0 : σ} {Eb : σ → α → List C} {f : σ → α → M (σ ⊕ σ)} {k : σ → M β} (hi : xevI K it ρ = .ok (xs.map g) .no ρL) (h0 : ρL = E s0) (ht : ∀ s v, setTg fx (E s) tg (g v) = some (Eb s v)) (hb : ∀ s v, J (xruns K fx b (Eb s v)) (f s v) (tb E) anyE) (hk : ∀ s, J (xruns K fx ss (E s)) (k s) P anyE) : J (xruns K fx (.cons (.forS tg it b) ss) ρ) (bnd (fldB xs s0 f) k) P anyE := by
  have h := foldB_go (K := K) (fx := fx) ht hb xs s0
  have e1 : xrun K fx (.forS tg it b) ρ = forB K .no fx tg b (xs.map g) (E s0) := by rw [run_for, hi, forR_ok, h0]
  cases q : fldB xs s0 f with
  | stuck => trivial
  | err n =>
    rw [q] at h
    obtain ⟨ρ', h⟩ := h
    exact ⟨ρ', js_seq (e1.trans h) fun _ z => by cases z⟩
  | ok s =>
    rw [q] at h
    have h : _ = _ := h
    rw [bnd_ok, runs_cons, e1, h]
    exact hk s
theorem whl_go {e : E} {b : Ss} {E : σ → List C} {u : σ → M Bool} {f : σ → M σ} (hc : ∀ s, JV K e (E s) (u s) cB) (hb : ∀ s, J (xruns K fx b (E s)) (f s) (tn E) anyE) : ∀ (n : Nat) (s : σ), J (whB K fx e b n (E s)) (whlM n s u f) (nx E) anyE
  | 0, s => trivial
  | n + 1, s => by
    have ih := whl_go hc hb n
    simp only [whB_eq] at ih ⊢
    unfold whlGo whlM
    have h1 := hc s
    unfold JV at h1
    cases q : u s with
    | stuck => trivial
    | err n =>
      rw [q] at h1
      have h1 : _ = _ := h1
      exact ⟨_, by simp only [h1]; rfl⟩
    | ok z =>
      rw [q] at h1
      have h1 : _ = _ := h1
      cases z with
      | false => show _ = _; simp only [h1]; rfl
      | true =>
        simp only [h1, toRS_ok]
        have h2 := hb s
        cases q2 : f s with
        | stuck => trivial
        | err n =>
          rw [q2] at h2
          obtain ⟨ρ', h2⟩ := h2
          exact ⟨ρ', by simp only [h2]⟩
        | ok s' =>
          rw [q2] at h2
          rcases h2 with h2 | h2
          · simp only [h2]; exact ih s'
          · simp only [h2]; exact ih s'
theorem js_whl {e : E} {b : Ss} {n : Nat} {E : σ → List C} {s0 : σ} {u : σ → M Bool} {f : σ → M σ} {k : σ → M β} (h0 : ρ = E s0) (hc : ∀ s, JV K e (E s) (u s) cB) (hb : ∀ s, J (xruns K fx b (E s)) (f s) (tn E) anyE) (hk : ∀ s, J (xruns K fx ss (E s)) (k s) P anyE) : J (xruns K fx (.cons (.whl n e b) ss) ρ) (bnd (whlM n s0 u f) k) P anyE := by
  have h := whl_go (K := K) (fx := fx) hc hb n s0
  have e1 : xrun K fx (.whl n e b) ρ = whB K fx e b n (E s0) := by rw [run_whl, h0]
  cases q : whlM n s0 u f with
  | stuck => trivial
  | err n =>
    rw [q] at h
    obtain ⟨ρ', h⟩ := h
    exact ⟨ρ', js_seq (e1.trans h) fun _ z => by cases z⟩
  | ok s =>
    rw [q] at h
    have h : _ = _ := h
    rw [bnd_ok, runs_cons, e1, h]
    exact hk s
/-! try -/
/-- a plain end that is caught: what it told, or the number of what was raised -/
def tryM (n : Nat) : M σ → M (σ ⊕ Nat)
  | .ok s => .ok (.inl s)
  | .err m => if supE m n then .ok (.inr m) else .err m
  | .stuck => .stuck
theorem js_tryK {body : Ss} {n i j : Nat} {mm : M σ} {E : σ → List C} {E' : σ ⊕ Nat → List C} {k : σ ⊕ Nat → M β} (hn : ∀ m, K.g.sup m n = supE m n) (hb : J (xruns K fx body ρ) mm (nx E) (atE ρ)) (h1 : ∀ s, E s = E' (.inl s)) (h2 : ∀ m, ((setN fx ρ i (.exc m)).bind fun ρ => (setN fx ρ j (.exc m)).map fun ρ => ρ.set i .und) = some (E' (.inr m))) (hq : ∀ n ρ', Q n (.err n ρ')) (hk : ∀ z, J (xruns K fx ss (E' z)) (k z) P Q) : J (xruns K fx (.cons (.tryK body n i j) ss) ρ) (bnd (tryM n mm) k) P Q := by
  cases mm with
  | stuck => trivial
  | ok s =>
    have hb : _ = _ := hb
    show J _ (k _) P Q
    rw [runs_cons, run_tryK, hb]
    simp only [h1]
    exact hk _
  | err m =>
    have hb : _ = _ := hb
    have e1 : xrun K fx (.tryK body n i j) ρ = if supE m n = true then .next (E' (.inr m)) else .err m ρ := by
      rw [run_tryK, hb]
      simp only [hn]
      have h2 := h2 m
      by_cases q : supE m n = true
      · rw [if_pos q, if_pos q]
        obtain ⟨ρ1, g1, g2⟩ := Option.bind_eq_some_iff.mp h2
        obtain ⟨ρ2, g3, g4⟩ := Option.map_eq_some_iff.mp g2
        rw [g1]; simp only [g3, g4]
      · rw [if_neg q, if_neg q]
    show J _ (bnd (if supE m n = true then .ok (.inr m) else .err m) k) P Q
    by_cases q : supE m n = true
    · rw [if_pos q, runs_cons, e1, if_pos q]; exact hk _
    · rw [if_neg q, runs_cons, e1, if_neg q]; exact hq _ _
theorem js_tryO {body : Ss} {n j : Nat} {mm : M σ} {e : E} {E : σ → List C} {E' : σ ⊕ Nat → List C} {k : σ ⊕ Nat → M β} (hn : ∀ m, K.g.sup m n = supE m n) (hb : J (xruns K fx body ρ) mm (nx E) (atE ρ)) (h1 : ∀ s, E s = E' (.inl s)) (h : xev K e ρ = .ok c ρ) (h2 : ∀ m, setL fx ρ j c = some (E' (.inr m))) (hq : ∀ n ρ', Q n (.err n ρ')) (hk : ∀ z, J (xruns K fx ss (E' z)) (k z) P Q) : J (xruns K fx (.cons (.tryO body n j e) ss) ρ) (bnd (tryM n mm) k) P Q := by
  cases mm with
  | stuck => trivial
  | ok s =>
    have hb : _ = _ := hb
    show J _ (k _) P Q
    rw [runs_cons, run_tryO, hb]
    simp only [h1]
    exact hk _
  | err m =>
    have hb : _ = _ := hb
    have e1 : xrun K fx (.tryO body n j e) ρ = if supE m n = true then .next (E' (.inr m)) else .err m ρ := by
      rw [run_tryO, hb]
      simp only [hn]
      by_cases q : supE m n = true
      · rw [if_pos q, if_pos q]
        have h2 := h2 m
        rw [h, toRS_ok]
        unfold setL at h2
        split at h2
        · next hl => (try rw [hl]); simp only [h2]
        · cases h2
      · rw [if_neg q, if_neg q]
    show J _ (bnd (if supE m n = true then .ok (.inr m) else .err m) k) P Q
    by_cases q : supE m n = true
    · rw [if_pos q, runs_cons, e1, if_pos q]; exact hk _
    · rw [if_neg q, runs_cons, e1, if_neg q]; exact hq _ _
theorem js_tryA {body : Ss} {n i j : Nat} {mm : M σ} {e : E} {E : σ → List C} {ρx : Nat → List C} {cx : Nat → C} {E' : σ ⊕ Nat → List C} {k : σ ⊕ Nat → M β} (hn : ∀ m, K.g.sup m n = supE m n) (hb : J (xruns K fx body ρ) mm (nx E) (atE ρ)) (h1 : ∀ s, E s = E' (.inl s)) (hx : ∀ m, setN fx ρ i (.exc m) = some (ρx m)) (h : ∀ m, xev K e (ρx m) = .ok (cx m) (ρx m)) (h2 : ∀ m, (setL fx (ρx m) j (cx m)).map (fun ρ => ρ.set i .und) = some (E' (.inr m))) (hq : ∀ n ρ', Q n (.err n ρ')) (hk : ∀ z, J (xruns K fx ss (E' z)) (k z) P Q) : J (xruns K fx (.cons (.tryA body n i j e) ss) ρ) (bnd (tryM n mm) k) P Q := by
  cases mm with
  | stuck => trivial
  | ok s =>
    have hb : _ = _ := hb
    show J _ (k _) P Q
    rw [runs_cons, run_tryA, hb]
    simp only [h1]
    exact hk _
  | err m =>
    have hb : _ = _ := hb
    have e1 : xrun K fx (.tryA body n i j e) ρ = if supE m n = true then .next (E' (.inr m)) else .err m ρ := by
      rw [run_tryA, hb]
      simp only [hn]
      by_cases q : supE m n = true
      · rw [if_pos q, if_pos q, hx]
        obtain ⟨ρ2, g3, g4⟩ := Option.map_eq_some_iff.mp (h2 m)
        simp only [h, toRS_ok]
        unfold setL at g3
        split at g3
        · next hl => (try rw [hl]); simp only [g3, g4]
        · cases g3
      · rw [if_neg q, if_neg q]
    show J _ (bnd (if supE m n = true then .ok (.inr m) else .err m) k) P Q
    by_cases q : supE m n = true
    · rw [if_pos q, runs_cons, e1, if_pos q]; exact hk _
    · rw [if_neg q, runs_cons, e1, if_neg q]; exact hq _ _
/-! a def -/
theorem jf_of {F : Fn} {np n : Nat} {b : Ss} {cs : List C} {m : M α} {Rl : α → C → List C → Prop} (hF : F = Gr.fnOf K np n b) (hn : cs.length = np) (h : J (xruns K (ownIx 0 cs) b (cs ++ List.replicate (n - np) .und)) m (rt cs Rl) anyE) : JF (F cs) m Rl := by
  cases m with
  | stuck => trivial
  | err n =>
    obtain ⟨ρ', h⟩ := h
    show _ = _
    rw [hF, fnOf_x, if_pos hn, h]
  | ok v =>
    rcases h with ⟨c, ρ', h, g⟩ | ⟨ρ', h, g⟩
    · exact ⟨c, _, by rw [hF, fnOf_x, if_pos hn, h], g⟩
    · exact ⟨nonC, _, by rw [hF, fnOf_x, if_pos hn, h], g⟩
theorem rx_rt {cs : List C} {Rl : α → C → List C → Prop} {r : RS} {m : M α} (h : J r m (rx cs Rl) Q) : J r m (rt cs Rl) Q := h.imp fun _ z => .inl z
/-! looking at a part -/
theorem focusV {e1 : E} {R1 : α → C} {R : β → C} {m1 : M α} {k : α → M β} (hm : JV K e1 ρ m1 R1) (er : ∀ n, xev K e1 ρ = .err n ρ → xev K e ρ = .err n ρ) (h : ∀ a, xev K e1 ρ = .ok (R1 a) ρ → JV K e ρ (k a) R) : JV K e ρ (bnd m1 k) R := focus hm er h
theorem focusVI {it : It} {g : α → C} {lk : Lk} {R : β → C} {m1 : M (List α)} {k : List α → M β} (hm : JI K it ρ m1 g lk ρL) (er : ∀ n, xevI K it ρ = .err n ρ → xev K e ρ = .err n ρ) (h : ∀ xs, xevI K it ρ = .ok (xs.map g) lk ρL → JV K e ρ (k xs) R) : JV K e ρ (bnd m1 k) R := focusI hm er h
theorem focusS {e1 : E} {R1 : α → C} {m1 : M α} {k : α → M β} (hm : JV K e1 ρ m1 R1) (er : ∀ n, xev K e1 ρ = .err n ρ → xruns K fx ss ρ = .err n ρ) (hq : ∀ n, Q n (.err n ρ)) (h : ∀ a, xev K e1 ρ = .ok (R1 a) ρ → J (xruns K fx ss ρ) (k a) P Q) : J (xruns K fx ss ρ) (bnd m1 k) P Q := focus hm (fun n z => by rw [er n z]; exact hq n) h
theorem focusSI {it : It} {g : α → C} {lk : Lk} {m1 : M (List α)} {k : List α → M β} (hm : JI K it ρ m1 g lk ρL) (er : ∀ n, xevI K it ρ = .err n ρ → xruns K fx ss ρ = .err n ρ) (hq : ∀ n, Q n (.err n ρ)) (h : ∀ xs, xevI K it ρ = .ok (xs.map g) lk ρL → J (xruns K fx ss ρ) (k xs) P Q) : J (xruns K fx ss ρ) (bnd m1 k) P Q := focusI hm (fun n z => by rw [er n z]; exact hq n) h
theorem j_get {r : X} {o : Option α} {k : α → M β} {P : β → X → Prop} {Q : Nat → X → Prop} (h : ∀ v, o = some v → J r (k v) P Q) : J r (bnd (getO o) k) P Q := by
  cases o with
  | none => trivial
  | some v => exact h v rfl
theorem js_gh {fr wp : List Nat} {ρ' : List C} (hg : ghost ρ fr wp = ρ') (h : J (xruns K fx ss ρ') m P Q) : J (xruns K fx (.gh fr wp ss) ρ) m P Q := by rw [runs_gh, hg]; exact h
theorem tcT {r : RE} (h : xev K a ρ = r) : xevC K (.yes a) ρ = r := by rw [evC_yes]; exact h
/-! ways that leave a block -/
abbrev xt (E : σ → List C) : σ → RS → Prop := fun s r => r = .cont (E s)
abbrev xr (E : σ → List C) (P : β → RS → Prop) : σ ⊕ β → RS → Prop := fun z r => match z with
  | .inl s => r = .cont (E s)
  | .inr v => P v r
abbrev xb (E : σ → List C) : σ ⊕ σ → RS → Prop := fun z r => match z with
  | .inl s => r = .cont (E s)
  | .inr s => r = .brk (E s)
theorem hp_rt {cs : List C} {Rl : α → C → List C → Prop} (v : α) (r : RS) (h : rx cs Rl v r) : rt cs Rl v r ∧ ∀ ρ', r ≠ .next ρ' := ⟨.inl h, fun ρ' z => by obtain ⟨c, ρ2, h, _⟩ := h; rw [h] at z; cases z⟩
theorem hp_rx {cs : List C} {Rl : α → C → List C → Prop} (v : α) (r : RS) (h : rx cs Rl v r) : rx cs Rl v r ∧ ∀ ρ', r ≠ .next ρ' := ⟨h, fun ρ' z => by obtain ⟨c, ρ2, h, _⟩ := h; rw [h] at z; cases z⟩
theorem hp_tn {E : σ → List C} (v : σ) (r : RS) (h : xt E v r) : tn E v r ∧ ∀ ρ', r ≠ .next ρ' := ⟨.inr h, fun ρ' z => by have h : r = _ := h; rw [h] at z; cases z⟩
theorem hp_xt {E : σ → List C} (v : σ) (r : RS) (h : xt E v r) : xt E v r ∧ ∀ ρ', r ≠ .next ρ' := ⟨h, fun ρ' z => by have h : r = _ := h; rw [h] at z; cases z⟩
theorem xr_no {E : σ → List C} {cs : List C} {Rl : β → C → List C → Prop} (v : σ ⊕ β) (r : RS) (h : xr E (rx cs Rl) v r) : ∀ ρ', r ≠ .next ρ' := fun ρ' z => by
  cases v with
  | inl s => have h : r = _ := h; rw [h] at z; cases z
  | inr w => exact (hp_rx _ _ h).2 ρ' z
theorem hp_tr {E : σ → List C} {cs : List C} {Rl : β → C → List C → Prop} (v : σ ⊕ β) (r : RS) (h : xr E (rx cs Rl) v r) : tr E (rx cs Rl) v r ∧ ∀ ρ', r ≠ .next ρ' := ⟨by cases v with
  | inl s => exact .inr h
  | inr w => exact h, xr_no v r h⟩
theorem hp_xr {E : σ → List C} {cs : List C} {Rl : β → C → List C → Prop} (v : σ ⊕ β) (r : RS) (h : xr E (rx cs Rl) v r) : xr E (rx cs Rl) v r ∧ ∀ ρ', r ≠ .next ρ' := ⟨h, xr_no v r h⟩
theorem hp_tb {E : σ → List C} (v : σ ⊕ σ) (r : RS) (h : xb E v r) : tb E v r ∧ ∀ ρ', r ≠ .next ρ' := ⟨by cases v with
  | inl s => exact .inr h
  | inr w => exact h, fun ρ' z => by cases v <;> (have h : r = _ := h; rw [h] at z; cases z)⟩
theorem hp_xb {E : σ → List C} (v : σ ⊕ σ) (r : RS) (h : xb E v r) : xb E v r ∧ ∀ ρ', r ≠ .next ρ' := ⟨h, fun ρ' z => by cases v <;> (have h : r = _ := h; rw [h] at z; cases z)⟩
theorem hq_any (n : Nat) (r : RS) (h : anyE n r) : ∃ ρ', r = .err n ρ' := h
theorem hq_at {ρ0 : List C} (n : Nat) (r : RS) (h : atE ρ0 n r) : ∃ ρ', r = .err n ρ' := ⟨_, h⟩
theorem js_retR {cs : List C} {v : α} {Rl : α → C → List C → Prop} {E : σ → List C} {ρ' : List C} (h : xev K e ρ = .ok c ρ) (hr : retC ρ c = some (c', ρ')) (g : Rl v c' (outsOf cs ρ')) : J (xruns K fx (.cons (.ret e) ss) ρ) (.ok (.inr v)) (tr E (rx cs Rl)) Q := js_ret (Q := Q) h hr g
theorem js_retX {cs : List C} {v : α} {Rl : α → C → List C → Prop} {E : σ → List C} {ρ' : List C} (h : xev K e ρ = .ok c ρ) (hr : retC ρ c = some (c', ρ')) (g : Rl v c' (outsOf cs ρ')) : J (xruns K fx (.cons (.ret e) ss) ρ) (.ok (.inr v)) (xr E (rx cs Rl)) Q := js_ret (Q := Q) h hr g
theorem js_retNr {cs : List C} {v : α} {Rl : α → C → List C → Prop} {E : σ → List C} {ρ' : List C} (h : xev K e ρ = .ok c ρ) (hr : retC ρ c = some (c', ρ')) (g : Rl v c' (outsOf cs ρ')) : J (xruns K fx (.cons (.ret e) ss) ρ) (.ok (.inr v)) (nr E (rx cs Rl)) Q := js_ret (Q := Q) h hr g
theorem js_contX {s : σ} {E : σ → List C} (h : ρ = E s) : J (xruns K fx (.cons .cont ss) ρ) (.ok s) (xt E) Q := by show _ = _; rw [runs_cons, run_cont, h]
theorem js_contXr {s : σ} {E : σ → List C} {P : β → RS → Prop} (h : ρ = E s) : J (xruns K fx (.cons .cont ss) ρ) (.ok (.inl s)) (xr E P) Q := by show _ = _; rw [runs_cons, run_cont, h]
theorem js_contXb {s : σ} {E : σ → List C} (h : ρ = E s) : J (xruns K fx (.cons .cont ss) ρ) (.ok (.inl s)) (xb E) Q := by show _ = _; rw [runs_cons, run_cont, h]
theorem js_contB {s : σ} {E : σ → List C} (h : ρ = E s) : J (xruns K fx (.cons .cont ss) ρ) (.ok (.inl s)) (tb E) Q := .inr (by rw [runs_cons, run_cont, h])
theorem js_brkX {s : σ} {E : σ → List C} (h : ρ = E s) : J (xruns K fx (.cons .brk ss) ρ) (.ok (.inr s)) (xb E) Q := by show _ = _; rw [runs_cons, run_brk, h]
/-- ways some of which leave the block -/
theorem js_ifR {u v : Ss} {z : Bool} {mu mv : M (σ ⊕ γ)} {E : σ → List C} {P' : γ → RS → Prop} {k : σ → M β} {k2 : γ → β} (h : xev K e ρ = .ok (cB z) ρ) (hu : J (xruns K fx u ρ) mu (nr E P') Q) (hv : J (xruns K fx v ρ) mv (nr E P') Q) (hp : ∀ w r, P' w r → P (k2 w) r ∧ ∀ ρ', r ≠ .next ρ') (hq : ∀ n r, Q n r → ∃ ρ', r = .err n ρ') (hk : ∀ s, J (xruns K fx ss (E s)) (k s) P Q) : J (xruns K fx (.cons (.ife e u v) ss) ρ) (bndS (if z = true then mu else mv) k2 k) P Q := by
  rw [runs_cons, run_if h]
  have go : ∀ {w : Ss} {mw : M (σ ⊕ γ)}, J (xruns K fx w ρ) mw (nr E P') Q → J (match xruns K fx w ρ with | .next ρ => xruns K fx ss ρ | r => r) (bndS mw k2 k) P Q := fun {w mw} hw => by
    cases mw with
    | stuck => trivial
    | err n =>
      have hw : Q n _ := hw
      obtain ⟨ρ', e1⟩ := hq _ _ hw
      rw [e1] at hw ⊢
      exact hw
    | ok s =>
      cases s with
      | inl s =>
        have hw : _ = _ := hw
        rw [hw]
        exact hk s
      | inr w =>
        obtain ⟨h1, h2⟩ := hp _ _ hw
        show P _ _
        cases q : xruns K fx _ ρ with
        | next ρ' => exact absurd q (h2 ρ')
        | _ => rw [q] at h1; exact h1
  cases z with
  | true => exact go hu
  | false => exact go hv
/-- a walk over what nobody holds -/
theorem js_forN {tg : Tg} {it : It} {b : Ss} {g : α → C} {xs : List α} {E : σ → List C} {s0 : σ} {Eb : σ → α → List C} {f : σ → α → M σ} {k : σ → M β} (hi : xevI K it ρ = .ok (xs.map g) .no ρL) (h0 : ρL = E s0) (ht : ∀ s v, setTg fx (E s) tg (g v) = some (Eb s v)) (hb : ∀ s v, J (xruns K fx b (Eb s v)) (f s v) (tn E) anyE) (hk : ∀ s, J (xruns K fx ss (E s)) (k s) P anyE) : J (xruns K fx (.cons (.forS tg it b) ss) ρ) (bnd (fldM xs s0 f) k) P anyE :=
  js_for (lk := .no) (E' := E) hi h0 (fun _ => trivial) ht (fun s v => by
    have h := hb s v
    cases q : f s v with
    | stuck => trivial
    | err n => rw [q] at h; obtain ⟨ρ', h⟩ := h; exact ⟨ρ', h, trivial⟩
    | ok s' => rw [q] at h; exact h) (fun _ => rfl) hk
/-- what was told, what was raised -/
abbrev zL {σ : Type} : σ ⊕ Nat → Option σ
  | .inl s => some s
  | .inr _ => none
abbrev zR {σ : Type} : σ ⊕ Nat → Option Nat
  | .inl _ => none
  | .inr n => some n
/-! the order of sets -/
def ltE {α : Type} (e : α → D) (a b : α) : Bool := PySem.W.dataLt (e a) (e b)
theorem cm_ltT [DecidableEq α] {e : α → D} {n : Nat} [q : EqE (eT e) n] [g : Alk (eT e)] {u v : List α} (hn : n ≤ 8) (s : look ρ c = some (.py (eT e u))) (s' : look ρ c' = some (.py (eT e v))) : cmR ρ .lt c c' = some (ltE (eT e) u v) := by
  rw [cmR_eq, s, s', Option.bind_some, Option.bind_some, cmX_py]
  show (if (PySem.W.alike (eT e u) (eT e v) && (dp (eT e u) || dp (eT e v))) = true then _ else _) = _
  rw [g.alk, EqE.dp q hn u]; rfl
theorem cm_gtT [DecidableEq α] {e : α → D} {n : Nat} [q : EqE (eT e) n] [g : Alk (eT e)] {u v : List α} (hn : n ≤ 8) (s : look ρ c = some (.py (eT e u))) (s' : look ρ c' = some (.py (eT e v))) : cmR ρ .gt c c' = some (ltE (eT e) v u) := by
  rw [cmR_eq, s, s', Option.bind_some, Option.bind_some, cmX_py]
  show (if (PySem.W.alike (eT e u) (eT e v) && (dp (eT e u) || dp (eT e v))) = true then _ else _) = _
  rw [g.alk, EqE.dp q hn u]; rfl
theorem t_pow {n m v : Int} (hm : 0 ≤ m ∧ m ≤ 1000000 ∧ n.natAbs ≤ 1000000000 ∧ n ^ m.toNat = v) (h : xev K a ρ = .ok (cI n) ρ) (h' : xev K b ρ = .ok (cI m) ρ) : xev K (.op .pow a b) ρ = .ok (cI v) ρ := by
  have := jv_pow h h'
  unfold powM at this
  rw [if_pos ⟨hm.1, hm.2.1, hm.2.2.1⟩, hm.2.2.2] at this
  exact this
theorem t_frz {y : Tx} (h : xev K a ρ = .ok c ρ) (g : fz ρ c = some (y, ρ)) : xev K (.frz a) ρ = .ok (.fro y) ρ := by rw [ev_frz, h, bind_ok, g]
theorem er_frz {n : Nat} (h : xev K a ρ = .err n ρ) : xev K (.frz a) ρ = .err n ρ := by rw [ev_frz, h]; rfl
theorem hp_trR {E : σ → List C} {cs : List C} {Rl : β → C → List C → Prop} (v : β) (r : RS) (h : rx cs Rl v r) : tr E (rx cs Rl) (.inr v) r ∧ ∀ ρ', r ≠ .next ρ' := ⟨h, (hp_rx _ _ h).2⟩
theorem hp_xrR {E : σ → List C} {cs : List C} {Rl : β → C → List C → Prop} (v : β) (r : RS) (h : rx cs Rl v r) : xr E (rx cs Rl) (.inr v) r ∧ ∀ ρ', r ≠ .next ρ' := ⟨h, (hp_rx _ _ h).2⟩
theorem hp_nrR {E : σ → List C} {cs : List C} {Rl : β → C → List C → Prop} (v : β) (r : RS) (h : rx cs Rl v r) : nr E (rx cs Rl) (.inr v) r ∧ ∀ ρ', r ≠ .next ρ' := ⟨h, (hp_rx _ _ h).2⟩
end
end Gr

set_option Elab.async false
set_option linter.all false
set_option maxRecDepth 100000
set_option maxHeartbeats 4000000
/-! Tg E: more forms. -/
namespace Gr
open PySem L2
section
variable {K : Kit} {fx : List Nat} {ρ ρL : List C} {e a b : E} {c c' : C} {x : Tx} {i : Nat} {α β γ X σ : Type} {ss : Ss} {P : β → RS → Prop} {Q : Nat → RS → Prop}
/-- nothing may be raised here -/
def noE (m : M α) : M α := match m with
  | .ok a => .ok a
  | _ => .stuck
@[simp] theorem noE_ok {v : α} : noE (.ok v) = .ok v := rfl
/-! walks over a dict's keys -/
theorem js_forKN {tg : Tg} {b : Ss} {ds : List D} {g : α → C} {xs : List α} {E : σ → List C} {s0 : σ} {Eb : σ → α → List C} {f : σ → α → M σ} {k : σ → M β} (hi : keysAt ρ i = some (ds, ρL)) (hd : (ds.map fun d => (C.fro (.py d))) = xs.map g) (h0 : ρL = E s0) (ht : ∀ s v, setTg fx (E s) tg (g v) = some (Eb s v)) (hb : ∀ s v, J (xruns K fx b (Eb s v)) (f s v) (tn E) anyE) (hk : ∀ s, J (xruns K fx ss (E s)) (k s) P Q) : J (xruns K fx (.cons (.forK tg i b) ss) ρ) (bnd (noE (fldM xs s0 f)) k) P Q := by
  have h := fold_go (K := K) (fx := fx) (lk := .no) (b := b) (f := f) (fun _ => trivial) ht (fun s v => by
    have h := hb s v
    cases q : f s v with
    | stuck => trivial
    | err n => rw [q] at h; obtain ⟨ρ', h⟩ := h; exact ⟨ρ', h, trivial⟩
    | ok s' => rw [q] at h; exact h) xs s0
  cases q : fldM xs s0 f with
  | stuck => trivial
  | err n => trivial
  | ok s =>
    rw [q] at h
    have h : _ = _ := h
    rw [noE_ok, bnd_ok, runs_cons, run_forK, hi]
    simp only [hd, h0, forK_of h fun _ _ z => by cases z]
    exact hk s
theorem js_forKR {tg : Tg} {b : Ss} {ds : List D} {g : α → C} {xs : List α} {E : σ → List C} {s0 : σ} {Eb : σ → α → List C} {f : σ → α → M (σ ⊕ γ)} {k : σ → M β} {k2 : γ → β} {cs : List C} {Rl : γ → C → List C → Prop} {P : β → RS → Prop} (hi : keysAt ρ i = some (ds, ρL)) (hd : (ds.map fun d => (C.fro (.py d))) = xs.map g) (h0 : ρL = E s0) (ht : ∀ s v, setTg fx (E s) tg (g v) = some (Eb s v)) (hb : ∀ s v, J (xruns K fx b (Eb s v)) (f s v) (tr E (rx cs Rl)) anyE) (hp : ∀ v r, rx cs Rl v r → P (k2 v) r) (hk : ∀ s, J (xruns K fx ss (E s)) (k s) P Q) : J (xruns K fx (.cons (.forK tg i b) ss) ρ) (bndS (noE (fldR xs s0 f)) k2 k) P Q := by
  have h := foldR_go (K := K) (fx := fx) ht hb xs s0
  cases q : fldR xs s0 f with
  | stuck => trivial
  | err n => trivial
  | ok z =>
    rw [q] at h
    cases z with
    | inl s =>
      have h : _ = _ := h
      rw [noE_ok, bndS_inl, runs_cons, run_forK, hi]
      simp only [hd, h0, forK_of h fun _ _ z => by cases z]
      exact hk s
    | inr w =>
      obtain ⟨c, ρ', e2, e3⟩ := h
      have e4 : xruns K fx (.cons (.forK tg i b) ss) ρ = .ret c ρ' := js_seq (by
        rw [run_forK, hi]
        simp only [hd, h0]
        exact forK_of e2 fun _ _ z => by cases z) fun _ z => by cases z
      show P (k2 w) _
      rw [e4]
      exact hp w _ ⟨c, ρ', rfl, e3⟩
theorem js_forKB {tg : Tg} {b : Ss} {ds : List D} {g : α → C} {xs : List α} {E : σ → List C} {s0 : σ} {Eb : σ → α → List C} {f : σ → α → M (σ ⊕ σ)} {k : σ → M β} (hi : keysAt ρ i = some (ds, ρL)) (hd : (ds.map fun d => (C.fro (.py d))) = xs.map g) (h0 : ρL = E s0) (ht : ∀ s v, setTg fx (E s) tg (g v) = some (Eb s v)) (hb : ∀ s v, J (xruns K fx b (Eb s v)) (f s v) (tb E) anyE) (hk : ∀ s, J (xruns K fx ss (E s)) (k s) P Q) : J (xruns K fx (.cons (.forK tg i b) ss) ρ) (bnd (noE (fldB xs s0 f)) k) P Q := by
  have h := foldB_go (K := K) (fx := fx) ht hb xs s0
  cases q : fldB xs s0 f with
  | stuck => trivial
  | err n => trivial
  | ok s =>
    rw [q] at h
    have h : _ = _ := h
    rw [noE_ok, bnd_ok, runs_cons, run_forK, hi]
    simp only [hd, h0, forK_of h fun _ _ z => by cases z]
    exact hk s
/-- a walk over an own list, that may not be changed meanwhile -/
theorem foldL_go {lk : Lk} {tg : Tg} {b : Ss} {g : α → C} {E : σ → List C} {Eb : σ → α → List C} {f : σ → α → M σ} (hl : ∀ s, lkIs (E s) lk) (ht : ∀ s v, setTg fx (E s) tg (g v) = some (Eb s v)) (hb : ∀ s v, J (xruns K (lk.fx ++ fx) b (Eb s v)) (f s v) (tn E) anyE) :
    ∀ (xs : List α) (s : σ), J (forB K lk fx tg b (xs.map g) (E s)) (noE (fldM xs s f)) (fun s r => r = .next (unlock (E s) lk)) anyE
  | [], s => by
    show _ = _
    rw [forB_eq, List.map_nil]; unfold forGo; rw [if_pos (hl s)]
  | v :: xs, s => by
    have ih := foldL_go (lk := lk) (tg := tg) (b := b) hl ht hb xs
    simp only [forB_eq] at ih ⊢
    rw [List.map_cons]
    unfold forGo fldM
    rw [if_pos (hl s), ht s v]
    have h1 := hb s v
    cases q : f s v with
    | stuck => trivial
    | err n => trivial
    | ok s' =>
      rw [q] at h1
      rcases h1 with h1 | h1
      · simp only [h1]; exact ih s'
      · simp only [h1]; exact ih s'
theorem js_forL {tg : Tg} {it : It} {b : Ss} {lk : Lk} {g : α → C} {xs : List α} {E : σ → List C} {s0 : σ} {Eb : σ → α → List C} {f : σ → α → M σ} {k : σ → M β} {E' : σ → List C} (hi : xevI K it ρ = .ok (xs.map g) lk ρL) (h0 : ρL = E s0) (hl : ∀ s, lkIs (E s) lk) (ht : ∀ s v, setTg fx (E s) tg (g v) = some (Eb s v)) (hb : ∀ s v, J (xruns K (lk.fx ++ fx) b (Eb s v)) (f s v) (tn E) anyE) (hu : ∀ s, unlock (E s) lk = E' s) (hk : ∀ s, J (xruns K fx ss (E' s)) (k s) P Q) : J (xruns K fx (.cons (.forS tg it b) ss) ρ) (bnd (noE (fldM xs s0 f)) k) P Q := by
  have h := foldL_go (K := K) (fx := fx) hl ht hb xs s0
  have e1 : xrun K fx (.forS tg it b) ρ = forB K lk fx tg b (xs.map g) (E s0) := by rw [run_for, hi, forR_ok, h0]
  cases q : noE (fldM xs s0 f) with
  | stuck => trivial
  | err n =>
    exfalso
    unfold noE at q
    split at q <;> cases q
  | ok s =>
    rw [q] at h
    have h : _ = _ := h
    rw [bnd_ok, runs_cons, e1, h]
    simp only [hu]
    exact hk s
/-- a dict's keys in their order -/
def dkeys {κ V : Type} (kvs : List (κ × V)) : List κ := kvs.map (·.1)
/-- how a key is data -/
class KeyD {κ : Type} (ek : κ → Key) (g : κ → C) : Prop where
  eq : ∀ k, C.fro (.py (keyD (ek k))) = g k
instance : KeyD kI cI := ⟨fun _ => rfl⟩
instance : KeyD kS cS := ⟨fun _ => rfl⟩
theorem keys_map {κ V : Type} {ek : κ → Key} {ev : V → D} {g : κ → C} [h : KeyD ek g] (kvs : List (κ × V)) : (((kvs.map fun p => (ek p.1, ev p.2)).map fun kv => keyD kv.1).map fun d => (C.fro (.py d))) = (dkeys kvs).map g := by
  unfold dkeys
  rw [List.map_map, List.map_map, List.map_map]
  exact List.map_congr_left fun p _ => h.eq p.1
theorem keys_own {κ V : Type} {ek : κ → Key} {ev : V → D} {kvs : List (κ × V)} (h : ρ[i]? = some (.own (xK ek ev kvs))) : keysAt ρ i = some ((kvs.map fun p => (ek p.1, ev p.2)).map fun kv => keyD kv.1, ρ.set i (.fro (xK ek ev kvs))) := by unfold keysAt; rw [h]
theorem keys_fro {κ V : Type} {ek : κ → Key} {ev : V → D} {kvs : List (κ × V)} (h : ρ[i]? = some (.fro (xK ek ev kvs))) : keysAt ρ i = some ((kvs.map fun p => (ek p.1, ev p.2)).map fun kv => keyD kv.1, ρ) := by unfold keysAt; rw [h]
theorem keys_bor {κ V : Type} {ek : κ → Key} {ev : V → D} {kvs : List (κ × V)} (h : ρ[i]? = some (.bor (xK ek ev kvs))) : keysAt ρ i = some ((kvs.map fun p => (ek p.1, ev p.2)).map fun kv => keyD kv.1, ρ) := by unfold keysAt; rw [h]
/-! a list made longer -/
theorem js_extG {es : Es} {en : α → D} {xs ys : List α} {ρ' : List α → List C} {k : List α → M β} (hx : ρ[i]? = some (cO (eL en xs))) (h : xevs K es ρ = .ok [c] ρ) (s : (see ρ c).bind items = some (ys.map en)) (nb : clear c (ys.map en) = true) (hs : ∀ q, ρ.set i (cO (eL en q)) = ρ' q) (hk : ∀ q, J (xruns K fx ss (ρ' q)) (k q) P Q) : J (xruns K fx (.cons (.ext i es) ss) ρ) (bnd (catM xs ys) k) P Q := by
  unfold catM
  split
  · next z =>
    have z' : (xs.map en).length + (ys.map en).length ≤ line := by rw [List.length_map, List.length_map]; exact z
    have hm : mutC ρ i (extX (ys.map en)) = some (ρ' (xs ++ ys)) := by
      rw [mutC_eq, hx]
      simp only [extX_list, if_pos z', Option.map_some, ← hs, eL, List.map_append]
    have he : extA ρ [c] = some (ys.map en) := by
      show ((see ρ c).bind items).bind _ = _
      rw [s]
      exact if_pos nb
    rw [bnd_ok, runs_cons, run_ext, if_pos (by rw [isOwnL_eq, hx]), h, toRSL_ok]
    simp only [he, hm]
    exact hk _
  · trivial
theorem clear_sc {en : α → D} {ys : List α} (h : ∀ y, isSc (en y) = true) : clear c (ys.map en) = true := by
  cases c with
  | bor x => show (ys.map en).all isSc = true; rw [List.all_map]; exact List.all_eq_true.mpr fun y _ => h y
  | _ => rfl
/-! what may be none, else its own -/
abbrev cQ {α : Type} (R : α → C) (o : Option α) : C := match o with
  | none => .fro (.py .none)
  | some v => R v
/-- by what may be none -/
def optM {α β : Type} (o : Option α) (k : α → M β) (kn : M β) : M β := match o with | some v => k v | none => kn
theorem js_setQ {mm : M (Option α)} {R : α → C} {ρn : List C} {ρs : α → List C} {kn : M β} {k : α → M β} (h : JV K e ρ mm (fun o => cQ R o)) (hq : ∀ n, Q n (.err n ρ)) (hn : setL fx ρ i (.fro (.py .none)) = some ρn) (hs : ∀ v, setL fx ρ i (R v) = some (ρs v)) (js : ∀ v, J (xruns K fx ss (ρs v)) (k v) P Q) (jn : J (xruns K fx ss ρn) kn P Q) :
    J (xruns K fx (.cons (.set i e) ss) ρ) (bnd mm fun o => optM o k kn) P Q := by
  refine focus h (fun n z => ?_) fun v hv => ?_
  · rw [er_set z]; exact hq n
  · cases v with
    | none => rw [runs_cons, run_set' hv hn]; exact jn
    | some v => rw [runs_cons, run_set' hv (hs v)]; exact js v
theorem resC_Q {R : α → C} (h : ∀ v, resC (R v) = some (R v)) (o : Option α) : resC (cQ R o) = some (cQ R o) := by
  cases o with
  | none => rfl
  | some v => exact h v
theorem retC_Q {R : α → C} (h : ∀ v, retC ρ (R v) = some (R v, ρ)) (o : Option α) : retC ρ (cQ R o) = some (cQ R o, ρ) := by
  cases o with
  | none => rfl
  | some v => exact h v
theorem lk_Q {e : α → D} {R : α → C} (h : ∀ v, look ρ (R v) = some (.py (e v))) (o : Option α) : look ρ (cQ R o) = some (.py (eO e o)) := by
  cases o with
  | none => rfl
  | some v => exact h v
theorem exc_Q {R : α → C} (h : ∀ v n, R v ≠ .exc n) (o : Option α) (n : Nat) : cQ R o ≠ .exc n := by
  cases o with
  | none => intro z; cases z
  | some v => exact h v n
/-! isinstance -/
theorem isi_opt {g : Glob} {e : α → D} {o : Option α} {cs : List Cl} {r : Bool} (hs : ∀ v, isiC g ρ (.fro (.py (e v))) cs = some r) (hn : isiC g ρ (.fro (.py .none)) cs = some false) : isiC g ρ (.fro (.py (eO e o))) cs = some (o.isSome && r) := by
  cases o with
  | none => exact hn
  | some v => rw [hs v, Option.isSome_some, Bool.true_and]
/-- is what may be an exception one of the classes -/
def isX (o : Option Nat) (ns : List Nat) : Bool := match o with
  | none => false
  | some m => ns.any fun n => supE m n
theorem isi_Xs {ρ : List C} {g : Glob} {o : Option Nat} : ∀ {ns : List Nat}, (∀ m, ∀ n ∈ ns, g.sup m n = supE m n) → isiC g ρ (cX o) (ns.map Cl.exc) = some (isX o ns)
  | [], _ => by cases o <;> rfl
  | n :: ns, hs => by
    have ih : isiC g ρ (cX o) (ns.map Cl.exc) = some (isX o ns) := isi_Xs fun m k hk => hs m k (List.mem_cons_of_mem _ hk)
    cases o with
    | none =>
      have ih : isiAll g (.inl (.py .none)) (ns.map Cl.exc) = some false := ih
      show ((some false).bind fun b => if b then some true else isiAll g (.inl (.py .none)) (ns.map Cl.exc)) = some false
      exact ih
    | some m =>
      have ih : isiAll g (.inr m) (ns.map Cl.exc) = some (ns.any fun n => supE m n) := ih
      show ((some (g.sup m n)).bind fun b => if b then some true else isiAll g (.inr m) (ns.map Cl.exc)) = some ((n :: ns).any fun n => supE m n)
      rw [hs m n List.mem_cons_self, List.any_cons]
      cases supE m n with
      | true => rfl
      | false => exact ih
theorem isi_XV {g : Glob} {o : Option Nat} (hv : g.excTy "ValueError" = some true) : isiC g ρ (cX o) [.ty "ValueError"] = some o.isSome := by
  cases o with
  | none =>
    show ((kitB "NoneType" "ValueError").bind fun b => if b then some true else some false) = some false
    decide +kernel
  | some m => show ((g.excTy "ValueError").bind fun b => if b then some true else some false) = some true; rw [hv]; rfl
/-! operators and built-ins -/
def shlM (a b : Int) : M Int := if 0 ≤ b ∧ b ≤ 1000000 ∧ a.natAbs ≤ 1000000000 then .ok (a * 2 ^ b.toNat) else .stuck
theorem jv_shl {n m : Int} (h : xev K a ρ = .ok (cI n) ρ) (h' : xev K b ρ = .ok (cI m) ρ) : JV K (.op .shl a b) ρ (shlM n m) cI := by
  unfold shlM
  split
  · next g =>
    refine jv_ok ?_
    rw [ev_op, h, bind_ok, h', bind_ok]
    have g' : 0 ≤ m ∧ m ≤ 1000000 ∧ n.natAbs < 18446744073709551616 := ⟨g.1, g.2.1, by omega⟩
    simp only [see_fro, opC_shl, if_pos g']
  · trivial
def bor (a b : Int) : Int := Builtin.bitOr a b
theorem t_bor {n m : Int} (h : xev K a ρ = .ok (cI n) ρ) (h' : xev K b ρ = .ok (cI m) ρ) : xev K (.op .bor a b) ρ = .ok (cI (bor n m)) ρ := by rw [ev_op, h, bind_ok, h', bind_ok]; rfl
def absI (n : Int) : Int := if n < 0 then -n else n
theorem bi_absE {n : Int} : biC ρ .abs [cI n] = some (cI (absI n)) := rfl
theorem keysI_map {V : Type} {ev : V → D} : ∀ kvs : List (Int × V), keysI (kvs.map fun p => (kI p.1, ev p.2)) = some (dkeys kvs)
  | [] => rfl
  | p :: kvs => by
    show (keysI (kvs.map fun p => (kI p.1, ev p.2))).map (p.1 :: ·) = _
    rw [keysI_map kvs]; rfl
def srtKM {V : Type} (kvs : List (Int × V)) : M (List Int) := if kvs.length < 64 then .ok (srtBy eI (dkeys kvs)) else .stuck
theorem jv_srtK {V : Type} {ev : V → D} {es : Es} {kvs : List (Int × V)} (h : xevs K es ρ = .ok [c] ρ) (s : look ρ c = some (xK kI ev kvs)) : JV K (.bi .sortedK es) ρ (srtKM kvs) fun ys => cO (eL eI ys) := by
  unfold srtKM
  split
  · next z =>
    refine jv_ok ?_
    have e1 : biC ρ .sortedK [c] = some (cO (eL eI (srtBy eI (dkeys kvs)))) := by
      rw [bi_sortedK, s]
      show (keysI _).bind _ = _
      rw [keysI_map, Option.bind_some, if_pos (by unfold dkeys; rw [List.length_map]; exact z)]
      have := sortD_en (e := eI) (dkeys kvs)
      exact congrArg (fun z => some (cO (.list z))) this
    rw [ev_bi, h, bindL_ok, e1]
  · trivial
theorem bi_lenDT {κ V : Type} {ek : κ → List Key} {ev : V → D} {kvs : List (κ × V)} (s : look ρ c = some (xT ek ev kvs)) : biC ρ .lenT [c] = some (cI (kvs.length : Int)) := by
  rw [bi_lnT, s]
  show some (num _) = _
  rw [List.length_map]; rfl
end
end Gr

set_option Elab.async false
set_option linter.all false
set_option maxRecDepth 100000
set_option maxHeartbeats 4000000
/-! Ma: the maths of plain programs. -/
namespace Gr
open PySem L2
section
variable {α β γ σ τ : Type}
/-! ranges -/
theorem mem_upto {a b x : Int} : x ∈ upto a b ↔ a ≤ x ∧ x < b := by
  unfold upto
  simp only [List.mem_map, List.mem_range]
  constructor
  · rintro ⟨i, hi, rfl⟩; omega
  · rintro ⟨h1, h2⟩; exact ⟨(x - a).toNat, by omega, by omega⟩
theorem upto_len {a b : Int} : (upto a b).length = (b - a).toNat := by unfold upto; simp
theorem upto_nil {a b : Int} (h : b ≤ a) : upto a b = [] := List.eq_nil_of_length_eq_zero (by rw [upto_len]; omega)
theorem upto_snoc {a b : Int} (h : a ≤ b) : upto a (b + 1) = upto a b ++ [b] := by
  unfold upto
  rw [show (b + 1 - a).toNat = (b - a).toNat + 1 from by omega, List.range_succ, List.map_append]
  simp only [List.map_cons, List.map_nil]
  congr 2
  omega
theorem upto_cons {a b : Int} (h : a < b) : upto a b = a :: upto (a + 1) b := by
  unfold upto
  rw [show (b - a).toNat = (b - (a + 1)).toNat + 1 from by omega, List.range_succ_eq_map, List.map_cons, List.map_map]
  congr 1
  · simp
  · apply List.map_congr_left; intro i _; simp only [Function.comp_apply]; omega
theorem upto_get {a b : Int} {i : Nat} (h : i < (b - a).toNat) : (upto a b)[i]? = some (a + i) := by
  unfold upto
  rw [List.getElem?_map, List.getElem?_range h]; rfl
theorem upto_lt {a b : Int} : (upto a b).Pairwise (· < ·) := by
  unfold upto
  rw [List.pairwise_map]
  exact List.pairwise_lt_range.imp fun {i j} h => by omega
theorem upto_app {a b c : Int} (h : a ≤ b) (h' : b ≤ c) : upto a c = upto a b ++ upto b c := by
  have : ∀ n : Nat, upto a (b + n) = upto a b ++ upto b (b + n) := by
    intro n
    induction n with
    | zero => simp [upto_nil (a := b) (b := b) (Int.le_refl _)]
    | succ n ih =>
      rw [show b + ((n + 1 : Nat) : Int) = (b + n) + 1 from by omega, upto_snoc (by omega), upto_snoc (by omega), ih, List.append_assoc]
  have e := this (c - b).toNat
  rwa [show b + ((c - b).toNat : Int) = c from by omega] at e
theorem nodup_of_lt {xs : List Int} (h : xs.Pairwise (· < ·)) : xs.Nodup := h.imp fun h e => by omega
theorem rngM_ok {a b : Int} (h : -1000000000 ≤ a ∧ a ≤ 1000000000 ∧ -1000000000 ≤ b ∧ b ≤ 1000000000) : rngM a b = .ok (upto a b) := if_pos h
theorem rngLM_ok {a b : Int} (h : -1000000000 ≤ a ∧ a ≤ 1000000 ∧ -1000000000 ≤ b ∧ b ≤ 1000000) (h2 : b - a ≤ 1000000) : rngLM a b = .ok (upto a b) := if_pos ⟨by omega, by unfold line; omega⟩
/-! lists -/
theorem pushM_ok {xs : List α} {x : α} (h : xs.length < 1000000) : pushM xs x = .ok (xs ++ [x]) := if_pos (by unfold line; omega)
theorem catM_ok {xs ys : List α} (h : xs.length + ys.length ≤ 1000000) : catM xs ys = .ok (xs ++ ys) := if_pos (by unfold line; omega)
theorem lcA_ok {xs : List α} {f : α → β} (h : xs.length ≤ 1000000) : lcA xs f = .ok (xs.map f) := if_pos (by unfold line; omega)
theorem lcT_ok {xs : List α} {c : α → Bool} {f : α → β} (h : xs.length ≤ 1000000) : lcT xs c f = .ok ((xs.filter c).map f) := if_pos (by unfold line; omega)
theorem idx_at {xs : List α} {i : Nat} {x : α} (h : xs[i]? = some x) : idx xs (i : Int) = .ok x := by
  unfold idx
  rw [L2.atI_nat h]
theorem idx_of {xs : List α} {j : Int} {x : α} (h0 : 0 ≤ j) (h : xs[j.toNat]? = some x) : idx xs j = .ok x := by
  have := idx_at h
  rwa [show ((j.toNat : Nat) : Int) = j from by omega] at this
theorem idx_last {xs : List α} {x : α} : idx (xs ++ [x]) (-1) = .ok x := by
  unfold idx
  have : L2.atI (xs ++ [x]) (-1) = some x := by
    unfold L2.atI L2.ixN
    simp only [List.length_append, List.length_singleton]
    rw [if_neg (by omega), if_pos (by omega)]
    show (xs ++ [x])[_]? = _
    rw [show (-1 + ((xs.length + 1 : Nat) : Int)).toNat = xs.length from by omega, List.getElem?_append_right (Nat.le_refl _), Nat.sub_self]
    rfl
  rw [this]
@[simp] theorem idx_0 {x : α} {xs : List α} : idx (x :: xs) 0 = .ok x := idx_at (i := 0) rfl
@[simp] theorem idx_1 {x y : α} {xs : List α} : idx (x :: y :: xs) 1 = .ok y := idx_at (i := 1) rfl
@[simp] theorem idx_2 {x y z : α} {xs : List α} : idx (x :: y :: z :: xs) 2 = .ok z := idx_at (i := 2) rfl
@[simp] theorem idx_3 {x y z u : α} {xs : List α} : idx (x :: y :: z :: u :: xs) 3 = .ok u := idx_at (i := 3) rfl
@[simp] theorem idx_4 {x y z u v : α} {xs : List α} : idx (x :: y :: z :: u :: v :: xs) 4 = .ok v := idx_at (i := 4) rfl
theorem modM_ok {a b : Int} (h : 0 < b) : modM a b = .ok (a % b) := if_pos h
theorem fdivM_ok {a b : Int} (h : 0 < b) (h' : b < 1073741824) : fdivM a b = .ok (a / b) := if_pos ⟨h, h'⟩
theorem mulM_ok {a b : Int} (h : (-1000000000 ≤ a ∧ a ≤ 1000000000) ∨ (-1000000000 ≤ b ∧ b ≤ 1000000000)) : mulM a b = .ok (a * b) := if_pos h
/-! walks -/
theorem fldM_go {I : List α → σ → Prop} {f : σ → α → M σ} {all : List α} (hs : ∀ pre x post s, all = pre ++ x :: post → I pre s → ∃ s', f s x = .ok s' ∧ I (pre ++ [x]) s') :
    ∀ (xs pre : List α) (s : σ), all = pre ++ xs → I pre s → ∃ s', fldM xs s f = .ok s' ∧ I all s'
  | [], pre, s, e, h => ⟨s, rfl, by rw [e, List.append_nil]; exact h⟩
  | x :: xs, pre, s, e, h => by
    obtain ⟨s1, h1, h2⟩ := hs pre x xs s e h
    obtain ⟨s2, h3, h4⟩ := fldM_go hs xs (pre ++ [x]) s1 (by rw [e, List.append_assoc]; rfl) h2
    exact ⟨s2, by unfold fldM; rw [h1]; exact h3, h4⟩
theorem fldM_inv (I : List α → σ → Prop) {f : σ → α → M σ} {xs : List α} {s0 : σ} (h0 : I [] s0) (hs : ∀ pre x post s, xs = pre ++ x :: post → I pre s → ∃ s', f s x = .ok s' ∧ I (pre ++ [x]) s') : ∃ s, fldM xs s0 f = .ok s ∧ I xs s := fldM_go hs xs [] s0 rfl h0
theorem fldM_mem (I : σ → Prop) {f : σ → α → M σ} {xs : List α} {s0 : σ} (h0 : I s0) (hs : ∀ x ∈ xs, ∀ s, I s → ∃ s', f s x = .ok s' ∧ I s') : ∃ s, fldM xs s0 f = .ok s ∧ I s :=
  fldM_inv (fun _ => I) h0 fun pre x post s e h => hs x (by rw [e]; simp) s h
/-- a walk by a plain function -/
theorem fldM_fn {g : σ → α → σ} {f : σ → α → M σ} (I : σ → Prop) : ∀ {xs : List α} {s0 : σ}, I s0 → (∀ x ∈ xs, ∀ s, I s → f s x = .ok (g s x) ∧ I (g s x)) → fldM xs s0 f = .ok (xs.foldl g s0)
  | [], s0, _, _ => rfl
  | x :: xs, s0, h0, hs => by
    obtain ⟨h1, h2⟩ := hs x List.mem_cons_self s0 h0
    unfold fldM
    rw [h1]
    exact fldM_fn I h2 fun y hy => hs y (List.mem_cons_of_mem _ hy)
@[simp] theorem fldM_nil {f : σ → α → M σ} {s : σ} : fldM [] s f = .ok s := rfl
theorem fldM_cons {f : σ → α → M σ} {x : α} {xs : List α} {s : σ} : fldM (x :: xs) s f = bnd (f s x) fun s => fldM xs s f := by
  show (match f s x with | .ok s => fldM xs s f | .err n => .err n | .stuck => .stuck) = _
  cases f s x <;> rfl
theorem fldM_app {f : σ → α → M σ} : ∀ {xs ys : List α} {s : σ}, fldM (xs ++ ys) s f = bnd (fldM xs s f) fun s => fldM ys s f
  | [], ys, s => rfl
  | x :: xs, ys, s => by
    rw [List.cons_append, fldM_cons, fldM_cons]
    cases f s x with
    | ok s' => exact fldM_app
    | err n => rfl
    | stuck => rfl
/-- a walk that gives back nothing -/
theorem fldR_inl (I : List α → σ → Prop) {f : σ → α → M (σ ⊕ β)} {all : List α} (hs : ∀ pre x post s, all = pre ++ x :: post → I pre s → ∃ s', f s x = .ok (.inl s') ∧ I (pre ++ [x]) s') :
    ∀ (xs pre : List α) (s : σ), all = pre ++ xs → I pre s → ∃ s', fldR xs s f = .ok (.inl s') ∧ I all s'
  | [], pre, s, e, h => ⟨s, rfl, by rw [e, List.append_nil]; exact h⟩
  | x :: xs, pre, s, e, h => by
    obtain ⟨s1, h1, h2⟩ := hs pre x xs s e h
    obtain ⟨s2, h3, h4⟩ := fldR_inl I hs xs (pre ++ [x]) s1 (by rw [e, List.append_assoc]; rfl) h2
    exact ⟨s2, by unfold fldR; rw [h1]; exact h3, h4⟩
theorem fldR_mem (I : σ → Prop) {f : σ → α → M (σ ⊕ β)} {xs : List α} {s0 : σ} (h0 : I s0) (hs : ∀ x ∈ xs, ∀ s, I s → ∃ s', f s x = .ok (.inl s') ∧ I s') : ∃ s, fldR xs s0 f = .ok (.inl s) ∧ I s :=
  fldR_inl (fun _ => I) (all := xs) (fun pre x post s e h => hs x (by rw [e]; simp) s h) xs [] s0 rfl h0
/-- a walk that gives back at the first that fits -/
theorem fldR_find {r : α → β} {p : α → Bool} {f : Unit → α → M (Unit ⊕ β)} : ∀ {xs : List α}, (∀ x ∈ xs, f () x = if p x = true then .ok (.inr (r x)) else .ok (.inl ())) → fldR xs () f = .ok (match xs.find? p with | some x => .inr (r x) | none => .inl ())
  | [], _ => rfl
  | x :: xs, h => by
    unfold fldR
    rw [h x List.mem_cons_self]
    cases q : p x with
    | true => rw [List.find?_cons_of_pos q]; rfl
    | false =>
      rw [List.find?_cons_of_neg (by rw [q]; exact Bool.false_ne_true)]
      exact fldR_find fun y hy => h y (List.mem_cons_of_mem _ hy)
theorem lcM_ok {c : α → M Bool} {f : α → M β} {u : α → Bool} {g : α → β} {xs : List α} (hl : xs.length ≤ 1000000) (hc : ∀ x ∈ xs, c x = .ok (u x)) (hf : ∀ x ∈ xs, u x = true → f x = .ok (g x)) : lcM xs c f = .ok ((xs.filter u).map g) := by
  have go : ∀ (ys : List α) (acc : List β), (∀ x ∈ ys, x ∈ xs) → acc.length + ys.length ≤ 1000000 → lcGM c f ys acc = .ok (acc ++ (ys.filter u).map g) := by
    intro ys
    induction ys with
    | nil => intro acc _ _; unfold lcGM; simp
    | cons y ys ih =>
      intro acc hm hz
      rw [List.length_cons] at hz
      have hy := hm y List.mem_cons_self
      unfold lcGM
      rw [hc y hy]
      cases q : u y with
      | false => simp only []; rw [ih acc (fun x hx => hm x (List.mem_cons_of_mem _ hx)) (by omega), List.filter_cons_of_neg (by rw [q]; exact Bool.false_ne_true)]
      | true =>
        simp only []
        rw [hf y hy q]
        simp only []
        rw [if_pos (by unfold line; omega), ih _ (fun x hx => hm x (List.mem_cons_of_mem _ hx)) (by rw [List.length_append, List.length_singleton]; omega), List.filter_cons_of_pos q, List.append_assoc]
        rfl
  unfold lcM
  rw [go xs [] (fun _ h => h) (by rw [List.length_nil]; omega), List.nil_append]
/-- without a test -/
theorem lcM_all {f : α → M β} {g : α → β} {xs : List α} (hl : xs.length ≤ 1000000) (hf : ∀ x ∈ xs, f x = .ok (g x)) : lcM xs (fun _ => .ok true) f = .ok (xs.map g) := by
  rw [lcM_ok (u := fun _ => true) hl (fun _ _ => rfl) fun x hx _ => hf x hx, List.filter_eq_self.mpr fun _ _ => rfl]
/-! as long as -/
theorem whlM_inv (I : σ → Prop) (μ : σ → Nat) {c : σ → M Bool} {f : σ → M σ} (hc : ∀ s, I s → ∃ b, c s = .ok b) (hf : ∀ s, I s → c s = .ok true → ∃ s', f s = .ok s' ∧ I s' ∧ μ s' < μ s) : ∀ (n : Nat) (s : σ), I s → μ s < n → ∃ s', whlM n s c f = .ok s' ∧ I s' ∧ c s' = .ok false
  | 0, s, _, h => absurd h (Nat.not_lt_zero _)
  | n + 1, s, hI, h => by
    obtain ⟨b, hb⟩ := hc s hI
    unfold whlM
    rw [hb]
    cases b with
    | false => exact ⟨s, rfl, hI, hb⟩
    | true =>
      obtain ⟨s1, h1, h2, h3⟩ := hf s hI hb
      simp only [h1]
      exact whlM_inv I μ hc hf n s1 h2 (by omega)
/-! what a program surely gives -/
def Gd (m : M α) (Q : α → Prop) : Prop := ∃ a, m = .ok a ∧ Q a
theorem gd_ok {a : α} {Q : α → Prop} (h : Q a) : Gd (.ok a) Q := ⟨a, rfl, h⟩
theorem gd_bnd {m : M α} {k : α → M β} {R : α → Prop} {Q : β → Prop} (h : Gd m R) (hk : ∀ a, R a → Gd (k a) Q) : Gd (bnd m k) Q := by
  obtain ⟨a, e, r⟩ := h
  rw [e]; exact hk a r
theorem gd_lett {a : α} {k : α → M β} {Q : β → Prop} (h : Gd (k a) Q) : Gd (lett a k) Q := h
theorem gd_mono {m : M α} {R Q : α → Prop} (h : Gd m R) (hk : ∀ a, R a → Q a) : Gd m Q := by
  obtain ⟨a, e, r⟩ := h
  exact ⟨a, e, hk a r⟩
theorem gd_noE {m : M α} {Q : α → Prop} (h : Gd m Q) : Gd (noE m) Q := by
  obtain ⟨a, e, r⟩ := h
  rw [e]; exact ⟨a, rfl, r⟩
theorem gd_fld {I : List α → σ → Prop} {f : σ → α → M σ} {xs : List α} {s0 : σ} {Q : σ → Prop} (h0 : I [] s0) (hs : ∀ pre x post s, xs = pre ++ x :: post → I pre s → Gd (f s x) (I (pre ++ [x]))) (hq : ∀ s, I xs s → Q s) : Gd (fldM xs s0 f) Q := by
  obtain ⟨s, e, h⟩ := fldM_inv I h0 hs
  exact ⟨s, e, hq s h⟩
theorem gd_whl {I : σ → Prop} {μ : σ → Nat} {c : σ → M Bool} {f : σ → M σ} {n : Nat} {s0 : σ} {Q : σ → Prop} (h0 : I s0) (hn : μ s0 < n) (hc : ∀ s, I s → ∃ b, c s = .ok b) (hf : ∀ s, I s → c s = .ok true → Gd (f s) fun s' => I s' ∧ μ s' < μ s) (hq : ∀ s, I s → c s = .ok false → Q s) : Gd (whlM n s0 c f) Q := by
  obtain ⟨s, e, h, h'⟩ := whlM_inv I μ hc hf n s0 h0 hn
  exact ⟨s, e, hq s h h'⟩
theorem gd_fldR {I : List α → σ → Prop} {f : σ → α → M (σ ⊕ β)} {xs : List α} {s0 : σ} {k2 : β → τ} {k : σ → M τ} {Q : τ → Prop} (h0 : I [] s0) (hs : ∀ pre x post s, xs = pre ++ x :: post → I pre s → Gd (f s x) fun z => ∃ s', z = .inl s' ∧ I (pre ++ [x]) s') (hk : ∀ s, I xs s → Gd (k s) Q) : Gd (bndS (fldR xs s0 f) k2 k) Q := by
  obtain ⟨s, e, h⟩ := fldR_inl I (all := xs) (f := f) (fun pre x post s e h => by
    obtain ⟨_, h1, s', rfl, h2⟩ := hs pre x post s e h
    exact ⟨s', h1, h2⟩) xs [] s0 rfl h0
  rw [e]; exact hk s h
theorem fldR_unit {f : Unit → α → M (Unit ⊕ β)} {xs : List α} (h : ∀ x ∈ xs, f () x = .ok (.inl ())) : fldR xs () f = .ok (.inl ()) := by
  obtain ⟨s, e, _⟩ := fldR_mem (fun _ : Unit => True) (xs := xs) (s0 := ()) (f := f) trivial fun x hx s _ => ⟨(), h x hx, trivial⟩
  exact e
theorem fldM_unit {f : Unit → α → M Unit} {xs : List α} (h : ∀ x ∈ xs, f () x = .ok ()) : fldM xs () f = .ok () := by
  obtain ⟨s, e, _⟩ := fldM_mem (fun _ : Unit => True) (xs := xs) (s0 := ()) (f := f) trivial fun x hx s _ => ⟨(), h x hx, trivial⟩
  exact e
/-! dicts -/
section
variable {κ V : Type} [DecidableEq κ]
theorem dget_some {kvs : List (κ × V)} {k : κ} {v : V} (h : dget kvs k = some v) : (k, v) ∈ kvs := by
  unfold dget at h
  cases q : kvs.find? fun kv => decide (kv.1 = k) with
  | none => rw [q] at h; cases h
  | some p =>
    rw [q] at h
    have h1 := List.find?_some q
    have h2 := List.mem_of_find?_eq_some q
    simp only [Option.map_some, Option.some.injEq, decide_eq_true_eq] at h h1
    subst h h1
    exact h2
theorem dget_none {kvs : List (κ × V)} {k : κ} : dget kvs k = none ↔ k ∉ dkeys kvs := by
  unfold dget dkeys
  rw [Option.map_eq_none_iff, List.find?_eq_none]
  simp only [decide_eq_true_eq, List.mem_map, not_exists, not_and]
theorem dhas_iff {kvs : List (κ × V)} {k : κ} : dhas kvs k = true ↔ k ∈ dkeys kvs := by
  unfold dhas
  cases q : dget kvs k with
  | none => simp only [Option.isSome_none, Bool.false_eq_true, false_iff]; exact dget_none.mp q
  | some v => simp only [Option.isSome_some, true_iff]; exact List.mem_map.mpr ⟨_, dget_some q, rfl⟩
theorem dhas_not {kvs : List (κ × V)} {k : κ} : dhas kvs k = false ↔ k ∉ dkeys kvs := by
  rw [← dhas_iff, Bool.not_eq_true]
theorem dget_mem {kvs : List (κ × V)} {k : κ} {v : V} (hn : (dkeys kvs).Nodup) (h : (k, v) ∈ kvs) : dget kvs k = some v := by
  cases q : dget kvs k with
  | none => exact absurd (List.mem_map.mpr ⟨_, h, rfl⟩) (dget_none.mp q)
  | some u =>
    have h2 := dget_some q
    congr 1
    have := List.pairwise_map.mp hn
    by_cases e : (k, v) = (k, u)
    · exact (Prod.mk.inj e).2.symm
    · obtain ⟨i, hi⟩ := List.getElem?_of_mem h
      obtain ⟨j, hj⟩ := List.getElem?_of_mem h2
      have hi' : (dkeys kvs)[i]? = some k := by unfold dkeys; rw [List.getElem?_map, hi]; rfl
      have hj' : (dkeys kvs)[j]? = some k := by unfold dkeys; rw [List.getElem?_map, hj]; rfl
      have : i = j := (List.getElem?_inj (List.getElem?_eq_some_iff.mp hi').1 hn).mp (hi'.trans hj'.symm)
      subst this
      rw [hi] at hj
      exact absurd (Option.some.inj hj) e
theorem dput_new {kvs : List (κ × V)} {k : κ} {v : V} (h : k ∉ dkeys kvs) : dput kvs k v = kvs ++ [(k, v)] := by
  unfold dput
  rw [if_neg]
  intro z
  obtain ⟨p, hp, e⟩ := List.any_eq_true.mp z
  exact h (List.mem_map.mpr ⟨p, hp, of_decide_eq_true e⟩)
theorem dkeys_put {kvs : List (κ × V)} {k : κ} {v : V} : dkeys (dput kvs k v) = if k ∈ dkeys kvs then dkeys kvs else dkeys kvs ++ [k] := by
  by_cases h : k ∈ dkeys kvs
  · rw [if_pos h]
    unfold dput
    rw [if_pos]
    · unfold dkeys
      rw [List.map_map]
      refine List.map_congr_left fun p _ => ?_
      simp only [Function.comp_apply]
      split <;> simp_all
    · obtain ⟨p, hp, e⟩ := List.mem_map.mp h
      exact List.any_eq_true.mpr ⟨p, hp, decide_eq_true e⟩
  · rw [if_neg h, dput_new h]; unfold dkeys; simp
theorem dget_put {kvs : List (κ × V)} {k j : κ} {v : V} : dget (dput kvs k v) j = if j = k then some v else dget kvs j := by
  by_cases h : k ∈ dkeys kvs
  · unfold dput
    have ha : (kvs.any fun kv => decide (kv.1 = k)) = true := by
      obtain ⟨p, hp, e⟩ := List.mem_map.mp h
      exact List.any_eq_true.mpr ⟨p, hp, decide_eq_true e⟩
    rw [if_pos ha]
    clear ha
    induction kvs with
    | nil => exact absurd h (by unfold dkeys; simp)
    | cons p kvs ih =>
      unfold dget
      rw [List.map_cons]
      by_cases e : p.1 = j
      · rw [List.find?_cons_of_pos (by split <;> simp_all), List.find?_cons_of_pos (by simp [e])]
        by_cases e2 : j = k
        · rw [if_pos e2, if_pos (e.trans e2)]; rfl
        · rw [if_neg e2, if_neg (fun z => e2 (e.symm.trans z))]
      · rw [List.find?_cons_of_neg (by split <;> simp_all), List.find?_cons_of_neg (by simp [e])]
        by_cases hk : k ∈ dkeys kvs
        · exact ih hk
        · have hp : p.1 = k := by
            unfold dkeys at h hk
            rw [List.map_cons, List.mem_cons] at h
            exact (h.resolve_right hk).symm
          have e2 : j ≠ k := fun z => e (hp.trans z.symm)
          rw [if_neg e2]
          have : kvs.map (fun kv => if kv.1 = k then (kv.1, v) else kv) = kvs := by
            conv => rhs; rw [← List.map_id kvs]
            refine List.map_congr_left fun q hq => ?_
            rw [if_neg fun z => hk (List.mem_map.mpr ⟨q, hq, z⟩)]; rfl
          rw [this]
  · rw [dput_new h]
    unfold dget
    rw [List.find?_append]
    by_cases e : j = k
    · subst e
      rw [if_pos rfl]
      have : kvs.find? (fun kv => decide (kv.1 = j)) = none := by
        rw [List.find?_eq_none]
        intro p hp z
        exact h (List.mem_map.mpr ⟨p, hp, of_decide_eq_true z⟩)
      rw [this]; simp
    · rw [if_neg e]
      have : ([(k, v)] : List (κ × V)).find? (fun kv => decide (kv.1 = j)) = none := by
        rw [List.find?_cons_of_neg (by simp; exact fun z => e z.symm)]; rfl
      rw [this, Option.or_none]
theorem dputM_ok {kvs : List (κ × V)} {k : κ} {v : V} (h : kvs.length < 1000000) : dputM kvs k v = .ok (dput kvs k v) := if_pos (by unfold line; omega)
theorem dgetM_ok {kvs : List (κ × V)} {k : κ} {v : V} (h : dget kvs k = some v) : dgetM kvs k = .ok v := by unfold dgetM; rw [h]
theorem dkeys_len {kvs : List (κ × V)} : (dkeys kvs).length = kvs.length := by unfold dkeys; rw [List.length_map]
theorem dput_len {kvs : List (κ × V)} {k : κ} {v : V} : (dput kvs k v).length ≤ kvs.length + 1 := by
  rw [← dkeys_len, dkeys_put]
  split
  · rw [dkeys_len]; omega
  · rw [List.length_append, dkeys_len]; simp
theorem dkeys_put_nodup {kvs : List (κ × V)} {k : κ} {v : V} (h : (dkeys kvs).Nodup) : (dkeys (dput kvs k v)).Nodup := by
  rw [dkeys_put]
  split
  · exact h
  · next hn => rw [List.nodup_append]; exact ⟨h, by simp, fun a ha b hb => by rw [List.mem_singleton.mp hb]; exact fun z => hn (z ▸ ha)⟩
theorem mem_dput {kvs : List (κ × V)} {k j : κ} {v : V} : j ∈ dkeys (dput kvs k v) ↔ j = k ∨ j ∈ dkeys kvs := by
  rw [dkeys_put]
  split
  · next h => exact ⟨.inr, fun z => z.elim (fun e => e ▸ h) id⟩
  · rw [List.mem_append, List.mem_singleton, or_comm]
end
/-! sorted -/
theorem srtBy_perm {e : α → D} {xs : List α} : (srtBy e xs).Perm xs := List.mergeSort_perm _ _
theorem mem_srtBy {e : α → D} {xs : List α} {x : α} : x ∈ srtBy e xs ↔ x ∈ xs := srtBy_perm.mem_iff
theorem srtBy_len {e : α → D} {xs : List α} : (srtBy e xs).length = xs.length := srtBy_perm.length_eq
theorem srtI_lt {xs : List Int} (h : xs.Nodup) : (srtBy eI xs).Pairwise (· < ·) := by
  rw [srtBy_I]
  have h1 := srtI_le xs
  have h2 : (srtI xs).Nodup := (srtI_perm xs).nodup_iff.mpr h
  exact h1.imp₂ (fun a b hle hne => by omega) h2
/-- two rising rows with the same things are the same -/
theorem lt_ext {xs ys : List Int} (hx : xs.Pairwise (· < ·)) (hy : ys.Pairwise (· < ·)) (h : ∀ x, x ∈ xs ↔ x ∈ ys) : xs = ys := by
  have hp : xs.Perm ys := (List.perm_ext_iff_of_nodup (nodup_of_lt hx) (nodup_of_lt hy)).mpr h
  exact List.Perm.eq_of_pairwise (le := fun a b : Int => a < b) (fun a b _ _ h1 h2 => by omega) hx hy hp
theorem lt_len : ∀ {xs : List Int} {a b : Int}, xs.Pairwise (· < ·) → (∀ x ∈ xs, a ≤ x ∧ x < b) → (xs.length : Int) ≤ (b - a).toNat
  | [], _, _, _, _ => by simp only [List.length_nil]; omega
  | x :: xs, a, b, h, hi => by
    obtain ⟨h1, h2⟩ := List.pairwise_cons.mp h
    have hx := hi x List.mem_cons_self
    have := lt_len (xs := xs) (a := x + 1) (b := b) h2 fun y hy => ⟨by have := h1 y hy; omega, (hi y (List.mem_cons_of_mem _ hy)).2⟩
    rw [List.length_cons]
    omega
theorem nodup_len {xs : List Int} {a b : Int} (h : xs.Nodup) (hi : ∀ x ∈ xs, a ≤ x ∧ x < b) : (xs.length : Int) ≤ (b - a).toNat := by
  have := lt_len (srtI_lt h) fun x hx => hi x (mem_srtBy.mp hx)
  rwa [srtBy_len] at this
theorem srtBy_fix {xs : List Int} (h : xs.Pairwise (· < ·)) : srtBy eI xs = xs := lt_ext (srtI_lt (nodup_of_lt h)) h fun _ => mem_srtBy
/-! rows of numbers in their order -/
theorem leE_T (a b : List Int) : leE (eT eI) a b = !decide (b < a) := by
  show (!PySem.W.dataLt (.tuple (b.map .int)) (.tuple (a.map .int))) = _
  rw [PySem.W.dataLt_tuple]
  exact congrArg (! ·) (PySem.W.dataLt_ints b a)
theorem ltE_T (a b : List Int) : ltE (eT eI) a b = decide (a < b) := by
  show PySem.W.dataLt (.tuple (a.map .int)) (.tuple (b.map .int)) = _
  rw [PySem.W.dataLt_tuple]
  exact PySem.W.dataLt_ints a b
theorem srtBy_fixT {xs : List (List Int)} (h : xs.Pairwise fun a b => ¬ b < a) : srtBy (eT eI) xs = xs := by
  unfold srtBy
  exact List.mergeSort_of_pairwise (h.imp fun {a b} z => by rw [leE_T, decide_eq_false z]; rfl)
theorem srtTM_ok {xs : List (List Int)} (h : ∀ x ∈ xs, x ≠ []) : srtTM eI xs = .ok (srtBy (eT eI) xs) := by
  unfold srtTM
  rw [if_pos]
  exact List.all_eq_true.mpr fun x hx => by simp [h x hx]
end
end Gr

set_option Elab.async false
set_option linter.all false
set_option maxRecDepth 100000
set_option maxHeartbeats 4000000
namespace GrLaw
open PySem L2 Gr
def top (i : Nat) : Stmt := PySem.Challenge.pw_guardround_k04_shortest_ways.main.body.getD i (.Pass ⟨0, 0, 0, 0⟩)
def inn (i j : Nat) : Stmt := match top i with
  | .ClassDef _ _ _ b _ _ _ _ _ _ _ => b.getD j (.Pass ⟨0, 0, 0, 0⟩)
  | _ => .Pass ⟨0, 0, 0, 0⟩
/-- _law_cell_at -/
def b0 : Ss := (.cons (.ife (.cm .lt (.v 1) (.bi .len (.cons (.v 0) .nil))) (.cons (.ret (.ix (.v 0) (.v 1))) .nil) .nil) (.cons (.ret (.int 0)) .nil))
def e0 : Ent := ⟨⟨("_law_cell_at", none), "_law_cell_at", "_law_cell_at", defArgs (top 13), defBody (top 13), defScope (top 13), [], []⟩, ["script", "k"], ["script", "k"], b0⟩
/-- _law_places -/
def b1 : Ss := (.cons (.set 1 (.call 0 [0, 0] (.cons (.v 0) (.cons (.int 0) .nil)))) (.cons (.ret (.op .add (.int 1) (.ix (.lst (.cons (.op .mod (.op .fdiv (.v 1) (.int 4)) (.int 7)) (.cons (.op .mod (.op .fdiv (.v 1) (.int 4)) (.int 9)) (.cons (.op .mod (.op .fdiv (.v 1) (.int 4)) (.int 20)) (.cons (.op .mod (.op .fdiv (.v 1) (.int 4)) (.int 60)) .nil))))) (.op .mod (.v 1) (.int 4))))) .nil))
def e1 : Ent := ⟨⟨("_law_places", none), "_law_places", "_law_places", defArgs (top 15), defBody (top 15), defScope (top 15), [], []⟩, ["script"], ["script", "head"], b1⟩
/-- _law_pairs -/
def b2 : Ss := (.cons (.set 2 (.lst .nil)) (.cons (.forS (.nm 3) (.of (.sl (.v 0) (.yes (.int 1)) (.yes (.int 63)))) (.cons (.forS (.nm 4) (.rng (.one (.int 2))) (.cons (.set 5 (.op .mod (.v 3) (.v 1))) (.cons (.set 6 (.op .mod (.op .fdiv (.v 3) (.v 1)) (.v 1))) (.cons (.set 3 (.op .fdiv (.op .fdiv (.v 3) (.v 1)) (.v 1))) (.cons (.ife (.and (.cm .ne (.v 5) (.v 6)) (.and (.cm .notin (.tup (.cons (.v 5) (.cons (.v 6) .nil))) (.v 2)) (.cm .notin (.tup (.cons (.v 6) (.cons (.v 5) .nil))) (.v 2)))) (.cons (.mt 2 .append (.cons (.tup (.cons (.v 5) (.cons (.v 6) .nil))) .nil)) (.gh [] [4, 5, 6] .nil)) (.gh [] [4, 5, 6] .nil)) .nil))))) (.gh [] [3] .nil))) (.cons (.ret (.v 2)) .nil)))
def e2 : Ent := ⟨⟨("_law_pairs", none), "_law_pairs", "_law_pairs", defArgs (top 16), defBody (top 16), defScope (top 16), [], []⟩, ["script", "places"], ["script", "places", "pairs", "cell", "turn", "one", "other"], b2⟩
/-- Web -/
def b3 : Ss := (.cons (.ife (.not (.chn .le .le (.int 1) (.v 1) (.gint "MOST_PLACES" 60))) (.cons (.rais 1) .nil) .nil) (.cons (.set 3 (.lst .nil)) (.cons (.forS (.tup [4, 5]) (.of (.v 2)) (.cons (.set 6 (.tup (.cons (.bi .min2 (.cons (.v 4) (.cons (.v 5) .nil))) (.cons (.bi .max2 (.cons (.v 4) (.cons (.v 5) .nil))) .nil)))) (.cons (.ife (.or (.cm .eq (.v 4) (.v 5)) (.or (.cm .lt (.ix (.v 6) (.int 0)) (.int 0)) (.or (.cm .ge (.ix (.v 6) (.int 1)) (.v 1)) (.cm .isin (.v 6) (.v 3))))) (.cons (.rais 2) .nil) .nil) (.cons (.mt 3 .append (.cons (.v 6) .nil)) (.gh [] [4, 5, 6] .nil))))) (.cons (.setF 0 0 0 (.v 1)) (.cons (.setF 0 0 1 (.bi .tuple (.cons (.bi .sorted (.cons (.v 3) .nil)) .nil))) .nil)))))
def e3 : Ent := ⟨⟨("Web", some "__init__"), "__init__", "Web.__init__", defArgs (inn 7 0), defBody (inn 7 0), defScope (inn 7 0), [], []⟩, ["self", "places", "ties"], ["self", "places", "ties", "found", "one", "other", "tie"], b3⟩
/-- _law_beside -/
def b4 : Ss := (.cons (.set 2 (.op .add (.lc [3] (.nm 3) (.of (.v 0)) (.yes (.cm .eq (.ix (.v 3) (.int 0)) (.v 1))) (.ix (.v 3) (.int 1))) (.lc [3] (.nm 3) (.of (.v 0)) (.yes (.cm .eq (.ix (.v 3) (.int 1)) (.v 1))) (.ix (.v 3) (.int 0))))) (.gh [2] [] (.cons (.ret (.bi .tuple (.cons (.bi .sorted (.cons (.v 2) .nil)) .nil))) .nil)))
def e4 : Ent := ⟨⟨("_law_beside", none), "_law_beside", "_law_beside", defArgs (top 18), defBody (top 18), defScope (top 18), [], []⟩, ["pairs", "place"], ["pairs", "place", "some", "pair"], b4⟩
/-- _law_steps -/
def b5 : Ss := (.cons (.set 2 (.disp (.v 1) (.int 0))) (.cons (.set 3 (.lst (.cons (.v 1) .nil))) (.cons (.set 4 (.int 0)) (.cons (.whl 1000000 (.cm .lt (.v 4) (.bi .len (.cons (.v 3) .nil))) (.cons (.forS (.nm 5) (.of (.call 3 [0, 0] (.cons (.v 0) (.cons (.ix (.v 3) (.v 4)) .nil)))) (.cons (.ife (.cm .notin (.v 5) (.v 2)) (.cons (.setI 2 (.v 5) (.op .add (.ix (.v 2) (.ix (.v 3) (.v 4))) (.int 1))) (.cons (.mt 3 .append (.cons (.v 5) .nil)) (.gh [] [5] .nil))) (.gh [] [5] .nil)) .nil)) (.cons (.set 4 (.op .add (.v 4) (.int 1))) .nil))) (.cons (.ret (.v 2)) .nil)))))
def e5 : Ent := ⟨⟨("_law_steps", none), "_law_steps", "_law_steps", defArgs (top 19), defBody (top 19), defScope (top 19), [], []⟩, ["pairs", "end"], ["pairs", "end", "far", "line", "at", "place"], b5⟩
/-- look_at_place -/
def b6 : Ss := (.cons (.ife (.not (.chn .le .lt (.int 0) (.v 1) (.fld (.v 0) 0 0))) (.cons (.rais 3) .nil) .nil) .nil)
def e6 : Ent := ⟨⟨("look_at_place", none), "look_at_place", "look_at_place", defArgs (top 8), defBody (top 8), defScope (top 8), [], []⟩, ["web", "place"], ["web", "place"], b6⟩
/-- near -/
def b7 : Ss := (.cons (.ex (.call 5 [0, 0] (.cons (.v 0) (.cons (.v 1) .nil)))) (.cons (.set 2 (.lst .nil)) (.cons (.forS (.tup [3, 4]) (.of (.fld (.v 0) 0 1)) (.cons (.ife (.cm .eq (.v 3) (.v 1)) (.cons (.mt 2 .append (.cons (.v 4) .nil)) (.gh [] [3, 4] .nil)) (.cons (.ife (.cm .eq (.v 4) (.v 1)) (.cons (.mt 2 .append (.cons (.v 3) .nil)) (.gh [] [3, 4] .nil)) (.gh [] [3, 4] .nil)) .nil)) .nil)) (.cons (.ret (.bi .tuple (.cons (.bi .sorted (.cons (.v 2) .nil)) .nil))) .nil))))
def e7 : Ent := ⟨⟨("near", none), "near", "near", defArgs (top 9), defBody (top 9), defScope (top 9), [], []⟩, ["web", "place"], ["web", "place", "found", "one", "other"], b7⟩
/-- come_from -/
def b8 : Ss := (.cons (.set 2 (.disp (.v 1) (.neg (.int 1)))) (.cons (.set 3 (.lst (.cons (.v 1) .nil))) (.cons (.set 4 (.int 0)) (.cons (.whl 1000000 (.cm .lt (.v 4) (.bi .len (.cons (.v 3) .nil))) (.cons (.forS (.nm 5) (.of (.call 6 [0, 0] (.cons (.v 0) (.cons (.ix (.v 3) (.v 4)) .nil)))) (.cons (.ife (.cm .notin (.v 5) (.v 2)) (.cons (.setI 2 (.v 5) (.ix (.v 3) (.v 4))) (.cons (.mt 3 .append (.cons (.v 5) .nil)) (.gh [] [5] .nil))) (.gh [] [5] .nil)) .nil)) (.cons (.aug 4 .add (.int 1)) .nil))) (.cons (.ret (.v 2)) .nil)))))
def e8 : Ent := ⟨⟨("come_from", none), "come_from", "come_from", defArgs (top 10), defBody (top 10), defScope (top 10), [], []⟩, ["web", "one"], ["web", "one", "came", "line", "at", "place"], b8⟩
/-- way_between -/
def b9 : Ss := (.cons (.ex (.call 5 [0, 0] (.cons (.v 0) (.cons (.v 1) .nil)))) (.cons (.ex (.call 5 [0, 0] (.cons (.v 0) (.cons (.v 2) .nil)))) (.cons (.set 3 (.call 7 [0, 0] (.cons (.v 0) (.cons (.v 2) .nil)))) (.gh [3] [] (.cons (.ife (.cm .notin (.v 1) (.v 3)) (.cons (.ret .non) .nil) .nil) (.cons (.set 4 (.disp (.v 2) (.int 0))) (.cons (.forK (.nm 5) 3 (.cons (.ife (.cm .ne (.ix (.v 3) (.v 5)) (.neg (.int 1))) (.cons (.setI 4 (.v 5) (.op .add (.ix (.v 4) (.ix (.v 3) (.v 5))) (.int 1))) (.gh [] [5] .nil)) (.gh [] [5] .nil)) .nil)) (.cons (.set 6 (.lst (.cons (.v 1) .nil))) (.cons (.whl 1000000 (.cm .ne (.ix (.v 6) (.neg (.int 1))) (.v 2)) (.cons (.mt 6 .append (.cons (.ix (.lc [5] (.nm 5) (.of (.call 6 [0, 0] (.cons (.v 0) (.cons (.ix (.v 6) (.neg (.int 1))) .nil)))) (.yes (.cm .lt (.ix (.v 4) (.v 5)) (.ix (.v 4) (.ix (.v 6) (.neg (.int 1)))))) (.v 5)) (.int 0)) .nil)) .nil)) (.cons (.ret (.v 6)) .nil))))))))))
def e9 : Ent := ⟨⟨("way_between", none), "way_between", "way_between", defArgs (top 11), defBody (top 11), defScope (top 11), [], []⟩, ["web", "one", "other"], ["web", "one", "other", "came", "far", "place", "way"], b9⟩
/-- _law_whole -/
def b10 : Ss := (.cons (.ret (.and (.isi true (.v 0) [.ty "int"]) (.not (.isi true (.v 0) [.ty "bool"])))) .nil)
def e10 : Ent := ⟨⟨("_law_whole", none), "_law_whole", "_law_whole", defArgs (top 14), defBody (top 14), defScope (top 14), [], []⟩, ["found"], ["found"], b10⟩
/-- _law_first -/
def b11 : Ss := (.cons (.set 3 (.lst (.cons (.v 2) .nil))) (.cons (.whl 1000000 (.cm .gt (.ix (.v 1) (.ix (.v 3) (.neg (.int 1)))) (.int 0)) (.cons (.set 4 (.lc [5] (.nm 5) (.of (.call 3 [0, 0] (.cons (.v 0) (.cons (.ix (.v 3) (.neg (.int 1))) .nil)))) (.yes (.cm .lt (.ix (.v 1) (.v 5)) (.ix (.v 1) (.ix (.v 3) (.neg (.int 1)))))) (.v 5))) (.gh [4] [] (.cons (.mt 3 .append (.cons (.ix (.v 4) (.int 0)) .nil)) (.gh [] [4] .nil))))) (.cons (.ret (.v 3)) .nil)))
def e11 : Ent := ⟨⟨("_law_first", none), "_law_first", "_law_first", defArgs (top 20), defBody (top 20), defScope (top 20), [], []⟩, ["pairs", "far", "one"], ["pairs", "far", "one", "way", "nearer", "place"], b11⟩
/-- law -/
def b12 : Ss := (.cons (.set 1 (.call 1 [0] (.cons (.v 0) .nil))) (.cons (.set 2 (.call 2 [0, 0] (.cons (.v 0) (.cons (.v 1) .nil)))) (.gh [2] [] (.cons (.set 3 (.mk 0 [0, 0] (.cons (.v 1) (.cons (.v 2) .nil)))) (.gh [3] [] (.cons (.forS (.nm 4) (.rng (.one (.bi .min2 (.cons (.int 6) (.cons (.op .add (.int 1) (.bi .len (.cons (.v 0) .nil))) .nil))))) (.cons (.set 5 (.op .add (.op .fdiv (.call 0 [0, 0] (.cons (.v 0) (.cons (.v 4) .nil))) (.int 7)) (.op .mul (.int 11) (.v 4)))) (.cons (.set 6 (.op .mod (.v 5) (.v 1))) (.cons (.set 7 (.op .mod (.op .fdiv (.v 5) (.v 1)) (.v 1))) (.cons (.set 8 (.call 4 [0, 0] (.cons (.v 2) (.cons (.v 7) .nil)))) (.gh [8] [] (.cons (.set 9 (.call 8 [0, 0, 0] (.cons (.v 3) (.cons (.v 6) (.cons (.v 7) .nil))))) (.cons (.ife (.cm .notin (.v 6) (.v 8)) (.cons (.ife (.isn true (.v 9)) (.cons (.ret (.bl false)) .nil) (.gh [] [4, 5, 6, 7, 8, 9] .nil)) .nil) (.cons (.ife (.or (.not (.isi true (.v 9) [.ty "list"])) (.not (.bi .all (.cons (.lc [10] (.nm 10) (.of (.v 9)) .no (.call 9 [0] (.cons (.v 10) .nil))) .nil)))) (.cons (.ret (.bl false)) .nil) .nil) (.cons (.ife (.or (.cm .ne (.v 9) (.call 10 [0, 0, 0] (.cons (.v 2) (.cons (.v 8) (.cons (.v 6) .nil))))) (.cm .ne (.bi .len (.cons (.v 9) .nil)) (.op .add (.ix (.v 8) (.v 6)) (.int 1)))) (.cons (.ret (.bl false)) .nil) .nil) (.cons (.mt 9 .append (.cons (.int 0) .nil)) (.cons (.ife (.cm .ne (.call 8 [0, 0, 0] (.cons (.v 3) (.cons (.v 6) (.cons (.v 7) .nil)))) (.call 10 [0, 0, 0] (.cons (.v 2) (.cons (.v 8) (.cons (.v 6) .nil))))) (.cons (.ret (.bl false)) .nil) (.gh [] [4, 5, 6, 7, 8, 9] .nil)) .nil))))) .nil)))))))) (.cons (.ret (.bl true)) .nil)))))))
def e12 : Ent := ⟨⟨("law", none), "law", "law", defArgs (top 21), defBody (top 21), defScope (top 21), [], []⟩, ["script"], ["script", "places", "pairs", "web", "k", "cell", "one", "other", "far", "found", "place"], b12⟩
def sups : List (List Nat) := [[0, 4, 5, 6, 7, 8, 9, 10, 11, 12, 13, 14], [0, 1, 4, 5, 6, 7, 8, 9, 10, 11, 12, 13, 14], [0, 2, 4, 5, 6, 7, 8, 9, 10, 11, 12, 13, 14], [0, 3, 4, 5, 6, 7, 8, 9, 10, 11, 12, 13, 14], [0, 4, 5, 6, 7, 8, 9, 10, 11, 12, 13, 14], [0, 4, 5, 6, 7, 8, 9, 10, 11, 12, 13, 14], [0, 4, 5, 6, 7, 8, 9, 10, 11, 12, 13, 14], [0, 4, 5, 6, 7, 8, 9, 10, 11, 12, 13, 14], [0, 4, 5, 6, 7, 8, 9, 10, 11, 12, 13, 14], [0, 4, 5, 6, 7, 8, 9, 10, 11, 12, 13, 14], [0, 4, 5, 6, 7, 8, 9, 10, 11, 12, 13, 14], [0, 4, 5, 6, 7, 8, 9, 10, 11, 12, 13, 14], [0, 4, 5, 6, 7, 8, 9, 10, 11, 12, 13, 14], [0, 4, 5, 6, 7, 8, 9, 10, 11, 12, 13, 14], [0, 4, 5, 6, 7, 8, 9, 10, 11, 12, 13, 14]]
def glob : Glob := ⟨[("Web", ["places", "ties"])], ["GuardError", "BadPlaces", "BadTie", "NoPlace", "GuardError", "GuardError", "GuardError", "GuardError", "GuardError", "GuardError", "GuardError", "GuardError", "GuardError", "GuardError", "GuardError"], fun a b => (sups.getD a []).contains b, fun n => if n = "ValueError" then some true else none⟩
def spec : Gr.Spec := ⟨glob, ["len", "range", "tuple", "sorted", "min", "max", "isinstance", "int", "bool", "list", "all"], [("MOST_PLACES", 60)], [1, 2, 3], [e0, e1, e2, e3, e4, e5, e6, e7, e8, e9, e10, e11, e12]⟩
noncomputable def T0 : Kit := kit0 spec
noncomputable def T1 : Kit := addE T0 e0
noncomputable def T2 : Kit := addE T1 e1
noncomputable def T3 : Kit := addE T2 e2
noncomputable def T4 : Kit := addE T3 e3
noncomputable def T5 : Kit := addE T4 e4
noncomputable def T6 : Kit := addE T5 e5
noncomputable def T7 : Kit := addE T6 e6
noncomputable def T8 : Kit := addE T7 e7
noncomputable def T9 : Kit := addE T8 e8
noncomputable def T10 : Kit := addE T9 e9
noncomputable def T11 : Kit := addE T10 e10
noncomputable def T12 : Kit := addE T11 e11
theorem ok0 : EntOk T0 e0 := ⟨⟨rfl, rfl, rfl, by decide +kernel, rfl, by decide +kernel, by decide +kernel⟩, by decide +kernel, rfl, rfl, trivial, fun _ _ _ _ _ _ us h => match us, h with | [_, _], _ => rfl⟩
theorem ok1 : EntOk T1 e1 := ⟨⟨rfl, rfl, rfl, by decide +kernel, rfl, by decide +kernel, by decide +kernel⟩, by decide +kernel, rfl, rfl, trivial, fun _ _ _ _ _ _ us h => match us, h with | [_], _ => rfl⟩
theorem ok2 : EntOk T2 e2 := ⟨⟨rfl, rfl, rfl, by decide +kernel, rfl, by decide +kernel, by decide +kernel⟩, by decide +kernel, rfl, rfl, trivial, fun _ _ _ _ _ _ us h => match us, h with | [_, _], _ => rfl⟩
theorem ok3 : EntOk T3 e3 := ⟨⟨rfl, rfl, rfl, by decide +kernel, rfl, by decide +kernel, by decide +kernel⟩, by decide +kernel, rfl, rfl, ⟨rfl, _, rfl⟩, fun _ _ _ _ _ _ us h => match us, h with | [_, _, _], _ => rfl⟩
theorem ok4 : EntOk T4 e4 := ⟨⟨rfl, rfl, rfl, by decide +kernel, rfl, by decide +kernel, by decide +kernel⟩, by decide +kernel, rfl, rfl, trivial, fun _ _ _ _ _ _ us h => match us, h with | [_, _], _ => rfl⟩
theorem ok5 : EntOk T5 e5 := ⟨⟨rfl, rfl, rfl, by decide +kernel, rfl, by decide +kernel, by decide +kernel⟩, by decide +kernel, rfl, rfl, trivial, fun _ _ _ _ _ _ us h => match us, h with | [_, _], _ => rfl⟩
theorem ok6 : EntOk T6 e6 := ⟨⟨rfl, rfl, rfl, by decide +kernel, rfl, by decide +kernel, by decide +kernel⟩, by decide +kernel, rfl, rfl, trivial, fun _ _ _ _ _ _ us h => match us, h with | [_, _], _ => rfl⟩
theorem ok7 : EntOk T7 e7 := ⟨⟨rfl, rfl, rfl, by decide +kernel, rfl, by decide +kernel, by decide +kernel⟩, by decide +kernel, rfl, rfl, trivial, fun _ _ _ _ _ _ us h => match us, h with | [_, _], _ => rfl⟩
theorem ok8 : EntOk T8 e8 := ⟨⟨rfl, rfl, rfl, by decide +kernel, rfl, by decide +kernel, by decide +kernel⟩, by decide +kernel, rfl, rfl, trivial, fun _ _ _ _ _ _ us h => match us, h with | [_, _], _ => rfl⟩
theorem ok9 : EntOk T9 e9 := ⟨⟨rfl, rfl, rfl, by decide +kernel, rfl, by decide +kernel, by decide +kernel⟩, by decide +kernel, rfl, rfl, trivial, fun _ _ _ _ _ _ us h => match us, h with | [_, _, _], _ => rfl⟩
theorem ok10 : EntOk T10 e10 := ⟨⟨rfl, rfl, rfl, by decide +kernel, rfl, by decide +kernel, by decide +kernel⟩, by decide +kernel, rfl, rfl, trivial, fun _ _ _ _ _ _ us h => match us, h with | [_], _ => rfl⟩
theorem ok11 : EntOk T11 e11 := ⟨⟨rfl, rfl, rfl, by decide +kernel, rfl, by decide +kernel, by decide +kernel⟩, by decide +kernel, rfl, rfl, trivial, fun _ _ _ _ _ _ us h => match us, h with | [_, _, _], _ => rfl⟩
theorem ok12 : EntOk T12 e12 := ⟨⟨rfl, rfl, rfl, by decide +kernel, rfl, by decide +kernel, by decide +kernel⟩, by decide +kernel, rfl, rfl, trivial, fun _ _ _ _ _ _ us h => match us, h with | [_], _ => rfl⟩
theorem oks : EntOks (kit0 spec) [e0, e1, e2, e3, e4, e5, e6, e7, e8, e9, e10, e11] := ⟨ok0, ok1, ok2, ok3, ok4, ok5, ok6, ok7, ok8, ok9, ok10, ok11, trivial⟩
/-- _law_cell_at -/
noncomputable def F0 : Fn := opq (Gr.fnOf T0 2 2 b0)
theorem F0_eq : F0 = Gr.fnOf T0 2 2 b0 := opq_eq _
/-- _law_places -/
noncomputable def F1 : Fn := opq (Gr.fnOf T1 1 2 b1)
theorem F1_eq : F1 = Gr.fnOf T1 1 2 b1 := opq_eq _
/-- _law_pairs -/
noncomputable def F2 : Fn := opq (Gr.fnOf T2 2 7 b2)
theorem F2_eq : F2 = Gr.fnOf T2 2 7 b2 := opq_eq _
/-- Web -/
noncomputable def F3 : Fn := opq (Gr.fnOf T3 3 7 b3)
theorem F3_eq : F3 = Gr.fnOf T3 3 7 b3 := opq_eq _
/-- _law_beside -/
noncomputable def F4 : Fn := opq (Gr.fnOf T4 2 4 b4)
theorem F4_eq : F4 = Gr.fnOf T4 2 4 b4 := opq_eq _
/-- _law_steps -/
noncomputable def F5 : Fn := opq (Gr.fnOf T5 2 6 b5)
theorem F5_eq : F5 = Gr.fnOf T5 2 6 b5 := opq_eq _
/-- look_at_place -/
noncomputable def F6 : Fn := opq (Gr.fnOf T6 2 2 b6)
theorem F6_eq : F6 = Gr.fnOf T6 2 2 b6 := opq_eq _
/-- near -/
noncomputable def F7 : Fn := opq (Gr.fnOf T7 2 5 b7)
theorem F7_eq : F7 = Gr.fnOf T7 2 5 b7 := opq_eq _
/-- come_from -/
noncomputable def F8 : Fn := opq (Gr.fnOf T8 2 6 b8)
theorem F8_eq : F8 = Gr.fnOf T8 2 6 b8 := opq_eq _
/-- way_between -/
noncomputable def F9 : Fn := opq (Gr.fnOf T9 3 7 b9)
theorem F9_eq : F9 = Gr.fnOf T9 3 7 b9 := opq_eq _
/-- _law_whole -/
noncomputable def F10 : Fn := opq (Gr.fnOf T10 1 1 b10)
theorem F10_eq : F10 = Gr.fnOf T10 1 1 b10 := opq_eq _
/-- _law_first -/
noncomputable def F11 : Fn := opq (Gr.fnOf T11 3 6 b11)
theorem F11_eq : F11 = Gr.fnOf T11 3 6 b11 := opq_eq _
/-- law -/
noncomputable def F12 : Fn := opq (Gr.fnOf T12 1 11 b12)
theorem F12_eq : F12 = Gr.fnOf T12 1 11 b12 := opq_eq _
theorem k1_0 : T1.fns[0]? = some (("_law_cell_at" : Str), F0) := by rw [F0_eq]; rfl
theorem k5_3 : T5.fns[3]? = some (("_law_beside" : Str), F4) := by rw [F4_eq]; rfl
theorem k7_5 : T7.fns[5]? = some (("look_at_place" : Str), F6) := by rw [F6_eq]; rfl
theorem k8_6 : T8.fns[6]? = some (("near" : Str), F7) := by rw [F7_eq]; rfl
theorem k9_5 : T9.fns[5]? = some (("look_at_place" : Str), F6) := by rw [F6_eq]; rfl
theorem k9_7 : T9.fns[7]? = some (("come_from" : Str), F8) := by rw [F8_eq]; rfl
theorem k9_6 : T9.fns[6]? = some (("near" : Str), F7) := by rw [F7_eq]; rfl
theorem k11_3 : T11.fns[3]? = some (("_law_beside" : Str), F4) := by rw [F4_eq]; rfl
theorem k12_1 : T12.fns[1]? = some (("_law_places" : Str), F1) := by rw [F1_eq]; rfl
theorem k12_2 : T12.fns[2]? = some (("_law_pairs" : Str), F2) := by rw [F2_eq]; rfl
theorem k12_i0 : T12.ini[0]? = some F3 := by rw [F3_eq]; rfl
theorem k12_0 : T12.fns[0]? = some (("_law_cell_at" : Str), F0) := by rw [F0_eq]; rfl
theorem k12_4 : T12.fns[4]? = some (("_law_steps" : Str), F5) := by rw [F5_eq]; rfl
theorem k12_8 : T12.fns[8]? = some (("way_between" : Str), F9) := by rw [F9_eq]; rfl
theorem k12_9 : T12.fns[9]? = some (("_law_whole" : Str), F10) := by rw [F10_eq]; rfl
theorem k12_10 : T12.fns[10]? = some (("_law_first" : Str), F11) := by rw [F11_eq]; rfl
theorem sup0 (m : Nat) : glob.sup m 0 = supE m 0 := sup_ok rfl (by decide) m
theorem sup1 (m : Nat) : glob.sup m 1 = supE m 1 := sup_ok rfl (by decide) m
theorem sup2 (m : Nat) : glob.sup m 2 = supE m 2 := sup_ok rfl (by decide) m
theorem sup3 (m : Nat) : glob.sup m 3 = supE m 3 := sup_ok rfl (by decide) m
end GrLaw

set_option Elab.async false
set_option linter.all false
set_option maxRecDepth 100000
set_option maxHeartbeats 4000000
namespace Gr
open PySem L2

def p_law_cell_at (script : List Int) (k : Int) : M Int :=
  if decide (k < (script.length : Int)) then
  bnd (idx script k) fun (t1 : Int) =>
  .ok t1
  else
  .ok 0

def p_law_places (script : List Int) : M Int :=
  bnd (p_law_cell_at script 0) fun (head : Int) =>
  bnd (idx [((head / 4) % 7), ((head / 4) % 9), ((head / 4) % 20), ((head / 4) % 60)] (head % 4)) fun (t3 : Int) =>
  .ok (1 + t3)

def p_law_pairs (script : List Int) (places : Int) : M (List (Int × Int)) :=
  lett [] fun (pairs : List (Int × Int)) =>
  bnd (fldM (cutZ script (some 1) (some 63)) pairs fun (s1 : List (Int × Int)) (cell : Int) =>
  bnd (rngM 0 2) fun (t5 : List Int) =>
  bnd (fldM t5 (s1, cell) fun (s3 : (List (Int × Int)) × Int) (turn : Int) =>
  bnd (modM s3.2 places) fun (one : Int) =>
  bnd (fdivM s3.2 places) fun (t9 : Int) =>
  bnd (modM t9 places) fun (other : Int) =>
  bnd (fdivM s3.2 places) fun (t13 : Int) =>
  bnd (fdivM t13 places) fun (cell : Int) =>
  if (!decide (one = other) && (!isIn (one, other) s3.1 && !isIn (other, one) s3.1)) then
  bnd (pushM s3.1 (one, other)) fun (pairs : List (Int × Int)) =>
  .ok (pairs, cell)
  else
  .ok (s3.1, cell)) fun (s4 : (List (Int × Int)) × Int) =>
  .ok s4.1) fun (s2 : List (Int × Int)) =>
  .ok s2

def p_Web (places : Int) (ties : List (Int × Int)) : M WebT :=
  if !(decide (1 ≤ places) && decide (places ≤ 60)) then
  .err 1
  else
  lett [] fun (found : List (Int × Int)) =>
  bnd (fldM ties found fun (s1 : List (Int × Int)) (v3 : Int × Int) =>
  lett ((min2 v3.1 v3.2), (max2 v3.1 v3.2)) fun (tie : Int × Int) =>
  if (decide (v3.1 = v3.2) || (decide (tie.1 < 0) || (decide (places ≤ tie.2) || isIn tie s1))) then
  .err 2
  else
  bnd (pushM s1 tie) fun (found : List (Int × Int)) =>
  .ok found) fun (s2 : List (Int × Int)) =>
  lett places fun (f4 : Int) =>
  lett (srtBy (eP eI eI) s2) fun (f5 : List (Int × Int)) =>
  .ok ⟨f4, f5⟩

def p_law_beside (pairs : List (Int × Int)) (place : Int) : M (List Int) :=
  bnd (lcT pairs (fun (pair : Int × Int) => decide (pair.1 = place)) fun (pair : Int × Int) => pair.2) fun (t1 : List Int) =>
  bnd (lcT pairs (fun (pair : Int × Int) => decide (pair.2 = place)) fun (pair : Int × Int) => pair.1) fun (t3 : List Int) =>
  bnd (catM t1 t3) fun (some_ : List Int) =>
  .ok (srtBy eI some_)

def p_law_steps (pairs : List (Int × Int)) (end_ : Int) : M (List (Int × Int)) :=
  lett [(end_, 0)] fun (far : List (Int × Int)) =>
  lett [end_] fun (line_ : List Int) =>
  lett 0 fun (at_ : Int) =>
  bnd (whlM 1000000 (far, line_, at_) (fun (s1 : (List (Int × Int)) × (List Int) × Int) => (.ok (decide (s1.2.2 < (s1.2.1.length : Int))))) fun (s1 : (List (Int × Int)) × (List Int) × Int) =>
  bnd (idx s1.2.1 s1.2.2) fun (t5 : Int) =>
  bnd (p_law_beside pairs t5) fun (t7 : List Int) =>
  bnd (fldM t7 (s1.1, s1.2.1) fun (s3 : (List (Int × Int)) × (List Int)) (place : Int) =>
  if !dhas s3.1 place then
  bnd (idx s3.2 s1.2.2) fun (t9 : Int) =>
  bnd (dgetM s3.1 t9) fun (t11 : Int) =>
  bnd (dputM s3.1 place (t11 + 1)) fun (far : List (Int × Int)) =>
  bnd (pushM s3.2 place) fun (line_ : List Int) =>
  .ok (far, line_)
  else
  .ok (s3.1, s3.2)) fun (s4 : (List (Int × Int)) × (List Int)) =>
  lett (s1.2.2 + 1) fun (at_ : Int) =>
  .ok (s4.1, s4.2, at_)) fun (s2 : (List (Int × Int)) × (List Int) × Int) =>
  .ok s2.1

def p_look_at_place (web : WebT) (place : Int) : M Unit :=
  if !(decide (0 ≤ place) && decide (place < web.places)) then
  .err 3
  else
  .ok ()

def p_near (web : WebT) (place : Int) : M (List Int) :=
  bnd (p_look_at_place web place) fun _ =>
  lett [] fun (found : List Int) =>
  bnd (fldM web.ties found fun (s3 : List Int) (v5 : Int × Int) =>
  if decide (v5.1 = place) then
  bnd (pushM s3 v5.2) fun (found : List Int) =>
  .ok found
  else
  if decide (v5.2 = place) then
  bnd (pushM s3 v5.1) fun (found : List Int) =>
  .ok found
  else
  .ok s3) fun (s4 : List Int) =>
  .ok (srtBy eI s4)

def p_come_from (web : WebT) (one : Int) : M (List (Int × Int)) :=
  lett [(one, (-1))] fun (came : List (Int × Int)) =>
  lett [one] fun (line_ : List Int) =>
  lett 0 fun (at_ : Int) =>
  bnd (whlM 1000000 (came, line_, at_) (fun (s1 : (List (Int × Int)) × (List Int) × Int) => (.ok (decide (s1.2.2 < (s1.2.1.length : Int))))) fun (s1 : (List (Int × Int)) × (List Int) × Int) =>
  bnd (idx s1.2.1 s1.2.2) fun (t5 : Int) =>
  bnd (p_near web t5) fun (t7 : List Int) =>
  bnd (fldM t7 (s1.1, s1.2.1) fun (s3 : (List (Int × Int)) × (List Int)) (place : Int) =>
  if !dhas s3.1 place then
  bnd (idx s3.2 s1.2.2) fun (t9 : Int) =>
  bnd (dputM s3.1 place t9) fun (came : List (Int × Int)) =>
  bnd (pushM s3.2 place) fun (line_ : List Int) =>
  .ok (came, line_)
  else
  .ok (s3.1, s3.2)) fun (s4 : (List (Int × Int)) × (List Int)) =>
  lett (s1.2.2 + 1) fun (at_ : Int) =>
  .ok (s4.1, s4.2, at_)) fun (s2 : (List (Int × Int)) × (List Int) × Int) =>
  .ok s2.1

def p_way_between (web : WebT) (one : Int) (other : Int) : M (Option (List Int)) :=
  bnd (p_look_at_place web one) fun _ =>
  bnd (p_look_at_place web other) fun _ =>
  bnd (p_come_from web other) fun (came : List (Int × Int)) =>
  if !dhas came one then
  .ok none
  else
  lett [(other, 0)] fun (far : List (Int × Int)) =>
  bnd (noE (fldM (dkeys came) far fun (s7 : List (Int × Int)) (place : Int) =>
  bnd (dgetM came place) fun (t9 : Int) =>
  if !decide (t9 = (-1)) then
  bnd (dgetM came place) fun (t11 : Int) =>
  bnd (dgetM s7 t11) fun (t13 : Int) =>
  bnd (dputM s7 place (t13 + 1)) fun (far : List (Int × Int)) =>
  .ok far
  else
  .ok s7)) fun (s8 : List (Int × Int)) =>
  lett [one] fun (way : List Int) =>
  bnd (whlM 1000000 way (fun (s15 : List Int) => (bnd (idx s15 (-1)) fun (t17 : Int) => .ok (!decide (t17 = other)))) fun (s15 : List Int) =>
  bnd (idx s15 (-1)) fun (t19 : Int) =>
  bnd (p_near web t19) fun (t21 : List Int) =>
  bnd (lcM t21 (fun (place : Int) => (bnd (dgetM s8 place) fun (t23 : Int) => bnd (idx s15 (-1)) fun (t25 : Int) => bnd (dgetM s8 t25) fun (t27 : Int) => .ok (decide (t23 < t27)))) fun (place : Int) => (.ok place)) fun (t29 : List Int) =>
  bnd (idx t29 0) fun (t31 : Int) =>
  bnd (pushM s15 t31) fun (way : List Int) =>
  .ok way) fun (s16 : List Int) =>
  .ok (some s16)

def p_law_whole (found : Int) : M Bool :=
  .ok (true && !false)

def p_law_first (pairs : List (Int × Int)) (far : List (Int × Int)) (one : Int) : M (List Int) :=
  lett [one] fun (way : List Int) =>
  bnd (whlM 1000000 way (fun (s1 : List Int) => (bnd (idx s1 (-1)) fun (t3 : Int) => bnd (dgetM far t3) fun (t5 : Int) => .ok (decide (0 < t5)))) fun (s1 : List Int) =>
  bnd (idx s1 (-1)) fun (t7 : Int) =>
  bnd (p_law_beside pairs t7) fun (t9 : List Int) =>
  bnd (lcM t9 (fun (place : Int) => (bnd (dgetM far place) fun (t11 : Int) => bnd (idx s1 (-1)) fun (t13 : Int) => bnd (dgetM far t13) fun (t15 : Int) => .ok (decide (t11 < t15)))) fun (place : Int) => (.ok place)) fun (nearer : List Int) =>
  bnd (idx nearer 0) fun (t19 : Int) =>
  bnd (pushM s1 t19) fun (way : List Int) =>
  .ok way) fun (s2 : List Int) =>
  .ok s2

def p_law (script : List Int) : M Bool :=
  bnd (p_law_places script) fun (places : Int) =>
  bnd (p_law_pairs script places) fun (pairs : List (Int × Int)) =>
  bnd (p_Web places pairs) fun (web : WebT) =>
  bnd (rngM 0 (min2 6 (1 + (script.length : Int)))) fun (t9 : List Int) =>
  bndS (fldR t9 () fun (s7 : Unit) (k : Int) =>
  bnd (p_law_cell_at script k) fun (t11 : Int) =>
  lett ((t11 / 7) + (11 * k)) fun (cell : Int) =>
  bnd (modM cell places) fun (one : Int) =>
  bnd (fdivM cell places) fun (t15 : Int) =>
  bnd (modM t15 places) fun (other : Int) =>
  bnd (p_law_steps pairs other) fun (far : List (Int × Int)) =>
  bnd (p_way_between web one other) fun (found : Option (List Int)) => optM found (fun (found : List Int) => (
  if !dhas far one then
  if true then
  .ok (.inr false)
  else
  .ok (.inl ())
  else
  bnd ((if !true then .ok true else (bnd (lcM found (fun (place : Int) => .ok true) fun (place : Int) => p_law_whole place) fun (t25 : List Bool) => .ok (!(t25.all id))))) fun (t27 : Bool) =>
  if t27 then
  .ok (.inr false)
  else
  bnd (p_law_first pairs far one) fun (t29 : List Int) =>
  bnd ((if !decide (found = t29) then .ok true else (bnd (dgetM far one) fun (t31 : Int) => .ok (!decide ((found.length : Int) = (t31 + 1)))))) fun (t33 : Bool) =>
  if t33 then
  .ok (.inr false)
  else
  bnd (pushM found 0) fun (found : List Int) =>
  bnd (p_way_between web one other) fun (t35 : Option (List Int)) =>
  bnd (p_law_first pairs far one) fun (t37 : List Int) =>
  if !decide (t35 = (some t37)) then
  .ok (.inr false)
  else
  .ok (.inl ()))) (
  if !dhas far one then
  if false then
  .ok (.inr false)
  else
  .ok (.inl ())
  else
  bnd ((if !false then .ok true else .stuck)) fun (t39 : Bool) =>
  if t39 then
  .ok (.inr false)
  else
  bnd (p_law_first pairs far one) fun (t41 : List Int) =>
  bnd ((if !decide ((none : Option (List Int)) = (some t41)) then .ok true else .stuck)) fun (t43 : Bool) =>
  if t43 then
  .ok (.inr false)
  else
  .stuck)) (fun (w : Bool) => w) fun (s8 : Unit) =>
  .ok true

end Gr

set_option Elab.async false
set_option linter.all false
set_option maxRecDepth 100000
set_option maxHeartbeats 4000000
namespace GrLaw
open PySem L2 Gr

theorem j_law_cell_at_BF (script : List Int) (k : Int) : JF (F0 [(.bor (.py ((eL eI) script))), (cI k)]) (p_law_cell_at script k) (dt fun (r : Int) => (cI r)) := by
  refine jf_of F0_eq rfl ?_
  show J (xruns T0 [] b0 [(.bor (.py ((eL eI) script))), (cI k)]) (p_law_cell_at script k) _ _
  unfold p_law_cell_at b0
  refine js_ifx (z := decide (k < (script.length : Int))) (t_cm (t_v rfl) (t_bi (ts_cons (t_vb rfl) ts_nil) (bi_lenL (e := eI) (xs := script) rfl)) rfl) ?_ hp_rt hq_any ?_
  · refine focusS (e1 := (.ix (.v 0) (.v 1))) (R1 := fun v => (cI v)) (jv_ixL (e := eI) (xs := script) (t_vb rfl) rfl (t_v rfl) (fun _ => rfl)) (fun n z => (er_ret z)) (fun n => ⟨_, rfl⟩) fun t1 h2 => ?_
    exact js_ret (v := t1) h2 rfl ⟨rfl, rfl⟩
  · exact rx_rt (js_ret (v := 0) t_int rfl ⟨rfl, rfl⟩)

theorem j_law_places_B (script : List Int) : JF (F1 [(.bor (.py ((eL eI) script)))]) (p_law_places script) (dt fun (r : Int) => (cI r)) := by
  refine jf_of F1_eq rfl ?_
  show J (xruns T1 [] b1 [(.bor (.py ((eL eI) script))), .und]) (p_law_places script) _ _
  unfold p_law_places b1
  refine js_setM (R := fun (v : Int) => (cI v)) (ρ' := fun (head : Int) => [(.bor (.py ((eL eI) script))), (cI head)]) (jv_call (as := [(.bor (.py ((eL eI) script))), (cI 0)]) k1_0 (ts_cons (t_vb rfl) (ts_cons t_int ts_nil)) rfl rfl (j_law_cell_at_BF script 0) (fun _ => rfl)) (fun n => ⟨_, rfl⟩) (fun _ => rfl) fun head => ?_
  refine focusS (e1 := (.ix (.lst (.cons (.op .mod (.op .fdiv (.v 1) (.int 4)) (.int 7)) (.cons (.op .mod (.op .fdiv (.v 1) (.int 4)) (.int 9)) (.cons (.op .mod (.op .fdiv (.v 1) (.int 4)) (.int 20)) (.cons (.op .mod (.op .fdiv (.v 1) (.int 4)) (.int 60)) .nil))))) (.op .mod (.v 1) (.int 4)))) (R1 := fun v => (cI v)) (jv_ixL (e := eI) (xs := [((head / 4) % 7), ((head / 4) % 9), ((head / 4) % 20), ((head / 4) % 60)]) (t_lst (ts_cons (t_mod (by decide) (t_fdiv (by decide) (t_v rfl) t_int) t_int) (ts_cons (t_mod (by decide) (t_fdiv (by decide) (t_v rfl) t_int) t_int) (ts_cons (t_mod (by decide) (t_fdiv (by decide) (t_v rfl) t_int) t_int) (ts_cons (t_mod (by decide) (t_fdiv (by decide) (t_v rfl) t_int) t_int) ts_nil)))) rfl) rfl (t_mod (by decide) (t_v rfl) t_int) (fun _ => rfl)) (fun n z => (er_ret (er_op2 t_int z))) (fun n => ⟨_, rfl⟩) fun t3 h4 => ?_
  exact rx_rt (js_ret (v := (1 + t3)) (t_add t_int h4) rfl ⟨rfl, rfl⟩)

theorem j_law_pairs_BF (script : List Int) (places : Int) : JF (F2 [(.bor (.py ((eL eI) script))), (cI places)]) (p_law_pairs script places) (dt fun (r : List (Int × Int)) => (.own (.py ((eL (eP eI eI)) r)))) := by
  refine jf_of F2_eq rfl ?_
  show J (xruns T2 [] b2 [(.bor (.py ((eL eI) script))), (cI places), .und, .und, .und, .und, .und]) (p_law_pairs script places) _ _
  unfold p_law_pairs b2
  refine js_set (R := fun (v : List (Int × Int)) => (.own (.py ((eL (eP eI eI)) v)))) (v := []) (ρ' := fun (pairs : List (Int × Int)) => [(.bor (.py ((eL eI) script))), (cI places), (.own (.py ((eL (eP eI eI)) pairs))), .und, .und, .und, .und]) (t_lst ts_nil rfl) (fun _ => rfl) fun pairs => ?_
  refine js_forN (xs := (cutZ script (some 1) (some 63))) (g := (fun v => (cI v))) (E := fun (s1 : List (Int × Int)) => [(.bor (.py ((eL eI) script))), (cI places), (.own (.py ((eL (eP eI eI)) s1))), .und, .und, .und, .und]) (s0 := pairs) (Eb := fun (s1 : List (Int × Int)) (cell : Int) => [(.bor (.py ((eL eI) script))), (cI places), (.own (.py ((eL (eP eI eI)) s1))), (cI cell), .und, .und, .und]) (it_of (e := eI) (xs := (cutZ script (some 1) (some 63))) (g := (fun v => (cI v))) (t_slB (t_vb rfl) (tp_yes t_int) (tp_yes t_int)) rfl rfl (fun _ => rfl)) rfl (fun _ _ => rfl) (fun s1 cell => ?_) fun s2 => ?_
  · refine focusSI (it := (.rng (.one (.int 2)))) (g := cI) (lk := .no) (ρL := [(.bor (.py ((eL eI) script))), (cI places), (.own (.py ((eL (eP eI eI)) s1))), (cI cell), .und, .und, .und]) (ji_rng (tr_one t_int)) (fun n z => (er_for z)) (fun n => ⟨_, rfl⟩) fun t5 h6 => ?_
    refine js_forN (xs := t5) (g := cI) (E := fun (s3 : (List (Int × Int)) × Int) => [(.bor (.py ((eL eI) script))), (cI places), (.own (.py ((eL (eP eI eI)) s3.1))), (cI s3.2), .und, .und, .und]) (s0 := (s1, cell)) (Eb := fun (s3 : (List (Int × Int)) × Int) (turn : Int) => [(.bor (.py ((eL eI) script))), (cI places), (.own (.py ((eL (eP eI eI)) s3.1))), (cI s3.2), (cI turn), .und, .und]) h6 rfl (fun _ _ => rfl) (fun s3 turn => ?_) fun s4 => ?_
    · refine js_setM (R := fun (v : Int) => (cI v)) (ρ' := fun (one : Int) => [(.bor (.py ((eL eI) script))), (cI places), (.own (.py ((eL (eP eI eI)) s3.1))), (cI s3.2), (cI turn), (cI one), .und]) (jv_mod (t_v rfl) (t_v rfl)) (fun n => ⟨_, rfl⟩) (fun _ => rfl) fun one => ?_
      refine focusS (e1 := (.op .fdiv (.v 3) (.v 1))) (R1 := fun v => (cI v)) (jv_fdiv (t_v rfl) (t_v rfl)) (fun n z => (er_set (er_op1 z))) (fun n => ⟨_, rfl⟩) fun t9 h10 => ?_
      refine js_setM (R := fun (v : Int) => (cI v)) (ρ' := fun (other : Int) => [(.bor (.py ((eL eI) script))), (cI places), (.own (.py ((eL (eP eI eI)) s3.1))), (cI s3.2), (cI turn), (cI one), (cI other)]) (jv_mod h10 (t_v rfl)) (fun n => ⟨_, rfl⟩) (fun _ => rfl) fun other => ?_
      refine focusS (e1 := (.op .fdiv (.v 3) (.v 1))) (R1 := fun v => (cI v)) (jv_fdiv (t_v rfl) (t_v rfl)) (fun n z => (er_set (er_op1 z))) (fun n => ⟨_, rfl⟩) fun t13 h14 => ?_
      refine js_setM (R := fun (v : Int) => (cI v)) (ρ' := fun (cell : Int) => [(.bor (.py ((eL eI) script))), (cI places), (.own (.py ((eL (eP eI eI)) s3.1))), (cI cell), (cI turn), (cI one), (cI other)]) (jv_fdiv h14 (t_v rfl)) (fun n => ⟨_, rfl⟩) (fun _ => rfl) fun cell => ?_
      refine js_ifl (z := (!decide (one = other) && (!isIn (one, other) s3.1 && !isIn (other, one) s3.1))) (t_and (t_cm (t_v rfl) (t_v rfl) (cm_ne (e := eI) (u := one) (v := other) (by decide) rfl rfl)) (t_and (t_cm (t_tup (ts_cons (t_v rfl) (ts_cons (t_v rfl) ts_nil)) rfl) (t_vo rfl) (cm_ninL (e := (eP eI eI)) (u := (one, other)) (xs := s3.1) (by decide) rfl rfl)) (t_cm (t_tup (ts_cons (t_v rfl) (ts_cons (t_v rfl) ts_nil)) rfl) (t_vo rfl) (cm_ninL (e := (eP eI eI)) (u := (other, one)) (xs := s3.1) (by decide) rfl rfl)))) ?_ ?_
      · refine js_push (en := (eP eI eI)) (xs := s3.1) (v := (one, other)) (ρ' := fun (pairs : List (Int × Int)) => [(.bor (.py ((eL eI) script))), (cI places), (.own (.py ((eL (eP eI eI)) pairs))), (cI cell), (cI turn), (cI one), (cI other)]) rfl (ts_cons (t_tup (ts_cons (t_v rfl) (ts_cons (t_v rfl) ts_nil)) rfl) ts_nil) rfl (fun _ => rfl) fun pairs => ?_
        refine js_gh (ρ' := [(.bor (.py ((eL eI) script))), (cI places), (.own (.py ((eL (eP eI eI)) pairs))), (cI cell), .und, .und, .und]) rfl ?_
        exact js_nilT rfl
      · refine js_gh (ρ' := [(.bor (.py ((eL eI) script))), (cI places), (.own (.py ((eL (eP eI eI)) s3.1))), (cI cell), .und, .und, .und]) rfl ?_
        exact js_nilT rfl
    refine js_gh (ρ' := [(.bor (.py ((eL eI) script))), (cI places), (.own (.py ((eL (eP eI eI)) s4.1))), .und, .und, .und, .und]) rfl ?_
    exact js_nilT rfl
  exact rx_rt (js_ret (v := s2) (t_vo rfl) rfl ⟨rfl, rfl⟩)

theorem j_Web (places : Int) (ties : List (Int × Int)) : JF (F3 [(.own (.obj 0 [])), (cI places), (.fro (.py ((eL (eP eI eI)) ties)))]) (p_Web places ties) (fun w c os => c = nonC ∧ os = [.own (xW w)]) := by
  refine jf_of F3_eq rfl ?_
  show J (xruns T3 [0] b3 [(.own (.obj 0 [])), (cI places), (.fro (.py ((eL (eP eI eI)) ties))), .und, .und, .und, .und]) (p_Web places ties) _ _
  unfold p_Web b3
  refine js_ifx (z := !(decide (1 ≤ places) && decide (places ≤ 60))) (t_not (t_chn t_int (t_v rfl) t_gint rfl rfl)) ?_ hp_rt hq_any ?_
  · exact js_rais ⟨_, rfl⟩
  · refine js_set (R := fun (v : List (Int × Int)) => (.own (.py ((eL (eP eI eI)) v)))) (v := []) (ρ' := fun (found : List (Int × Int)) => [(.own (.obj 0 [])), (cI places), (.fro (.py ((eL (eP eI eI)) ties))), (.own (.py ((eL (eP eI eI)) found))), .und, .und, .und]) (t_lst ts_nil rfl) (fun _ => rfl) fun found => ?_
    refine js_forN (xs := ties) (g := (fun v => (.fro (.py ((eP eI eI) v))))) (E := fun (s1 : List (Int × Int)) => [(.own (.obj 0 [])), (cI places), (.fro (.py ((eL (eP eI eI)) ties))), (.own (.py ((eL (eP eI eI)) s1))), .und, .und, .und]) (s0 := found) (Eb := fun (s1 : List (Int × Int)) (v3 : Int × Int) => [(.own (.obj 0 [])), (cI places), (.fro (.py ((eL (eP eI eI)) ties))), (.own (.py ((eL (eP eI eI)) s1))), (cI v3.1), (cI v3.2), .und]) (it_of (e := (eP eI eI)) (xs := ties) (g := (fun v => (.fro (.py ((eP eI eI) v))))) (t_v rfl) rfl rfl (fun _ => rfl)) rfl (fun _ _ => rfl) (fun s1 v3 => ?_) fun s2 => ?_
    · refine js_set (R := fun (v : Int × Int) => (.fro (.py ((eP eI eI) v)))) (v := ((min2 v3.1 v3.2), (max2 v3.1 v3.2))) (ρ' := fun (tie : Int × Int) => [(.own (.obj 0 [])), (cI places), (.fro (.py ((eL (eP eI eI)) ties))), (.own (.py ((eL (eP eI eI)) s1))), (cI v3.1), (cI v3.2), (.fro (.py ((eP eI eI) tie)))]) (t_tup (ts_cons (t_bi (ts_cons (t_v rfl) (ts_cons (t_v rfl) ts_nil)) bi_min2E) (ts_cons (t_bi (ts_cons (t_v rfl) (ts_cons (t_v rfl) ts_nil)) bi_max2E) ts_nil)) rfl) (fun _ => rfl) fun tie => ?_
      refine js_ifx (z := (decide (v3.1 = v3.2) || (decide (tie.1 < 0) || (decide (places ≤ tie.2) || isIn tie s1)))) (t_or (t_cm (t_v rfl) (t_v rfl) (cm_eq (e := eI) (u := v3.1) (v := v3.2) (by decide) rfl rfl)) (t_or (t_cm (t_ixP (t_v rfl) rfl t_int at0 rfl) t_int rfl) (t_or (t_cm (t_ixP (t_v rfl) rfl t_int at1 rfl) (t_v rfl) rfl) (t_cm (t_v rfl) (t_vo rfl) (cm_inL (e := (eP eI eI)) (u := tie) (xs := s1) (by decide) rfl rfl))))) ?_ hp_tn hq_any ?_
      · exact js_rais ⟨_, rfl⟩
      · refine js_push (en := (eP eI eI)) (xs := s1) (v := tie) (ρ' := fun (found : List (Int × Int)) => [(.own (.obj 0 [])), (cI places), (.fro (.py ((eL (eP eI eI)) ties))), (.own (.py ((eL (eP eI eI)) found))), (cI v3.1), (cI v3.2), (.fro (.py ((eP eI eI) tie)))]) rfl (ts_cons (t_v rfl) ts_nil) rfl (fun _ => rfl) fun found => ?_
        refine js_gh (ρ' := [(.own (.obj 0 [])), (cI places), (.fro (.py ((eL (eP eI eI)) ties))), (.own (.py ((eL (eP eI eI)) found))), .und, .und, .und]) rfl ?_
        exact js_nilT rfl
    refine js_setF (en := eI) (v := places) (ρ' := fun (f4 : Int) => [(.own (.obj 0 [eI f4])), (cI places), (.fro (.py ((eL (eP eI eI)) ties))), (.own (.py ((eL (eP eI eI)) s2))), .und, .und, .und]) (t_v rfl) rfl (fun _ => rfl) fun f4 => ?_
    refine js_setF (en := (eT (eP eI eI))) (v := (srtBy (eP eI eI) s2)) (ρ' := fun (f5 : List (Int × Int)) => [(.own (.obj 0 [eI f4, (eT (eP eI eI)) f5])), (cI places), (.fro (.py ((eL (eP eI eI)) ties))), (.own (.py ((eL (eP eI eI)) s2))), .und, .und, .und]) (t_bi (ts_cons (t_bi (ts_cons (t_vo rfl) ts_nil) (bi_srtP (e := (eP eI eI)) (xs := s2) (by decide) rfl rfl)) ts_nil) (bi_tupL (e := (eP eI eI)) (xs := (srtBy (eP eI eI) s2)) rfl rfl)) rfl (fun _ => rfl) fun f5 => ?_
    exact js_end ⟨rfl, rfl⟩

theorem j_law_beside (pairs : List (Int × Int)) (place : Int) : JF (F4 [(.fro (.py ((eL (eP eI eI)) pairs))), (cI place)]) (p_law_beside pairs place) (dt fun (r : List Int) => (.fro (.py ((eT eI) r)))) := by
  refine jf_of F4_eq rfl ?_
  show J (xruns T4 [] b4 [(.fro (.py ((eL (eP eI eI)) pairs))), (cI place), .und, .und]) (p_law_beside pairs place) _ _
  unfold p_law_beside b4
  refine focusS (e1 := (.lc [3] (.nm 3) (.of (.v 0)) (.yes (.cm .eq (.ix (.v 3) (.int 0)) (.v 1))) (.ix (.v 3) (.int 1)))) (R1 := fun v => (.own (.py ((eL eI) v)))) (jv_lcT (lk := .no) (g := (fun v => (.fro (.py ((eP eI eI) v))))) (ρw := [(.fro (.py ((eL (eP eI eI)) pairs))), (cI place), .und, .und]) (ρb := fun (pair : Int × Int) => [(.fro (.py ((eL (eP eI eI)) pairs))), (cI place), .und, (.fro (.py ((eP eI eI) pair)))]) (u := fun (pair : Int × Int) => decide (pair.1 = place)) (f := fun (pair : Int × Int) => pair.2) (en := eI) (R := fun (v : Int) => (cI v)) (it_of (e := (eP eI eI)) (xs := pairs) (g := (fun v => (.fro (.py ((eP eI eI) v))))) (t_v rfl) rfl rfl (fun _ => rfl)) rfl rfl trivial (fun _ => rfl) (fun (pair : Int × Int) => tcT (t_cm (t_ixP (t_v rfl) rfl t_int at0 rfl) (t_v rfl) (cm_eq (e := eI) (u := pair.1) (v := place) (by decide) rfl rfl))) (fun (pair : Int × Int) => (t_ixP (t_v rfl) rfl t_int at1 rfl)) (fun _ _ => rfl) (fun _ => rfl) trivial rfl) (fun n z => (er_set (er_op1 z))) (fun n => ⟨_, rfl⟩) fun t1 h2 => ?_
  refine focusS (e1 := (.lc [3] (.nm 3) (.of (.v 0)) (.yes (.cm .eq (.ix (.v 3) (.int 1)) (.v 1))) (.ix (.v 3) (.int 0)))) (R1 := fun v => (.own (.py ((eL eI) v)))) (jv_lcT (lk := .no) (g := (fun v => (.fro (.py ((eP eI eI) v))))) (ρw := [(.fro (.py ((eL (eP eI eI)) pairs))), (cI place), .und, .und]) (ρb := fun (pair : Int × Int) => [(.fro (.py ((eL (eP eI eI)) pairs))), (cI place), .und, (.fro (.py ((eP eI eI) pair)))]) (u := fun (pair : Int × Int) => decide (pair.2 = place)) (f := fun (pair : Int × Int) => pair.1) (en := eI) (R := fun (v : Int) => (cI v)) (it_of (e := (eP eI eI)) (xs := pairs) (g := (fun v => (.fro (.py ((eP eI eI) v))))) (t_v rfl) rfl rfl (fun _ => rfl)) rfl rfl trivial (fun _ => rfl) (fun (pair : Int × Int) => tcT (t_cm (t_ixP (t_v rfl) rfl t_int at1 rfl) (t_v rfl) (cm_eq (e := eI) (u := pair.2) (v := place) (by decide) rfl rfl))) (fun (pair : Int × Int) => (t_ixP (t_v rfl) rfl t_int at0 rfl)) (fun _ _ => rfl) (fun _ => rfl) trivial rfl) (fun n z => (er_set (er_op2 h2 z))) (fun n => ⟨_, rfl⟩) fun t3 h4 => ?_
  refine js_setM (R := fun (v : List Int) => (.own (.py ((eL eI) v)))) (ρ' := fun (some_ : List Int) => [(.fro (.py ((eL (eP eI eI)) pairs))), (cI place), (.own (.py ((eL eI) some_))), .und]) (jv_catL (e := eI) (xs := t1) (ys := t3) h2 rfl h4 rfl rfl rfl) (fun n => ⟨_, rfl⟩) (fun _ => rfl) fun some_ => ?_
  refine js_gh (ρ' := [(.fro (.py ((eL (eP eI eI)) pairs))), (cI place), (.fro (.py ((eL eI) some_))), .und]) rfl ?_
  exact rx_rt (js_ret (v := (srtBy eI some_)) (t_bi (ts_cons (t_bi (ts_cons (t_v rfl) ts_nil) (bi_srtE (e := eI) (xs := some_) (by decide) rfl rfl)) ts_nil) (bi_tupL (e := eI) (xs := (srtBy eI some_)) rfl rfl)) rfl ⟨rfl, rfl⟩)

theorem j_law_steps (pairs : List (Int × Int)) (end_ : Int) : JF (F5 [(.fro (.py ((eL (eP eI eI)) pairs))), (cI end_)]) (p_law_steps pairs end_) (dt fun (r : List (Int × Int)) => (.own (xK kI eI r))) := by
  refine jf_of F5_eq rfl ?_
  show J (xruns T5 [] b5 [(.fro (.py ((eL (eP eI eI)) pairs))), (cI end_), .und, .und, .und, .und]) (p_law_steps pairs end_) _ _
  unfold p_law_steps b5
  refine js_set (R := fun (v : List (Int × Int)) => (.own (xK kI eI v))) (v := [(end_, 0)]) (ρ' := fun (far : List (Int × Int)) => [(.fro (.py ((eL (eP eI eI)) pairs))), (cI end_), (.own (xK kI eI far)), .und, .und, .und]) (t_disp (e := eI) (ek := kI) (ev := eI) (k := end_) (v := 0) (t_v rfl) rfl t_int rfl rfl) (fun _ => rfl) fun far => ?_
  refine js_set (R := fun (v : List Int) => (.own (.py ((eL eI) v)))) (v := [end_]) (ρ' := fun (line_ : List Int) => [(.fro (.py ((eL (eP eI eI)) pairs))), (cI end_), (.own (xK kI eI far)), (.own (.py ((eL eI) line_))), .und, .und]) (t_lst (ts_cons (t_v rfl) ts_nil) rfl) (fun _ => rfl) fun line_ => ?_
  refine js_set (R := fun (v : Int) => (cI v)) (v := 0) (ρ' := fun (at_ : Int) => [(.fro (.py ((eL (eP eI eI)) pairs))), (cI end_), (.own (xK kI eI far)), (.own (.py ((eL eI) line_))), (cI at_), .und]) t_int (fun _ => rfl) fun at_ => ?_
  refine js_whl (E := fun (s1 : (List (Int × Int)) × (List Int) × Int) => [(.fro (.py ((eL (eP eI eI)) pairs))), (cI end_), (.own (xK kI eI s1.1)), (.own (.py ((eL eI) s1.2.1))), (cI s1.2.2), .und]) (s0 := (far, line_, at_)) (u := fun (s1 : (List (Int × Int)) × (List Int) × Int) => (.ok (decide (s1.2.2 < (s1.2.1.length : Int))))) rfl (fun s1 => (by exact jv_ok (t_cm (t_v rfl) (t_bi (ts_cons (t_vo rfl) ts_nil) (bi_lenL (e := eI) (xs := s1.2.1) rfl)) rfl))) (fun s1 => ?_) fun s2 => ?_
  · refine focusS (e1 := (.ix (.v 3) (.v 4))) (R1 := fun v => (cI v)) (jv_ixL (e := eI) (xs := s1.2.1) (t_vo rfl) rfl (t_v rfl) (fun _ => rfl)) (fun n z => (er_for (er_iof (er_call (er_s2 (t_v rfl) (er_s1 z)))))) (fun n => ⟨_, rfl⟩) fun t5 h6 => ?_
    refine focusS (e1 := (.call 3 [0, 0] (.cons (.v 0) (.cons (.ix (.v 3) (.v 4)) .nil)))) (R1 := fun v => (.fro (.py ((eT eI) v)))) (jv_call (as := [(.fro (.py ((eL (eP eI eI)) pairs))), (cI t5)]) k5_3 (ts_cons (t_v rfl) (ts_cons h6 ts_nil)) rfl rfl (j_law_beside pairs t5) (fun _ => rfl)) (fun n z => (er_for (er_iof z))) (fun n => ⟨_, rfl⟩) fun t7 h8 => ?_
    refine js_forN (xs := t7) (g := (fun v => (cI v))) (E := fun (s3 : (List (Int × Int)) × (List Int)) => [(.fro (.py ((eL (eP eI eI)) pairs))), (cI end_), (.own (xK kI eI s3.1)), (.own (.py ((eL eI) s3.2))), (cI s1.2.2), .und]) (s0 := (s1.1, s1.2.1)) (Eb := fun (s3 : (List (Int × Int)) × (List Int)) (place : Int) => [(.fro (.py ((eL (eP eI eI)) pairs))), (cI end_), (.own (xK kI eI s3.1)), (.own (.py ((eL eI) s3.2))), (cI s1.2.2), (cI place)]) (it_of (e := eI) (xs := t7) (g := (fun v => (cI v))) h8 rfl rfl (fun _ => rfl)) rfl (fun _ _ => rfl) (fun s3 place => ?_) fun s4 => ?_
    · refine js_ifl (z := !dhas s3.1 place) (t_cm (t_v rfl) (t_vo rfl) (cm_ninK (e := eI) (ek := kI) (ev := eI) (k := place) (kvs := s3.1) rfl rfl)) ?_ ?_
      · refine focusS (e1 := (.ix (.v 3) (.v 4))) (R1 := fun v => (cI v)) (jv_ixL (e := eI) (xs := s3.2) (t_vo rfl) rfl (t_v rfl) (fun _ => rfl)) (fun n z => (er_setI1 (er_op1 (er_ix2 (t_vo rfl) z)))) (fun n => ⟨_, rfl⟩) fun t9 h10 => ?_
        refine focusS (e1 := (.ix (.v 2) (.ix (.v 3) (.v 4)))) (R1 := fun v => (cI v)) (jv_ixK (e := eI) (ek := kI) (ev := eI) (k := t9) (kvs := s3.1) (t_vo rfl) rfl h10 rfl (fun _ => rfl)) (fun n z => (er_setI1 (er_op1 z))) (fun n => ⟨_, rfl⟩) fun t11 h12 => ?_
        refine js_setK (ek := eI) (ky := kI) (ev := eI) (kvs := s3.1) (kz := place) (v := (t11 + 1)) (ρ' := fun (far : List (Int × Int)) => [(.fro (.py ((eL (eP eI eI)) pairs))), (cI end_), (.own (xK kI eI far)), (.own (.py ((eL eI) s3.2))), (cI s1.2.2), (cI place)]) rfl (t_add h12 t_int) rfl (t_v rfl) rfl (fun _ => rfl) fun far => ?_
        refine js_push (en := eI) (xs := s3.2) (v := place) (ρ' := fun (line_ : List Int) => [(.fro (.py ((eL (eP eI eI)) pairs))), (cI end_), (.own (xK kI eI far)), (.own (.py ((eL eI) line_))), (cI s1.2.2), (cI place)]) rfl (ts_cons (t_v rfl) ts_nil) rfl (fun _ => rfl) fun line_ => ?_
        refine js_gh (ρ' := [(.fro (.py ((eL (eP eI eI)) pairs))), (cI end_), (.own (xK kI eI far)), (.own (.py ((eL eI) line_))), (cI s1.2.2), .und]) rfl ?_
        exact js_nilT rfl
      · refine js_gh (ρ' := [(.fro (.py ((eL (eP eI eI)) pairs))), (cI end_), (.own (xK kI eI s3.1)), (.own (.py ((eL eI) s3.2))), (cI s1.2.2), .und]) rfl ?_
        exact js_nilT rfl
    refine js_set (R := fun (v : Int) => (cI v)) (v := (s1.2.2 + 1)) (ρ' := fun (at_ : Int) => [(.fro (.py ((eL (eP eI eI)) pairs))), (cI end_), (.own (xK kI eI s4.1)), (.own (.py ((eL eI) s4.2))), (cI at_), .und]) (t_add (t_v rfl) t_int) (fun _ => rfl) fun at_ => ?_
    exact js_nilT rfl
  exact rx_rt (js_ret (v := s2.1) (t_vo rfl) rfl ⟨rfl, rfl⟩)

theorem j_look_at_place (web : WebT) (place : Int) : JF (F6 [(.fro (xW web)), (cI place)]) (p_look_at_place web place) (dt fun _ => nonC) := by
  refine jf_of F6_eq rfl ?_
  show J (xruns T6 [] b6 [(.fro (xW web)), (cI place)]) (p_look_at_place web place) _ _
  unfold p_look_at_place b6
  refine js_ifl (z := !(decide (0 ≤ place) && decide (place < web.places))) (t_not (t_chn t_int (t_v rfl) (t_fld (t_v rfl) rfl rfl rfl) rfl rfl)) ?_ ?_
  · exact js_rais ⟨_, rfl⟩
  · exact js_end ⟨rfl, rfl⟩

theorem j_near (web : WebT) (place : Int) : JF (F7 [(.fro (xW web)), (cI place)]) (p_near web place) (dt fun (r : List Int) => (.fro (.py ((eT eI) r)))) := by
  refine jf_of F7_eq rfl ?_
  show J (xruns T7 [] b7 [(.fro (xW web)), (cI place), .und, .und, .und]) (p_near web place) _ _
  unfold p_near b7
  refine js_ex (jv_call (as := [(.fro (xW web)), (cI place)]) k7_5 (ts_cons (t_v rfl) (ts_cons (t_v rfl) ts_nil)) rfl rfl (j_look_at_place web place) (fun _ => rfl)) (fun n => ⟨_, rfl⟩) fun _ => ?_
  refine js_set (R := fun (v : List Int) => (.own (.py ((eL eI) v)))) (v := []) (ρ' := fun (found : List Int) => [(.fro (xW web)), (cI place), (.own (.py ((eL eI) found))), .und, .und]) (t_lst ts_nil rfl) (fun _ => rfl) fun found => ?_
  refine js_forN (xs := web.ties) (g := (fun v => (.fro (.py ((eP eI eI) v))))) (E := fun (s3 : List Int) => [(.fro (xW web)), (cI place), (.own (.py ((eL eI) s3))), .und, .und]) (s0 := found) (Eb := fun (s3 : List Int) (v5 : Int × Int) => [(.fro (xW web)), (cI place), (.own (.py ((eL eI) s3))), (cI v5.1), (cI v5.2)]) (it_of (e := (eP eI eI)) (xs := web.ties) (g := (fun v => (.fro (.py ((eP eI eI) v))))) (t_fld (t_v rfl) rfl rfl rfl) rfl rfl (fun _ => rfl)) rfl (fun _ _ => rfl) (fun s3 v5 => ?_) fun s4 => ?_
  · refine js_ifl (z := decide (v5.1 = place)) (t_cm (t_v rfl) (t_v rfl) (cm_eq (e := eI) (u := v5.1) (v := place) (by decide) rfl rfl)) ?_ ?_
    · refine js_push (en := eI) (xs := s3) (v := v5.2) (ρ' := fun (found : List Int) => [(.fro (xW web)), (cI place), (.own (.py ((eL eI) found))), (cI v5.1), (cI v5.2)]) rfl (ts_cons (t_v rfl) ts_nil) rfl (fun _ => rfl) fun found => ?_
      refine js_gh (ρ' := [(.fro (xW web)), (cI place), (.own (.py ((eL eI) found))), .und, .und]) rfl ?_
      exact js_nilT rfl
    · refine js_ifl (z := decide (v5.2 = place)) (t_cm (t_v rfl) (t_v rfl) (cm_eq (e := eI) (u := v5.2) (v := place) (by decide) rfl rfl)) ?_ ?_
      · refine js_push (en := eI) (xs := s3) (v := v5.1) (ρ' := fun (found : List Int) => [(.fro (xW web)), (cI place), (.own (.py ((eL eI) found))), (cI v5.1), (cI v5.2)]) rfl (ts_cons (t_v rfl) ts_nil) rfl (fun _ => rfl) fun found => ?_
        refine js_gh (ρ' := [(.fro (xW web)), (cI place), (.own (.py ((eL eI) found))), .und, .und]) rfl ?_
        exact js_nilT rfl
      · refine js_gh (ρ' := [(.fro (xW web)), (cI place), (.own (.py ((eL eI) s3))), .und, .und]) rfl ?_
        exact js_nilT rfl
  exact rx_rt (js_ret (v := (srtBy eI s4)) (t_bi (ts_cons (t_bi (ts_cons (t_vo rfl) ts_nil) (bi_srtE (e := eI) (xs := s4) (by decide) rfl rfl)) ts_nil) (bi_tupL (e := eI) (xs := (srtBy eI s4)) rfl rfl)) rfl ⟨rfl, rfl⟩)

theorem j_come_from (web : WebT) (one : Int) : JF (F8 [(.fro (xW web)), (cI one)]) (p_come_from web one) (dt fun (r : List (Int × Int)) => (.own (xK kI eI r))) := by
  refine jf_of F8_eq rfl ?_
  show J (xruns T8 [] b8 [(.fro (xW web)), (cI one), .und, .und, .und, .und]) (p_come_from web one) _ _
  unfold p_come_from b8
  refine js_set (R := fun (v : List (Int × Int)) => (.own (xK kI eI v))) (v := [(one, (-1))]) (ρ' := fun (came : List (Int × Int)) => [(.fro (xW web)), (cI one), (.own (xK kI eI came)), .und, .und, .und]) (t_disp (e := eI) (ek := kI) (ev := eI) (k := one) (v := (-1)) (t_v rfl) rfl (t_neg t_int) rfl rfl) (fun _ => rfl) fun came => ?_
  refine js_set (R := fun (v : List Int) => (.own (.py ((eL eI) v)))) (v := [one]) (ρ' := fun (line_ : List Int) => [(.fro (xW web)), (cI one), (.own (xK kI eI came)), (.own (.py ((eL eI) line_))), .und, .und]) (t_lst (ts_cons (t_v rfl) ts_nil) rfl) (fun _ => rfl) fun line_ => ?_
  refine js_set (R := fun (v : Int) => (cI v)) (v := 0) (ρ' := fun (at_ : Int) => [(.fro (xW web)), (cI one), (.own (xK kI eI came)), (.own (.py ((eL eI) line_))), (cI at_), .und]) t_int (fun _ => rfl) fun at_ => ?_
  refine js_whl (E := fun (s1 : (List (Int × Int)) × (List Int) × Int) => [(.fro (xW web)), (cI one), (.own (xK kI eI s1.1)), (.own (.py ((eL eI) s1.2.1))), (cI s1.2.2), .und]) (s0 := (came, line_, at_)) (u := fun (s1 : (List (Int × Int)) × (List Int) × Int) => (.ok (decide (s1.2.2 < (s1.2.1.length : Int))))) rfl (fun s1 => (by exact jv_ok (t_cm (t_v rfl) (t_bi (ts_cons (t_vo rfl) ts_nil) (bi_lenL (e := eI) (xs := s1.2.1) rfl)) rfl))) (fun s1 => ?_) fun s2 => ?_
  · refine focusS (e1 := (.ix (.v 3) (.v 4))) (R1 := fun v => (cI v)) (jv_ixL (e := eI) (xs := s1.2.1) (t_vo rfl) rfl (t_v rfl) (fun _ => rfl)) (fun n z => (er_for (er_iof (er_call (er_s2 (t_v rfl) (er_s1 z)))))) (fun n => ⟨_, rfl⟩) fun t5 h6 => ?_
    refine focusS (e1 := (.call 6 [0, 0] (.cons (.v 0) (.cons (.ix (.v 3) (.v 4)) .nil)))) (R1 := fun v => (.fro (.py ((eT eI) v)))) (jv_call (as := [(.fro (xW web)), (cI t5)]) k8_6 (ts_cons (t_v rfl) (ts_cons h6 ts_nil)) rfl rfl (j_near web t5) (fun _ => rfl)) (fun n z => (er_for (er_iof z))) (fun n => ⟨_, rfl⟩) fun t7 h8 => ?_
    refine js_forN (xs := t7) (g := (fun v => (cI v))) (E := fun (s3 : (List (Int × Int)) × (List Int)) => [(.fro (xW web)), (cI one), (.own (xK kI eI s3.1)), (.own (.py ((eL eI) s3.2))), (cI s1.2.2), .und]) (s0 := (s1.1, s1.2.1)) (Eb := fun (s3 : (List (Int × Int)) × (List Int)) (place : Int) => [(.fro (xW web)), (cI one), (.own (xK kI eI s3.1)), (.own (.py ((eL eI) s3.2))), (cI s1.2.2), (cI place)]) (it_of (e := eI) (xs := t7) (g := (fun v => (cI v))) h8 rfl rfl (fun _ => rfl)) rfl (fun _ _ => rfl) (fun s3 place => ?_) fun s4 => ?_
    · refine js_ifl (z := !dhas s3.1 place) (t_cm (t_v rfl) (t_vo rfl) (cm_ninK (e := eI) (ek := kI) (ev := eI) (k := place) (kvs := s3.1) rfl rfl)) ?_ ?_
      · refine focusS (e1 := (.ix (.v 3) (.v 4))) (R1 := fun v => (cI v)) (jv_ixL (e := eI) (xs := s3.2) (t_vo rfl) rfl (t_v rfl) (fun _ => rfl)) (fun n z => (er_setI1 z)) (fun n => ⟨_, rfl⟩) fun t9 h10 => ?_
        refine js_setK (ek := eI) (ky := kI) (ev := eI) (kvs := s3.1) (kz := place) (v := t9) (ρ' := fun (came : List (Int × Int)) => [(.fro (xW web)), (cI one), (.own (xK kI eI came)), (.own (.py ((eL eI) s3.2))), (cI s1.2.2), (cI place)]) rfl h10 rfl (t_v rfl) rfl (fun _ => rfl) fun came => ?_
        refine js_push (en := eI) (xs := s3.2) (v := place) (ρ' := fun (line_ : List Int) => [(.fro (xW web)), (cI one), (.own (xK kI eI came)), (.own (.py ((eL eI) line_))), (cI s1.2.2), (cI place)]) rfl (ts_cons (t_v rfl) ts_nil) rfl (fun _ => rfl) fun line_ => ?_
        refine js_gh (ρ' := [(.fro (xW web)), (cI one), (.own (xK kI eI came)), (.own (.py ((eL eI) line_))), (cI s1.2.2), .und]) rfl ?_
        exact js_nilT rfl
      · refine js_gh (ρ' := [(.fro (xW web)), (cI one), (.own (xK kI eI s3.1)), (.own (.py ((eL eI) s3.2))), (cI s1.2.2), .und]) rfl ?_
        exact js_nilT rfl
    refine js_augA (u := s1.2.2) (v := 1) (ρ' := fun (at_ : Int) => [(.fro (xW web)), (cI one), (.own (xK kI eI s4.1)), (.own (.py ((eL eI) s4.2))), (cI at_), .und]) rfl t_int (fun _ => rfl) fun at_ => ?_
    exact js_nilT rfl
  exact rx_rt (js_ret (v := s2.1) (t_vo rfl) rfl ⟨rfl, rfl⟩)

theorem j_way_between (web : WebT) (one : Int) (other : Int) : JF (F9 [(.fro (xW web)), (cI one), (cI other)]) (p_way_between web one other) (dt fun (r : Option (List Int)) => (cQ (fun q => (.own (.py ((eL eI) q)))) r)) := by
  refine jf_of F9_eq rfl ?_
  show J (xruns T9 [] b9 [(.fro (xW web)), (cI one), (cI other), .und, .und, .und, .und]) (p_way_between web one other) _ _
  unfold p_way_between b9
  refine js_ex (jv_call (as := [(.fro (xW web)), (cI one)]) k9_5 (ts_cons (t_v rfl) (ts_cons (t_v rfl) ts_nil)) rfl rfl (j_look_at_place web one) (fun _ => rfl)) (fun n => ⟨_, rfl⟩) fun _ => ?_
  refine js_ex (jv_call (as := [(.fro (xW web)), (cI other)]) k9_5 (ts_cons (t_v rfl) (ts_cons (t_v rfl) ts_nil)) rfl rfl (j_look_at_place web other) (fun _ => rfl)) (fun n => ⟨_, rfl⟩) fun _ => ?_
  refine js_setM (R := fun (v : List (Int × Int)) => (.own (xK kI eI v))) (ρ' := fun (came : List (Int × Int)) => [(.fro (xW web)), (cI one), (cI other), (.own (xK kI eI came)), .und, .und, .und]) (jv_call (as := [(.fro (xW web)), (cI other)]) k9_7 (ts_cons (t_v rfl) (ts_cons (t_v rfl) ts_nil)) rfl rfl (j_come_from web other) (fun _ => rfl)) (fun n => ⟨_, rfl⟩) (fun _ => rfl) fun came => ?_
  refine js_gh (ρ' := [(.fro (xW web)), (cI one), (cI other), (.fro (xK kI eI came)), .und, .und, .und]) rfl ?_
  refine js_ifx (z := !dhas came one) (t_cm (t_v rfl) (t_v rfl) (cm_ninK (e := eI) (ek := kI) (ev := eI) (k := one) (kvs := came) rfl rfl)) ?_ hp_rt hq_any ?_
  · exact js_ret (v := none) t_non rfl ⟨rfl, rfl⟩
  · refine js_set (R := fun (v : List (Int × Int)) => (.own (xK kI eI v))) (v := [(other, 0)]) (ρ' := fun (far : List (Int × Int)) => [(.fro (xW web)), (cI one), (cI other), (.fro (xK kI eI came)), (.own (xK kI eI far)), .und, .und]) (t_disp (e := eI) (ek := kI) (ev := eI) (k := other) (v := 0) (t_v rfl) rfl t_int rfl rfl) (fun _ => rfl) fun far => ?_
    refine js_forKN (xs := (dkeys came)) (g := (fun v => (cI v))) (E := fun (s7 : List (Int × Int)) => [(.fro (xW web)), (cI one), (cI other), (.fro (xK kI eI came)), (.own (xK kI eI s7)), .und, .und]) (s0 := far) (Eb := fun (s7 : List (Int × Int)) (place : Int) => [(.fro (xW web)), (cI one), (cI other), (.fro (xK kI eI came)), (.own (xK kI eI s7)), (cI place), .und]) (keys_fro (ek := kI) (ev := eI) (kvs := came) rfl) (keys_map (g := (fun v => (cI v))) came) rfl (fun _ _ => rfl) (fun s7 place => ?_) fun s8 => ?_
    · refine focusS (e1 := (.ix (.v 3) (.v 5))) (R1 := fun v => (cI v)) (jv_ixK (e := eI) (ek := kI) (ev := eI) (k := place) (kvs := came) (t_v rfl) rfl (t_v rfl) rfl (fun _ => rfl)) (fun n z => (er_if (er_cm1 z))) (fun n => ⟨_, rfl⟩) fun t9 h10 => ?_
      refine js_ifl (z := !decide (t9 = (-1))) (t_cm h10 (t_neg t_int) (cm_ne (e := eI) (u := t9) (v := (-1)) (by decide) rfl rfl)) ?_ ?_
      · refine focusS (e1 := (.ix (.v 3) (.v 5))) (R1 := fun v => (cI v)) (jv_ixK (e := eI) (ek := kI) (ev := eI) (k := place) (kvs := came) (t_v rfl) rfl (t_v rfl) rfl (fun _ => rfl)) (fun n z => (er_setI1 (er_op1 (er_ix2 (t_vo rfl) z)))) (fun n => ⟨_, rfl⟩) fun t11 h12 => ?_
        refine focusS (e1 := (.ix (.v 4) (.ix (.v 3) (.v 5)))) (R1 := fun v => (cI v)) (jv_ixK (e := eI) (ek := kI) (ev := eI) (k := t11) (kvs := s7) (t_vo rfl) rfl h12 rfl (fun _ => rfl)) (fun n z => (er_setI1 (er_op1 z))) (fun n => ⟨_, rfl⟩) fun t13 h14 => ?_
        refine js_setK (ek := eI) (ky := kI) (ev := eI) (kvs := s7) (kz := place) (v := (t13 + 1)) (ρ' := fun (far : List (Int × Int)) => [(.fro (xW web)), (cI one), (cI other), (.fro (xK kI eI came)), (.own (xK kI eI far)), (cI place), .und]) rfl (t_add h14 t_int) rfl (t_v rfl) rfl (fun _ => rfl) fun far => ?_
        refine js_gh (ρ' := [(.fro (xW web)), (cI one), (cI other), (.fro (xK kI eI came)), (.own (xK kI eI far)), .und, .und]) rfl ?_
        exact js_nilT rfl
      · refine js_gh (ρ' := [(.fro (xW web)), (cI one), (cI other), (.fro (xK kI eI came)), (.own (xK kI eI s7)), .und, .und]) rfl ?_
        exact js_nilT rfl
    refine js_set (R := fun (v : List Int) => (.own (.py ((eL eI) v)))) (v := [one]) (ρ' := fun (way : List Int) => [(.fro (xW web)), (cI one), (cI other), (.fro (xK kI eI came)), (.own (xK kI eI s8)), .und, (.own (.py ((eL eI) way)))]) (t_lst (ts_cons (t_v rfl) ts_nil) rfl) (fun _ => rfl) fun way => ?_
    refine js_whl (E := fun (s15 : List Int) => [(.fro (xW web)), (cI one), (cI other), (.fro (xK kI eI came)), (.own (xK kI eI s8)), .und, (.own (.py ((eL eI) s15)))]) (s0 := way) (u := fun (s15 : List Int) => (bnd (idx s15 (-1)) fun (t17 : Int) => .ok (!decide (t17 = other)))) rfl (fun s15 => (by refine focusV (e1 := (.ix (.v 6) (.neg (.int 1)))) (R1 := fun v => (cI v)) (jv_ixL (e := eI) (xs := s15) (t_vo rfl) rfl (t_neg t_int) (fun _ => rfl)) (fun n z => (er_cm1 z)) fun t17 h18 => ?_; exact jv_ok (t_cm h18 (t_v rfl) (cm_ne (e := eI) (u := t17) (v := other) (by decide) rfl rfl)))) (fun s15 => ?_) fun s16 => ?_
    · refine focusS (e1 := (.ix (.v 6) (.neg (.int 1)))) (R1 := fun v => (cI v)) (jv_ixL (e := eI) (xs := s15) (t_vo rfl) rfl (t_neg t_int) (fun _ => rfl)) (fun n z => (er_mt rfl (er_s1 (er_ix1 (er_lc (er_iof (er_call (er_s2 (t_v rfl) (er_s1 z))))))))) (fun n => ⟨_, rfl⟩) fun t19 h20 => ?_
      refine focusS (e1 := (.call 6 [0, 0] (.cons (.v 0) (.cons (.ix (.v 6) (.neg (.int 1))) .nil)))) (R1 := fun v => (.fro (.py ((eT eI) v)))) (jv_call (as := [(.fro (xW web)), (cI t19)]) k9_6 (ts_cons (t_v rfl) (ts_cons h20 ts_nil)) rfl rfl (j_near web t19) (fun _ => rfl)) (fun n z => (er_mt rfl (er_s1 (er_ix1 (er_lc (er_iof z)))))) (fun n => ⟨_, rfl⟩) fun t21 h22 => ?_
      refine focusS (e1 := (.lc [5] (.nm 5) (.of (.call 6 [0, 0] (.cons (.v 0) (.cons (.ix (.v 6) (.neg (.int 1))) .nil)))) (.yes (.cm .lt (.ix (.v 4) (.v 5)) (.ix (.v 4) (.ix (.v 6) (.neg (.int 1)))))) (.v 5))) (R1 := fun v => (.own (.py ((eL eI) v)))) (jv_lc (lk := .no) (g := (fun v => (cI v))) (ρw := [(.fro (xW web)), (cI one), (cI other), (.fro (xK kI eI came)), (.own (xK kI eI s8)), .und, (.own (.py ((eL eI) s15)))]) (ρb := fun (place : Int) => [(.fro (xW web)), (cI one), (cI other), (.fro (xK kI eI came)), (.own (xK kI eI s8)), (cI place), (.own (.py ((eL eI) s15)))]) (u := fun (place : Int) => (bnd (dgetM s8 place) fun (t23 : Int) => bnd (idx s15 (-1)) fun (t25 : Int) => bnd (dgetM s8 t25) fun (t27 : Int) => .ok (decide (t23 < t27)))) (f := fun (place : Int) => (.ok place)) (en := eI) (R := fun (v : Int) => (cI v)) (it_of (e := eI) (xs := t21) (g := (fun v => (cI v))) h22 rfl rfl (fun _ => rfl)) rfl rfl trivial (fun _ => rfl) (fun (place : Int) => tc_yes (by refine focusV (e1 := (.ix (.v 4) (.v 5))) (R1 := fun v => (cI v)) (jv_ixK (e := eI) (ek := kI) (ev := eI) (k := place) (kvs := s8) (t_vo rfl) rfl (t_v rfl) rfl (fun _ => rfl)) (fun n z => (er_cm1 z)) fun t23 h24 => ?_; refine focusV (e1 := (.ix (.v 6) (.neg (.int 1)))) (R1 := fun v => (cI v)) (jv_ixL (e := eI) (xs := s15) (t_vo rfl) rfl (t_neg t_int) (fun _ => rfl)) (fun n z => (er_cm2 h24 (er_ix2 (t_vo rfl) z))) fun t25 h26 => ?_; refine focusV (e1 := (.ix (.v 4) (.ix (.v 6) (.neg (.int 1))))) (R1 := fun v => (cI v)) (jv_ixK (e := eI) (ek := kI) (ev := eI) (k := t25) (kvs := s8) (t_vo rfl) rfl h26 rfl (fun _ => rfl)) (fun n z => (er_cm2 h24 z)) fun t27 h28 => ?_; exact jv_ok (t_cm h24 h28 rfl))) (fun (place : Int) => (by exact jv_ok (t_v rfl))) (fun _ _ => rfl) (fun _ => rfl) trivial rfl) (fun n z => (er_mt rfl (er_s1 (er_ix1 z)))) (fun n => ⟨_, rfl⟩) fun t29 h30 => ?_
      refine focusS (e1 := (.ix (.lc [5] (.nm 5) (.of (.call 6 [0, 0] (.cons (.v 0) (.cons (.ix (.v 6) (.neg (.int 1))) .nil)))) (.yes (.cm .lt (.ix (.v 4) (.v 5)) (.ix (.v 4) (.ix (.v 6) (.neg (.int 1)))))) (.v 5)) (.int 0))) (R1 := fun v => (cI v)) (jv_ixL (e := eI) (xs := t29) h30 rfl t_int (fun _ => rfl)) (fun n z => (er_mt rfl (er_s1 z))) (fun n => ⟨_, rfl⟩) fun t31 h32 => ?_
      refine js_push (en := eI) (xs := s15) (v := t31) (ρ' := fun (way : List Int) => [(.fro (xW web)), (cI one), (cI other), (.fro (xK kI eI came)), (.own (xK kI eI s8)), .und, (.own (.py ((eL eI) way)))]) rfl (ts_cons h32 ts_nil) rfl (fun _ => rfl) fun way => ?_
      exact js_nilT rfl
    exact rx_rt (js_ret (v := (some s16)) (t_vo rfl) rfl ⟨rfl, rfl⟩)

theorem j_law_whole (found : Int) : JF (F10 [(cI found)]) (p_law_whole found) (dt fun (r : Bool) => (cB r)) := by
  refine jf_of F10_eq rfl ?_
  show J (xruns T10 [] b10 [(cI found)]) (p_law_whole found) _ _
  unfold p_law_whole b10
  exact rx_rt (js_ret (v := (true && !false)) (t_and (t_isi (t_v rfl) (by simp)) (t_not (t_isi (t_v rfl) (by simp)))) rfl ⟨rfl, rfl⟩)

theorem j_law_first (pairs : List (Int × Int)) (far : List (Int × Int)) (one : Int) : JF (F11 [(.fro (.py ((eL (eP eI eI)) pairs))), (.fro (xK kI eI far)), (cI one)]) (p_law_first pairs far one) (dt fun (r : List Int) => (.own (.py ((eL eI) r)))) := by
  refine jf_of F11_eq rfl ?_
  show J (xruns T11 [] b11 [(.fro (.py ((eL (eP eI eI)) pairs))), (.fro (xK kI eI far)), (cI one), .und, .und, .und]) (p_law_first pairs far one) _ _
  unfold p_law_first b11
  refine js_set (R := fun (v : List Int) => (.own (.py ((eL eI) v)))) (v := [one]) (ρ' := fun (way : List Int) => [(.fro (.py ((eL (eP eI eI)) pairs))), (.fro (xK kI eI far)), (cI one), (.own (.py ((eL eI) way))), .und, .und]) (t_lst (ts_cons (t_v rfl) ts_nil) rfl) (fun _ => rfl) fun way => ?_
  refine js_whl (E := fun (s1 : List Int) => [(.fro (.py ((eL (eP eI eI)) pairs))), (.fro (xK kI eI far)), (cI one), (.own (.py ((eL eI) s1))), .und, .und]) (s0 := way) (u := fun (s1 : List Int) => (bnd (idx s1 (-1)) fun (t3 : Int) => bnd (dgetM far t3) fun (t5 : Int) => .ok (decide (0 < t5)))) rfl (fun s1 => (by refine focusV (e1 := (.ix (.v 3) (.neg (.int 1)))) (R1 := fun v => (cI v)) (jv_ixL (e := eI) (xs := s1) (t_vo rfl) rfl (t_neg t_int) (fun _ => rfl)) (fun n z => (er_cm1 (er_ix2 (t_v rfl) z))) fun t3 h4 => ?_; refine focusV (e1 := (.ix (.v 1) (.ix (.v 3) (.neg (.int 1))))) (R1 := fun v => (cI v)) (jv_ixK (e := eI) (ek := kI) (ev := eI) (k := t3) (kvs := far) (t_v rfl) rfl h4 rfl (fun _ => rfl)) (fun n z => (er_cm1 z)) fun t5 h6 => ?_; exact jv_ok (t_cm h6 t_int rfl))) (fun s1 => ?_) fun s2 => ?_
  · refine focusS (e1 := (.ix (.v 3) (.neg (.int 1)))) (R1 := fun v => (cI v)) (jv_ixL (e := eI) (xs := s1) (t_vo rfl) rfl (t_neg t_int) (fun _ => rfl)) (fun n z => (er_set (er_lc (er_iof (er_call (er_s2 (t_v rfl) (er_s1 z))))))) (fun n => ⟨_, rfl⟩) fun t7 h8 => ?_
    refine focusS (e1 := (.call 3 [0, 0] (.cons (.v 0) (.cons (.ix (.v 3) (.neg (.int 1))) .nil)))) (R1 := fun v => (.fro (.py ((eT eI) v)))) (jv_call (as := [(.fro (.py ((eL (eP eI eI)) pairs))), (cI t7)]) k11_3 (ts_cons (t_v rfl) (ts_cons h8 ts_nil)) rfl rfl (j_law_beside pairs t7) (fun _ => rfl)) (fun n z => (er_set (er_lc (er_iof z)))) (fun n => ⟨_, rfl⟩) fun t9 h10 => ?_
    refine js_setM (R := fun (v : List Int) => (.own (.py ((eL eI) v)))) (ρ' := fun (nearer : List Int) => [(.fro (.py ((eL (eP eI eI)) pairs))), (.fro (xK kI eI far)), (cI one), (.own (.py ((eL eI) s1))), (.own (.py ((eL eI) nearer))), .und]) (jv_lc (lk := .no) (g := (fun v => (cI v))) (ρw := [(.fro (.py ((eL (eP eI eI)) pairs))), (.fro (xK kI eI far)), (cI one), (.own (.py ((eL eI) s1))), .und, .und]) (ρb := fun (place : Int) => [(.fro (.py ((eL (eP eI eI)) pairs))), (.fro (xK kI eI far)), (cI one), (.own (.py ((eL eI) s1))), .und, (cI place)]) (u := fun (place : Int) => (bnd (dgetM far place) fun (t11 : Int) => bnd (idx s1 (-1)) fun (t13 : Int) => bnd (dgetM far t13) fun (t15 : Int) => .ok (decide (t11 < t15)))) (f := fun (place : Int) => (.ok place)) (en := eI) (R := fun (v : Int) => (cI v)) (it_of (e := eI) (xs := t9) (g := (fun v => (cI v))) h10 rfl rfl (fun _ => rfl)) rfl rfl trivial (fun _ => rfl) (fun (place : Int) => tc_yes (by refine focusV (e1 := (.ix (.v 1) (.v 5))) (R1 := fun v => (cI v)) (jv_ixK (e := eI) (ek := kI) (ev := eI) (k := place) (kvs := far) (t_v rfl) rfl (t_v rfl) rfl (fun _ => rfl)) (fun n z => (er_cm1 z)) fun t11 h12 => ?_; refine focusV (e1 := (.ix (.v 3) (.neg (.int 1)))) (R1 := fun v => (cI v)) (jv_ixL (e := eI) (xs := s1) (t_vo rfl) rfl (t_neg t_int) (fun _ => rfl)) (fun n z => (er_cm2 h12 (er_ix2 (t_v rfl) z))) fun t13 h14 => ?_; refine focusV (e1 := (.ix (.v 1) (.ix (.v 3) (.neg (.int 1))))) (R1 := fun v => (cI v)) (jv_ixK (e := eI) (ek := kI) (ev := eI) (k := t13) (kvs := far) (t_v rfl) rfl h14 rfl (fun _ => rfl)) (fun n z => (er_cm2 h12 z)) fun t15 h16 => ?_; exact jv_ok (t_cm h12 h16 rfl))) (fun (place : Int) => (by exact jv_ok (t_v rfl))) (fun _ _ => rfl) (fun _ => rfl) trivial rfl) (fun n => ⟨_, rfl⟩) (fun _ => rfl) fun nearer => ?_
    refine js_gh (ρ' := [(.fro (.py ((eL (eP eI eI)) pairs))), (.fro (xK kI eI far)), (cI one), (.own (.py ((eL eI) s1))), (.fro (.py ((eL eI) nearer))), .und]) rfl ?_
    refine focusS (e1 := (.ix (.v 4) (.int 0))) (R1 := fun v => (cI v)) (jv_ixL (e := eI) (xs := nearer) (t_v rfl) rfl t_int (fun _ => rfl)) (fun n z => (er_mt rfl (er_s1 z))) (fun n => ⟨_, rfl⟩) fun t19 h20 => ?_
    refine js_push (en := eI) (xs := s1) (v := t19) (ρ' := fun (way : List Int) => [(.fro (.py ((eL (eP eI eI)) pairs))), (.fro (xK kI eI far)), (cI one), (.own (.py ((eL eI) way))), (.fro (.py ((eL eI) nearer))), .und]) rfl (ts_cons h20 ts_nil) rfl (fun _ => rfl) fun way => ?_
    refine js_gh (ρ' := [(.fro (.py ((eL (eP eI eI)) pairs))), (.fro (xK kI eI far)), (cI one), (.own (.py ((eL eI) way))), .und, .und]) rfl ?_
    exact js_nilT rfl
  exact rx_rt (js_ret (v := s2) (t_vo rfl) rfl ⟨rfl, rfl⟩)

theorem j_law_B (script : List Int) : JF (F12 [(.bor (.py ((eL eI) script)))]) (p_law script) (dt fun (r : Bool) => (cB r)) := by
  refine jf_of F12_eq rfl ?_
  show J (xruns T12 [] b12 [(.bor (.py ((eL eI) script))), .und, .und, .und, .und, .und, .und, .und, .und, .und, .und]) (p_law script) _ _
  unfold p_law b12
  refine js_setM (R := fun (v : Int) => (cI v)) (ρ' := fun (places : Int) => [(.bor (.py ((eL eI) script))), (cI places), .und, .und, .und, .und, .und, .und, .und, .und, .und]) (jv_call (as := [(.bor (.py ((eL eI) script)))]) k12_1 (ts_cons (t_vb rfl) ts_nil) rfl rfl (j_law_places_B script) (fun _ => rfl)) (fun n => ⟨_, rfl⟩) (fun _ => rfl) fun places => ?_
  refine js_setM (R := fun (v : List (Int × Int)) => (.own (.py ((eL (eP eI eI)) v)))) (ρ' := fun (pairs : List (Int × Int)) => [(.bor (.py ((eL eI) script))), (cI places), (.own (.py ((eL (eP eI eI)) pairs))), .und, .und, .und, .und, .und, .und, .und, .und]) (jv_call (as := [(.bor (.py ((eL eI) script))), (cI places)]) k12_2 (ts_cons (t_vb rfl) (ts_cons (t_v rfl) ts_nil)) rfl rfl (j_law_pairs_BF script places) (fun _ => rfl)) (fun n => ⟨_, rfl⟩) (fun _ => rfl) fun pairs => ?_
  refine js_gh (ρ' := [(.bor (.py ((eL eI) script))), (cI places), (.fro (.py ((eL (eP eI eI)) pairs))), .und, .und, .und, .und, .und, .und, .und, .und]) rfl ?_
  refine js_setM (R := fun (v : WebT) => (.own (xW v))) (ρ' := fun (web : WebT) => [(.bor (.py ((eL eI) script))), (cI places), (.fro (.py ((eL (eP eI eI)) pairs))), (.own (xW web)), .und, .und, .und, .und, .und, .und, .und]) (jv_mk (as := [(cI places), (.fro (.py ((eL (eP eI eI)) pairs)))]) (R := xW) k12_i0 (ts_cons (t_v rfl) (ts_cons (t_v rfl) ts_nil)) rfl rfl (j_Web places pairs)) (fun n => ⟨_, rfl⟩) (fun _ => rfl) fun web => ?_
  refine js_gh (ρ' := [(.bor (.py ((eL eI) script))), (cI places), (.fro (.py ((eL (eP eI eI)) pairs))), (.fro (xW web)), .und, .und, .und, .und, .und, .und, .und]) rfl ?_
  refine focusSI (it := (.rng (.one (.bi .min2 (.cons (.int 6) (.cons (.op .add (.int 1) (.bi .len (.cons (.v 0) .nil))) .nil)))))) (g := cI) (lk := .no) (ρL := [(.bor (.py ((eL eI) script))), (cI places), (.fro (.py ((eL (eP eI eI)) pairs))), (.fro (xW web)), .und, .und, .und, .und, .und, .und, .und]) (ji_rng (tr_one (t_bi (ts_cons t_int (ts_cons (t_add t_int (t_bi (ts_cons (t_vb rfl) ts_nil) (bi_lenL (e := eI) (xs := script) rfl))) ts_nil)) bi_min2E))) (fun n z => (er_for z)) (fun n => ⟨_, rfl⟩) fun t9 h10 => ?_
  refine js_forR (xs := t9) (g := cI) (E := fun (s7 : Unit) => [(.bor (.py ((eL eI) script))), (cI places), (.fro (.py ((eL (eP eI eI)) pairs))), (.fro (xW web)), .und, .und, .und, .und, .und, .und, .und]) (s0 := ()) (Eb := fun (s7 : Unit) (k : Int) => [(.bor (.py ((eL eI) script))), (cI places), (.fro (.py ((eL (eP eI eI)) pairs))), (.fro (xW web)), (cI k), .und, .und, .und, .und, .und, .und]) (k2 := fun w => w) h10 rfl (fun _ _ => rfl) (fun s7 k => ?_) (fun _ _ h => Or.inl h) fun s8 => ?_
  · refine focusS (e1 := (.call 0 [0, 0] (.cons (.v 0) (.cons (.v 4) .nil)))) (R1 := fun v => (cI v)) (jv_call (as := [(.bor (.py ((eL eI) script))), (cI k)]) k12_0 (ts_cons (t_vb rfl) (ts_cons (t_v rfl) ts_nil)) rfl rfl (j_law_cell_at_BF script k) (fun _ => rfl)) (fun n z => (er_set (er_op1 (er_op1 z)))) (fun n => ⟨_, rfl⟩) fun t11 h12 => ?_
    refine js_set (R := fun (v : Int) => (cI v)) (v := ((t11 / 7) + (11 * k))) (ρ' := fun (cell : Int) => [(.bor (.py ((eL eI) script))), (cI places), (.fro (.py ((eL (eP eI eI)) pairs))), (.fro (xW web)), (cI k), (cI cell), .und, .und, .und, .und, .und]) (t_add (t_fdiv (by decide) h12 t_int) (t_mul (.inl (by decide)) t_int (t_v rfl))) (fun _ => rfl) fun cell => ?_
    refine js_setM (R := fun (v : Int) => (cI v)) (ρ' := fun (one : Int) => [(.bor (.py ((eL eI) script))), (cI places), (.fro (.py ((eL (eP eI eI)) pairs))), (.fro (xW web)), (cI k), (cI cell), (cI one), .und, .und, .und, .und]) (jv_mod (t_v rfl) (t_v rfl)) (fun n => ⟨_, rfl⟩) (fun _ => rfl) fun one => ?_
    refine focusS (e1 := (.op .fdiv (.v 5) (.v 1))) (R1 := fun v => (cI v)) (jv_fdiv (t_v rfl) (t_v rfl)) (fun n z => (er_set (er_op1 z))) (fun n => ⟨_, rfl⟩) fun t15 h16 => ?_
    refine js_setM (R := fun (v : Int) => (cI v)) (ρ' := fun (other : Int) => [(.bor (.py ((eL eI) script))), (cI places), (.fro (.py ((eL (eP eI eI)) pairs))), (.fro (xW web)), (cI k), (cI cell), (cI one), (cI other), .und, .und, .und]) (jv_mod h16 (t_v rfl)) (fun n => ⟨_, rfl⟩) (fun _ => rfl) fun other => ?_
    refine js_setM (R := fun (v : List (Int × Int)) => (.own (xK kI eI v))) (ρ' := fun (far : List (Int × Int)) => [(.bor (.py ((eL eI) script))), (cI places), (.fro (.py ((eL (eP eI eI)) pairs))), (.fro (xW web)), (cI k), (cI cell), (cI one), (cI other), (.own (xK kI eI far)), .und, .und]) (jv_call (as := [(.fro (.py ((eL (eP eI eI)) pairs))), (cI other)]) k12_4 (ts_cons (t_v rfl) (ts_cons (t_v rfl) ts_nil)) rfl rfl (j_law_steps pairs other) (fun _ => rfl)) (fun n => ⟨_, rfl⟩) (fun _ => rfl) fun far => ?_
    refine js_gh (ρ' := [(.bor (.py ((eL eI) script))), (cI places), (.fro (.py ((eL (eP eI eI)) pairs))), (.fro (xW web)), (cI k), (cI cell), (cI one), (cI other), (.fro (xK kI eI far)), .und, .und]) rfl ?_
    refine js_setQ (R := fun (q : List Int) => (.own (.py ((eL eI) q)))) (ρn := [(.bor (.py ((eL eI) script))), (cI places), (.fro (.py ((eL (eP eI eI)) pairs))), (.fro (xW web)), (cI k), (cI cell), (cI one), (cI other), (.fro (xK kI eI far)), (.fro (.py .none)), .und]) (ρs := fun (found : List Int) => [(.bor (.py ((eL eI) script))), (cI places), (.fro (.py ((eL (eP eI eI)) pairs))), (.fro (xW web)), (cI k), (cI cell), (cI one), (cI other), (.fro (xK kI eI far)), (.own (.py ((eL eI) found))), .und]) (jv_call (as := [(.fro (xW web)), (cI one), (cI other)]) k12_8 (ts_cons (t_v rfl) (ts_cons (t_v rfl) (ts_cons (t_v rfl) ts_nil))) rfl rfl (j_way_between web one other) (resC_Q fun _ => rfl)) (fun n => ⟨_, rfl⟩) rfl (fun _ => rfl) (fun found => ?_) ?_
    · refine js_ifl (z := !dhas far one) (t_cm (t_v rfl) (t_v rfl) (cm_ninK (e := eI) (ek := kI) (ev := eI) (k := one) (kvs := far) rfl rfl)) ?_ ?_
      · refine js_ifl (z := true) (t_isn (t_vo rfl) rfl) ?_ ?_
        · exact js_retR (v := false) t_bl rfl ⟨rfl, rfl⟩
        · refine js_gh (ρ' := [(.bor (.py ((eL eI) script))), (cI places), (.fro (.py ((eL (eP eI eI)) pairs))), (.fro (xW web)), .und, .und, .und, .und, .und, .und, .und]) rfl ?_
          exact js_nilR rfl
      · refine focusS (e1 := (.or (.not (.isi true (.v 9) [.ty "list"])) (.not (.bi .all (.cons (.lc [10] (.nm 10) (.of (.v 9)) .no (.call 9 [0] (.cons (.v 10) .nil))) .nil))))) (R1 := fun v => (cB v)) (jv_or (t_not (t_isi (t_vo rfl) (by simp))) (by refine focusV (e1 := (.lc [10] (.nm 10) (.of (.v 9)) .no (.call 9 [0] (.cons (.v 10) .nil)))) (R1 := fun v => (.own (.py ((eL eB) v)))) (jv_lc (lk := (.at 9 (.py ((eL eI) found)) true)) (g := (fun v => (cI v))) (ρw := [(.bor (.py ((eL eI) script))), (cI places), (.fro (.py ((eL (eP eI eI)) pairs))), (.fro (xW web)), (cI k), (cI cell), (cI one), (cI other), (.fro (xK kI eI far)), (.lkd (.py ((eL eI) found))), .und]) (ρb := fun (place : Int) => [(.bor (.py ((eL eI) script))), (cI places), (.fro (.py ((eL (eP eI eI)) pairs))), (.fro (xW web)), (cI k), (cI cell), (cI one), (cI other), (.fro (xK kI eI far)), (.lkd (.py ((eL eI) found))), (cI place)]) (u := fun (place : Int) => .ok true) (f := fun (place : Int) => p_law_whole place) (en := eB) (R := fun (v : Bool) => (cB v)) (it_of (e := eI) (xs := found) (g := (fun v => (cI v))) (t_vo rfl) rfl rfl (fun _ => rfl)) rfl rfl rfl (fun _ => rfl) (fun (place : Int) => tc_no) (fun (place : Int) => (jv_call (as := [(cI place)]) k12_9 (ts_cons (t_v rfl) ts_nil) rfl rfl (j_law_whole place) (fun _ => rfl))) (fun _ _ => rfl) (fun _ => rfl) rfl rfl) (fun n z => (er_not (er_bi (er_s1 z)))) fun t25 h26 => ?_; exact jv_ok (t_not (t_bi (ts_cons h26 ts_nil) (bi_allE rfl))))) (fun n z => (er_if z)) (fun n => ⟨_, rfl⟩) fun t27 h28 => ?_
        refine js_ifx (z := t27) h28 ?_ hp_tr hq_any ?_
        · exact js_retX (v := false) t_bl rfl ⟨rfl, rfl⟩
        · refine focusS (e1 := (.call 10 [0, 0, 0] (.cons (.v 2) (.cons (.v 8) (.cons (.v 6) .nil))))) (R1 := fun v => (.own (.py ((eL eI) v)))) (jv_call (as := [(.fro (.py ((eL (eP eI eI)) pairs))), (.fro (xK kI eI far)), (cI one)]) k12_10 (ts_cons (t_v rfl) (ts_cons (t_v rfl) (ts_cons (t_v rfl) ts_nil))) rfl rfl (j_law_first pairs far one) (fun _ => rfl)) (fun n z => (er_if (er_or (er_cm2 (t_vo rfl) z)))) (fun n => ⟨_, rfl⟩) fun t29 h30 => ?_
          refine focusS (e1 := (.or (.cm .ne (.v 9) (.call 10 [0, 0, 0] (.cons (.v 2) (.cons (.v 8) (.cons (.v 6) .nil))))) (.cm .ne (.bi .len (.cons (.v 9) .nil)) (.op .add (.ix (.v 8) (.v 6)) (.int 1))))) (R1 := fun v => (cB v)) (jv_or (t_cm (t_vo rfl) h30 (cm_ne (e := (eL eI)) (u := found) (v := t29) (by decide) rfl rfl)) (by refine focusV (e1 := (.ix (.v 8) (.v 6))) (R1 := fun v => (cI v)) (jv_ixK (e := eI) (ek := kI) (ev := eI) (k := one) (kvs := far) (t_v rfl) rfl (t_v rfl) rfl (fun _ => rfl)) (fun n z => (er_cm2 (t_bi (ts_cons (t_vo rfl) ts_nil) (bi_lenL (e := eI) (xs := found) rfl)) (er_op1 z))) fun t31 h32 => ?_; exact jv_ok (t_cm (t_bi (ts_cons (t_vo rfl) ts_nil) (bi_lenL (e := eI) (xs := found) rfl)) (t_add h32 t_int) (cm_ne (e := eI) (u := (found.length : Int)) (v := (t31 + 1)) (by decide) rfl rfl)))) (fun n z => (er_if z)) (fun n => ⟨_, rfl⟩) fun t33 h34 => ?_
          refine js_ifx (z := t33) h34 ?_ hp_tr hq_any ?_
          · exact js_retX (v := false) t_bl rfl ⟨rfl, rfl⟩
          · refine js_push (en := eI) (xs := found) (v := 0) (ρ' := fun (found : List Int) => [(.bor (.py ((eL eI) script))), (cI places), (.fro (.py ((eL (eP eI eI)) pairs))), (.fro (xW web)), (cI k), (cI cell), (cI one), (cI other), (.fro (xK kI eI far)), (.own (.py ((eL eI) found))), .und]) rfl (ts_cons t_int ts_nil) rfl (fun _ => rfl) fun found => ?_
            refine focusS (e1 := (.call 8 [0, 0, 0] (.cons (.v 3) (.cons (.v 6) (.cons (.v 7) .nil))))) (R1 := fun v => (cQ (fun q => (.own (.py ((eL eI) q)))) v)) (jv_call (as := [(.fro (xW web)), (cI one), (cI other)]) k12_8 (ts_cons (t_v rfl) (ts_cons (t_v rfl) (ts_cons (t_v rfl) ts_nil))) rfl rfl (j_way_between web one other) (resC_Q fun _ => rfl)) (fun n z => (er_if (er_cm1 z))) (fun n => ⟨_, rfl⟩) fun t35 h36 => ?_
            refine focusS (e1 := (.call 10 [0, 0, 0] (.cons (.v 2) (.cons (.v 8) (.cons (.v 6) .nil))))) (R1 := fun v => (.own (.py ((eL eI) v)))) (jv_call (as := [(.fro (.py ((eL (eP eI eI)) pairs))), (.fro (xK kI eI far)), (cI one)]) k12_10 (ts_cons (t_v rfl) (ts_cons (t_v rfl) (ts_cons (t_v rfl) ts_nil))) rfl rfl (j_law_first pairs far one) (fun _ => rfl)) (fun n z => (er_if (er_cm2 h36 z))) (fun n => ⟨_, rfl⟩) fun t37 h38 => ?_
            refine js_ifl (z := !decide (t35 = (some t37))) (t_cm h36 h38 (cm_ne (e := (eO (eL eI))) (u := t35) (v := (some t37)) (by decide) (lk_Q (fun _ => rfl) _) rfl)) ?_ ?_
            · exact js_retR (v := false) t_bl rfl ⟨rfl, rfl⟩
            · refine js_gh (ρ' := [(.bor (.py ((eL eI) script))), (cI places), (.fro (.py ((eL (eP eI eI)) pairs))), (.fro (xW web)), .und, .und, .und, .und, .und, .und, .und]) rfl ?_
              exact js_nilR rfl
    · refine js_ifl (z := !dhas far one) (t_cm (t_v rfl) (t_v rfl) (cm_ninK (e := eI) (ek := kI) (ev := eI) (k := one) (kvs := far) rfl rfl)) ?_ ?_
      · refine js_ifl (z := false) (t_isn (t_v rfl) rfl) ?_ ?_
        · exact js_retR (v := false) t_bl rfl ⟨rfl, rfl⟩
        · refine js_gh (ρ' := [(.bor (.py ((eL eI) script))), (cI places), (.fro (.py ((eL (eP eI eI)) pairs))), (.fro (xW web)), .und, .und, .und, .und, .und, .und, .und]) rfl ?_
          exact js_nilR rfl
      · refine focusS (e1 := (.or (.not (.isi true (.v 9) [.ty "list"])) (.not (.bi .all (.cons (.lc [10] (.nm 10) (.of (.v 9)) .no (.call 9 [0] (.cons (.v 10) .nil))) .nil))))) (R1 := fun v => (cB v)) (jv_or (t_not (t_isi (t_v rfl) (by simp))) (by exact trivial)) (fun n z => (er_if z)) (fun n => ⟨_, rfl⟩) fun t39 h40 => ?_
        refine js_ifx (z := t39) h40 ?_ hp_tr hq_any ?_
        · exact js_retX (v := false) t_bl rfl ⟨rfl, rfl⟩
        · refine focusS (e1 := (.call 10 [0, 0, 0] (.cons (.v 2) (.cons (.v 8) (.cons (.v 6) .nil))))) (R1 := fun v => (.own (.py ((eL eI) v)))) (jv_call (as := [(.fro (.py ((eL (eP eI eI)) pairs))), (.fro (xK kI eI far)), (cI one)]) k12_10 (ts_cons (t_v rfl) (ts_cons (t_v rfl) (ts_cons (t_v rfl) ts_nil))) rfl rfl (j_law_first pairs far one) (fun _ => rfl)) (fun n z => (er_if (er_or (er_cm2 (t_v rfl) z)))) (fun n => ⟨_, rfl⟩) fun t41 h42 => ?_
          refine focusS (e1 := (.or (.cm .ne (.v 9) (.call 10 [0, 0, 0] (.cons (.v 2) (.cons (.v 8) (.cons (.v 6) .nil))))) (.cm .ne (.bi .len (.cons (.v 9) .nil)) (.op .add (.ix (.v 8) (.v 6)) (.int 1))))) (R1 := fun v => (cB v)) (jv_or (t_cm (t_v rfl) h42 (cm_ne (e := (eO (eL eI))) (u := (none : Option (List Int))) (v := (some t41)) (by decide) rfl rfl)) (by exact trivial)) (fun n z => (er_if z)) (fun n => ⟨_, rfl⟩) fun t43 h44 => ?_
          refine js_ifx (z := t43) h44 ?_ hp_tr hq_any ?_
          · exact js_retX (v := false) t_bl rfl ⟨rfl, rfl⟩
          · exact trivial
  exact rx_rt (js_ret (v := true) t_bl rfl ⟨rfl, rfl⟩)

end GrLaw

set_option Elab.async false
set_option linter.all false
set_option maxRecDepth 100000
set_option maxHeartbeats 4000000
namespace Gr
open PySem L2
/-! ### webs -/
def Tied (w : WebT) (a b : Int) : Prop := (a, b) ∈ w.ties ∨ (b, a) ∈ w.ties
theorem Tied.symm {w : WebT} {a b : Int} (h : Tied w a b) : Tied w b a := Or.symm h
structure Wb (w : WebT) (n : Nat) : Prop where
  pl : w.places = n
  n1 : 1 ≤ n
  n60 : n ≤ 60
  ti : ∀ t ∈ w.ties, 0 ≤ t.1 ∧ t.1 < t.2 ∧ t.2 < n
  nd : w.ties.Nodup
  srt : w.ties.Pairwise fun a b => le2 a b = true
  len : w.ties.length ≤ 4000
section
variable {w : WebT} {n : Nat} {a b p : Int}
theorem Wb.inn (h : Wb w n) (t : Tied w a b) : 0 ≤ a ∧ a < n ∧ 0 ≤ b ∧ b < n ∧ a ≠ b := by
  rcases t with t | t
  · have := h.ti _ t; simp only at this; omega
  · have := h.ti _ t; simp only at this; omega
/-- a web made of ties, each once -/
theorem web_make {n : Nat} (h1 : 1 ≤ n) (h2 : n ≤ 60) {ps : List (Int × Int)} (ht : Ties (n : Int) ps) (hl : ps.length ≤ 4000) : p_Web (n : Int) ps = .ok ⟨n, srt2 (ps.map lo2)⟩ ∧ Wb ⟨n, srt2 (ps.map lo2)⟩ n := by
  obtain ⟨hi, hn⟩ := ht
  refine ⟨?_, rfl, h1, h2, ?_, ?_, srt2_le _, ?_⟩
  · unfold p_Web
    rw [if_neg (by simp; omega)]
    simp only [lett_eq]
    have hf := fldM_inv (I := fun pre (s : List (Int × Int)) => s = pre.map lo2) (f := fun (s1 : List (Int × Int)) (v3 : Int × Int) =>
      if (decide (v3.1 = v3.2) || (decide ((min2 v3.1 v3.2) < 0) || (decide ((n : Int) ≤ max2 v3.1 v3.2) || isIn (min2 v3.1 v3.2, max2 v3.1 v3.2) s1))) then M.err 2 else bnd (pushM s1 (min2 v3.1 v3.2, max2 v3.1 v3.2)) fun found => .ok found) (xs := ps) (s0 := []) rfl (fun pre x post s e hs => by
        subst hs
        have hx := hi x (by rw [e]; simp)
        have hlo : lo2 x = (min2 x.1 x.2, max2 x.1 x.2) := by unfold lo2 min2 max2; rfl
        have hnot : lo2 x ∉ pre.map lo2 := by
          rw [e, List.map_append, List.map_cons] at hn
          intro z
          exact (List.nodup_append.mp hn).2.2 _ z _ List.mem_cons_self rfl
        have hpl : (pre.map lo2).length < 1000000 := by
          have := congrArg List.length e
          rw [List.length_append, List.length_cons] at this
          rw [List.length_map]; omega
        rw [← hlo]
        refine ⟨pre.map lo2 ++ [lo2 x], ?_, by rw [List.map_append]; rfl⟩
        have h0 : ¬ (min2 x.1 x.2 < 0) := by unfold min2; split <;> omega
        have h3 : ¬ ((n : Int) ≤ max2 x.1 x.2) := by unfold max2; split <;> omega
        rw [if_neg (by simp [hx.1, h0, h3, hnot]), pushM_ok hpl]; rfl)
    obtain ⟨s, hs, rfl⟩ := hf
    rw [hs, bnd_ok, srtBy_P]
  · intro t ht
    have := (srt2_perm _).mem_iff.mp ht
    obtain ⟨x, hx, rfl⟩ := List.mem_map.mp this
    have := hi x hx
    unfold lo2
    simp only
    split <;> split <;> omega
  · exact (srt2_perm _).nodup_iff.mpr hn
  · show (srt2 _).length ≤ _
    rw [(srt2_perm _).length_eq, List.length_map]; exact hl
theorem tied_make {n : Int} {ps : List (Int × Int)} (hi : ∀ x ∈ ps, x.1 ≠ x.2) : Tied ⟨n, srt2 (ps.map lo2)⟩ a b ↔ (a, b) ∈ ps ∨ (b, a) ∈ ps := by
  have key : ∀ x y : Int, (x, y) ∈ srt2 (ps.map lo2) ↔ x < y ∧ ((x, y) ∈ ps ∨ (y, x) ∈ ps) := fun x y => by
    rw [(srt2_perm _).mem_iff, List.mem_map]
    constructor
    · rintro ⟨⟨u, v⟩, hz, e⟩
      have := hi _ hz
      unfold lo2 at e
      simp only [Prod.mk.injEq] at e this
      by_cases h : v < u
      · rw [if_pos h, if_neg (by omega)] at e
        obtain ⟨rfl, rfl⟩ := e
        exact ⟨h, .inr hz⟩
      · rw [if_neg h, if_pos (by omega)] at e
        obtain ⟨rfl, rfl⟩ := e
        exact ⟨by omega, .inl hz⟩
    · rintro ⟨h, hz | hz⟩
      · exact ⟨_, hz, by unfold lo2; simp only; rw [if_neg (by omega), if_pos (by omega)]⟩
      · exact ⟨_, hz, by unfold lo2; simp only; rw [if_pos (by omega), if_neg (by omega)]⟩
  unfold Tied
  simp only [key]
  constructor
  · rintro (⟨_, h⟩ | ⟨_, h⟩)
    · exact h
    · exact h.symm
  · intro h
    have : a ≠ b := by rcases h with h | h <;> have := hi _ h <;> simp only at this <;> omega
    rcases Int.lt_or_gt_of_ne this with z | z
    · exact .inl ⟨z, h⟩
    · exact .inr ⟨z, h.symm⟩
theorem look_ok (h : Wb w n) (h0 : 0 ≤ p) (h1 : p < n) : p_look_at_place w p = .ok () := by
  unfold p_look_at_place
  rw [h.pl, if_neg (by simp; omega)]
theorem look_bad (h : Wb w n) (h0 : p < 0 ∨ n ≤ p) : p_look_at_place w p = .err 3 := by
  unfold p_look_at_place
  rw [h.pl, if_pos (by simp; omega)]
def nbOf (p : Int) (t : Int × Int) : Option Int := if t.1 = p then some t.2 else if t.2 = p then some t.1 else none
/-- the places near one, rising -/
def nearL (w : WebT) (p : Int) : List Int := srtBy eI (w.ties.filterMap (nbOf p))
theorem near_ok (h : Wb w n) (h0 : 0 ≤ p) (h1 : p < n) : p_near w p = .ok (nearL w p) := by
  unfold p_near
  rw [look_ok h h0 h1, bnd_ok, lett_eq]
  have hf := fldM_inv (I := fun pre (s : List Int) => s = pre.filterMap (nbOf p)) (f := fun (s3 : List Int) (v5 : Int × Int) =>
    if decide (v5.1 = p) then bnd (pushM s3 v5.2) fun found => M.ok found else if decide (v5.2 = p) then bnd (pushM s3 v5.1) fun found => .ok found else .ok s3) (xs := w.ties) (s0 := []) rfl (fun pre x post s e hs => by
      subst hs
      have hpl : (pre.filterMap (nbOf p)).length < 1000000 := by
        have := congrArg List.length e
        rw [List.length_append, List.length_cons] at this
        have := h.len
        have := List.length_filterMap_le (nbOf p) pre
        omega
      refine ⟨_, ?_, rfl⟩
      rw [List.filterMap_append]
      by_cases c1 : x.1 = p
      · have e1 : nbOf p x = some x.2 := if_pos c1
        rw [if_pos (decide_eq_true c1), pushM_ok hpl, bnd_ok, List.filterMap_cons_some e1]; rfl
      · by_cases c2 : x.2 = p
        · have e1 : nbOf p x = some x.1 := by unfold nbOf; rw [if_neg c1, if_pos c2]
          rw [if_neg (by simp [c1]), if_pos (decide_eq_true c2), pushM_ok hpl, bnd_ok, List.filterMap_cons_some e1]; rfl
        · have e1 : nbOf p x = none := by unfold nbOf; rw [if_neg c1, if_neg c2]
          rw [if_neg (by simp [c1]), if_neg (by simp [c2]), List.filterMap_cons_none e1]; simp)
  obtain ⟨s, hs, rfl⟩ := hf
  rw [hs]; rfl
theorem near_bad (h : Wb w n) (h0 : p < 0 ∨ n ≤ p) : p_near w p = .err 3 := by
  unfold p_near
  rw [look_bad h h0]; rfl
theorem mem_nearL {x : Int} : x ∈ nearL w p ↔ Tied w p x := by
  unfold nearL
  rw [mem_srtBy, List.mem_filterMap]
  constructor
  · rintro ⟨t, ht, e⟩
    unfold nbOf at e
    split at e
    · next c => cases e; left; rw [← c]; exact ht
    · split at e
      · next c => cases e; right; rw [← c]; exact ht
      · cases e
  · rintro (h | h)
    · exact ⟨_, h, if_pos rfl⟩
    · refine ⟨_, h, ?_⟩
      unfold nbOf
      simp only
      split
      · next c => subst c; rfl
      · simp
theorem nearL_lt (h : Wb w n) : (nearL w p).Pairwise (· < ·) := by
  refine srtI_lt ?_
  unfold List.Nodup
  rw [List.pairwise_filterMap]
  refine h.nd.imp_of_mem fun {s t} hs ht hne u hu v hv => ?_
  have h1 := h.ti _ hs
  have h2 := h.ti _ ht
  intro e
  subst e
  apply hne
  obtain ⟨s1, s2⟩ := s
  obtain ⟨t1, t2⟩ := t
  unfold nbOf at hu hv
  simp only at h1 h2 hu hv
  have fin : ∀ {a b c d : Int}, a = c → b = d → (a, b) = (c, d) := fun h h' => by rw [h, h']
  by_cases c1 : s1 = p
  · rw [if_pos c1] at hu
    have hu := Option.some.inj hu
    by_cases c2 : t1 = p
    · rw [if_pos c2] at hv
      have hv := Option.some.inj hv
      exact fin (by omega) (by omega)
    · rw [if_neg c2] at hv
      by_cases c3 : t2 = p
      · rw [if_pos c3] at hv
        have hv := Option.some.inj hv
        omega
      · rw [if_neg c3] at hv; cases hv
  · rw [if_neg c1] at hu
    by_cases c2 : s2 = p
    · rw [if_pos c2] at hu
      have hu := Option.some.inj hu
      by_cases c3 : t1 = p
      · rw [if_pos c3] at hv
        have hv := Option.some.inj hv
        omega
      · rw [if_neg c3] at hv
        by_cases c4 : t2 = p
        · rw [if_pos c4] at hv
          have hv := Option.some.inj hv
          exact fin (by omega) (by omega)
        · rw [if_neg c4] at hv; cases hv
    · rw [if_neg c2] at hu; cases hu
theorem nearL_len (h : Wb w n) : (nearL w p).length ≤ 4000 := by
  unfold nearL
  rw [srtBy_len]
  exact Nat.le_trans (List.length_filterMap_le _ _) h.len
end

end Gr
set_option Elab.async false
set_option linter.all false
set_option maxRecDepth 100000
set_option maxHeartbeats 4000000
namespace Gr
open PySem L2
/-! ### where a place comes from -/
/-- how the search stands: came, the line, the depths, how far it is done -/
structure Bf (w : WebT) (n : Nat) (o : Int) (came : List (Int × Int)) (dp : Int → Nat) (a : Nat) : Prop where
  nd : (dkeys came).Nodup
  inn : ∀ x ∈ dkeys came, 0 ≤ x ∧ x < n
  hd : ∃ tl, dkeys came = o :: tl
  zero : dget came o = some (-1) ∧ dp o = 0
  mono : (dkeys came).Pairwise fun x y => dp x ≤ dp y
  tree : ∀ pre x post, dkeys came = pre ++ x :: post → pre ≠ [] → ∃ p ∈ pre, dget came x = some p ∧ Tied w p x ∧ dp x = dp p + 1
  top : ∀ x, (dkeys came)[a]? = some x → ∀ z ∈ dkeys came, dp z ≤ dp x + 1
  done : ∀ x ∈ (dkeys came).take a, ∀ y, Tied w x y → y ∈ dkeys came ∧ dp y ≤ dp x + 1
section
variable {w : WebT} {n : Nat} {o : Int} {came : List (Int × Int)} {dp : Int → Nat} {a : Nat}
theorem Bf.cnt (B : Bf w n o came dp a) : (dkeys came).length ≤ n := by
  have := nodup_len B.nd B.inn
  omega
/-- a place more -/
theorem Bf.more (h : Wb w n) (B : Bf w n o came dp a) {x y : Int} (hx : (dkeys came)[a]? = some x) (ht : Tied w x y) (hy : y ∉ dkeys came) :
    ∃ dp', Bf w n o (came ++ [(y, x)]) dp' a ∧ (∀ z ∈ dkeys came, dp' z = dp z) ∧ dp' y = dp x + 1 := by
  have hxm : x ∈ dkeys came := List.mem_of_getElem? hx
  have top := B.top x hx
  have ne : ∀ z ∈ dkeys came, z ≠ y := fun z hz e => hy (by rw [← e]; exact hz)
  refine ⟨fun z => if z = y then dp x + 1 else dp z, ?_, fun z hz => if_neg (ne z hz), if_pos rfl⟩
  have old : ∀ z ∈ dkeys came, (if z = y then dp x + 1 else dp z) = dp z := fun z hz => if_neg (ne z hz)
  have ek : dkeys (came ++ [(y, x)]) = dkeys came ++ [y] := by unfold dkeys; simp
  have dg : ∀ z ∈ dkeys came, dget (came ++ [(y, x)]) z = dget came z := fun z hz => by
    rw [← dput_new hy, dget_put, if_neg (ne z hz)]
  obtain ⟨tl, htl⟩ := B.hd
  have ho : o ∈ dkeys came := by rw [htl]; exact List.mem_cons_self
  have hal : a < (dkeys came).length := (List.getElem?_eq_some_iff.mp hx).1
  refine ⟨?_, ?_, ?_, ?_, ?_, ?_, ?_, ?_⟩
  · rw [ek, List.nodup_append]
    exact ⟨B.nd, by simp, fun u hu v hv e => hy (by rw [List.mem_singleton.mp hv] at e; exact e ▸ hu)⟩
  · intro z hz
    rw [ek, List.mem_append, List.mem_singleton] at hz
    rcases hz with hz | rfl
    · exact B.inn z hz
    · have := h.inn ht; omega
  · exact ⟨tl ++ [y], by rw [ek, htl]; rfl⟩
  · exact ⟨by rw [dg o ho]; exact B.zero.1, by rw [old o ho]; exact B.zero.2⟩
  · rw [ek, List.pairwise_append]
    refine ⟨B.mono.imp_of_mem fun {u v} hu hv z => by simp only [old u hu, old v hv]; exact z, by simp, fun u hu v hv => ?_⟩
    rw [List.mem_singleton.mp hv, old u hu]
    simp only [if_true]
    exact top u hu
  · intro pre z post e hp
    rw [ek] at e
    by_cases hpost : post = []
    · subst hpost
      obtain ⟨e1, e2⟩ := List.append_inj' e (by simp)
      simp only [List.cons.injEq, and_true] at e2
      subst e2
      refine ⟨x, by rw [← e1]; exact hxm, ?_, ht, ?_⟩
      · rw [← dput_new hy, dget_put, if_pos rfl]
      · rw [old x hxm]; simp
    · have : ∃ post', post = post' ++ [y] ∧ dkeys came = pre ++ z :: post' := by
        have e3 := congrArg List.reverse e
        rcases List.eq_nil_or_concat post with h0 | ⟨l, b, h0⟩
        · exact absurd h0 hpost
        · rw [h0, List.concat_eq_append] at e ⊢
          have e4 : dkeys came ++ [y] = (pre ++ z :: l) ++ [b] := by rw [e]; simp
          obtain ⟨e5, e6⟩ := List.append_inj' e4 rfl
          simp only [List.cons.injEq, and_true] at e6
          exact ⟨l, by rw [e6], e5⟩
      obtain ⟨post', rfl, e2⟩ := this
      obtain ⟨p, p1, p2, p3, p4⟩ := B.tree pre z post' e2 hp
      have hz : z ∈ dkeys came := by rw [e2]; simp
      have hpm : p ∈ dkeys came := by rw [e2]; exact List.mem_append_left _ p1
      exact ⟨p, p1, by rw [dg z hz]; exact p2, p3, by rw [old z hz, old p hpm]; exact p4⟩
  · intro z hz u hu
    rw [ek, List.getElem?_append_left hal, hx] at hz
    cases hz
    rw [old x hxm]
    rw [ek, List.mem_append, List.mem_singleton] at hu
    rcases hu with hu | rfl
    · rw [old u hu]; exact top u hu
    · simp
  · intro z hz u hu
    rw [ek, List.take_append_of_le_length (by omega)] at hz
    obtain ⟨d1, d2⟩ := B.done z hz u hu
    have hzm := List.mem_of_mem_take hz
    exact ⟨by rw [ek]; exact List.mem_append_left _ d1, by rw [old u d1, old z hzm]; exact d2⟩
/-- what the search tells -/
theorem come_ok (h : Wb w n) (h0 : 0 ≤ o) (h1 : o < n) : ∃ came dp, p_come_from w o = .ok came ∧ Bf w n o came dp (dkeys came).length := by
  unfold p_come_from
  simp only [lett_eq]
  have start : Bf w n o [(o, -1)] (fun _ => 0) 0 := by
    refine ⟨by simp [dkeys], ?_, ⟨[], rfl⟩, ⟨by simp [dget], rfl⟩, by simp [dkeys], ?_, by simp, by simp⟩
    · intro x hx; simp [dkeys] at hx; omega
    · intro pre x post e hp
      have e : [o] = pre ++ x :: post := e
      cases pre with
      | nil => exact absurd rfl hp
      | cons u us => simp at e
  obtain ⟨s, hs, ⟨dp, e1, e2, B⟩, hc⟩ := whlM_inv (σ := List (Int × Int) × List Int × Int)
    (fun s => ∃ dp, s.2.1 = dkeys s.1 ∧ (0 ≤ s.2.2 ∧ s.2.2 ≤ (dkeys s.1).length) ∧ Bf w n o s.1 dp s.2.2.toNat) (fun s => 61 - s.2.2.toNat)
    (c := fun s1 => (.ok (decide (s1.2.2 < (s1.2.1.length : Int))))) (f := fun (s1 : (List (Int × Int)) × (List Int) × Int) =>
  bnd (idx s1.2.1 s1.2.2) fun (t5 : Int) =>
  bnd (p_near w t5) fun (t7 : List Int) =>
  bnd (fldM t7 (s1.1, s1.2.1) fun (s3 : (List (Int × Int)) × (List Int)) (place : Int) =>
  if !dhas s3.1 place then
  bnd (idx s3.2 s1.2.2) fun (t9 : Int) =>
  bnd (dputM s3.1 place t9) fun (came : List (Int × Int)) =>
  bnd (pushM s3.2 place) fun (line_ : List Int) =>
  .ok (came, line_)
  else
  .ok (s3.1, s3.2)) fun (s4 : (List (Int × Int)) × (List Int)) =>
  .ok (s4.1, s4.2, s1.2.2 + 1)) (fun s _ => ⟨_, rfl⟩) (fun s hI hcc => by
      obtain ⟨came, line, at_⟩ := s
      obtain ⟨dp, e1, e2, B⟩ := hI
      simp only at e1 e2 B hcc
      subst e1
      have hlt : at_ < ((dkeys came).length : Int) := by
        have := hcc
        injection this with q
        exact of_decide_eq_true q
      have ha : at_.toNat < (dkeys came).length := by omega
      obtain ⟨x, hx⟩ : ∃ x, (dkeys came)[at_.toNat]? = some x := ⟨_, List.getElem?_eq_getElem ha⟩
      have hxm : x ∈ dkeys came := List.mem_of_getElem? hx
      have hxi := B.inn x hxm
      simp only
      rw [idx_of e2.1 hx, bnd_ok, near_ok h hxi.1 hxi.2, bnd_ok]
      obtain ⟨s2, hs2, ⟨dp2, came2, rfl, B2, pk⟩, hnb⟩ : ∃ s2, fldM (nearL w x) (came, dkeys came) (fun (s3 : (List (Int × Int)) × (List Int)) (place : Int) =>
          if !dhas s3.1 place then
          bnd (idx s3.2 at_) fun (t9 : Int) =>
          bnd (dputM s3.1 place t9) fun (came : List (Int × Int)) =>
          bnd (pushM s3.2 place) fun (line_ : List Int) =>
          .ok (came, line_)
          else
          .ok (s3.1, s3.2)) = .ok s2 ∧ (∃ dp2 came2, s2 = (came2, dkeys came2) ∧ Bf w n o came2 dp2 at_.toNat ∧ ∃ more, dkeys came2 = dkeys came ++ more) ∧ ∀ y ∈ nearL w x, y ∈ dkeys s2.1 := by
        have := fldM_inv (I := fun pre (s : List (Int × Int) × List Int) => ∃ dp2 came2, s = (came2, dkeys came2) ∧ Bf w n o came2 dp2 at_.toNat ∧ (∃ more, dkeys came2 = dkeys came ++ more) ∧ ∀ y ∈ pre, y ∈ dkeys came2) (xs := nearL w x) (s0 := (came, dkeys came)) (f := fun (s3 : (List (Int × Int)) × (List Int)) (place : Int) =>
          if !dhas s3.1 place then
          bnd (idx s3.2 at_) fun (t9 : Int) =>
          bnd (dputM s3.1 place t9) fun (came : List (Int × Int)) =>
          bnd (pushM s3.2 place) fun (line_ : List Int) =>
          .ok (came, line_)
          else
          .ok (s3.1, s3.2)) ⟨dp, came, rfl, B, ⟨[], by simp⟩, by simp⟩ (fun pre y post s e hI => by
            obtain ⟨dp2, came2, rfl, B2, ⟨more, hm⟩, hpre⟩ := hI
            have hy : Tied w x y := mem_nearL.mp (by rw [e]; simp)
            have hx2 : (dkeys came2)[at_.toNat]? = some x := by rw [hm, List.getElem?_append_left ha]; exact hx
            simp only
            by_cases hin : y ∈ dkeys came2
            · rw [dhas_iff.mpr hin]
              refine ⟨_, rfl, dp2, came2, rfl, B2, ⟨more, hm⟩, fun u hu => ?_⟩
              rcases List.mem_append.mp hu with hu | hu
              · exact hpre u hu
              · rw [List.mem_singleton.mp hu]; exact hin
            · rw [dhas_not.mpr hin]
              obtain ⟨dp3, B3, _, _⟩ := B2.more h hx2 hy hin
              have hl := B2.cnt
              have hn := h.n60
              rw [dkeys_len] at hl
              have ek : dkeys (came2 ++ [(y, x)]) = dkeys came2 ++ [y] := by unfold dkeys; simp
              simp only [Bool.not_false, if_true]
              rw [idx_of e2.1 hx2, bnd_ok, dputM_ok (by omega), bnd_ok, pushM_ok (by rw [dkeys_len]; omega), bnd_ok, dput_new hin]
              refine ⟨_, rfl, dp3, _, by rw [ek], B3, ⟨more ++ [y], by rw [ek, hm, List.append_assoc]⟩, fun u hu => ?_⟩
              rw [ek]
              rcases List.mem_append.mp hu with hu | hu
              · exact List.mem_append_left _ (hpre u hu)
              · exact List.mem_append_right _ hu)
        obtain ⟨s2, g1, dp2, came2, g2, g3, g4, g5⟩ := this
        exact ⟨s2, g1, ⟨dp2, came2, g2, g3, g4⟩, by rw [g2]; exact g5⟩
      rw [hs2, bnd_ok]
      obtain ⟨more, hm⟩ := pk
      have hx2 : (dkeys came2)[at_.toNat]? = some x := by rw [hm, List.getElem?_append_left ha]; exact hx
      have ha2 : at_.toNat < (dkeys came2).length := by rw [hm, List.length_append]; omega
      have e3 : (at_ + 1).toNat = at_.toNat + 1 := by omega
      refine ⟨_, rfl, ⟨dp2, rfl, ⟨by simp only; omega, by simp only; omega⟩, ?_⟩, ?_⟩
      · simp only
        rw [e3]
        refine ⟨B2.nd, B2.inn, B2.hd, B2.zero, B2.mono, B2.tree, fun u hu z hz => ?_, fun u hu z hz => ?_⟩
        · have h3 := B2.top x hx2 z hz
          have hu3 := (List.getElem?_eq_some_iff.mp hu).1
          have := List.pairwise_iff_getElem.mp B2.mono at_.toNat (at_.toNat + 1) ha2 hu3 (by omega)
          rw [(List.getElem?_eq_some_iff.mp hu).2, (List.getElem?_eq_some_iff.mp hx2).2] at this
          omega
        · rw [List.take_add_one, hx2] at hu
          rcases List.mem_append.mp hu with hu | hu
          · exact B2.done u hu z hz
          · simp at hu
            subst hu
            have hzm := hnb z (mem_nearL.mpr hz)
            exact ⟨hzm, B2.top u hx2 z hzm⟩
      · simp only
        have := B.cnt
        have := h.n60
        omega) 1000000 ([(o, -1)], [o], 0) ⟨fun _ => 0, rfl, by simp [dkeys], start⟩ (by simp)
  obtain ⟨came, line, at_⟩ := s
  simp only at e1 e2 B hc
  refine ⟨came, dp, ?_, ?_⟩
  · rw [hs]; rfl
  · have : ¬ at_ < (line.length : Int) := by
      injection hc with q
      exact of_decide_eq_false q
    rw [e1] at this
    have : at_.toNat = (dkeys came).length := by omega
    rw [← this]; exact B
end

end Gr
set_option Elab.async false
set_option linter.all false
set_option maxRecDepth 100000
set_option maxHeartbeats 4000000
namespace Gr
open PySem L2
/-! ### what hangs together -/
inductive Reach (w : WebT) (o : Int) : Int → Prop where
  | refl : Reach w o o
  | step {x y : Int} : Reach w o x → Tied w x y → Reach w o y
section
variable {w : WebT} {n : Nat} {o : Int} {came : List (Int × Int)} {dp : Int → Nat}
theorem Reach.trans {x y z : Int} (h : Reach w x y) (h' : Reach w y z) : Reach w x z := by
  induction h' with
  | refl => exact h
  | step _ t ih => exact ih.step t
theorem Reach.symm {x y : Int} (h : Reach w x y) : Reach w y x := by
  induction h with
  | refl => exact .refl
  | step _ t ih => exact (Reach.refl.step t.symm).trans ih
theorem Reach.inn (h : Wb w n) {x y : Int} (hx : 0 ≤ x ∧ x < n) (r : Reach w x y) : 0 ≤ y ∧ y < n := by
  cases r with
  | refl => exact hx
  | step _ t => have := h.inn t; omega
theorem come_reach (B : Bf w n o came dp (dkeys came).length) {x : Int} : x ∈ dkeys came ↔ Reach w o x := by
  constructor
  · have : ∀ (k : Nat) (pre : List Int) (x : Int) (post : List Int), pre.length ≤ k → dkeys came = pre ++ x :: post → Reach w o x := by
      intro k
      induction k with
      | zero =>
        intro pre x post hk e
        obtain ⟨tl, ht⟩ := B.hd
        have : pre = [] := List.eq_nil_of_length_eq_zero (by omega)
        subst this
        rw [ht] at e
        cases e
        exact .refl
      | succ k ih =>
        intro pre x post hk e
        by_cases hp : pre = []
        · obtain ⟨tl, ht⟩ := B.hd
          subst hp
          rw [ht] at e
          cases e
          exact .refl
        · obtain ⟨p, p1, _, p3, _⟩ := B.tree pre x post e hp
          obtain ⟨a, b, rfl⟩ := List.append_of_mem p1
          refine (ih a p (b ++ x :: post) ?_ (by rw [e, List.append_assoc, List.cons_append])).step p3
          rw [List.length_append, List.length_cons] at hk
          omega
    intro hx
    obtain ⟨pre, post, e⟩ := List.append_of_mem hx
    exact this pre.length pre x post (Nat.le_refl _) e
  · intro r
    induction r with
    | refl => obtain ⟨tl, ht⟩ := B.hd; rw [ht]; exact List.mem_cons_self
    | step _ t ih => exact (B.done _ (by rw [List.take_length]; exact ih) _ t).1
/-- the part of o -/
def IsPart (w : WebT) (o : Int) (p : List Int) : Prop := p.Pairwise (· < ·) ∧ ∀ x, x ∈ p ↔ Reach w o x
theorem IsPart.eq {o o' : Int} {p q : List Int} (h : IsPart w o p) (h' : IsPart w o' q) (r : Reach w o o') : p = q :=
  lt_ext h.1 h'.1 fun x => by rw [h.2, h'.2]; exact ⟨fun z => r.symm.trans z, fun z => r.trans z⟩
theorem part_ok (h : Wb w n) (h0 : 0 ≤ o) (h1 : o < n) : ∃ came p, p_come_from w o = .ok came ∧ srtKM came = .ok p ∧ IsPart w o p := by
  obtain ⟨came, dp, hc, B⟩ := come_ok h h0 h1
  have hl := B.cnt
  have hn := h.n60
  rw [dkeys_len] at hl
  exact ⟨came, _, hc, if_pos (by omega), srtI_lt B.nd, fun x => by rw [mem_srtBy]; exact come_reach B⟩
end

end Gr
set_option Elab.async false
set_option linter.all false
set_option maxRecDepth 100000
set_option maxHeartbeats 4000000
namespace Gr
open PySem L2
/-! ### the cells -/
theorem cell_at (script : List Int) (k : Nat) : p_law_cell_at script (k : Int) = .ok (script[k]?.getD 0) := by
  unfold p_law_cell_at
  by_cases h : k < script.length
  · rw [if_pos (by simp; omega), idx_at (List.getElem?_eq_getElem h), List.getElem?_eq_getElem h]; rfl
  · rw [if_neg (by simp; omega), List.getElem?_eq_none (by omega)]; rfl
theorem cell_at0 (script : List Int) : p_law_cell_at script 0 = .ok (script[0]?.getD 0) := cell_at script 0

end Gr
set_option Elab.async false
set_option linter.all false
set_option maxRecDepth 100000
set_option maxHeartbeats 4000000
namespace Gr
open PySem L2
/-! ### places and pairs by the cells -/
theorem places_ok (script : List Int) : ∃ n : Nat, 1 ≤ n ∧ n ≤ 60 ∧ p_law_places script = .ok (n : Int) := by
  unfold p_law_places
  rw [cell_at0, bnd_ok]
  generalize script[0]?.getD 0 = h
  have e : h % 4 = 0 ∨ h % 4 = 1 ∨ h % 4 = 2 ∨ h % 4 = 3 := by omega
  have mk : ∀ x : Int, 0 ≤ x → x < 60 → ∃ n : Nat, 1 ≤ n ∧ n ≤ 60 ∧ (bnd (.ok x) fun t3 => M.ok (1 + t3)) = .ok (n : Int) := fun x h0 h1 => ⟨(1 + x).toNat, by omega, by omega, by rw [bnd_ok]; congr 1; omega⟩
  rcases e with e | e | e | e <;> rw [e]
  · rw [idx_0]; exact mk _ (by omega) (by omega)
  · rw [idx_1]; exact mk _ (by omega) (by omega)
  · rw [idx_2]; exact mk _ (by omega) (by omega)
  · rw [idx_3]; exact mk _ (by omega) (by omega)
theorem ties_snoc {n : Int} {ps : List (Int × Int)} {a b : Int} (h : Ties n ps) (ne : a ≠ b) (ha : 0 ≤ a ∧ a < n) (hb : 0 ≤ b ∧ b < n) (h1 : (a, b) ∉ ps) (h2 : (b, a) ∉ ps) : Ties n (ps ++ [(a, b)]) := by
  obtain ⟨hi, hn⟩ := h
  refine ⟨fun x hx => ?_, ?_⟩
  · rcases List.mem_append.mp hx with hx | hx
    · exact hi x hx
    · rw [List.mem_singleton.mp hx]; exact ⟨ne, ha.1, ha.2, hb.1, hb.2⟩
  · rw [List.map_append, List.nodup_append]
    refine ⟨hn, by simp, fun u hu v hv e => ?_⟩
    rw [List.map_cons, List.map_nil, List.mem_singleton] at hv
    subst hv
    obtain ⟨x, hx, rfl⟩ := List.mem_map.mp hu
    rcases lo2_eq e with rfl | rfl
    · exact h1 hx
    · exact h2 hx
theorem pairs_ok {script : List Int} (hs : script.length ≤ 63) {n : Nat} (h1 : 1 ≤ n) (h2 : n ≤ 60) : ∃ ps, p_law_pairs script (n : Int) = .ok ps ∧ Ties (n : Int) ps ∧ ps.length ≤ 126 := by
  unfold p_law_pairs
  simp only [lett_eq]
  have hcut : (cutZ script (some 1) (some 63)).length ≤ 63 := Nat.le_trans (cutZ_len _ _ _) hs
  have hf := fldM_inv (I := fun (pre : List Int) (s : List (Int × Int)) => Ties (n : Int) s ∧ s.length ≤ 2 * pre.length) (xs := cutZ script (some 1) (some 63)) (s0 := ([] : List (Int × Int))) (f := fun (s1 : List (Int × Int)) (cell : Int) =>
  bnd (rngM 0 2) fun (t5 : List Int) =>
  bnd (fldM t5 (s1, cell) fun (s3 : (List (Int × Int)) × Int) (turn : Int) =>
  bnd (modM s3.2 n) fun (one : Int) =>
  bnd (fdivM s3.2 n) fun (t9 : Int) =>
  bnd (modM t9 n) fun (other : Int) =>
  bnd (fdivM s3.2 n) fun (t13 : Int) =>
  bnd (fdivM t13 n) fun (cell : Int) =>
  if (!decide (one = other) && (!isIn (one, other) s3.1 && !isIn (other, one) s3.1)) then
  bnd (pushM s3.1 (one, other)) fun (pairs : List (Int × Int)) =>
  .ok (pairs, cell)
  else
  .ok (s3.1, cell)) fun (s4 : (List (Int × Int)) × Int) =>
  .ok s4.1) ⟨⟨by simp, by simp⟩, by simp⟩ (fun pre cell post s e hI => by
    obtain ⟨i1, i2⟩ := hI
    have hl := congrArg List.length e
    rw [List.length_append, List.length_cons] at hl
    rw [rngM_ok (by omega), bnd_ok]
    have hg := fldM_inv (I := fun (pre2 : List Int) (z : List (Int × Int) × Int) => Ties (n : Int) z.1 ∧ z.1.length ≤ s.length + pre2.length) (xs := upto 0 2) (s0 := (s, cell)) (f := fun (s3 : (List (Int × Int)) × Int) (turn : Int) =>
  bnd (modM s3.2 n) fun (one : Int) =>
  bnd (fdivM s3.2 n) fun (t9 : Int) =>
  bnd (modM t9 n) fun (other : Int) =>
  bnd (fdivM s3.2 n) fun (t13 : Int) =>
  bnd (fdivM t13 n) fun (cell : Int) =>
  if (!decide (one = other) && (!isIn (one, other) s3.1 && !isIn (other, one) s3.1)) then
  bnd (pushM s3.1 (one, other)) fun (pairs : List (Int × Int)) =>
  .ok (pairs, cell)
  else
  .ok (s3.1, cell)) ⟨i1, by simp⟩ (fun pre2 turn post2 z e2 hJ => by
      obtain ⟨z1, z2⟩ := z
      obtain ⟨j1, j2⟩ := hJ
      simp only at j1 j2 ⊢
      have hl2 := congrArg List.length e2
      rw [upto_len, List.length_append, List.length_cons] at hl2
      have m1 := Int.emod_nonneg z2 (show (n : Int) ≠ 0 by omega)
      have m2 := Int.emod_lt_of_pos z2 (show (0 : Int) < n by omega)
      have m3 := Int.emod_nonneg (z2 / n) (show (n : Int) ≠ 0 by omega)
      have m4 := Int.emod_lt_of_pos (z2 / n) (show (0 : Int) < n by omega)
      rw [modM_ok (by omega), bnd_ok, fdivM_ok (by omega) (by omega), bnd_ok, modM_ok (by omega), bnd_ok, bnd_ok, fdivM_ok (by omega) (by omega), bnd_ok]
      generalize z2 % (n : Int) = a at m1 m2 ⊢
      generalize z2 / (n : Int) % (n : Int) = b at m3 m4 ⊢
      by_cases hc : a ≠ b ∧ (a, b) ∉ z1 ∧ (b, a) ∉ z1
      · rw [if_pos (by simp [hc]), pushM_ok (by omega), bnd_ok]
        exact ⟨_, rfl, ties_snoc j1 hc.1 ⟨m1, m2⟩ ⟨m3, m4⟩ hc.2.1 hc.2.2, by simp only [List.length_append, List.length_singleton]; omega⟩
      · rw [if_neg (by simpa [isIn] using hc)]
        exact ⟨_, rfl, j1, by simp only [List.length_append, List.length_singleton]; omega⟩)
    obtain ⟨z, hz, z1, z2⟩ := hg
    rw [hz, bnd_ok]
    refine ⟨_, rfl, z1, ?_⟩
    rw [upto_len] at z2
    rw [List.length_append, List.length_singleton]
    omega)
  obtain ⟨s, hs2, i1, i2⟩ := hf
  exact ⟨s, by rw [hs2]; rfl, i1, by omega⟩

end Gr
set_option Elab.async false
set_option linter.all false
set_option maxRecDepth 100000
set_option maxHeartbeats 4000000
namespace Gr
open PySem L2
/-! ### what lies beside a place, by the pairs -/
structure Prs (w : WebT) (n : Nat) (ps : List (Int × Int)) : Prop where
  wb : Wb w n
  ti : Ties (n : Int) ps
  len : ps.length ≤ 4000
  eq : ∀ a b, Tied w a b ↔ (a, b) ∈ ps ∨ (b, a) ∈ ps
def bsd (ps : List (Int × Int)) (x : Int) : List Int := srtBy eI (((ps.filter fun q => decide (q.1 = x)).map fun q => q.2) ++ ((ps.filter fun q => decide (q.2 = x)).map fun q => q.1))
section
variable {w : WebT} {n : Nat} {ps : List (Int × Int)}
theorem Prs.mk' (h1 : 1 ≤ n) (h2 : n ≤ 60) (ht : Ties (n : Int) ps) (hl : ps.length ≤ 4000) : ∃ w, p_Web (n : Int) ps = .ok w ∧ Prs w n ps := by
  obtain ⟨hw, W⟩ := web_make h1 h2 ht hl
  exact ⟨_, hw, W, ht, hl, fun a b => tied_make fun x hx => (ht.1 x hx).1⟩
theorem mem_bsd {x y : Int} : y ∈ bsd ps x ↔ (x, y) ∈ ps ∨ (y, x) ∈ ps := by
  unfold bsd
  rw [mem_srtBy, List.mem_append]
  simp only [List.mem_map, List.mem_filter, decide_eq_true_eq, Prod.exists, exists_eq_right_right]
  constructor
  · rintro (⟨a, b, ⟨h1, rfl⟩, rfl⟩ | ⟨a, b, ⟨h1, rfl⟩, rfl⟩)
    · exact .inl h1
    · exact .inr h1
  · rintro (h1 | h1)
    · exact .inl ⟨_, _, ⟨h1, rfl⟩, rfl⟩
    · exact .inr ⟨_, _, ⟨h1, rfl⟩, rfl⟩
theorem bsd_lt {m : Int} (ht : Ties m ps) (x : Int) : (bsd ps x).Pairwise (· < ·) := by
  unfold bsd
  refine srtI_lt ?_
  have hnd := List.pairwise_map.mp ht.2
  rw [List.nodup_append]
  refine ⟨?_, ?_, ?_⟩
  · unfold List.Nodup
    rw [List.pairwise_map, List.pairwise_filter]
    refine hnd.imp_of_mem fun {a b} _ _ hne h1 h2 e => hne ?_
    have h1 := of_decide_eq_true h1
    have h2 := of_decide_eq_true h2
    rw [show a = b from Prod.ext (h1.trans h2.symm) e]
  · unfold List.Nodup
    rw [List.pairwise_map, List.pairwise_filter]
    refine hnd.imp_of_mem fun {a b} _ _ hne h1 h2 e => hne ?_
    have h1 := of_decide_eq_true h1
    have h2 := of_decide_eq_true h2
    rw [show a = b from Prod.ext e (h1.trans h2.symm)]
  · intro a ha b hb e
    simp only [List.mem_map, List.mem_filter, decide_eq_true_eq] at ha hb
    obtain ⟨u, ⟨u1, u2⟩, u3⟩ := ha
    obtain ⟨v, ⟨v1, v2⟩, v3⟩ := hb
    have hl2 : lo2 u = lo2 v := by
      rw [show v = (u.2, u.1) from Prod.ext (v3.trans (e.symm.trans u3.symm)) (v2.trans u2.symm), lo2_swap]
    obtain ⟨i, hi⟩ := List.getElem?_of_mem u1
    obtain ⟨j, hj⟩ := List.getElem?_of_mem v1
    have hi' : (ps.map lo2)[i]? = some (lo2 u) := by rw [List.getElem?_map, hi]; rfl
    have hj' : (ps.map lo2)[j]? = some (lo2 u) := by rw [List.getElem?_map, hj, hl2]; rfl
    have := (List.getElem?_inj (List.getElem?_eq_some_iff.mp hi').1 ht.2).mp (hi'.trans hj'.symm)
    subst this
    rw [hi] at hj
    cases hj
    exact (ht.1 u u1).1 (u2.trans v2.symm)
theorem beside_ok (h : Prs w n ps) (x : Int) : p_law_beside ps x = .ok (nearL w x) := by
  have e : bsd ps x = nearL w x := lt_ext (bsd_lt h.ti x) (nearL_lt h.wb) fun y => by rw [mem_bsd, mem_nearL, h.eq]
  rw [← e]
  unfold p_law_beside
  have f1 := List.length_filter_le (fun q : Int × Int => decide (q.1 = x)) ps
  have f2 := List.length_filter_le (fun q : Int × Int => decide (q.2 = x)) ps
  have := h.len
  rw [lcT_ok (by omega), bnd_ok, lcT_ok (by omega), bnd_ok, catM_ok (by rw [List.length_map, List.length_map]; omega)]; rfl
end

end Gr
set_option Elab.async false
set_option linter.all false
set_option maxRecDepth 100000
set_option maxHeartbeats 4000000
namespace Gr
open PySem L2
/-! ### how far the places lie, by the pairs -/
structure Far (w : WebT) (n : Nat) (o : Int) (far : List (Int × Int)) (dp : Int → Nat) : Prop where
  some : ∀ x, Reach w o x → dget far x = some (dp x : Int)
  none : ∀ x, ¬ Reach w o x → dget far x = none
theorem Far.has {w : WebT} {n : Nat} {o : Int} {far : List (Int × Int)} {dp : Int → Nat} (h : Far w n o far dp) (x : Int) : dhas far x = true ↔ Reach w o x := by
  rw [dhas_iff]
  by_cases r : Reach w o x
  · refine ⟨fun _ => r, fun _ => ?_⟩
    refine Classical.byContradiction fun z => ?_
    rw [← dget_none, h.some x r] at z
    cases z
  · refine ⟨fun z => ?_, fun z => absurd z r⟩
    exact absurd z (dget_none.mp (h.none x r))
/-- the depths are the lengths of the shortest ways -/
structure Dep (w : WebT) (n : Nat) (o : Int) (dp : Int → Nat) : Prop where
  zero : ∀ x, Reach w o x → (dp x = 0 ↔ x = o)
  near : ∀ x y, Reach w o x → Tied w x y → dp y ≤ dp x + 1
  pred : ∀ x, Reach w o x → x ≠ o → ∃ y, Tied w x y ∧ Reach w o y ∧ dp x = dp y + 1
  cap : ∀ x, Reach w o x → dp x < n
section
variable {w : WebT} {n : Nat} {o : Int} {ps came : List (Int × Int)} {dp dp' : Int → Nat}
theorem Bf.dp_le (B : Bf w n o came dp (dkeys came).length) : ∀ (k : Nat) (pre : List Int) (x : Int) (post : List Int), pre.length ≤ k → dkeys came = pre ++ x :: post → dp x ≤ pre.length := by
  intro k
  induction k with
  | zero =>
    intro pre x post hk e
    obtain ⟨tl, ht⟩ := B.hd
    have : pre = [] := List.eq_nil_of_length_eq_zero (by omega)
    subst this
    rw [ht] at e
    cases e
    rw [B.zero.2]; simp
  | succ k ih =>
    intro pre x post hk e
    by_cases hp : pre = []
    · obtain ⟨tl, ht⟩ := B.hd
      subst hp
      rw [ht] at e
      cases e
      rw [B.zero.2]; simp
    · obtain ⟨p, p1, _, _, p4⟩ := B.tree pre x post e hp
      obtain ⟨a, b, rfl⟩ := List.append_of_mem p1
      rw [List.length_append, List.length_cons] at hk
      have := ih a p (b ++ x :: post) (by omega) (by rw [e, List.append_assoc, List.cons_append])
      rw [p4, List.length_append, List.length_cons]
      omega
theorem Bf.dep (B : Bf w n o came dp (dkeys came).length) : Dep w n o dp := by
  have pr : ∀ x, Reach w o x → x ≠ o → ∃ y, Tied w x y ∧ Reach w o y ∧ dp x = dp y + 1 := fun x r ne => by
    have hx := (come_reach B).mpr r
    obtain ⟨pre, post, e⟩ := List.append_of_mem hx
    by_cases hp : pre = []
    · obtain ⟨tl, ht⟩ := B.hd
      subst hp
      rw [ht] at e
      cases e
      exact absurd rfl ne
    · obtain ⟨p, p1, _, p3, p4⟩ := B.tree pre x post e hp
      exact ⟨p, p3.symm, (come_reach B).mp (by rw [e]; exact List.mem_append_left _ p1), p4⟩
  refine ⟨fun x r => ⟨fun z => ?_, fun z => by rw [z]; exact B.zero.2⟩, fun x y r t => ?_, pr, fun x r => ?_⟩
  · refine Classical.byContradiction fun ne => ?_
    obtain ⟨y, _, _, e⟩ := pr x r ne
    omega
  · exact (B.done x (by rw [List.take_length]; exact (come_reach B).mpr r) y t).2
  · obtain ⟨pre, post, e⟩ := List.append_of_mem ((come_reach B).mpr r)
    have := B.dp_le _ pre x post (Nat.le_refl _) e
    have := B.cnt
    rw [e, List.length_append, List.length_cons] at this
    omega
/-- there is one such -/
theorem Dep.le (h : Dep w n o dp) (h' : Dep w n o dp') : ∀ (k : Nat) (x : Int), Reach w o x → dp' x ≤ k → dp x ≤ dp' x
  | 0, x, r, hk => by
    have : x = o := (h'.zero x r).mp (by omega)
    have := (h.zero x r).mpr this
    omega
  | k + 1, x, r, hk => by
    by_cases ne : x = o
    · have := (h.zero x r).mpr ne; omega
    · obtain ⟨y, t, ry, e⟩ := h'.pred x r ne
      have := Dep.le h h' k y ry (by omega)
      have := h.near y x ry t.symm
      omega
theorem Dep.eq (h : Dep w n o dp) (h' : Dep w n o dp') {x : Int} (r : Reach w o x) : dp x = dp' x :=
  Nat.le_antisymm (h.le h' _ x r (Nat.le_refl _)) (h'.le h _ x r (Nat.le_refl _))
theorem steps_ok (h : Prs w n ps) (h0 : 0 ≤ o) (h1 : o < n) : ∃ far dp, p_law_steps ps o = .ok far ∧ Dep w n o dp ∧ Far w n o far dp ∧ far.length ≤ n := by
  have W := h.wb
  unfold p_law_steps
  simp only [lett_eq]
  have start : Bf w n o [(o, -1)] (fun _ => 0) 0 := by
    refine ⟨by simp [dkeys], ?_, ⟨[], rfl⟩, ⟨by simp [dget], rfl⟩, by simp [dkeys], ?_, by simp, by simp⟩
    · intro x hx; simp [dkeys] at hx; omega
    · intro pre x post e hp
      have e : [o] = pre ++ x :: post := e
      cases pre with
      | nil => exact absurd rfl hp
      | cons u us => simp at e
  obtain ⟨s, hs, ⟨dp, came, e0, e1, ev, e2, B⟩, hc⟩ := whlM_inv (σ := List (Int × Int) × List Int × Int)
    (fun s => ∃ dp came, dkeys s.1 = dkeys came ∧ s.2.1 = dkeys came ∧ (∀ x ∈ dkeys came, dget s.1 x = some (dp x : Int)) ∧ (0 ≤ s.2.2 ∧ s.2.2 ≤ (dkeys came).length) ∧ Bf w n o came dp s.2.2.toNat) (fun s => 61 - s.2.2.toNat)
    (c := fun s1 => (.ok (decide (s1.2.2 < (s1.2.1.length : Int))))) (f := fun (s1 : (List (Int × Int)) × (List Int) × Int) =>
  bnd (idx s1.2.1 s1.2.2) fun (t5 : Int) =>
  bnd (p_law_beside ps t5) fun (t7 : List Int) =>
  bnd (fldM t7 (s1.1, s1.2.1) fun (s3 : (List (Int × Int)) × (List Int)) (place : Int) =>
  if !dhas s3.1 place then
  bnd (idx s3.2 s1.2.2) fun (t9 : Int) =>
  bnd (dgetM s3.1 t9) fun (t11 : Int) =>
  bnd (dputM s3.1 place (t11 + 1)) fun (far : List (Int × Int)) =>
  bnd (pushM s3.2 place) fun (line_ : List Int) =>
  .ok (far, line_)
  else
  .ok (s3.1, s3.2)) fun (s4 : (List (Int × Int)) × (List Int)) =>
  .ok (s4.1, s4.2, s1.2.2 + 1)) (fun s _ => ⟨_, rfl⟩) (fun s hI hcc => by
      obtain ⟨far, line, at_⟩ := s
      obtain ⟨dp, came, e0, e1, ev, e2, B⟩ := hI
      simp only at e0 e1 ev e2 B hcc
      subst e1
      have hlt : at_ < ((dkeys came).length : Int) := by
        have := hcc
        injection this with q
        exact of_decide_eq_true q
      have ha : at_.toNat < (dkeys came).length := by omega
      obtain ⟨x, hx⟩ : ∃ x, (dkeys came)[at_.toNat]? = some x := ⟨_, List.getElem?_eq_getElem ha⟩
      simp only
      rw [idx_of e2.1 hx, bnd_ok, beside_ok h, bnd_ok]
      have := fldM_inv (I := fun pre (s : List (Int × Int) × List Int) => ∃ dp2 came2, dkeys s.1 = dkeys came2 ∧ s.2 = dkeys came2 ∧ (∀ x ∈ dkeys came2, dget s.1 x = some (dp2 x : Int)) ∧ Bf w n o came2 dp2 at_.toNat ∧ (∃ more, dkeys came2 = dkeys came ++ more) ∧ ∀ y ∈ pre, y ∈ dkeys came2) (xs := nearL w x) (s0 := (far, dkeys came)) (f := fun (s3 : (List (Int × Int)) × (List Int)) (place : Int) =>
  if !dhas s3.1 place then
  bnd (idx s3.2 at_) fun (t9 : Int) =>
  bnd (dgetM s3.1 t9) fun (t11 : Int) =>
  bnd (dputM s3.1 place (t11 + 1)) fun (far : List (Int × Int)) =>
  bnd (pushM s3.2 place) fun (line_ : List Int) =>
  .ok (far, line_)
  else
  .ok (s3.1, s3.2)) ⟨dp, came, e0, rfl, ev, B, ⟨[], by simp⟩, by simp⟩ (fun pre y post s e hI => by
            obtain ⟨far2, line2⟩ := s
            obtain ⟨dp2, came2, f0, f1, fv, B2, ⟨more, hm⟩, hpre⟩ := hI
            simp only at f0 f1 fv
            subst f1
            have hy : Tied w x y := mem_nearL.mp (by rw [e]; simp)
            have hx2 : (dkeys came2)[at_.toNat]? = some x := by rw [hm, List.getElem?_append_left ha]; exact hx
            have hxm2 := List.mem_of_getElem? hx2
            simp only
            by_cases hin : y ∈ dkeys came2
            · rw [dhas_iff.mpr (by rw [f0]; exact hin)]
              refine ⟨_, rfl, dp2, came2, f0, rfl, fv, B2, ⟨more, hm⟩, fun u hu => ?_⟩
              rcases List.mem_append.mp hu with hu | hu
              · exact hpre u hu
              · rw [List.mem_singleton.mp hu]; exact hin
            · have hin2 : y ∉ dkeys far2 := by rw [f0]; exact hin
              rw [dhas_not.mpr hin2]
              obtain ⟨dp3, B3, b4, b5⟩ := B2.more W hx2 hy hin
              have hl := B2.cnt
              have hn := W.n60
              rw [dkeys_len] at hl
              have hl2 : far2.length ≤ n := by rw [← dkeys_len, f0, dkeys_len]; exact hl
              have ek : dkeys (came2 ++ [(y, x)]) = dkeys came2 ++ [y] := by unfold dkeys; simp
              simp only [Bool.not_false, if_true]
              rw [idx_of e2.1 hx2, bnd_ok, dgetM_ok (fv x hxm2), bnd_ok, dputM_ok (by omega), bnd_ok, pushM_ok (by rw [dkeys_len]; omega), bnd_ok]
              refine ⟨_, rfl, dp3, came2 ++ [(y, x)], ?_, by rw [ek], ?_, B3, ⟨more ++ [y], by rw [ek, hm, List.append_assoc]⟩, fun u hu => ?_⟩
              · rw [ek, dkeys_put, if_neg hin2, f0]
              · intro u hu
                simp only
                rw [dget_put]
                rw [ek, List.mem_append, List.mem_singleton] at hu
                by_cases eu : u = y
                · subst eu
                  rw [if_pos rfl, b5]; rfl
                · have hu := hu.resolve_right eu
                  rw [if_neg eu, fv u hu, b4 u hu]
              · rw [ek]
                rcases List.mem_append.mp hu with hu | hu
                · exact List.mem_append_left _ (hpre u hu)
                · exact List.mem_append_right _ hu)
      obtain ⟨⟨far2, line2⟩, hs2, dp2, came2, f0, f1, fv, B2, ⟨more, hm⟩, hnb⟩ := this
      simp only at f0 f1 fv
      subst f1
      rw [hs2, bnd_ok]
      have hx2 : (dkeys came2)[at_.toNat]? = some x := by rw [hm, List.getElem?_append_left ha]; exact hx
      have ha2 : at_.toNat < (dkeys came2).length := by rw [hm, List.length_append]; omega
      have e3 : (at_ + 1).toNat = at_.toNat + 1 := by omega
      refine ⟨_, rfl, ⟨dp2, came2, f0, rfl, fv, ⟨by simp only; omega, by simp only; omega⟩, ?_⟩, ?_⟩
      · simp only
        rw [e3]
        refine ⟨B2.nd, B2.inn, B2.hd, B2.zero, B2.mono, B2.tree, fun u hu z hz => ?_, fun u hu z hz => ?_⟩
        · have h3 := B2.top x hx2 z hz
          have hu3 := (List.getElem?_eq_some_iff.mp hu).1
          have := List.pairwise_iff_getElem.mp B2.mono at_.toNat (at_.toNat + 1) ha2 hu3 (by omega)
          rw [(List.getElem?_eq_some_iff.mp hu).2, (List.getElem?_eq_some_iff.mp hx2).2] at this
          omega
        · rw [List.take_add_one, hx2] at hu
          rcases List.mem_append.mp hu with hu | hu
          · exact B2.done u hu z hz
          · simp at hu
            subst hu
            have hzm := hnb z (mem_nearL.mpr hz)
            exact ⟨hzm, B2.top u hx2 z hzm⟩
      · simp only
        have := B.cnt
        have := W.n60
        omega) 1000000 ([(o, 0)], [o], 0) ⟨fun _ => 0, [(o, -1)], rfl, rfl, by simp [dkeys, dget], by simp [dkeys], start⟩ (by simp)
  obtain ⟨far, line, at_⟩ := s
  simp only at e0 e1 ev e2 B hc
  have : ¬ at_ < (line.length : Int) := by
    injection hc with q
    exact of_decide_eq_false q
  rw [e1] at this
  have ea : at_.toNat = (dkeys came).length := by omega
  rw [ea] at B
  refine ⟨far, dp, by rw [hs]; rfl, B.dep, ⟨fun x r => ev x ((come_reach B).mpr r), fun x r => dget_none.mpr fun z => r ((come_reach B).mp (by rw [← e0]; exact z))⟩, ?_⟩
  rw [← dkeys_len, e0]; exact B.cnt
end

end Gr
set_option Elab.async false
set_option linter.all false
set_option maxRecDepth 100000
set_option maxHeartbeats 4000000
namespace Gr
open PySem L2
/-! ### the first shortest way -/
def nxt (w : WebT) (dp : Int → Nat) (x : Int) : Int := ((nearL w x).filter fun y => decide ((dp y : Int) < (dp x : Int))).headD 0
def wayL (w : WebT) (dp : Int → Nat) : Nat → Int → List Int
  | 0, x => [x]
  | k + 1, x => x :: wayL w dp k (nxt w dp x)
section
variable {w : WebT} {n : Nat} {o : Int} {ps came : List (Int × Int)} {dp dp' : Int → Nat}
theorem near_reach {x y : Int} (r : Reach w o x) (h : y ∈ nearL w x) : Reach w o y := r.step (mem_nearL.mp h)
theorem nxt_ok (h : Dep w n o dp) {x : Int} (r : Reach w o x) (ne : x ≠ o) : ∃ l, (nearL w x).filter (fun y => decide ((dp y : Int) < (dp x : Int))) = nxt w dp x :: l ∧ Tied w x (nxt w dp x) ∧ Reach w o (nxt w dp x) ∧ dp x = dp (nxt w dp x) + 1 := by
  obtain ⟨y, t, ry, e⟩ := h.pred x r ne
  have hy : y ∈ (nearL w x).filter (fun y => decide ((dp y : Int) < (dp x : Int))) := List.mem_filter.mpr ⟨mem_nearL.mpr t, by simp; omega⟩
  unfold nxt
  cases q : (nearL w x).filter (fun y => decide ((dp y : Int) < (dp x : Int))) with
  | nil => rw [q] at hy; cases hy
  | cons a l =>
    have ha : a ∈ (nearL w x).filter (fun y => decide ((dp y : Int) < (dp x : Int))) := by rw [q]; exact List.mem_cons_self
    obtain ⟨a1, a2⟩ := List.mem_filter.mp ha
    have ta := mem_nearL.mp a1
    have ra := r.step ta
    have := h.near a x ra ta.symm
    simp at a2
    exact ⟨l, rfl, ta, ra, by show dp x = dp a + 1; omega⟩
theorem wayL_len : ∀ (k : Nat) (x : Int), (wayL w dp k x).length = k + 1
  | 0, x => rfl
  | k + 1, x => by unfold wayL; rw [List.length_cons, wayL_len k]
theorem nxt_congr (h : ∀ x, Reach w o x → dp x = dp' x) {x : Int} (r : Reach w o x) : nxt w dp x = nxt w dp' x := by
  unfold nxt
  congr 1
  refine List.filter_congr fun y hy => ?_
  rw [h x r, h y (near_reach r hy)]
theorem wayL_congr (hd : Dep w n o dp) (h : ∀ x, Reach w o x → dp x = dp' x) : ∀ (k : Nat) (x : Int), Reach w o x → k = dp x → wayL w dp k x = wayL w dp' k x
  | 0, x, r, e => rfl
  | k + 1, x, r, e => by
    have ne : x ≠ o := fun z => by have := (hd.zero x r).mpr z; omega
    obtain ⟨l, _, _, r2, e2⟩ := nxt_ok hd r ne
    unfold wayL
    rw [← nxt_congr h r, wayL_congr hd h k _ r2 (by omega)]
/-- the walk that tells the way -/
theorem way_loop (h : Dep w n o dp) (hn : n ≤ 60) {one : Int} (r : Reach w o one) {c : List Int → M Bool} {f : List Int → M (List Int)}
    (hc : ∀ pre x, Reach w o x → c (pre ++ [x]) = .ok (!decide (x = o)))
    (hf : ∀ pre x l, Reach w o x → (nearL w x).filter (fun y => decide ((dp y : Int) < (dp x : Int))) = nxt w dp x :: l → (pre ++ [x]).length < 100 → f (pre ++ [x]) = .ok (pre ++ [x] ++ [nxt w dp x])) :
    whlM 1000000 [one] c f = .ok (wayL w dp (dp one) one) := by
  have hcap := h.cap one r
  have := whlM_inv (σ := List Int) (fun s => ∃ pre x, s = pre ++ [x] ∧ Reach w o x ∧ pre ++ wayL w dp (dp x) x = wayL w dp (dp one) one ∧ pre.length + dp x = dp one) (fun s => dp (s.getLastD 0)) (c := c) (f := f) (fun s hI => by
      obtain ⟨pre, x, rfl, rx, _⟩ := hI
      exact ⟨_, hc pre x rx⟩) (fun s hI hcc => by
      obtain ⟨pre, x, rfl, rx, e1, e2⟩ := hI
      rw [hc pre x rx] at hcc
      have ne : x ≠ o := fun z => by rw [z] at hcc; simp at hcc
      obtain ⟨l, l1, _, r2, l3⟩ := nxt_ok h rx ne
      have ew : wayL w dp (dp x) x = x :: wayL w dp (dp (nxt w dp x)) (nxt w dp x) := by rw [l3]; rfl
      refine ⟨_, hf pre x l rx l1 (by rw [List.length_append, List.length_singleton]; omega), ⟨pre ++ [x], nxt w dp x, rfl, r2, ?_, ?_⟩, ?_⟩
      · rw [← e1, ew]; simp
      · rw [List.length_append, List.length_singleton]; omega
      · simp; omega) 1000000 [one] ⟨[], one, rfl, r, rfl, by simp⟩ (by simp; omega)
  obtain ⟨s, hs, ⟨pre, x, rfl, rx, e1, e2⟩, hcc⟩ := this
  rw [hc pre x rx] at hcc
  have ex : x = o := by simpa using hcc
  have e0 : dp x = 0 := (h.zero x rx).mpr ex
  rw [hs, ← e1, e0]; rfl
theorem way_between_ok (h : Wb w n) {one other : Int} (h0 : 0 ≤ one ∧ one < n) (h1 : 0 ≤ other ∧ other < n) :
    ∃ dp, Dep w n other dp ∧ ((Reach w other one ∧ p_way_between w one other = .ok (some (wayL w dp (dp one) one))) ∨ (¬ Reach w other one ∧ p_way_between w one other = .ok none)) := by
  obtain ⟨came, dp, hcame, B⟩ := come_ok h h1.1 h1.2
  have D := B.dep
  have hn := h.n60
  refine ⟨dp, D, ?_⟩
  unfold p_way_between
  rw [look_ok h h0.1 h0.2, bnd_ok, look_ok h h1.1 h1.2, bnd_ok, hcame, bnd_ok]
  by_cases r : Reach w other one
  · refine .inl ⟨r, ?_⟩
    rw [dhas_iff.mpr ((come_reach B).mpr r)]
    simp only [Bool.not_true, Bool.false_eq_true, if_false, lett_eq]
    have hf := fldM_inv (I := fun pre (s : List (Int × Int)) => (∀ x, x = other ∨ x ∈ pre → dget s x = some (dp x : Int)) ∧ s.length ≤ 1 + pre.length) (xs := dkeys came) (s0 := [(other, 0)]) (f := fun (s7 : List (Int × Int)) (place : Int) =>
  bnd (dgetM came place) fun (t9 : Int) =>
  if !decide (t9 = (-1)) then
  bnd (dgetM came place) fun (t11 : Int) =>
  bnd (dgetM s7 t11) fun (t13 : Int) =>
  bnd (dputM s7 place (t13 + 1)) fun (far : List (Int × Int)) =>
  .ok far
  else
  .ok s7) ⟨(by
      rintro x (rfl | z)
      · rw [B.zero.2]; simp [dget]
      · cases z), by simp⟩ (fun pre x post s e hI => by
      obtain ⟨i1, i2⟩ := hI
      have hl := congrArg List.length e
      have hcn := B.cnt
      rw [List.length_append, List.length_cons] at hl
      by_cases hp : pre = []
      · subst hp
        obtain ⟨tl, ht⟩ := B.hd
        rw [ht] at e
        cases e
        refine ⟨s, ?_, ?_, ?_⟩
        · rw [dgetM_ok B.zero.1, bnd_ok]; rfl
        · rintro x (z | z)
          · exact i1 x (.inl z)
          · simp at z; exact i1 x (.inl z)
        · simp only [List.length_append, List.length_nil, List.length_cons] at i2 ⊢; omega
      · obtain ⟨p, p1, p2, p3, p4⟩ := B.tree pre x post e hp
        have hpm : p ∈ dkeys came := by rw [e]; exact List.mem_append_left _ p1
        have hpi := B.inn p hpm
        rw [dgetM_ok p2, bnd_ok, if_pos (by simp; omega), bnd_ok, dgetM_ok (i1 p (.inr p1)), bnd_ok, dputM_ok (by omega), bnd_ok]
        refine ⟨_, rfl, fun y hy => ?_, ?_⟩
        · rw [dget_put]
          by_cases ey : y = x
          · subst ey; rw [if_pos rfl, p4]; rfl
          · rw [if_neg ey]
            refine i1 y ?_
            rcases hy with hy | hy
            · exact .inl hy
            · rcases List.mem_append.mp hy with hy | hy
              · exact .inr hy
              · exact absurd (List.mem_singleton.mp hy) ey
        · have := dput_len (kvs := s) (k := x) (v := (dp p : Int) + 1)
          rw [List.length_append, List.length_singleton]; omega)
    obtain ⟨far, hfar, i1, _⟩ := hf
    rw [hfar, noE_ok, bnd_ok]
    have fv : ∀ x, Reach w other x → dget far x = some (dp x : Int) := fun x rx => i1 x (.inr ((come_reach B).mpr rx))
    have hz : 0 ≤ other ∧ other < (n : Int) := h1
    rw [way_loop D hn r (fun pre x rx => by rw [idx_last, bnd_ok]) (fun pre x l rx hl hlen => by
      have hx := Reach.inn h h1 rx
      rw [idx_last, bnd_ok, near_ok h hx.1 hx.2, bnd_ok]
      have := nearL_len (p := x) h
      rw [lcM_ok (u := fun y => decide ((dp y : Int) < (dp x : Int))) (g := fun y => y) (by omega) (fun y hy => by
        rw [dgetM_ok (fv y (near_reach rx hy)), bnd_ok, bnd_ok, dgetM_ok (fv x rx), bnd_ok]) (fun _ _ _ => rfl), hl, bnd_ok, List.map_cons, idx_0, bnd_ok, pushM_ok (by omega), bnd_ok])]
    rfl
  · refine .inr ⟨r, ?_⟩
    rw [dhas_not.mpr fun z => r ((come_reach B).mp z)]
    rfl
end

end Gr
set_option Elab.async false
set_option linter.all false
set_option maxRecDepth 100000
set_option maxHeartbeats 4000000
namespace Gr
open PySem L2
/-! ### the law -/
theorem first_ok {w : WebT} {n : Nat} {o : Int} {ps far : List (Int × Int)} {dp : Int → Nat} (h : Prs w n ps) (D : Dep w n o dp) (F : Far w n o far dp) {one : Int} (r : Reach w o one) : p_law_first ps far one = .ok (wayL w dp (dp one) one) := by
  unfold p_law_first
  rw [lett_eq, way_loop D h.wb.n60 r (fun pre x rx => by
    rw [idx_last, bnd_ok, dgetM_ok (F.some x rx), bnd_ok]
    congr 1
    have := D.zero x rx
    by_cases e : x = o
    · rw [this.mpr e, e]; simp
    · have : dp x ≠ 0 := fun z => e (this.mp z)
      rw [decide_eq_true (show 0 < (dp x : Int) by omega), decide_eq_false e]; rfl) (fun pre x l rx hl hlen => by
      rw [idx_last, bnd_ok, beside_ok h, bnd_ok]
      have := nearL_len (p := x) h.wb
      rw [lcM_ok (u := fun y => decide ((dp y : Int) < (dp x : Int))) (g := fun y => y) (by omega) (fun y hy => by
        rw [dgetM_ok (F.some y (near_reach rx hy)), bnd_ok, bnd_ok, dgetM_ok (F.some x rx), bnd_ok]) (fun _ _ _ => rfl), hl, bnd_ok, List.map_cons, idx_0, bnd_ok, pushM_ok (by omega), bnd_ok])]
  rfl
theorem mlaw' {script : List Int} (hs : script.length ≤ 63) : p_law script = .ok true := by
  unfold p_law
  obtain ⟨n, h1, h2, hp⟩ := places_ok script
  obtain ⟨ps, hps, ht, hl⟩ := pairs_ok hs h1 h2
  obtain ⟨w, hw, P⟩ := Prs.mk' h1 h2 ht (by omega)
  have W := P.wb
  rw [hp, bnd_ok, hps, bnd_ok, hw, bnd_ok, rngM_ok (by unfold min2; split <;> omega), bnd_ok]
  rw [fldR_unit (fun k hk => ?_)]
  · rfl
  · have hk0 := (mem_upto.mp hk).1
    rw [show k = ((k.toNat : Nat) : Int) from by omega, cell_at, bnd_ok]
    generalize script[k.toNat]?.getD 0 = v
    rw [lett_eq]
    generalize v / 7 + 11 * ((k.toNat : Nat) : Int) = cell
    rw [modM_ok (by omega), bnd_ok, fdivM_ok (by omega) (by omega), bnd_ok, modM_ok (by omega), bnd_ok]
    have m1 := Int.emod_nonneg cell (show (n : Int) ≠ 0 by omega)
    have m2 := Int.emod_lt_of_pos cell (show (0 : Int) < n by omega)
    have m3 := Int.emod_nonneg (cell / n) (show (n : Int) ≠ 0 by omega)
    have m4 := Int.emod_lt_of_pos (cell / n) (show (0 : Int) < n by omega)
    generalize cell % (n : Int) = one at *
    generalize cell / (n : Int) % (n : Int) = other at *
    obtain ⟨far, dp, hfar, D, F, _⟩ := steps_ok P m3 m4
    obtain ⟨dp', D', hway⟩ := way_between_ok W ⟨m1, m2⟩ ⟨m3, m4⟩
    rw [hfar, bnd_ok]
    rcases hway with ⟨r, hway⟩ | ⟨r, hway⟩
    · have ew : wayL w dp' (dp' one) one = wayL w dp (dp one) one := by
        have hd : ∀ x, Reach w other x → dp' x = dp x := fun x r => D'.eq D r
        rw [wayL_congr D' hd _ _ r rfl, hd one r]
      rw [ew] at hway
      have hcap := D.cap one r
      have hlen := wayL_len (w := w) (dp := dp) (dp one) one
      rw [hway, bnd_ok]
      show (if _ then _ else _) = _
      rw [(F.has one).mpr r]
      simp only [Bool.not_true, Bool.false_eq_true, if_false]
      rw [lcM_all (f := fun p => p_law_whole p) (g := fun _ => true) (by omega) (fun _ _ => rfl), bnd_ok, bnd_ok]
      have all1 : (((wayL w dp (dp one) one).map fun _ => true).all id) = true := by rw [List.all_map]; exact List.all_eq_true.mpr fun _ _ => rfl
      rw [all1, first_ok P D F r]
      simp only [Bool.not_true, Bool.false_eq_true, if_false, bnd_ok, decide_true, dgetM_ok (F.some one r), hlen]
      rw [pushM_ok (by omega), bnd_ok]
      simp
    · have hno : dhas far one = false := by
        cases q : dhas far one with
        | false => rfl
        | true => exact absurd ((F.has one).mp q) r
      rw [hway, bnd_ok]
      show (if _ then _ else _) = _
      rw [hno]
      rfl

end Gr
namespace GrLaw
open PySem L2 Gr
theorem mlaw (ns : List Int) (hn : ns.length ≤ 63) : F12 [Gr.scr ns] = .ok (Gr.bool true) [] := by
  have h := j_law_B ns
  rw [Gr.mlaw' hn] at h
  obtain ⟨c, os, h, rfl, rfl⟩ := h
  exact h
end GrLaw
set_option Elab.async false
set_option linter.all false
set_option maxRecDepth 100000
set_option maxHeartbeats 0
namespace GrLaw
open PySem PySem.Spec PyProof.Rows L2 Gr
abbrev R : PySem.W.OpenRow := PySem.W.OpenLaw.row PySem.Challenge.rw_guardround_k04_shortest_ways
def loose : List Str := ["GuardError", "BadPlaces", "BadTie", "NoPlace", "MOST_PLACES", "Web", "look_at_place", "near", "come_from", "way_between", "_law_cell_at", "_law_whole", "_law_places", "_law_pairs", "_law_ties", "_law_beside", "_law_steps", "_law_first"]
abbrev hk : PySem.W.Hook := hookG 6 spec
def ob (s : PySem.W.SharedT) : AlG := obsN 6 spec (HandSHeadRun.getT s)
theorem ob_eq (s : PySem.W.SharedT) : ob s = hk.obs s.abs := obsN_eq (HandSHeadRun.getT_eq s)
theorem run (w : World) : HandSHeadRun.RunEq R (PySem.W.view R.prog [21]) hk ob 6000 loose w := by
  intro os
  kernel_rfl
end GrLaw

set_option Elab.async false
set_option linter.all false
set_option maxRecDepth 100000
set_option maxHeartbeats 0
namespace GrLaw
open PySem PySem.Spec PyProof.Rows L2 Gr
theorem hexc : ∀ n b, spec.g.excTy n = some b → n = "ValueError" ∧ b = true := fun n b h => by
  have h : (if n = "ValueError" then some true else none) = some b := h
  by_cases e : n = "ValueError"
  · rw [if_pos e] at h; exact ⟨e, (Option.some.inj h).symm⟩
  · rw [if_neg e] at h; cases h
end GrLaw
open PySem PySem.W PySem.Calls PyProof.Rows
theorem holdsK04 (hF : ∀ ns : List Int, ns.length ≤ 63 → GrLaw.F12 [Gr.scr ns] = .ok (Gr.bool true) []) : PySem.Challenge.rw_guardround_k04_shortest_ways.Holds := by
  w_on; o_law
  refine HandSHeadRun.head_any (r := OpenLaw.row PySem.Challenge.rw_guardround_k04_shortest_ways) (q := view (OpenLaw.row PySem.Challenge.rw_guardround_k04_shortest_ways).prog [21]) (H := GrLaw.hk) (ob := GrLaw.ob) (M := 6000) (loose := GrLaw.loose) (d := HandSHeadRun.topDef (OpenLaw.row PySem.Challenge.rw_guardround_k04_shortest_ways).prog 21) (kwd := []) GrLaw.ob_eq
    (by kernel_rfl) (fun s => by kernel_rfl) GrLaw.run (by kernel_rfl) (by kernel_rfl) (by kernel_rfl) (by rfl) (by first | assumption | decide +kernel) (by decide +kernel) ⟨rfl, rfl, rfl, rfl, rfl, by decide +kernel⟩ ?hw ?hc
  case hw => w_witness2
  case hc =>
    refine Gr.walk_ofW (l := PySem.Challenge.rw_guardround_k04_shortest_ways) (n := 63) (k := 25) (x := "script") rfl (by decide) (by kernel_rfl) ⟨rfl, by decide, by decide⟩ ?F
    intro w mg fa h Y G hmg0
    obtain ⟨K, KX, c⟩ := Y
    have hmg : mg ("law" : PySem.Str) = some (.ref fa) := by
      have e : (HandSHeadRun.topDef (OpenLaw.row PySem.Challenge.rw_guardround_k04_shortest_ways).prog 21).name = ("law" : PySem.Str) := by kernel_rfl
      rw [← e]
      exact hmg0
    obtain ⟨fd, sp, hb, hsp, hF⟩ := Gr.law_of (S := GrLaw.spec) (es := [GrLaw.e0, GrLaw.e1, GrLaw.e2, GrLaw.e3, GrLaw.e4, GrLaw.e5, GrLaw.e6, GrLaw.e7, GrLaw.e8, GrLaw.e9, GrLaw.e10, GrLaw.e11]) (eL := GrLaw.e12) (x := "script") (n := 63) rfl rfl rfl GrLaw.hexc GrLaw.oks GrLaw.ok12 (fun ns hn => by have h := hF ns hn; rw [GrLaw.F12_eq] at h; exact h) KX c G hmg
    exact ⟨K, fd, sp, KX, hb, hsp, hF⟩

theorem PySem.Challenge.cw_guardround_k04_shortest_ways_holds : PySem.Challenge.rw_guardround_k04_shortest_ways.Holds :=
  holdsK04 fun ns hn => GrLaw.mlaw ns hn
