import PyProof.Rows.All
import PyProof.P3Statements
import PyProof.P3Eq
import HandS.ForMost
import HandS.ForExc
import KE.GoesEnum
import HandS.Evl
import HandS.HeadHook1
import HandS.TupAny
import HandS.TupMul
import HandS.Deep
import HandS.Style
import PyProof.StrOps2
import HandS.IsInst
import HandS.Zip
import HandS.SortKw
import HandS.SetFor
import KE.KTupSum
import KE.DataMinMax
import PyProof.TupleOfSeq
import HandS.Conv
import HandS.ExcIs
import HandS.Strs
import KE.SortData
import HandS.Dict
import HandS.Iter
import KE.KDictSum
import HandS.Head0
import HandS.Head1
import HandS.Head2
import HandS.HeadEnd
import HandS.HeadHook2
import PySem.Challenge.RW_freethirds_k08_whole_counts_of_large_bas
set_option Elab.async false
set_option linter.all false
/-! The heap-free reading of a Python body: what a def computes on plain data. -/
namespace DL
open PySem
abbrev D := PyData
/-- a dict of a slot's own: ints to ints; tuples of ints, all True -/
inductive Own where
  | dI (kvs : List (Int × Int)) | dT (ks : List (List Int))
def Own.kvs : Own → List (D × D)
  | .dI kvs => [(.int 0, .list (kvs.map fun p => .tuple [.int p.1, .int p.2]))]
  | .dT ks => [(.int 1, .list (ks.map fun k => .tuple (k.map PyData.int)))]
/-- a slot's content: frozen data, an owned list, a borrowed list (a parameter), an owned dict -/
inductive DV where
  | fz (d : D) | mt (ds : List D) | br (ds : List D) | ow (c : Own)
abbrev Sl := List (Option DV)
/-- a value that is read late: data, or a slot's content at the time of use -/
inductive LV where
  | val (d : D) | slot (i : Nat)
def DV.dat : DV → D
  | .fz d => d
  | .mt ds => .list ds
  | .br ds => .list ds
  | .ow c => .dict c.kvs
def slotD (δ : Sl) (i : Nat) : Option D := match δ[i]? with
  | some (some (.ow _)) => none
  | some (some v) => some v.dat
  | _ => none
def LV.get (δ : Sl) : LV → Option D
  | .val d => some d
  | .slot i => slotD δ i
/-- a list in a slot, changed -/
def DV.put (x : DV) (ds : List D) : DV := match x with
  | .mt _ => .mt ds
  | _ => .br ds
abbrev EL := Sl → Option (LV × Sl)
abbrev EE := Sl → Option (DV × Sl)
abbrev EV := Sl → Option (D × Sl)
abbrev ET := Sl → Option (Bool × Sl)
/-- frozen: an owned fresh list is owned no more -/
def toV (f : EE) : EV := fun δ => match f δ with
  | some (.fz d, δ') => some (d, δ')
  | some (.mt ds, δ') => some (.list ds, δ')
  | some (.ow c, δ') => some (.dict c.kvs, δ')
  | _ => none
def toL (f : EV) : EL := fun δ => match f δ with
  | some (d, δ') => some (.val d, δ')
  | none => none
def ofV (f : EV) : EE := fun δ => match f δ with
  | some (d, δ') => some (.fz d, δ')
  | none => none
def dC (d : D) : EV := fun δ => some (d, δ)
/-- a name, escaping: an owned list is frozen -/
def dVar (i : Nat) : EV := fun δ => match δ[i]? with
  | some (some (.fz d)) => some (d, δ)
  | some (some (.mt ds)) => some (.list ds, δ.set i (some (.fz (.list ds))))
  | some (some (.ow c)) => some (.dict c.kvs, δ.set i (some (.fz (.dict c.kvs))))
  | _ => none
/-- a name, read late -/
def dLate (i : Nat) : EL := fun δ => match δ[i]? with
  | some (some _) => some (.slot i, δ)
  | _ => none
def dOp (g : D → D → Option DV) (a b : EL) : EE := fun δ => match a δ with
  | none => none
  | some (x, δ1) => match b δ1 with
    | none => none
    | some (y, δ2) => match x.get δ2, y.get δ2 with
      | some u, some v => match g u v with
        | some r => some (r, δ2)
        | none => none
      | _, _ => none
def dUn (g : D → Option D) (a : EL) : EV := fun δ => match a δ with
  | none => none
  | some (x, δ1) => match x.get δ1 with
    | some u => match g u with
      | some r => some (r, δ1)
      | none => none
    | none => none
/-- arguments: frozen; late -/
abbrev EA := Sl → Option (List D × Sl)
abbrev EAL := Sl → Option (List LV × Sl)
def aNil : EA := fun δ => some ([], δ)
def aCons (a : EV) (r : EA) : EA := fun δ => match a δ with
  | none => none
  | some (d, δ1) => match r δ1 with
    | none => none
    | some (ds, δ2) => some (d :: ds, δ2)
def lNil : EAL := fun δ => some ([], δ)
def lCons (a : EL) (r : EAL) : EAL := fun δ => match a δ with
  | none => none
  | some (d, δ1) => match r δ1 with
    | none => none
    | some (ds, δ2) => some (d :: ds, δ2)
def getAll (δ : Sl) : List LV → Option (List D)
  | [] => some []
  | v :: vs => match v.get δ, getAll δ vs with
    | some d, some ds => some (d :: ds)
    | _, _ => none
def LIM : Nat := 16777216
def dTup (a : EA) : EV := fun δ => match a δ with
  | none => none
  | some (ds, δ1) => if ds.length ≤ LIM then some (.tuple ds, δ1) else none
def dLst (a : EA) : EE := fun δ => match a δ with
  | none => none
  | some (ds, δ1) => if ds.length ≤ LIM then some (.mt ds, δ1) else none
/-- a built-in, its arguments read late -/
def dCB (g : List D → Option DV) (a : EAL) : EE := fun δ => match a δ with
  | none => none
  | some (vs, δ1) => match getAll δ1 vs with
    | none => none
    | some ds => match g ds with
      | some r => some (r, δ1)
      | none => none
/-- what a def of the text gives: a value and the borrowed list's end, or an error's name -/
inductive FRes where
  | ret (r : DV) (b : List D) | ex (c : Str)
abbrev Fn := List DV → Option FRes
def dCall (Φ : Fn) (a : EA) : EE := fun δ => match a δ with
  | none => none
  | some (ds, δ1) => match Φ (ds.map .fz) with
    | some (.ret r _) => some (r, δ1)
    | _ => none
/-- f(x, ..), x a slot that holds a list, handed on by reference -/
def dCallB (Φ : Fn) (i : Nat) (a : EA) : EE := fun δ => match δ[i]? with
  | some (some _) => (match a δ with
    | none => none
    | some (ds, δ1) => match δ1[i]? with
      | some (some (.mt b)) => (match Φ (.br b :: ds.map .fz) with
        | some (.ret r b') => some (r, δ1.set i (some (.mt b')))
        | _ => none)
      | some (some (.br b)) => (match Φ (.br b :: ds.map .fz) with
        | some (.ret r b') => some (r, δ1.set i (some (.br b')))
        | _ => none)
      | _ => none)
  | _ => none
/-! tests -/
def dTest (a : EL) : ET := fun δ => match a δ with
  | none => none
  | some (x, δ1) => match x.get δ1 with
    | some (.bool b) => some (b, δ1)
    | _ => none
def dTruthy (a : EL) : ET := fun δ => match a δ with
  | none => none
  | some (x, δ1) => match x.get δ1 with
    | some .none => some (false, δ1)
    | some (.bool b) => some (b, δ1)
    | some (.int i) => some (i != 0, δ1)
    | some (.list ds) => some (!ds.isEmpty, δ1)
    | some (.tuple ds) => some (!ds.isEmpty, δ1)
    | _ => none
def dAnd (a b : ET) : ET := fun δ => match a δ with
  | some (true, δ1) => b δ1
  | some (false, δ1) => some (false, δ1)
  | none => none
def dOr (a b : ET) : ET := fun δ => match a δ with
  | some (true, δ1) => some (true, δ1)
  | some (false, δ1) => b δ1
  | none => none
def dNot (a : ET) : ET := fun δ => match a δ with
  | some (c, δ1) => some (!c, δ1)
  | none => none
def dOfT (a : ET) : EV := fun δ => match a δ with
  | some (c, δ1) => some (.bool c, δ1)
  | none => none
def dIf (c : ET) (a b : EE) : EE := fun δ => match c δ with
  | some (true, δ1) => a δ1
  | some (false, δ1) => b δ1
  | none => none
/-! comprehensions -/
def wipeD (δ : Sl) : List Nat → Sl
  | [] => δ
  | v :: vs => (wipeD δ vs).set v none
def calmAt (δ : Sl) (v : Nat) : Bool := match δ[v]? with
  | some (some (.fz _)) => true
  | some none => true
  | _ => false
def restore (δ : Sl) : List Nat → Sl → Sl
  | [], δ' => δ'
  | v :: vs, δ' => (restore δ vs δ').set v ((δ[v]?).getD none)
abbrev ETg := D → Sl → Option Sl
def tgName (i : Nat) : ETg := fun d δ => match δ[i]? with
  | some (some (.br _)) => none
  | some _ => some (δ.set i (some (.fz d)))
  | none => none
def tgNil : List D → Sl → Option Sl := fun ds δ => match ds with
  | [] => some δ
  | _ => none
def tgCons (t : ETg) (u : List D → Sl → Option Sl) : List D → Sl → Option Sl := fun ds δ => match ds with
  | [] => none
  | d :: r => match t d δ with
    | some δ1 => u r δ1
    | none => none
def tgTup (t : List D → Sl → Option Sl) : ETg := fun d δ => match d with
  | .tuple ds => t ds δ
  | .dict [(.bool true, .tuple ds)] => t ds δ
  | _ => none
/-- the turns of a comprehension, its own slots vs -/
def compTurns (t : ETg) (c : ET) (e : EV) (vs : List Nat) : List D → List D → Sl → Option (List D × Sl)
  | [], acc, δ => some (acc, δ)
  | d :: r, acc, δ => match t d (wipeD δ vs) with
    | none => none
    | some δ1 => match c δ1 with
      | none => none
      | some (false, δ2) => compTurns t c e vs r acc δ2
      | some (true, δ2) => match e δ2 with
        | none => none
        | some (x, δ3) => compTurns t c e vs r (acc ++ [x]) δ3
abbrev EI := Sl → Option (List D × Sl)
def dComp (src : EI) (t : ETg) (c : ET) (e : EV) (vs : List Nat) : EE := fun δ => match src δ with
  | none => none
  | some (ds, δ1) => if vs.all (calmAt δ1) && decide (ds.length ≤ LIM) then
      match compTurns t c e vs ds [] (wipeD δ1 vs) with
      | none => none
      | some (acc, δ2) => some (.mt acc, restore δ1 vs δ2)
    else none
def dYes : ET := fun δ => some (true, δ)
/-! statements -/
inductive Out where
  | nx (δ : Sl) | rt (r : DV) (δ : Sl) | bk (δ : Sl) | ct (δ : Sl) | ex (c : Str) (δ : Sl)
abbrev SM := Sl → Option Out
def sNext : SM := fun δ => some (.nx δ)
def sBreak : SM := fun δ => some (.bk δ)
def sCont : SM := fun δ => some (.ct δ)
def sSeq (a b : SM) : SM := fun δ => match a δ with
  | some (.nx δ1) => b δ1
  | o => o
def sAsg (i : Nat) (e : EE) : SM := fun δ => match e δ with
  | none => none
  | some (r, δ1) => match δ1[i]? with
    | some (some (.br _)) => none
    | some _ => some (.nx (δ1.set i (some r)))
    | none => none
def sAsgT (t : ETg) (e : EV) : SM := fun δ => match e δ with
  | none => none
  | some (d, δ1) => match t d δ1 with
    | some δ2 => some (.nx δ2)
    | none => none
def sDrop (e : EE) : SM := fun δ => match e δ with
  | none => none
  | some (_, δ1) => some (.nx δ1)
def sRet (e : EE) : SM := fun δ => match e δ with
  | none => none
  | some (r, δ1) => some (.rt r δ1)
def sIf (c : ET) (a b : SM) : SM := fun δ => match c δ with
  | some (true, δ1) => a δ1
  | some (false, δ1) => b δ1
  | none => none
def sRaise (c : Str) : SM := fun δ => some (.ex c δ)
/-- f(..) as a statement, f may raise -/
def sCallX (Φ : Fn) (a : EA) : SM := fun δ => match a δ with
  | none => none
  | some (ds, δ1) => match Φ (ds.map .fz) with
    | some (.ret _ _) => some (.nx δ1)
    | some (.ex c) => some (.ex c δ1)
    | none => none
def forTurns (t : ETg) (b : SM) : List D → SM
  | [], δ => some (.nx δ)
  | d :: r, δ => match t d δ with
    | none => none
    | some δ1 => match b δ1 with
      | some (.nx δ2) => forTurns t b r δ2
      | some (.ct δ2) => forTurns t b r δ2
      | some (.bk δ2) => some (.nx δ2)
      | some (.rt v δ2) => some (.rt v δ2)
      | _ => none
def sFor (src : EI) (t : ETg) (b : SM) : SM := fun δ => match src δ with
  | none => none
  | some (ds, δ1) => forTurns t b ds δ1
def whileTurns (c : ET) (b : SM) : Nat → SM
  | 0, _ => none
  | n + 1, δ => match c δ with
    | none => none
    | some (false, δ1) => some (.nx δ1)
    | some (true, δ1) => match b δ1 with
      | some (.nx δ2) => whileTurns c b n δ2
      | some (.ct δ2) => whileTurns c b n δ2
      | some (.bk δ2) => some (.nx δ2)
      | some (.rt v δ2) => some (.rt v δ2)
      | _ => none
/-- a slot that holds a list of its own -/
def isLs (δ : Sl) (i : Nat) : Bool := match δ[i]? with
  | some (some (.mt _)) => true
  | some (some (.br _)) => true
  | _ => false
/-- x.m(..) that changes the list in slot i; what it gives -/
def dMut (i : Nat) (g : List D → List D → Option (DV × List D)) (a : EA) : EE := fun δ => if isLs δ i = false then none else match a δ with
  | none => none
  | some (ds, δ1) => match δ1[i]? with
    | some (some (.mt b)) => (match g b ds with
      | some (r, b') => some (r, δ1.set i (some (.mt b')))
      | none => none)
    | some (some (.br b)) => (match g b ds with
      | some (r, b') => some (r, δ1.set i (some (.br b')))
      | none => none)
    | _ => none
/-- x[e] = v: v first -/
def sSet (i : Nat) (e v : EV) : SM := fun δ => match v δ with
  | none => none
  | some (y, δ0) => if isLs δ0 i = false then none else match e δ0 with
    | some (.int k, δ1) => (match δ1[i]? with
      | some (some (.mt b)) => if 0 ≤ k ∧ k < b.length then some (.nx (δ1.set i (some (.mt (b.set k.toNat y))))) else none
      | some (some (.br b)) => if 0 ≤ k ∧ k < b.length then some (.nx (δ1.set i (some (.br (b.set k.toNat y))))) else none
      | _ => none)
    | _ => none
/-- a def by its body: N slots -/
def start (n : Nat) (args : List DV) : Sl := args.map some ++ List.replicate (n - args.length) none
def lentOf (δ : Sl) : List D := match δ[(0 : Nat)]? with
  | some (some (.br b)) => b
  | _ => []
def fnOf (n : Nat) (b : SM) : Fn := fun args => match b (start n args) with
  | some (.nx δ) => some (.ret (.fz .none) (lentOf δ))
  | some (.rt r δ) => some (.ret r (lentOf δ))
  | some (.ex c _) => some (.ex c)
  | _ => none
/-! operations on data -/
abbrev G2 := D → D → Option DV
abbrev GN := List D → Option DV
/-- one or the other -/
def orG (a b : G2) : G2 := fun u v => match a u v with
  | some r => some r
  | none => b u v
def orN (a b : GN) : GN := fun u => match a u with
  | some r => some r
  | none => b u
/-! ints -/
def gI (c : Int → Int → Bool) (f : Int → Int → D) : G2 := fun u v => match u, v with
  | .int i, .int j => if c i j then some (.fz (f i j)) else none
  | _, _ => none
abbrev cTrue : Int → Int → Bool := fun _ _ => true
def p64 : Int := 18446744073709551616
def okMul (i j : Int) : Bool := (decide (-p64 < i) && decide (i < p64)) || (decide (-p64 < j) && decide (j < p64))
def okDiv (_ j : Int) : Bool := decide (j ≠ 0) && decide (j.natAbs < 1073741824)
def okMod (_ j : Int) : Bool := decide (j ≠ 0)
def okPow (i j : Int) : Bool := decide (0 ≤ j) && decide (j ≤ 1000000) && decide (i.natAbs < 18446744073709551616)
def gAddI : G2 := gI cTrue fun i j => .int (i + j)
def gSubI : G2 := gI cTrue fun i j => .int (i - j)
def gMulI : G2 := gI okMul fun i j => .int (i * j)
def gDivI : G2 := gI okDiv fun i j => .int (i.fdiv j)
def gModI : G2 := gI okMod fun i j => .int (i.fmod j)
def gPowI : G2 := gI okPow fun i j => .int (i ^ j.toNat)
def gLt : G2 := gI cTrue fun i j => .bool (decide (i < j))
def gLe : G2 := gI cTrue fun i j => .bool (decide (i ≤ j))
def gGt : G2 := gI cTrue fun i j => .bool (decide (j < i))
def gGe : G2 := gI cTrue fun i j => .bool (decide (j ≤ i))
/-! tuples, lists -/
def gAddT : G2 := fun u v => match u, v with
  | .tuple xs, .tuple ys => if xs.length + ys.length ≤ LIM then some (.fz (.tuple (xs ++ ys))) else none
  | _, _ => none
def gAddL : G2 := fun u v => match u, v with
  | .list xs, .list ys => if xs.length + ys.length ≤ LIM then some (.mt (xs ++ ys)) else none
  | _, _ => none
/-- texts -/
def gAddS : G2 := fun u v => match u, v with
  | .str x, .str y => if x.length + y.length ≤ LIM then some (.fz (.str (x ++ y))) else none
  | _, _ => none
def gMulS : G2 := fun u v => match u, v with
  | .str x, .int k => if k = 0 then some (.fz (.str Str.empty)) else if k = 1 then some (.fz (.str x)) else none
  | _, _ => none
def gAdd : G2 := orG gAddI (orG gAddT (orG gAddL gAddS))
def rep (n : Int) (xs : List D) : List D := (List.replicate n.toNat xs).flatten
def gMulL : G2 := fun u v => match u, v with
  | .list xs, .int k => if -1000000 ≤ k ∧ k ≤ 1000000 ∧ xs.length * k.toNat ≤ LIM then some (.mt (rep k xs)) else none
  | _, _ => none
/-- a tuple, written: the case k = 0 is not served by the layer -/
def gMulT : G2 := fun u v => match u, v with
  | .tuple xs, .int k => if k = 1 then some (.fz (.tuple xs)) else if xs ≠ [] ∧ 2 ≤ k ∧ k ≤ 1000 ∧ xs.length ≤ 1000 then some (.fz (.tuple (rep k xs))) else none
  | _, _ => none
def gMul : G2 := orG gMulI (orG gMulL (orG gMulT gMulS))
/-! == -/
def shp (d : D) : Bool := d.canLay0 && decide (d.depth ≤ 64)
def gEq : G2 := fun u v => if shp u && shp v then some (.fz (.bool (PyData.eqv u v))) else none
def gNe : G2 := fun u v => if shp u && shp v then some (.fz (.bool (!PyData.eqv u v))) else none
/-! in, not in; is None, is True -/
def inD (d : D) (ds : List D) : Bool := ds.any fun z => PyData.eqv z d
def gIn (neg : Bool) : G2 := fun u v => match v with
  | .list ds => if shp u && shp (.list ds) then some (.fz (.bool (inD u ds != neg))) else none
  | .tuple ds => if shp u && shp (.tuple ds) then some (.fz (.bool (inD u ds != neg))) else none
  | _ => none
def isNone : D → Bool
  | .none => true
  | _ => false
def gIsN (neg : Bool) : G2 := fun u v => match v with
  | .none => some (.fz (.bool (isNone u != neg)))
  | _ => none
def gNeg : D → Option D
  | .int i => some (.int (-i))
  | _ => none
/-! what is walked -/
def rangeD (lo : Int) (n : Nat) : List D := (List.range n).map fun i => .int (lo + (i : Nat))
/-- what zip and enumerate give: a pair that is unpacked at once -/
def pairD (a b : D) : D := .dict [(.bool true, .tuple [a, b])]
def zipD : List D → List D → List D
  | a :: as, b :: bs => pairD a b :: zipD as bs
  | _, _ => []
def enumD : Nat → List D → List D
  | _, [] => []
  | i, d :: ds => pairD (.int (i : Nat)) d :: enumD (i + 1) ds
/-- the items of a list or a tuple -/
def itemsD : D → Option (List D)
  | .list ds => some ds
  | .tuple ds => some ds
  | _ => none
def dIter (f : EV) : EI := fun δ => match f δ with
  | none => none
  | some (d, δ1) => match itemsD d with
    | some ds => some (ds, δ1)
    | none => none
def two62 : Int := 4611686018427387904
def dRange1 (a : EAL) : EI := fun δ => match a δ with
  | none => none
  | some (vs, δ1) => match getAll δ1 vs with
    | some [.int n] => if -two62 ≤ n ∧ n < two62 then some (rangeD 0 n.toNat, δ1) else none
    | _ => none
def dRange2 (a : EAL) : EI := fun δ => match a δ with
  | none => none
  | some (vs, δ1) => match getAll δ1 vs with
    | some [.int m, .int n] => if -two62 ≤ m ∧ m < two62 ∧ -two62 ≤ n ∧ n < two62 then some (rangeD m (n - m).toNat, δ1) else none
    | _ => none
def dZip (a : EA) : EI := fun δ => match a δ with
  | none => none
  | some ([.list ds, .list es], δ1) => some (zipD ds es, δ1)
  | some ([.tuple ds, .tuple es], δ1) => some (zipD ds es, δ1)
  | _ => none
def dEnum (a : EA) : EI := fun δ => match a δ with
  | none => none
  | some ([.list ds], δ1) => some (enumD 0 ds, δ1)
  | some ([.tuple ds], δ1) => some (enumD 0 ds, δ1)
  | _ => none
def sWhile (n : Nat) (c : ET) (b : SM) : SM := fun δ => whileTurns c b n δ
def notBr (δ : Sl) (i : Nat) : Bool := match δ[i]? with
  | some (some (.br _)) => false
  | _ => true
def sPar (i j : Nat) (a b : EE) : SM := fun δ => match a δ with
  | none => none
  | some (x, δ1) => match b δ1 with
    | none => none
    | some (y, δ2) => if notBr δ2 i && notBr δ2 j then some (.nx ((δ2.set i (some x)).set j (some y))) else none
/-! built-ins -/
def intsOf : List D → Option (List Int)
  | [] => some []
  | .int i :: r => match intsOf r with
    | some ns => some (i :: ns)
    | none => none
  | _ => none
def boolsOf : List D → Option (List Bool)
  | [] => some []
  | .bool i :: r => match boolsOf r with
    | some ns => some (i :: ns)
    | none => none
  | _ => none
/-- the script as data -/
def scrD (ns : List Int) : D := .dict [(.none, .list (ns.map PyData.int))]
def unScr : D → Option (List Int)
  | .dict [(.none, .list ds)] => intsOf ds
  | _ => none
def gLen : GN := fun a => match a with
  | [.list ds] => some (.fz (.int ds.length))
  | [.tuple ds] => some (.fz (.int ds.length))
  | [.dict kvs] => match unScr (.dict kvs) with
    | some ns => some (.fz (.int ns.length))
    | none => none
  | _ => none
def gSum : GN := fun a => match a with
  | [d] => match itemsD d with
    | some ds => match intsOf ds with
      | some ns => some (.fz (.int ns.sum))
      | none => none
    | none => none
  | _ => none
def maxI : List Int → Int
  | [] => 0
  | a :: r => r.foldl (fun x y => if x < y then y else x) a
def minI : List Int → Int
  | [] => 0
  | a :: r => r.foldl (fun x y => if y < x then y else x) a
def gMax2 : GN := fun a => match a with
  | [.int i, .int j] => some (.fz (.int (if j > i then j else i)))
  | _ => none
def gMin2 : GN := fun a => match a with
  | [.int i, .int j] => some (.fz (.int (if j < i then j else i)))
  | _ => none
def gMaxI : GN := fun a => match a with
  | [d] => match itemsD d with
    | some ds => match intsOf ds with
      | some (n :: ns) => some (.fz (.int (maxI (n :: ns))))
      | _ => none
    | none => none
  | _ => none
def gMinI : GN := fun a => match a with
  | [d] => match itemsD d with
    | some ds => match intsOf ds with
      | some (n :: ns) => some (.fz (.int (minI (n :: ns))))
      | _ => none
    | none => none
  | _ => none
def gMaxA : GN := orN gMax2 gMaxI
/-- pairs (an int, a tuple of ints) -/
def pairOf : D → Option (Int × List Int)
  | .tuple [.int i, .tuple ds] => match intsOf ds with
    | some ns => some (i, ns)
    | none => none
  | _ => none
def pairsOf : List D → Option (List (Int × List Int))
  | [] => some []
  | d :: r => match pairOf d, pairsOf r with
    | some a, some b => some (a :: b)
    | _, _ => none
def ltP (a b : Int × List Int) : Bool := decide (a.1 < b.1 ∨ (a.1 = b.1 ∧ a.2 < b.2))
def maxP (a : Int × List Int) (r : List (Int × List Int)) : Int × List Int := r.foldl (fun x y => if ltP x y then y else x) a
def gMaxP : GN := fun a => match a with
  | [.list ds] => match pairsOf ds with
    | some (p :: r) => some (.fz (.tuple [.int (maxP p r).1, .tuple ((maxP p r).2.map PyData.int)]))
    | _ => none
  | _ => none
def gMax : GN := orN gMaxA gMaxP
def gMin : GN := orN gMin2 gMinI
def gAll : GN := fun a => match a with
  | [.list ds] => match boolsOf ds with
    | some bs => some (.fz (.bool (bs.all id)))
    | none => none
  | _ => none
def gList : GN := fun a => match a with
  | [d] => match itemsD d with
    | some ds => some (.mt ds)
    | none => none
  | _ => none
def gTuple : GN := fun a => match a with
  | [d] => match itemsD d with
    | some ds => some (.fz (.tuple ds))
    | none => none
  | _ => none
/-- rising -/
def sortI (ns : List Int) : List Int := ns.mergeSort fun a b => decide (a ≤ b)
def gSortedI : GN := fun a => match a with
  | [d] => match itemsD d with
    | some ds => match intsOf ds with
      | some ns => some (.mt ((sortI ns).map PyData.int))
      | none => none
    | none => none
  | _ => none
/-- tuples of ints -/
def tupOf : D → Option (List Int)
  | .tuple ds => intsOf ds
  | _ => none
def tupsOf : List D → Option (List (List Int))
  | [] => some []
  | d :: r => match tupOf d, tupsOf r with
    | some a, some b => some (a :: b)
    | _, _ => none
def sortT (ls : List (List Int)) : List (List Int) := ls.mergeSort fun p q => decide (p ≤ q)
/-- each has an item, or the first has none -/
def okT (ls : List (List Int)) : Bool := ls.all (fun l => !l.isEmpty) || (match ls with
  | [] :: _ => true
  | _ => false)
def gSortT : GN := fun a => match a with
  | [.list ds] => match tupsOf ds with
    | some ls => if okT ls then some (.mt ((sortT ls).map fun l => .tuple (l.map PyData.int))) else none
    | none => none
  | _ => none
def gSorted : GN := orN gSortedI gSortT
/-- sorted(.., reverse=True) -/
def gSortedR : GN := fun a => match a with
  | [d] => match itemsD d with
    | some ds => match intsOf ds with
      | some ns => some (.mt ((sortI ns).reverse.map PyData.int))
      | none => none
    | none => none
  | _ => none
/-- isinstance(d, T), T a built-in type -/
def tyOf : D → String
  | .none => "NoneType"
  | .bool _ => "bool"
  | .int _ => "int"
  | .str _ => "str"
  | .list _ => "list"
  | .tuple _ => "tuple"
  | .dict _ => "list"
def gIsi (T : String) : D → Option D := fun d => match d with
  | .dict _ => none
  | d => some (.bool (tyOf d == T || (T == "int" && tyOf d == "bool")))
/-! items, slices -/
def atD (ds : List D) (i : Int) : Option D := if 0 ≤ i then ds[i.toNat]? else if -(ds.length : Int) ≤ i then ds[(i + ds.length).toNat]? else none
def gIx : G2 := fun u v => match v with
  | .int i => match u with
    | .list ds => (match atD ds i with | some d => some (.fz d) | none => none)
    | .tuple ds => (match atD ds i with | some d => some (.fz d) | none => none)
    | .dict kvs => (match unScr (.dict kvs) with
      | some ns => (match atD (ns.map PyData.int) i with | some d => some (.fz d) | none => none)
      | none => none)
    | _ => none
  | _ => none
/-- a slice's bound as a place among n -/
def cutIx (n d : Nat) : Option Int → Nat
  | none => d
  | some v => if v < 0 then (v + (n : Int)).toNat else min v.toNat n
def cutD (ds : List D) (lo hi : Option Int) : List D := (ds.drop (cutIx ds.length 0 lo)).take (cutIx ds.length ds.length hi - cutIx ds.length 0 lo)
abbrev EO := Sl → Option (Option Int × Sl)
def oNone : EO := fun δ => some (none, δ)
def oSome (f : EL) : EO := fun δ => match f δ with
  | none => none
  | some (x, δ1) => match x.get δ1 with
    | some (.int i) => some (some i, δ1)
    | _ => none
def dCut (a : EL) (lo hi : EO) : EE := fun δ => match a δ with
  | none => none
  | some (x, δ1) => match lo δ1 with
    | none => none
    | some (l, δ2) => match hi δ2 with
      | none => none
      | some (h, δ3) => match x.get δ3 with
        | some (.list ds) => some (.mt (cutD ds l h), δ3)
        | some (.tuple ds) => some (.fz (.tuple (cutD ds l h)), δ3)
        | _ => none
/-- d[::-1] -/
def gRev : D → Option DV
  | .list ds => some (.mt ds.reverse)
  | .tuple ds => some (.fz (.tuple ds.reverse))
  | _ => none
def dUnE (g : D → Option DV) (a : EL) : EE := fun δ => match a δ with
  | none => none
  | some (x, δ1) => match x.get δ1 with
    | some u => match g u with
      | some r => some (r, δ1)
      | none => none
    | none => none
def gRevL : D → Option DV
  | .list ds => some (.mt ds.reverse)
  | _ => none
/-! lists changed -/
abbrev GM := List D → List D → Option (DV × List D)
def mAppend : GM := fun b a => match a with
  | [d] => if b.length < LIM then some (.fz .none, b ++ [d]) else none
  | _ => none
def mPop : GM := fun b a => match a with
  | [] => match b[b.length - 1]? with
    | some d => some (.fz d, b.dropLast)
    | none => none
  | _ => none
def mPopAt : GM := fun b a => match a with
  | [.int i] => if 0 ≤ i ∧ i < b.length then (match b[i.toNat]? with
      | some d => some (.fz d, b.eraseIdx i.toNat)
      | none => none) else none
  | _ => none
/-- b.remove(n), ints -/
def mRemove : GM := fun b a => match a with
  | [.int i] => match intsOf b with
    | some ns => if i ∈ ns then some (.fz .none, (ns.erase i).map PyData.int) else none
    | none => none
  | _ => none
/-- x[e] += v on ints: the item, then v -/
def sAugIx (i : Nat) (e v : EV) : SM := fun δ => if isLs δ i = false then none else match e δ with
  | some (.int k, δ1) => (match slotD δ1 i with
    | some (.list b0) => (match atD b0 k with
      | some (.int z) => if isLs δ1 i = false then none else (match v δ1 with
        | some (.int y, δ2) => (match δ2[i]? with
          | some (some (.mt b)) => if 0 ≤ k ∧ k < b.length then some (.nx (δ2.set i (some (.mt (b.set k.toNat (.int (z + y))))))) else none
          | some (some (.br b)) => if 0 ≤ k ∧ k < b.length then some (.nx (δ2.set i (some (.br (b.set k.toNat (.int (z + y))))))) else none
          | _ => none)
        | _ => none)
      | _ => none)
    | _ => none)
  | _ => none
/-- x += e: a list, longer -/
def sExt (i : Nat) (e : EE) : SM := fun δ => if isLs δ i = false then none else match e δ with
  | none => none
  | some (r, δ1) => match r with
    | .br _ => none
    | r => match r.dat with
      | .list ds => (match δ1[i]? with
        | some (some (.mt b)) => if b.length + ds.length ≤ LIM then some (.nx (δ1.set i (some (.mt (b ++ ds))))) else none
        | some (some (.br b)) => if b.length + ds.length ≤ LIM then some (.nx (δ1.set i (some (.br (b ++ ds))))) else none
        | _ => none)
      | _ => none
/-- a op b op c -/
def dChain (g1 g2 : G2) (a b c : EL) : ET := fun δ => match a δ with
  | none => none
  | some (x, δ1) => match b δ1 with
    | none => none
    | some (y, δ2) => match x.get δ2, y.get δ2 with
      | some u, some v => match g1 u v with
        | some (.fz (.bool false)) => some (false, δ2)
        | some (.fz (.bool true)) => (match c δ2 with
          | none => none
          | some (z, δ3) => match y.get δ3, z.get δ3 with
            | some v, some w => match g2 v w with
              | some (.fz (.bool r)) => some (r, δ3)
              | _ => none
            | _, _ => none)
        | _ => none
      | _, _ => none
/-- every k-th item from the place a on -/
def stepD (ds : List D) (a k : Nat) : List D := (List.range ds.length).filterMap fun m => ds[a + m * k]?
/-- t[lo::st] -/
def dStep (a : EL) (lo : EO) (st : EL) : EV := fun δ => match a δ with
  | none => none
  | some (x, δ1) => match lo δ1 with
    | none => none
    | some (l, δ2) => match st δ2 with
      | none => none
      | some (y, δ3) => match x.get δ3, y.get δ3 with
        | some (.tuple ds), some (.int k) => if 2 ≤ k then some (.tuple (stepD ds (cutIx ds.length 0 l) k.toNat), δ3) else none
        | _, _ => none
/-- x is y, two bools -/
def gIsB : G2 := fun u v => match u, v with
  | .bool a, .bool b => some (.fz (.bool (a == b)))
  | _, _ => none
/-- range(i, j, c) -/
def rgN (i j c : Int) : Nat := (if c > 0 then (if i < j then (j - i - 1) / c + 1 else 0) else (if i > j then (i - j - 1) / (-c) + 1 else 0)).toNat
def rangeCD (i c : Int) (n : Nat) : List D := (List.range n).map fun m => .int (i + (m : Nat) * c)
def RLIM : Int := 4194304
def dRange3 (a : EAL) : EI := fun δ => match a δ with
  | none => none
  | some (vs, δ1) => match getAll δ1 vs with
    | some [.int i, .int j, .int c] => if c ≠ 0 ∧ -RLIM ≤ c ∧ c ≤ RLIM ∧ -RLIM ≤ i ∧ i ≤ RLIM ∧ -RLIM ≤ j ∧ j ≤ RLIM then some (rangeCD i c (rgN i j c), δ1) else none
    | _ => none
/-- tuple(range(..)), list(range(..)) -/
def dTupI (f : EI) : EV := fun δ => match f δ with
  | none => none
  | some (ds, δ1) => if ds.length ≤ LIM then some (.tuple ds, δ1) else none
def dLstI (f : EI) : EE := fun δ => match f δ with
  | none => none
  | some (ds, δ1) => if ds.length ≤ LIM then some (.mt ds, δ1) else none
def sPar3 (i j l : Nat) (a : EA) : SM := fun δ => match a δ with
  | some ([x, y, z], δ3) => if notBr δ3 i && notBr δ3 j && notBr δ3 l then some (.nx (((δ3.set i (some (.fz x))).set j (some (.fz y))).set l (some (.fz z)))) else none
  | _ => none
/-- int(n), int(flag) -/
def gInt : GN := fun a => match a with
  | [.int i] => some (.fz (.int i))
  | [.bool b] => some (.fz (.int (if b then 1 else 0)))
  | _ => none
/-- try: .. except base as e: return ..; slot i is e's; cl: the classes that may come; h: what the suite returns, by the class -/
def sTry (cl : List Str) (i : Nat) (fb : SM) (h : Str → D) : SM := fun δ => match fb δ with
  | some (.ex c δ1) => if (notBr δ1 i = true ∧ i < δ1.length) ∧ c ∈ cl then some (.rt (.fz (h c)) (δ1.set i none)) else none
  | some (.nx δ1) => some (.nx δ1)
  | some (.rt r δ1) => some (.rt r δ1)
  | _ => none
/-- if call: f(..) else: g(..) as a value that may raise: f(..) returned -/
def sRetX (Φ : Fn) (a : EA) : SM := fun δ => match a δ with
  | none => none
  | some (ds, δ1) => match Φ (ds.map .fz) with
    | some (.ret r _) => some (.rt r δ1)
    | some (.ex c) => some (.ex c δ1)
    | none => none
/-- one link of a chain: the two values read now -/
def linkD (g : G2) (δ : Sl) (x y : LV) : Option Bool := match x.get δ, y.get δ with
  | some u, some v => match g u v with
    | some (.fz (.bool b)) => some b
    | _ => none
  | _, _ => none
/-- a op b op c op d -/
def dChain3 (g1 g2 g3 : G2) (a b c d : EL) : ET := fun δ => match a δ with
  | none => none
  | some (x, δ1) => match b δ1 with
    | none => none
    | some (y, δ2) => match linkD g1 δ2 x y with
      | some false => some (false, δ2)
      | some true => (match c δ2 with
        | none => none
        | some (z, δ3) => match linkD g2 δ3 y z with
          | some false => some (false, δ3)
          | some true => (match d δ3 with
            | none => none
            | some (w, δ4) => match linkD g3 δ4 z w with
              | some r => some (r, δ4)
              | none => none)
          | none => none)
      | none => none
end DL
set_option Elab.async false
set_option linter.all false
/-! More combinators. -/
namespace DL
open PySem
def onceI : List Int → List Int
  | [] => []
  | x :: xs => if x ∈ xs then onceI xs else x :: onceI xs
/-- rising, each once -/
def setI (ns : List Int) : List Int := sortI (onceI ns)
/-- sorted(set(..)) -/
def gSortSet : GN := fun a => match a with
  | [d] => match itemsD d with
    | some ds => match intsOf ds with
      | some ns => if ns.length < 64 then some (.mt ((setI ns).map PyData.int)) else none
      | none => none
    | none => none
  | _ => none
/-- a def of the text, as a value -/
def fnD (x : Str) : D := .dict [(.bool false, .str x)]
def unFn : D → Option Str
  | .dict [(.bool false, .str x)] => some x
  | _ => none
def lookF : List (Str × Fn) → Str → Option Fn
  | [], _ => none
  | (y, Φ) :: r, x => if y = x then some Φ else lookF r x
/-- f(..) as a statement, f may raise; f is what slot i holds -/
def sCallXV (tbl : List (Str × Fn)) (i : Nat) (a : EA) : SM := fun δ => match δ[i]? with
  | some (some (.fz d)) => (match unFn d with
    | some x => (match lookF tbl x with
      | some Φ => sCallX Φ a δ
      | none => none)
    | none => none)
  | _ => none
/-- t.count(n), a tuple of ints in slot i -/
def dTCount (i : Nat) (e : EV) : EV := fun δ => match δ[i]? with
  | some (some (.fz (.tuple ds))) => (match intsOf ds with
    | some ns => (match e δ with
      | some (.int k, δ1) => some (.int ((ns.count k : Nat) : Int), δ1)
      | _ => none)
    | none => none)
  | _ => none
/-- t[::-1] -/
def gRevT : D → Option DV
  | .tuple ds => some (.fz (.tuple ds.reverse))
  | _ => none
/-! ### dicts of ints to ints -/
def pairsI : List D → Option (List (Int × Int))
  | [] => some []
  | .tuple [.int a, .int b] :: r => (match pairsI r with
    | some l => some ((a, b) :: l)
    | none => none)
  | _ => none
def unDI : D → Option (List (Int × Int))
  | .dict [(.int 0, .list ds)] => pairsI ds
  | _ => none
/-- the dict in a slot -/
def dctI (δ : Sl) (i : Nat) : Option (List (Int × Int)) := match δ[i]? with
  | some (some (.ow (.dI kvs))) => some kvs
  | some (some (.fz d)) => unDI d
  | _ => none
def getI (kvs : List (Int × Int)) (k : Int) : Option Int := (kvs.find? fun p => decide (p.1 = k)).map (·.2)
def putI (kvs : List (Int × Int)) (k v : Int) : List (Int × Int) := if kvs.any (fun p => decide (p.1 = k)) then kvs.map fun p => if p.1 = k then (p.1, v) else p else kvs ++ [(k, v)]
def delI (kvs : List (Int × Int)) (k : Int) : List (Int × Int) := kvs.filter fun p => decide (p.1 ≠ k)
/-- {} -/
def dD0 : EE := fun δ => some (.ow (.dI []), δ)
/-- {k: v} -/
def dD1 (k v : Int) : EE := fun δ => some (.ow (.dI [(k, v)]), δ)
/-- x[e] -/
def dDIx (i : Nat) (e : EV) : EV := fun δ => match δ[i]? with
  | some (some _) => (match e δ with
    | some (.int k, δ1) => (match dctI δ1 i with
      | some kvs => (match getI kvs k with
        | some v => some (.int v, δ1)
        | none => none)
      | none => none)
    | _ => none)
  | _ => none
/-- x.get(e, f) -/
def dDGet (i : Nat) (e f : EV) : EV := fun δ => match dctI δ i with
  | some _ => (match e δ with
    | some (.int k, δ1) => (match f δ1 with
      | some (.int z, δ2) => (match dctI δ2 i with
        | some kvs => some (.int ((getI kvs k).getD z), δ2)
        | none => none)
      | _ => none)
    | _ => none)
  | none => none
/-- x[e] = f -/
def sDPutI (i : Nat) (e f : EV) : SM := fun δ => match f δ with
  | some (.int z, δ1) => (match δ1[i]? with
    | some (some _) => (match e δ1 with
      | some (.int k, δ2) => (match δ2[i]? with
        | some (some (.ow (.dI kvs))) => if kvs.length < LIM then some (.nx (δ2.set i (some (.ow (.dI (putI kvs k z)))))) else none
        | _ => none)
      | _ => none)
    | _ => none)
  | _ => none
/-- x.pop(e) -/
def dDPop (i : Nat) (e : EV) : EV := fun δ => match dctI δ i with
  | some _ => (match e δ with
    | some (.int k, δ1) => (match δ1[i]? with
      | some (some (.ow (.dI kvs))) => (match getI kvs k with
        | some v => some (.int v, δ1.set i (some (.ow (.dI (delI kvs k)))))
        | none => none)
      | _ => none)
    | _ => none)
  | none => none
/-- x = y, y a dict of its own: y is forgotten -/
def sMove (i j : Nat) : SM := fun δ => match δ[j]? with
  | some (some (.ow c)) => if i = j then none else (match δ[i]? with
    | some (some (.br _)) => none
    | some _ => some (.nx ((δ.set j none).set i (some (.ow c))))
    | none => none)
  | _ => none
/-- for k in x: the dict is frozen -/
def dDKeys (i : Nat) : EI := fun δ => match δ[i]? with
  | some (some (.ow (.dI kvs))) => some (kvs.map fun p => PyData.int p.1, δ.set i (some (.fz (.dict (Own.dI kvs).kvs))))
  | _ => none
/-- sorted(x), x a dict -/
def dDSort (i : Nat) : EE := fun δ => match dctI δ i with
  | some kvs => if kvs.length ≤ LIM then some (.mt ((sortI (kvs.map (·.1))).map PyData.int), δ) else none
  | none => none
/-- sum(x.values()), x a dict -/
def dDSum (i : Nat) : EE := fun δ => match dctI δ i with
  | some kvs => some (.fz (.int (kvs.map (·.2)).sum), δ)
  | none => none
end DL
set_option Elab.async false
set_option linter.all false
/-! Plain lemmas on the heap-free layer. -/
namespace DL
open PySem
def nb (a : Option DV) : Bool := match a with
  | some (.br _) => false
  | _ => true
def calmB (a : Option DV) : Bool := match a with
  | some (.fz _) => true
  | none => true
  | _ => false
theorem nb_of_calm {a : Option DV} (h : calmB a = true) : nb a = true := by
  unfold calmB at h
  split at h
  · rfl
  · rfl
  · cases h
@[simp] theorem nb_none : nb none = true := rfl
@[simp] theorem nb_fz (d : D) : nb (some (.fz d)) = true := rfl
@[simp] theorem nb_mt (d : List D) : nb (some (.mt d)) = true := rfl
@[simp] theorem calmB_none : calmB none = true := rfl
@[simp] theorem calmB_fz (d : D) : calmB (some (.fz d)) = true := rfl
theorem tgName_eq (i : Nat) (d : D) (δ : Sl) : tgName i d δ = match δ[i]? with
  | some a => if nb a then some (δ.set i (some (.fz d))) else none
  | none => none := by
  unfold tgName
  cases h : δ[i]? with
  | none => rfl
  | some a => cases a with
    | none => rfl
    | some x => cases x <;> rfl
theorem sAsg_eq (i : Nat) (e : EE) (δ : Sl) : sAsg i e δ = match e δ with
  | none => none
  | some (r, δ1) => match δ1[i]? with
    | some a => if nb a then some (.nx (δ1.set i (some r))) else none
    | none => none := by
  unfold sAsg
  cases e δ with
  | none => rfl
  | some p =>
    obtain ⟨r, δ1⟩ := p
    dsimp only
    cases h : δ1[i]? with
    | none => rfl
    | some a => cases a with
      | none => rfl
      | some x => cases x <;> rfl
theorem notBr_eq (δ : Sl) (i : Nat) : notBr δ i = match δ[i]? with
  | some a => nb a
  | none => true := by
  unfold notBr
  cases h : δ[i]? with
  | none => rfl
  | some a => cases a with
    | none => rfl
    | some x => cases x <;> rfl
theorem calmAt_eq (δ : Sl) (i : Nat) : calmAt δ i = match δ[i]? with
  | some a => calmB a
  | none => false := by
  unfold calmAt
  cases h : δ[i]? with
  | none => rfl
  | some a => cases a with
    | none => rfl
    | some x => cases x <;> rfl
/-! operations -/
@[simp] theorem gAdd_int (i j : Int) : gAdd (.int i) (.int j) = some (.fz (.int (i + j))) := id rfl
@[simp] theorem gAddI_int (i j : Int) : gAddI (.int i) (.int j) = some (.fz (.int (i + j))) := id rfl
@[simp] theorem gSubI_int (i j : Int) : gSubI (.int i) (.int j) = some (.fz (.int (i - j))) := id rfl
@[simp] theorem gLt_int (i j : Int) : gLt (.int i) (.int j) = some (.fz (.bool (decide (i < j)))) := id rfl
@[simp] theorem gLe_int (i j : Int) : gLe (.int i) (.int j) = some (.fz (.bool (decide (i ≤ j)))) := id rfl
@[simp] theorem gGt_int (i j : Int) : gGt (.int i) (.int j) = some (.fz (.bool (decide (j < i)))) := id rfl
@[simp] theorem gGe_int (i j : Int) : gGe (.int i) (.int j) = some (.fz (.bool (decide (j ≤ i)))) := id rfl
@[simp] theorem gNeg_int (i : Int) : gNeg (.int i) = some (.int (-i)) := id rfl
theorem gMul_int {i j : Int} (h : okMul i j = true) : gMul (.int i) (.int j) = some (.fz (.int (i * j))) := by
  simp [gMul, orG, gMulI, gI, h]
theorem okMul_l {i j : Int} (h1 : -p64 < i) (h2 : i < p64) : okMul i j = true := by simp [okMul, h1, h2]
theorem okMul_r {i j : Int} (h1 : -p64 < j) (h2 : j < p64) : okMul i j = true := by simp [okMul, h1, h2]
theorem okMul_rs {i j : Int} (h1 : 0 ≤ j) (h2 : j ≤ 1000000000000) : okMul i j = true := okMul_r (by unfold p64; omega) (by unfold p64; omega)
theorem okMul_ls {i j : Int} (h1 : 0 ≤ i) (h2 : i ≤ 1000000000000) : okMul i j = true := okMul_l (by unfold p64; omega) (by unfold p64; omega)
theorem gDivI_int {i j : Int} (h : 0 < j) (h2 : j < 1073741824) : gDivI (.int i) (.int j) = some (.fz (.int (i / j))) := by
  have h1 : decide (j ≠ 0) = true := decide_eq_true (by omega)
  have h3 : decide (j.natAbs < 1073741824) = true := decide_eq_true (by omega)
  have e : i.fdiv j = i / j := Int.fdiv_eq_ediv_of_nonneg i (by omega)
  simp only [gDivI, gI, okDiv, h1, h3, Bool.and_self, if_true, e]
theorem gModI_int {i j : Int} (h : 0 < j) : gModI (.int i) (.int j) = some (.fz (.int (i % j))) := by
  have h1 : decide (j ≠ 0) = true := decide_eq_true (by omega)
  have e : i.fmod j = i % j := Int.fmod_eq_emod_of_nonneg i (by omega)
  simp only [gModI, gI, okMod, h1, if_true, e]
@[simp] theorem shp_int (i : Int) : shp (.int i) = true := by simp [shp, PyData.canLay0, PyData.depth]
@[simp] theorem shp_bool (i : Bool) : shp (.bool i) = true := by simp [shp, PyData.canLay0, PyData.depth]
@[simp] theorem shp_none : shp .none = true := by simp [shp, PyData.canLay0, PyData.depth]
@[simp] theorem gEq_int (i j : Int) : gEq (.int i) (.int j) = some (.fz (.bool (decide (i = j)))) := by
  simp [gEq, PyData.eqv]
  by_cases h : i = j <;> simp [h]
@[simp] theorem gNe_int (i j : Int) : gNe (.int i) (.int j) = some (.fz (.bool (!decide (i = j)))) := by
  simp [gNe, PyData.eqv]
  by_cases h : i = j <;> simp [h]
/-! intz as data -/
def intz (ns : List Int) : List D := ns.map PyData.int
abbrev ti (ns : List Int) : D := .tuple (intz ns)
abbrev li (ns : List Int) : D := .list (intz ns)
theorem ints_nil : intz [] = [] := id rfl
theorem ints_cons (n : Int) (ns : List Int) : intz (n :: ns) = .int n :: intz ns := id rfl
theorem ints_append (a b : List Int) : intz (a ++ b) = intz a ++ intz b := List.map_append
@[simp] theorem ints_len (ns : List Int) : (intz ns).length = ns.length := List.length_map ..
theorem ints_get (ns : List Int) (i : Nat) : (intz ns)[i]? = (ns[i]?).map PyData.int := List.getElem?_map ..
theorem mem_ints {d : D} {ns : List Int} (h : d ∈ intz ns) : ∃ n ∈ ns, d = .int n := by
  obtain ⟨n, h1, h2⟩ := List.mem_map.mp h
  exact ⟨n, h1, h2.symm⟩
theorem ints_ne {ns : List Int} (h : ns ≠ []) : intz ns ≠ [] := fun e => h (List.map_eq_nil_iff.mp e)
theorem ints_drop (ns : List Int) (k : Nat) : (intz ns).drop k = intz (ns.drop k) := List.map_drop.symm
theorem ints_take (ns : List Int) (k : Nat) : (intz ns).take k = intz (ns.take k) := List.map_take.symm
theorem ints_reverse (ns : List Int) : (intz ns).reverse = intz ns.reverse := List.map_reverse.symm
@[simp] theorem intsOf_map' (ns : List Int) : intsOf (intz ns) = some ns := by
  induction ns with
  | nil => rfl
  | cons n ns ih => rw [ints_cons]; simp [intsOf, ih]
theorem ints_inj {a b : List Int} (h : intz a = intz b) : a = b := by
  have h1 : intsOf (intz a) = intsOf (intz b) := by rw [h]
  rw [intsOf_map', intsOf_map'] at h1
  exact Option.some.inj h1
@[simp] theorem boolsOf_map' (ns : List Bool) : boolsOf (ns.map PyData.bool) = some ns := by
  induction ns with
  | nil => rfl
  | cons n ns ih => simp [boolsOf, ih]
@[simp] theorem gLen_list (ds : List D) : gLen [.list ds] = some (.fz (.int ds.length)) := id rfl
@[simp] theorem gLen_tuple (ds : List D) : gLen [.tuple ds] = some (.fz (.int ds.length)) := id rfl
theorem unScr_scr (ns : List Int) : unScr (scrD ns) = some ns := intsOf_map' ns
@[simp] theorem gLen_scr (ns : List Int) : gLen [scrD ns] = some (.fz (.int ns.length)) := by
  show (match unScr (scrD ns) with
    | some ns => some (DV.fz (.int ns.length))
    | none => none) = _
  rw [unScr_scr]
@[simp] theorem gSum_ti (ns : List Int) : gSum [ti ns] = some (.fz (.int ns.sum)) := by simp [gSum, itemsD]
@[simp] theorem gSum_li (ns : List Int) : gSum [li ns] = some (.fz (.int ns.sum)) := by simp [gSum, itemsD]
@[simp] theorem gMin_two (i j : Int) : gMin [.int i, .int j] = some (.fz (.int (if j < i then j else i))) := id rfl
@[simp] theorem gMax_two (i j : Int) : gMax [.int i, .int j] = some (.fz (.int (if j > i then j else i))) := id rfl
theorem gMin_li (n : Int) (ns : List Int) : gMin [li (n :: ns)] = some (.fz (.int (minI (n :: ns)))) := by
  have := intsOf_map' (n :: ns)
  simp [gMin, orN, gMin2, gMinI, itemsD, this]
theorem gMax_ti (n : Int) (ns : List Int) : gMax [ti (n :: ns)] = some (.fz (.int (maxI (n :: ns)))) := by
  have := intsOf_map' (n :: ns)
  simp [gMax, gMaxA, orN, gMax2, gMaxI, itemsD, this]
@[simp] theorem gAll_bools (bs : List Bool) : gAll [.list (bs.map PyData.bool)] = some (.fz (.bool (bs.all id))) := by simp [gAll]
@[simp] theorem gList_tuple (ds : List D) : gList [.tuple ds] = some (.mt ds) := id rfl
@[simp] theorem gList_list (ds : List D) : gList [.list ds] = some (.mt ds) := id rfl
@[simp] theorem gTuple_list (ds : List D) : gTuple [.list ds] = some (.fz (.tuple ds)) := id rfl
@[simp] theorem gTuple_tuple (ds : List D) : gTuple [.tuple ds] = some (.fz (.tuple ds)) := id rfl
@[simp] theorem gSorted_li (ns : List Int) : gSorted [li ns] = some (.mt (intz (sortI ns))) := by
  have h : gSortedI [li ns] = (match intsOf (intz ns) with
    | some ns => some (.mt (intz (sortI ns)))
    | none => none) := id rfl
  rw [intsOf_map'] at h
  simp only [gSorted, orN, h]
@[simp] theorem gSorted_ti (ns : List Int) : gSorted [ti ns] = some (.mt (intz (sortI ns))) := by
  have h : gSortedI [ti ns] = (match intsOf (intz ns) with
    | some ns => some (.mt (intz (sortI ns)))
    | none => none) := id rfl
  rw [intsOf_map'] at h
  simp only [gSorted, orN, h]
@[simp] theorem gSortedR_li (ns : List Int) : gSortedR [li ns] = some (.mt (intz (sortI ns).reverse)) := by
  have h : gSortedR [li ns] = (match intsOf (intz ns) with
    | some ns => some (.mt (intz (sortI ns).reverse))
    | none => none) := id rfl
  rw [h, intsOf_map']
@[simp] theorem gSortedR_ti (ns : List Int) : gSortedR [ti ns] = some (.mt (intz (sortI ns).reverse)) := by
  have h : gSortedR [ti ns] = (match intsOf (intz ns) with
    | some ns => some (.mt (intz (sortI ns).reverse))
    | none => none) := id rfl
  rw [h, intsOf_map']
theorem gIx_list {ds : List D} {i : Nat} {d : D} (h : ds[i]? = some d) : gIx (.list ds) (.int (i : Nat)) = some (.fz d) := by
  simp [gIx, atD, h]
theorem gIx_tuple {ds : List D} {i : Nat} {d : D} (h : ds[i]? = some d) : gIx (.tuple ds) (.int (i : Nat)) = some (.fz d) := by
  simp [gIx, atD, h]
theorem gIx_scr {ns : List Int} {i : Nat} {n : Int} (h : ns[i]? = some n) : gIx (scrD ns) (.int (i : Nat)) = some (.fz (.int n)) := by
  have e : gIx (scrD ns) (.int (i : Nat)) = (match unScr (scrD ns) with
      | some ns => (match atD (ns.map PyData.int) (i : Nat) with | some d => some (.fz d) | none => none)
      | none => none) := rfl
  rw [e, unScr_scr]
  simp [atD, h]
/-! runs -/
theorem sSeq_nx {a b : SM} {δ δ1 : Sl} (h : a δ = some (.nx δ1)) : sSeq a b δ = b δ1 := by simp only [sSeq, h]
/-- a loop whose turns all go on -/
theorem forTurns_inv {t : ETg} {b : SM} (P : List D → Sl → Prop) : ∀ (ds pre : List D) (δ : Sl), P pre δ →
    (∀ pre d post δ, pre ++ d :: post = pre ++ d :: post → P pre δ → d ∈ ds → ∃ δ1 δ2, t d δ = some δ1 ∧ (b δ1 = some (.nx δ2) ∨ b δ1 = some (.ct δ2)) ∧ P (pre ++ [d]) δ2) → ∃ δ', forTurns t b ds δ = some (.nx δ') ∧ P (pre ++ ds) δ'
  | [], pre, δ, h, _ => ⟨δ, rfl, by rw [List.append_nil]; exact h⟩
  | d :: ds, pre, δ, h, hs => by
    obtain ⟨δ1, δ2, e1, e2, h2⟩ := hs pre d ds δ rfl h List.mem_cons_self
    obtain ⟨δ', e3, h3⟩ := forTurns_inv P ds (pre ++ [d]) δ2 h2 fun p d' q δ e hp hd => hs p d' q δ e hp (List.mem_cons_of_mem _ hd)
    refine ⟨δ', ?_, by rw [List.append_assoc] at h3; exact h3⟩
    unfold forTurns
    rw [e1]
    rcases e2 with e2 | e2 <;> (dsimp only; rw [e2]; exact e3)
/-- the same, a state that each turn keeps -/
theorem forTurns_keep {t : ETg} {b : SM} (P : Sl → Prop) (ds : List D) (δ : Sl) (h : P δ) (hs : ∀ d ∈ ds, ∀ δ, P δ → ∃ δ1 δ2, t d δ = some δ1 ∧ (b δ1 = some (.nx δ2) ∨ b δ1 = some (.ct δ2)) ∧ P δ2) : ∃ δ', forTurns t b ds δ = some (.nx δ') ∧ P δ' := by
  obtain ⟨δ', e, h'⟩ := forTurns_inv (fun _ => P) ds [] δ h fun pre d post δ _ hp hd => hs d hd δ hp
  exact ⟨δ', e, h'⟩
/-- n turns of a counted loop -/
theorem forTurns_range {t : ETg} {b : SM} (P : Nat → Sl → Prop) (lo : Int) : ∀ (n j : Nat) (δ : Sl), P j δ →
    (∀ i, j ≤ i → i < j + n → ∀ δ, P i δ → ∃ δ1 δ2, t (.int (lo + (i : Nat))) δ = some δ1 ∧ (b δ1 = some (.nx δ2) ∨ b δ1 = some (.ct δ2)) ∧ P (i + 1) δ2) →
    ∃ δ', forTurns t b ((List.range' j n).map fun i => .int (lo + (i : Nat))) δ = some (.nx δ') ∧ P (j + n) δ'
  | 0, j, δ, h, _ => ⟨δ, rfl, h⟩
  | n + 1, j, δ, h, hs => by
    obtain ⟨δ1, δ2, e1, e2, h2⟩ := hs j (Nat.le_refl _) (by omega) δ h
    obtain ⟨δ', e3, h3⟩ := forTurns_range P lo n (j + 1) δ2 h2 fun i h1 h2 => hs i (by omega) (by omega)
    refine ⟨δ', ?_, by rw [show j + (n + 1) = j + 1 + n by omega]; exact h3⟩
    rw [List.range'_succ, List.map_cons]
    unfold forTurns
    rw [e1]
    rcases e2 with e2 | e2 <;> (dsimp only; rw [e2]; exact e3)
theorem rangeD_eq (lo : Int) (n : Nat) : rangeD lo n = (List.range' 0 n).map fun i => .int (lo + (i : Nat)) := by
  rw [rangeD, List.range_eq_range']
theorem for_range {t : ETg} {b : SM} (P : Nat → Sl → Prop) (lo : Int) (n : Nat) (δ : Sl) (h : P 0 δ) (hs : ∀ i, i < n → ∀ δ, P i δ → ∃ δ1 δ2, t (.int (lo + (i : Nat))) δ = some δ1 ∧ (b δ1 = some (.nx δ2) ∨ b δ1 = some (.ct δ2)) ∧ P (i + 1) δ2) :
    ∃ δ', forTurns t b (rangeD lo n) δ = some (.nx δ') ∧ P n δ' := by
  rw [rangeD_eq]
  have := forTurns_range P lo n 0 δ h fun i _ h2 => hs i (by omega)
  rwa [Nat.zero_add] at this
/-- the turns of a comprehension: Q what is made so far, and the state -/
theorem compTurns_inv {t : ETg} {c : ET} {e : EV} {vs : List Nat} (P : List D → List D → Sl → Prop) : ∀ (ds pre acc : List D) (δ : Sl), P pre acc δ →
    (∀ pre d acc δ, P pre acc δ → d ∈ ds → ∃ δ1 δ2 bo, t d (wipeD δ vs) = some δ1 ∧ c δ1 = some (bo, δ2) ∧ (bo = false → P (pre ++ [d]) acc δ2) ∧ (bo = true → ∃ x δ3, e δ2 = some (x, δ3) ∧ P (pre ++ [d]) (acc ++ [x]) δ3)) →
    ∃ acc' δ', compTurns t c e vs ds acc δ = some (acc', δ') ∧ P (pre ++ ds) acc' δ'
  | [], pre, acc, δ, h, _ => ⟨acc, δ, rfl, by rw [List.append_nil]; exact h⟩
  | d :: ds, pre, acc, δ, h, hs => by
    obtain ⟨δ1, δ2, bo, e1, e2, h1, h2⟩ := hs pre d acc δ h List.mem_cons_self
    have tl := fun p d' a δ hp hd => hs p d' a δ hp (List.mem_cons_of_mem d hd)
    unfold compTurns
    rw [e1]
    dsimp only
    rw [e2]
    cases bo with
    | false =>
      obtain ⟨acc', δ', e3, h3⟩ := compTurns_inv P ds (pre ++ [d]) acc δ2 (h1 rfl) tl
      exact ⟨acc', δ', e3, by rw [List.append_assoc] at h3; exact h3⟩
    | true =>
      obtain ⟨x, δ3, e4, h4⟩ := h2 rfl
      obtain ⟨acc', δ', e3, h3⟩ := compTurns_inv P ds (pre ++ [d]) (acc ++ [x]) δ3 h4 tl
      refine ⟨acc', δ', ?_, by rw [List.append_assoc] at h3; exact h3⟩
      dsimp only
      rw [e4]
      exact e3
/-- a comprehension that maps -/
theorem compTurns_map {t : ETg} {e : EV} {vs : List Nat} (S : Sl → Prop) (f : D → D) (ds acc : List D) (δ : Sl) (h : S δ)
    (hs : ∀ d ∈ ds, ∀ δ, S δ → ∃ δ1 δ2, t d (wipeD δ vs) = some δ1 ∧ e δ1 = some (f d, δ2) ∧ S δ2) : ∃ δ', compTurns t dYes e vs ds acc δ = some (acc ++ ds.map f, δ') ∧ S δ' := by
  obtain ⟨acc', δ', e1, h1, h2⟩ := compTurns_inv (c := dYes) (e := e) (fun pre a δ => a = acc ++ pre.map f ∧ S δ) ds [] acc δ ⟨by simp, h⟩ fun pre d a δ hp hd => by
    obtain ⟨δ1, δ2, q1, q2, q3⟩ := hs d hd δ hp.2
    exact ⟨δ1, δ1, true, q1, rfl, fun z => (by cases z), fun _ => ⟨f d, δ2, q2, by rw [hp.1]; simp, q3⟩⟩
  refine ⟨δ', ?_, h2⟩
  rw [e1, h1, List.nil_append]
/-- a comprehension that maps and picks -/
theorem compTurns_filter {t : ETg} {c : ET} {e : EV} {vs : List Nat} (S : Sl → Prop) (p : D → Bool) (f : D → D) (ds acc : List D) (δ : Sl) (h : S δ)
    (hs : ∀ d ∈ ds, ∀ δ, S δ → ∃ δ1 δ2, t d (wipeD δ vs) = some δ1 ∧ c δ1 = some (p d, δ2) ∧ (p d = false → S δ2) ∧ (p d = true → ∃ δ3, e δ2 = some (f d, δ3) ∧ S δ3)) : ∃ δ', compTurns t c e vs ds acc δ = some (acc ++ (ds.filter p).map f, δ') ∧ S δ' := by
  obtain ⟨acc', δ', e1, h1, h2⟩ := compTurns_inv (c := c) (e := e) (fun pre a δ => a = acc ++ (pre.filter p).map f ∧ S δ) ds [] acc δ ⟨by simp, h⟩ fun pre d a δ hp hd => by
    obtain ⟨δ1, δ2, q1, q2, q3, q4⟩ := hs d hd δ hp.2
    refine ⟨δ1, δ2, p d, q1, q2, fun z => ⟨by rw [hp.1]; simp [z], q3 z⟩, fun z => ?_⟩
    obtain ⟨δ3, q5, q6⟩ := q4 z
    exact ⟨f d, δ3, q5, by rw [hp.1]; simp [z], q6⟩
  refine ⟨δ', ?_, h2⟩
  rw [e1, h1, List.nil_append]
theorem gAdd_list {xs ys : List D} (h : xs.length + ys.length ≤ LIM) : gAdd (.list xs) (.list ys) = some (.mt (xs ++ ys)) := by
  simp [gAdd, orG, gAddI, gI, gAddT, gAddL, h]
theorem gAdd_tuple {xs ys : List D} (h : xs.length + ys.length ≤ LIM) : gAdd (.tuple xs) (.tuple ys) = some (.fz (.tuple (xs ++ ys))) := by
  simp [gAdd, orG, gAddI, gI, gAddT, h]
theorem gMul_list {xs : List D} {k : Nat} (h : k ≤ 1000000) (h2 : xs.length * k ≤ LIM) : gMul (.list xs) (.int k) = some (.mt (List.replicate k xs).flatten) := by
  have h1 : -1000000 ≤ (k : Int) ∧ (k : Int) ≤ 1000000 := ⟨by omega, by omega⟩
  simp [gMul, orG, gMulI, gI, gMulL, rep, h1, h2]
theorem srt_perm (ns : List Int) : (sortI ns).Perm ns := List.mergeSort_perm ..
theorem srt_sorted (ns : List Int) : (sortI ns).Pairwise (· ≤ ·) := by
  have h := List.pairwise_mergeSort (le := fun a b : Int => decide (a ≤ b)) (fun a b c h1 h2 => decide_eq_true (Int.le_trans (of_decide_eq_true h1) (of_decide_eq_true h2))) (fun a b => by
    rcases Int.le_total a b with h | h
    · simp [h]
    · simp [h]) ns
  exact h.imp fun h => of_decide_eq_true h
theorem mem_srt {ns : List Int} {x : Int} : x ∈ sortI ns ↔ x ∈ ns := (srt_perm ns).mem_iff
theorem srt_len (ns : List Int) : (sortI ns).length = ns.length := (srt_perm ns).length_eq
theorem srt_eq {ns ms : List Int} (hp : ms.Perm ns) (hs : ms.Pairwise (· ≤ ·)) : sortI ns = ms :=
  List.Perm.eq_of_pairwise (fun a b _ _ h1 h2 => Int.le_antisymm h1 h2) (srt_sorted ns) hs ((srt_perm ns).trans hp.symm)
theorem desc_srt (ns : List Int) : (sortI ns).reverse.Pairwise (· ≥ ·) := by
  rw [List.pairwise_reverse]
  exact (srt_sorted ns).imp fun h => h
/-- .. of items that stand for something -/
theorem compTurns_of {α : Type} {t : ETg} {e : EV} {vs : List Nat} (S : Sl → Prop) (g f : α → D) (xs : List α) (δ : Sl) (h : S δ)
    (hs : ∀ x ∈ xs, ∀ δ, S δ → ∃ δ1 δ2, t (g x) (wipeD δ vs) = some δ1 ∧ e δ1 = some (f x, δ2) ∧ S δ2) : ∃ δ', compTurns t dYes e vs (xs.map g) [] δ = some (xs.map f, δ') ∧ S δ' := by
  suffices H : ∀ (xs : List α) (acc : List D) (δ : Sl), S δ → (∀ x ∈ xs, ∀ δ, S δ → ∃ δ1 δ2, t (g x) (wipeD δ vs) = some δ1 ∧ e δ1 = some (f x, δ2) ∧ S δ2) → ∃ δ', compTurns t dYes e vs (xs.map g) acc δ = some (acc ++ xs.map f, δ') ∧ S δ' from H xs [] δ h hs
  intro xs
  induction xs with
  | nil => exact fun acc δ h _ => ⟨δ, by simp [compTurns], h⟩
  | cons x xs ih =>
    intro acc δ h hs
    obtain ⟨δ1, δ2, e1, e2, h2⟩ := hs x List.mem_cons_self δ h
    obtain ⟨δ', e3, h3⟩ := ih (acc ++ [f x]) δ2 h2 fun y hy => hs y (List.mem_cons_of_mem _ hy)
    refine ⟨δ', ?_, h3⟩
    rw [List.map_cons]
    unfold compTurns
    rw [e1]
    show (match e δ1 with
      | none => none
      | some (x, δ3) => compTurns t dYes e vs (List.map g xs) (acc ++ [x]) δ3) = _
    rw [e2]
    show compTurns t dYes e vs (List.map g xs) (acc ++ [f x]) δ2 = _
    rw [e3]
    simp
theorem compTurns_ofIf {α : Type} {t : ETg} {c : ET} {e : EV} {vs : List Nat} (S : Sl → Prop) (g f : α → D) (p : α → Bool) (xs : List α) (δ : Sl) (h : S δ)
    (hs : ∀ x ∈ xs, ∀ δ, S δ → ∃ δ1 δ2, t (g x) (wipeD δ vs) = some δ1 ∧ c δ1 = some (p x, δ2) ∧ (p x = false → S δ2) ∧ (p x = true → ∃ δ3, e δ2 = some (f x, δ3) ∧ S δ3)) : ∃ δ', compTurns t c e vs (xs.map g) [] δ = some ((xs.filter p).map f, δ') ∧ S δ' := by
  suffices H : ∀ (xs : List α) (acc : List D) (δ : Sl), S δ → (∀ x ∈ xs, ∀ δ, S δ → ∃ δ1 δ2, t (g x) (wipeD δ vs) = some δ1 ∧ c δ1 = some (p x, δ2) ∧ (p x = false → S δ2) ∧ (p x = true → ∃ δ3, e δ2 = some (f x, δ3) ∧ S δ3)) → ∃ δ', compTurns t c e vs (xs.map g) acc δ = some (acc ++ (xs.filter p).map f, δ') ∧ S δ' from H xs [] δ h hs
  intro xs
  induction xs with
  | nil => exact fun acc δ h _ => ⟨δ, by simp [compTurns], h⟩
  | cons x xs ih =>
    intro acc δ h hs
    obtain ⟨δ1, δ2, e1, e2, q1, q2⟩ := hs x List.mem_cons_self δ h
    have tl : ∀ y ∈ xs, _ := fun y hy => hs y (List.mem_cons_of_mem _ hy)
    rw [List.map_cons]
    unfold compTurns
    rw [e1]
    dsimp only
    rw [e2]
    cases hp : p x with
    | false =>
      obtain ⟨δ', e3, h3⟩ := ih acc δ2 (q1 hp) tl
      refine ⟨δ', ?_, h3⟩
      dsimp only
      rw [e3]
      simp [hp]
    | true =>
      obtain ⟨δ3, e4, q4⟩ := q2 hp
      obtain ⟨δ', e3, h3⟩ := ih (acc ++ [f x]) δ3 q4 tl
      refine ⟨δ', ?_, h3⟩
      dsimp only
      rw [e4]
      dsimp only
      rw [e3]
      simp [hp]
def bools (bs : List Bool) : List D := bs.map PyData.bool
@[simp] theorem gAll_bs (bs : List Bool) : gAll [.list (bools bs)] = some (.fz (.bool (bs.all id))) := gAll_bools bs
@[simp] theorem bools_len (bs : List Bool) : (bools bs).length = bs.length := List.length_map ..
theorem zipD_map {α β : Type} (g : α → D) (h : β → D) : ∀ (xs : List α) (ys : List β), zipD (xs.map g) (ys.map h) = (xs.zip ys).map fun p => pairD (g p.1) (h p.2)
  | [], _ => by simp [zipD]
  | x :: xs, [] => by simp [zipD]
  | x :: xs, y :: ys => by
    simp only [List.map_cons, zipD, List.zip_cons_cons]
    rw [zipD_map g h xs ys]
/-! slices -/
theorem cut_from (ds : List D) (k : Nat) : cutD ds (some (k : Int)) none = ds.drop k := by
  unfold cutD cutIx
  have h : ¬ ((k : Int) < 0) := by omega
  simp only [h, if_false, Int.toNat_natCast]
  by_cases hk : k ≤ ds.length
  · rw [Nat.min_eq_left hk]
    apply List.take_of_length_le
    rw [List.length_drop]
    exact Nat.le_refl _
  · rw [Nat.min_eq_right (by omega), List.drop_of_length_le (Nat.le_refl _), List.drop_of_length_le (by omega)]
    simp
theorem cut_to (ds : List D) (k : Nat) : cutD ds none (some (k : Int)) = ds.take k := by
  unfold cutD cutIx
  have h : ¬ ((k : Int) < 0) := by omega
  simp only [h, if_false, Int.toNat_natCast, List.drop_zero, Nat.sub_zero]
  by_cases hk : k ≤ ds.length
  · rw [Nat.min_eq_left hk]
  · rw [Nat.min_eq_right (by omega), List.take_of_length_le (Nat.le_refl _), List.take_of_length_le (by omega)]
theorem cut_last (ds : List D) : cutD ds none (some (-1)) = ds.dropLast := by
  unfold cutD cutIx
  have e : (-1 + (ds.length : Int)).toNat = ds.length - 1 := by omega
  simp only [show (-1 : Int) < 0 by decide, if_true, List.drop_zero, Nat.sub_zero, e]
  rw [List.dropLast_eq_take]
theorem fldMax (l : List Int) : ∀ a : Int, (l.foldl (fun x y => if x < y then y else x) a = a ∨ l.foldl (fun x y => if x < y then y else x) a ∈ l) ∧ a ≤ l.foldl (fun x y => if x < y then y else x) a ∧ ∀ y ∈ l, y ≤ l.foldl (fun x y => if x < y then y else x) a := by
  induction l with
  | nil => exact fun a => ⟨.inl rfl, Int.le_refl a, fun y h => by cases h⟩
  | cons b l ih =>
    intro a
    simp only [List.foldl_cons]
    obtain ⟨h1, h2, h3⟩ := ih (if a < b then b else a)
    refine ⟨?_, ?_, fun y hy => ?_⟩
    · rcases h1 with h1 | h1
      · by_cases h : a < b
        · rw [if_pos h] at h1 ⊢
          exact .inr (by rw [h1]; exact List.mem_cons_self)
        · rw [if_neg h] at h1 ⊢
          exact .inl h1
      · exact .inr (List.mem_cons_of_mem _ h1)
    · split at h2 <;> split <;> omega
    · rcases List.mem_cons.mp hy with rfl | hy
      · split at h2 <;> split <;> omega
      · exact h3 y hy
theorem fldMin (l : List Int) : ∀ a : Int, (l.foldl (fun x y => if y < x then y else x) a = a ∨ l.foldl (fun x y => if y < x then y else x) a ∈ l) ∧ l.foldl (fun x y => if y < x then y else x) a ≤ a ∧ ∀ y ∈ l, l.foldl (fun x y => if y < x then y else x) a ≤ y := by
  induction l with
  | nil => exact fun a => ⟨.inl rfl, Int.le_refl a, fun y h => by cases h⟩
  | cons b l ih =>
    intro a
    simp only [List.foldl_cons]
    obtain ⟨h1, h2, h3⟩ := ih (if b < a then b else a)
    refine ⟨?_, ?_, fun y hy => ?_⟩
    · rcases h1 with h1 | h1
      · by_cases h : b < a
        · rw [if_pos h] at h1 ⊢
          exact .inr (by rw [h1]; exact List.mem_cons_self)
        · rw [if_neg h] at h1 ⊢
          exact .inl h1
      · exact .inr (List.mem_cons_of_mem _ h1)
    · split at h2 <;> split <;> omega
    · rcases List.mem_cons.mp hy with rfl | hy
      · split at h2 <;> split <;> omega
      · exact h3 y hy
theorem mx_mem (a : Int) (l : List Int) : maxI (a :: l) ∈ a :: l := by
  rcases (fldMax l a).1 with h | h
  · show l.foldl _ a ∈ _
    rw [h]
    exact List.mem_cons_self
  · exact List.mem_cons_of_mem _ h
theorem mx_ge {a : Int} {l : List Int} {y : Int} (h : y ∈ a :: l) : y ≤ maxI (a :: l) := by
  rcases List.mem_cons.mp h with rfl | h
  · exact (fldMax l y).2.1
  · exact (fldMax l a).2.2 y h
theorem mn_mem (a : Int) (l : List Int) : minI (a :: l) ∈ a :: l := by
  rcases (fldMin l a).1 with h | h
  · show l.foldl _ a ∈ _
    rw [h]
    exact List.mem_cons_self
  · exact List.mem_cons_of_mem _ h
theorem mn_le {a : Int} {l : List Int} {y : Int} (h : y ∈ a :: l) : minI (a :: l) ≤ y := by
  rcases List.mem_cons.mp h with rfl | h
  · exact (fldMin l y).2.1
  · exact (fldMin l a).2.2 y h
/-- the items of a tuple of intz, read -/
theorem mn_in {ns : List Int} (h : ns ≠ []) : minI ns ∈ ns := by
  cases ns with
  | nil => exact absurd rfl h
  | cons a l => exact mn_mem a l
theorem mn_low {ns : List Int} {y : Int} (h : y ∈ ns) : minI ns ≤ y := by
  cases ns with
  | nil => cases h
  | cons a l => exact mn_le h
theorem mx_in {ns : List Int} (h : ns ≠ []) : maxI ns ∈ ns := by
  cases ns with
  | nil => exact absurd rfl h
  | cons a l => exact mx_mem a l
theorem mx_high {ns : List Int} {y : Int} (h : y ∈ ns) : y ≤ maxI ns := by
  cases ns with
  | nil => cases h
  | cons a l => exact mx_ge h
theorem gMin_ne {ns : List Int} (h : ns ≠ []) : gMin [li ns] = some (.fz (.int (minI ns))) := by
  cases ns with
  | nil => exact absurd rfl h
  | cons a l => exact gMin_li a l
theorem gMax_ne {ns : List Int} (h : ns ≠ []) : gMax [ti ns] = some (.fz (.int (maxI ns))) := by
  cases ns with
  | nil => exact absurd rfl h
  | cons a l => exact gMax_ti a l
theorem mRemove_ok {ns : List Int} {n : Int} (h : n ∈ ns) : mRemove (intz ns) [.int n] = some (.fz .none, intz (ns.erase n)) := by
  show (match intsOf (intz ns) with
    | some ns => if n ∈ ns then some (DV.fz .none, (ns.erase n).map PyData.int) else none
    | none => none) = _
  rw [intsOf_map']
  show (if n ∈ ns then some (DV.fz PyData.none, (ns.erase n).map PyData.int) else none) = _
  rw [if_pos h]
  rfl
theorem sIf_t {c : ET} {a b : SM} {δ δ1 : Sl} (h : c δ = some (true, δ1)) : sIf c a b δ = a δ1 := by simp only [sIf, h]
theorem sIf_f {c : ET} {a b : SM} {δ δ1 : Sl} (h : c δ = some (false, δ1)) : sIf c a b δ = b δ1 := by simp only [sIf, h]
theorem dComp_run {src : EI} {t : ETg} {c : ET} {e : EV} {vs : List Nat} {δ δ1 δ2 : Sl} {ds acc : List D} (hs : src δ = some (ds, δ1)) (hc : vs.all (calmAt δ1) = true) (hl : ds.length ≤ LIM) (ht : compTurns t c e vs ds [] (wipeD δ1 vs) = some (acc, δ2)) :
    dComp src t c e vs δ = some (.mt acc, restore δ1 vs δ2) := by
  unfold dComp
  rw [hs]
  dsimp only
  have h : (vs.all (calmAt δ1) && decide (ds.length ≤ LIM)) = true := by rw [hc, decide_eq_true hl]; rfl
  rw [if_pos h, ht]
theorem lim_of {n : Nat} (h : n ≤ 1000) : n ≤ LIM := Nat.le_trans h (by decide)
/-! one step at a time -/
theorem sAsg_run {i : Nat} {e : EE} {δ δ1 : Sl} {r : DV} {a : Option DV} (h : e δ = some (r, δ1)) (hi : δ1[i]? = some a) (ha : nb a = true) : sAsg i e δ = some (.nx (δ1.set i (some r))) := by
  rw [sAsg_eq, h]
  dsimp only
  rw [hi]
  dsimp only
  rw [if_pos ha]
theorem dCB_one {g : GN} {f : EL} {δ δ1 : Sl} {x : LV} {d : D} {r : DV} (hf : f δ = some (x, δ1)) (hx : x.get δ1 = some d) (hg : g [d] = some r) : dCB g (lCons f lNil) δ = some (r, δ1) := by
  unfold dCB lCons lNil
  rw [hf]
  dsimp only [getAll]
  rw [hx]
  dsimp only
  rw [hg]
theorem toV_fz {f : EE} {δ δ1 : Sl} {d : D} (h : f δ = some (.fz d, δ1)) : toV f δ = some (d, δ1) := by simp only [toV, h]
theorem toV_mt {f : EE} {δ δ1 : Sl} {d : List D} (h : f δ = some (.mt d, δ1)) : toV f δ = some (.list d, δ1) := by simp only [toV, h]
theorem toL_run {f : EV} {δ δ1 : Sl} {d : D} (h : f δ = some (d, δ1)) : toL f δ = some (.val d, δ1) := by simp only [toL, h]
theorem ofV_run {f : EV} {δ δ1 : Sl} {d : D} (h : f δ = some (d, δ1)) : ofV f δ = some (.fz d, δ1) := by simp only [ofV, h]
theorem aCons_run {a : EV} {r : EA} {δ δ1 δ2 : Sl} {d : D} {ds : List D} (h : a δ = some (d, δ1)) (h2 : r δ1 = some (ds, δ2)) : aCons a r δ = some (d :: ds, δ2) := by
  unfold aCons
  rw [h]
  dsimp only
  rw [h2]
theorem aNil_run (δ : Sl) : aNil δ = some ([], δ) := id rfl
theorem dCall_run {Φ : Fn} {a : EA} {δ δ1 : Sl} {ds : List D} {r : DV} {b : List D} (h : a δ = some (ds, δ1)) (hf : Φ (ds.map .fz) = some (.ret r b)) : dCall Φ a δ = some (r, δ1) := by
  unfold dCall
  rw [h]
  dsimp only
  rw [hf]
theorem dTruthy_bool {f : EL} {δ δ1 : Sl} {x : LV} {b : Bool} (h : f δ = some (x, δ1)) (hx : x.get δ1 = some (.bool b)) : dTruthy f δ = some (b, δ1) := by
  unfold dTruthy
  rw [h]
  dsimp only
  rw [hx]
theorem dVar_fz {i : Nat} {δ : Sl} {d : D} (h : δ[i]? = some (some (.fz d))) : dVar i δ = some (d, δ) := by
  unfold dVar
  rw [h]
theorem sRet_run {e : EE} {δ δ1 : Sl} {r : DV} (h : e δ = some (r, δ1)) : sRet e δ = some (.rt r δ1) := by simp only [sRet, h]
theorem lim_of' {n k : Nat} (h : n ≤ 1000) (hk : k ≤ 1000 := by decide) : n + k ≤ LIM := Nat.le_trans (Nat.add_le_add h hk) (by decide)
end DL
set_option Elab.async false
set_option linter.all false
/-! The program, function by function. -/
namespace FT
open PySem DL
def b_is_integer_1 : SM := (sRet (ofV (dOfT (dAnd (dTest (toL (dUn (gIsi "int") (dLate 0)))) (dAnd (dNot (dTest (toL (dUn (gIsi "bool") (dLate 0))))) (dChain gLe gLe (dLate 1) (dLate 0) (dLate 2)))))))
def b_is_integer : SM := b_is_integer_1
def F_is_integer : Fn := fnOf 3 b_is_integer
def b_is_price_1 : SM := (sRet (dCall F_is_integer (aCons (dVar 0) (aCons (dC (.int 1)) (aCons (dC (.int 1000000)) aNil)))))
def b_is_price : SM := b_is_price_1
def F_is_price : Fn := fnOf 1 b_is_price
def b_are_prices_1 : SM := (sRet (ofV (dOfT (dAnd (dTest (toL (dUn (gIsi "tuple") (dLate 0)))) (dAnd (dChain gLe gLe (toL (dC (.int 1))) (toL (toV (dCB gLen (lCons (dLate 0) lNil)))) (toL (dC (.int 30)))) (dTest (toL (toV (dCB gAll (lCons (toL (toV (dComp (dIter (dVar 0)) (tgName 1) dYes (toV (dCall F_is_price (aCons (dVar 1) aNil))) [1]))) lNil))))))))))
def b_are_prices : SM := b_are_prices_1
def F_are_prices : Fn := fnOf 2 b_are_prices
def b_is_basket_1 : SM := (sRet (ofV (dOfT (dAnd (dTest (toL (toV (dCall F_are_prices (aCons (dVar 0) aNil))))) (dTest (toL (toV (dCB gAll (lCons (toL (toV (dComp (dZip (aCons (dVar 0) (aCons (toV (dCut (dLate 0) (oSome (toL (dC (.int 1)))) oNone)) aNil))) (tgTup (tgCons (tgName 1) (tgCons (tgName 2) tgNil))) dYes (toV (dOp gGe (dLate 1) (dLate 2))) [1, 2]))) lNil)))))))))
def b_is_basket : SM := b_is_basket_1
def F_is_basket : Fn := fnOf 3 b_is_basket
def b_require_offer_1 : SM := (sIf (dNot (dTruthy (toL (toV (dCall F_is_integer (aCons (dVar 0) (aCons (dC (.int 2)) (aCons (dC (.int 9)) aNil)))))))) (sRaise "InvalidOffer") sNext)
def b_require_offer : SM := b_require_offer_1
def F_require_offer : Fn := fnOf 1 b_require_offer
def b_require_basket_1 : SM := (sIf (dNot (dTruthy (toL (toV (dCall F_is_basket (aCons (dVar 0) aNil)))))) (sRaise "InvalidBasket") sNext)
def b_require_basket : SM := b_require_basket_1
def F_require_basket : Fn := fnOf 1 b_require_basket
def b_require_price_1 : SM := (sIf (dNot (dTruthy (toL (toV (dCall F_is_price (aCons (dVar 0) aNil)))))) (sRaise "InvalidPrice") sNext)
def b_require_price : SM := b_require_price_1
def F_require_price : Fn := fnOf 1 b_require_price
def b_require_total_1 : SM := (sIf (dNot (dTruthy (toL (toV (dCall F_is_integer (aCons (dVar 0) (aCons (dC (.int 0)) (aCons (dC (.int 100000000)) aNil)))))))) (sRaise "InvalidNumber") sNext)
def b_require_total : SM := b_require_total_1
def F_require_total : Fn := fnOf 1 b_require_total
def b_require_room_1 : SM := (sIf (dTest (toL (toV (dOp gGt (dLate 0) (toL (dC (.int 30))))))) (sRaise "TooMany") sNext)
def b_require_room : SM := b_require_room_1
def F_require_room : Fn := fnOf 1 b_require_room
def b_descending_1 : SM := (sRet (dCB gTuple (lCons (toL (toV (dCB gSortedR (lCons (dLate 0) lNil)))) lNil)))
def b_descending : SM := b_descending_1
def F_descending : Fn := fnOf 1 b_descending
def b_cost_of_1 : SM := (sRet (dCB gSum (lCons (toL (toV (dCut (dLate 1) oNone (oSome (toL (toV (dOp gSubI (toL (toV (dCB gLen (lCons (dLate 1) lNil)))) (toL (toV (dOp gDivI (toL (toV (dCB gLen (lCons (dLate 1) lNil)))) (dLate 0))))))))))) lNil)))
def b_cost_of : SM := b_cost_of_1
def F_cost_of : Fn := fnOf 2 b_cost_of
def b_cost_1 : SM := (sCallX F_require_offer (aCons (dVar 0) aNil))
def b_cost_2 : SM := (sCallX F_require_basket (aCons (dVar 1) aNil))
def b_cost_3 : SM := (sRet (dCall F_cost_of (aCons (dVar 0) (aCons (dVar 1) aNil))))
def b_cost : SM := (sSeq b_cost_1 (sSeq b_cost_2 b_cost_3))
def F_cost : Fn := fnOf 2 b_cost
def b_are_items_1 : SM := (sIf (dOr (dNot (dTruthy (toL (dUn (gIsi "tuple") (dLate 1))))) (dNot (dTruthy (toL (toV (dCB gAll (lCons (toL (toV (dComp (dIter (dVar 1)) (tgName 2) dYes (toV (dCall F_is_integer (aCons (dVar 2) (aCons (dC (.int 0)) (aCons (toV (dOp gSubI (toL (toV (dCB gLen (lCons (dLate 0) lNil)))) (toL (dC (.int 1))))) aNil))))) [2]))) lNil))))))) (sRet (ofV (dC (.bool false)))) sNext)
def b_are_items_2 : SM := (sRet (dCB gAll (lCons (toL (toV (dComp (dZip (aCons (dVar 1) (aCons (toV (dCut (dLate 1) (oSome (toL (dC (.int 1)))) oNone)) aNil))) (tgTup (tgCons (tgName 3) (tgCons (tgName 4) tgNil))) dYes (toV (dOp gLt (dLate 3) (dLate 4))) [3, 4]))) lNil)))
def b_are_items : SM := (sSeq b_are_items_1 b_are_items_2)
def F_are_items : Fn := fnOf 5 b_are_items
def b_require_items_1 : SM := (sIf (dNot (dTruthy (toL (toV (dCall F_are_items (aCons (dVar 0) (aCons (dVar 1) aNil))))))) (sRaise "InvalidItems") sNext)
def b_require_items : SM := b_require_items_1
def F_require_items : Fn := fnOf 2 b_require_items
def b_fits_1b_1 : SM := (sAsg 4 (dCB gLen (lCons (toL (toV (dComp (dIter (dVar 2)) (tgName 5) (dTest (toL (toV (dOp gGe (toL (toV (dOp gIx (dLate 1) (dLate 5)))) (dLate 3))))) (dVar 5) [5]))) lNil)))
def b_fits_1b_2 : SM := (sIf (dTest (toL (toV (dOp gGt (dLate 4) (toL (toV (dOp gDivI (toL (toV (dCB gLen (lCons (toL (toV (dComp (dIter (dVar 1)) (tgName 6) (dTest (toL (toV (dOp gGe (dLate 6) (dLate 3))))) (dVar 6) [6]))) lNil)))) (dLate 0)))))))) (sRet (ofV (dC (.bool false)))) sNext)
def b_fits_1b : SM := (sSeq b_fits_1b_1 b_fits_1b_2)
def b_fits_1 : SM := (sFor (dIter (dVar 1)) (tgName 3)
  b_fits_1b)
def b_fits_2 : SM := (sRet (ofV (dC (.bool true))))
def b_fits : SM := (sSeq b_fits_1 b_fits_2)
def F_fits : Fn := fnOf 7 b_fits
def b_require_set_1 : SM := (sCallX F_require_offer (aCons (dVar 0) aNil))
def b_require_set_2 : SM := (sCallX F_require_basket (aCons (dVar 1) aNil))
def b_require_set_3 : SM := (sIf (dOr (dNot (dTruthy (toL (toV (dCall F_are_items (aCons (dVar 1) (aCons (dVar 2) aNil))))))) (dNot (dTruthy (toL (toV (dCall F_fits (aCons (dVar 0) (aCons (dVar 1) (aCons (dVar 2) aNil))))))))) (sRaise "InvalidItems") sNext)
def b_require_set : SM := (sSeq b_require_set_1 (sSeq b_require_set_2 b_require_set_3))
def F_require_set : Fn := fnOf 3 b_require_set
def b_is_free_set_1 : SM := (sCallX F_require_offer (aCons (dVar 0) aNil))
def b_is_free_set_2 : SM := (sCallX F_require_basket (aCons (dVar 1) aNil))
def b_is_free_set_3 : SM := (sCallX F_require_items (aCons (dVar 1) (aCons (dVar 2) aNil)))
def b_is_free_set_4 : SM := (sRet (dCall F_fits (aCons (dVar 0) (aCons (dVar 1) (aCons (dVar 2) aNil)))))
def b_is_free_set : SM := (sSeq b_is_free_set_1 (sSeq b_is_free_set_2 (sSeq b_is_free_set_3 b_is_free_set_4)))
def F_is_free_set : Fn := fnOf 3 b_is_free_set
abbrev W_split_of : Nat := 60
def b_split_of_1 : SM := (sAsg 3 (dComp (dRange1 (lCons (toL (toV (dCB gLen (lCons (dLate 1) lNil)))) lNil)) (tgName 6) (dTest (toL (toV (dOp (gIn true) (dLate 6) (dLate 2))))) (dVar 6) [6]))
def b_split_of_2 : SM := (sPar 4 5 (dOp gSubI (dLate 0) (toL (dC (.int 1)))) (dLst aNil))
def b_split_of_3b_1 : SM := (sDrop (dMut 5 mAppend (aCons (dTup (aCons (toV (dCB gTuple (lCons (toL (toV (dCut (dLate 3) oNone (oSome (dLate 4))))) lNil))) (aCons (dTup (aCons (dVar 6) aNil)) aNil))) aNil)))
def b_split_of_3b_2 : SM := (sAsg 3 (dCut (dLate 3) (oSome (dLate 4)) oNone))
def b_split_of_3b : SM := (sSeq b_split_of_3b_1 b_split_of_3b_2)
def b_split_of_3 : SM := (sFor (dIter (dVar 2)) (tgName 6)
  b_split_of_3b)
def b_split_of_4b_1 : SM := (sDrop (dMut 5 mAppend (aCons (dTup (aCons (toV (dCB gTuple (lCons (toL (toV (dCut (dLate 3) oNone (oSome (dLate 4))))) lNil))) (aCons (dTup aNil) aNil))) aNil)))
def b_split_of_4b_2 : SM := (sAsg 3 (dCut (dLate 3) (oSome (dLate 4)) oNone))
def b_split_of_4b : SM := (sSeq b_split_of_4b_1 b_split_of_4b_2)
def b_split_of_4 : SM := (sWhile W_split_of (dTruthy (dLate 3))
  b_split_of_4b)
def b_split_of_5 : SM := (sRet (dCB gTuple (lCons (dLate 5) lNil)))
def b_split_of : SM := (sSeq b_split_of_1 (sSeq b_split_of_2 (sSeq b_split_of_3 (sSeq b_split_of_4 b_split_of_5))))
def F_split_of : Fn := fnOf 7 b_split_of
def b_split_for_1 : SM := (sCallX F_require_offer (aCons (dVar 0) aNil))
def b_split_for_2 : SM := (sCallX F_require_basket (aCons (dVar 1) aNil))
def b_split_for_3 : SM := (sCallX F_require_items (aCons (dVar 1) (aCons (dVar 2) aNil)))
def b_split_for_4 : SM := (sRet (dIf (dTruthy (toL (toV (dCall F_fits (aCons (dVar 0) (aCons (dVar 1) (aCons (dVar 2) aNil))))))) (dCall F_split_of (aCons (dVar 0) (aCons (dVar 1) (aCons (dVar 2) aNil)))) (ofV (dC .none))))
def b_split_for : SM := (sSeq b_split_for_1 (sSeq b_split_for_2 (sSeq b_split_for_3 b_split_for_4)))
def F_split_for : Fn := fnOf 3 b_split_for
def b_can_be_free_1 : SM := (sCallX F_require_offer (aCons (dVar 0) aNil))
def b_can_be_free_2 : SM := (sCallX F_require_basket (aCons (dVar 1) aNil))
def b_can_be_free_3 : SM := (sRet (dComp (dRange1 (lCons (toL (toV (dCB gLen (lCons (dLate 1) lNil)))) lNil)) (tgName 2) (dTruthy (toL (toV (dCall F_fits (aCons (dVar 0) (aCons (dVar 1) (aCons (dTup (aCons (dVar 2) aNil)) aNil))))))) (dVar 2) [2]))
def b_can_be_free : SM := (sSeq b_can_be_free_1 (sSeq b_can_be_free_2 b_can_be_free_3))
def F_can_be_free : Fn := fnOf 3 b_can_be_free
def b_with_item_1 : SM := (sRet (dCB gTuple (lCons (toL (toV (dCB gSorted (lCons (toL (toV (dOp gAdd (dLate 0) (toL (dTup (aCons (dVar 1) aNil)))))) lNil)))) lNil)))
def b_with_item : SM := b_with_item_1
def F_with_item : Fn := fnOf 2 b_with_item
def b_joinable_1 : SM := (sCallX F_require_set (aCons (dVar 0) (aCons (dVar 1) (aCons (dVar 2) aNil))))
def b_joinable_2 : SM := (sAsg 3 (dComp (dRange1 (lCons (toL (toV (dCB gLen (lCons (dLate 1) lNil)))) lNil)) (tgName 4) (dTest (toL (toV (dOp (gIn true) (dLate 4) (dLate 2))))) (dVar 4) [4]))
def b_joinable_3 : SM := (sRet (dComp (dIter (dVar 3)) (tgName 4) (dTruthy (toL (toV (dCall F_fits (aCons (dVar 0) (aCons (dVar 1) (aCons (toV (dCall F_with_item (aCons (dVar 2) (aCons (dVar 4) aNil)))) aNil))))))) (dVar 4) [4]))
def b_joinable : SM := (sSeq b_joinable_1 (sSeq b_joinable_2 b_joinable_3))
def F_joinable : Fn := fnOf 5 b_joinable
def b_swaps_1 : SM := (sCallX F_require_set (aCons (dVar 0) (aCons (dVar 1) (aCons (dVar 2) aNil))))
def b_swaps_2 : SM := (sAsg 3 (dLst aNil))
def b_swaps_3b_1 : SM := (sAsg 5 (dCB gTuple (lCons (toL (toV (dComp (dIter (dVar 2)) (tgName 7) (dTest (toL (toV (dOp gNe (dLate 7) (dLate 4))))) (dVar 7) [7]))) lNil)))
def b_swaps_3b_2b_1 : SM := (sIf (dAnd (dTest (toL (toV (dOp (gIn true) (dLate 6) (dLate 2))))) (dTruthy (toL (toV (dCall F_fits (aCons (dVar 0) (aCons (dVar 1) (aCons (toV (dCall F_with_item (aCons (dVar 5) (aCons (dVar 6) aNil)))) aNil)))))))) (sDrop (dMut 3 mAppend (aCons (dTup (aCons (dVar 4) (aCons (dVar 6) aNil))) aNil))) sNext)
def b_swaps_3b_2b : SM := b_swaps_3b_2b_1
def b_swaps_3b_2 : SM := (sFor (dRange1 (lCons (toL (toV (dCB gLen (lCons (dLate 1) lNil)))) lNil)) (tgName 6)
  b_swaps_3b_2b)
def b_swaps_3b : SM := (sSeq b_swaps_3b_1 b_swaps_3b_2)
def b_swaps_3 : SM := (sFor (dIter (dVar 2)) (tgName 4)
  b_swaps_3b)
def b_swaps_4 : SM := (sRet (ofV (dVar 3)))
def b_swaps : SM := (sSeq b_swaps_1 (sSeq b_swaps_2 (sSeq b_swaps_3 b_swaps_4)))
def F_swaps : Fn := fnOf 8 b_swaps
abbrev W_price_classes : Nat := 40
def b_price_classes_1 : SM := (sPar 2 3 (dLst aNil) (ofV (dC (.int 0))))
def b_price_classes_2b_1 : SM := (sAsg 4 (dOp gIx (dLate 1) (dLate 3)))
def b_price_classes_2b_2 : SM := (sAsg 5 (ofV (dTCount 1 (dVar 4))))
def b_price_classes_2b_3 : SM := (sAsg 3 (dOp gAddI (dLate 3) (dLate 5)))
def b_price_classes_2b_4 : SM := (sDrop (dMut 2 mAppend (aCons (dTup (aCons (dVar 4) (aCons (dVar 5) (aCons (toV (dOp gDivI (dLate 3) (dLate 0))) aNil)))) aNil)))
def b_price_classes_2b : SM := (sSeq b_price_classes_2b_1 (sSeq b_price_classes_2b_2 (sSeq b_price_classes_2b_3 b_price_classes_2b_4)))
def b_price_classes_2 : SM := (sWhile W_price_classes (dTest (toL (toV (dOp gLt (dLate 3) (toL (toV (dCB gLen (lCons (dLate 1) lNil))))))))
  b_price_classes_2b)
def b_price_classes_3 : SM := (sRet (ofV (dVar 2)))
def b_price_classes : SM := (sSeq b_price_classes_1 (sSeq b_price_classes_2 b_price_classes_3))
def F_price_classes : Fn := fnOf 6 b_price_classes
def b_binomial_1 : SM := (sAsg 2 (ofV (dC (.int 1))))
def b_binomial_2b_1 : SM := (sAsg 2 (dOp gDivI (toL (toV (dOp gMul (dLate 2) (toL (toV (dOp gSubI (dLate 0) (dLate 3))))))) (toL (toV (dOp gAdd (dLate 3) (toL (dC (.int 1))))))))
def b_binomial_2b : SM := b_binomial_2b_1
def b_binomial_2 : SM := (sFor (dRange1 (lCons (dLate 1) lNil)) (tgName 3)
  b_binomial_2b)
def b_binomial_3 : SM := (sRet (ofV (dVar 2)))
def b_binomial : SM := (sSeq b_binomial_1 (sSeq b_binomial_2 b_binomial_3))
def F_binomial : Fn := fnOf 4 b_binomial
def b_counts_1 : SM := (sAsg 2 (dOp gAdd (toL (toV (dLst (aCons (dC (.int 1)) aNil)))) (toL (toV (dOp gMul (toL (toV (dLst (aCons (dC (.int 0)) aNil)))) (toL (toV (dOp gDivI (toL (toV (dCB gLen (lCons (dLate 1) lNil)))) (dLate 0)))))))))
def b_counts_2b_1 : SM := (sAsg 6 (dOp gMul (toL (toV (dLst (aCons (dC (.int 0)) aNil)))) (toL (toV (dCB gLen (lCons (dLate 2) lNil))))))
def b_counts_2b_2b_1b_1 : SM := (sAugIx 6 (toV (dOp gAdd (dLate 7) (dLate 9))) (toV (dOp gMul (dLate 8) (toL (toV (dCall F_binomial (aCons (dVar 4) (aCons (dVar 9) aNil))))))))
def b_counts_2b_2b_1b : SM := b_counts_2b_2b_1b_1
def b_counts_2b_2b_1 : SM := (sFor (dRange1 (lCons (toL (toV (dOp gAdd (toL (toV (dCB gMin (lCons (dLate 4) (lCons (toL (toV (dOp gSubI (dLate 5) (dLate 7)))) lNil))))) (toL (dC (.int 1)))))) lNil)) (tgName 9)
  b_counts_2b_2b_1b)
def b_counts_2b_2b : SM := b_counts_2b_2b_1
def b_counts_2b_2 : SM := (sFor (dEnum (aCons (dVar 2) aNil)) (tgTup (tgCons (tgName 7) (tgCons (tgName 8) tgNil)))
  b_counts_2b_2b)
def b_counts_2b_3 : SM := (sAsg 2 (ofV (dVar 6)))
def b_counts_2b : SM := (sSeq b_counts_2b_1 (sSeq b_counts_2b_2 b_counts_2b_3))
def b_counts_2 : SM := (sFor (dIter (toV (dCall F_price_classes (aCons (dVar 0) (aCons (dVar 1) aNil))))) (tgTup (tgCons (tgName 3) (tgCons (tgName 4) (tgCons (tgName 5) tgNil))))
  b_counts_2b)
def b_counts_3 : SM := (sRet (ofV (dVar 2)))
def b_counts : SM := (sSeq b_counts_1 (sSeq b_counts_2 b_counts_3))
def F_counts : Fn := fnOf 10 b_counts
def b_count_sets_1 : SM := (sCallX F_require_offer (aCons (dVar 0) aNil))
def b_count_sets_2 : SM := (sCallX F_require_basket (aCons (dVar 1) aNil))
def b_count_sets_3 : SM := (sRet (dCB gSum (lCons (toL (toV (dCall F_counts (aCons (dVar 0) (aCons (dVar 1) aNil))))) lNil)))
def b_count_sets : SM := (sSeq b_count_sets_1 (sSeq b_count_sets_2 b_count_sets_3))
def F_count_sets : Fn := fnOf 2 b_count_sets
def b_count_full_1 : SM := (sCallX F_require_offer (aCons (dVar 0) aNil))
def b_count_full_2 : SM := (sCallX F_require_basket (aCons (dVar 1) aNil))
def b_count_full_3 : SM := (sRet (dOp gIx (toL (toV (dCall F_counts (aCons (dVar 0) (aCons (dVar 1) aNil))))) (toL (dUn gNeg (toL (dC (.int 1)))))))
def b_count_full : SM := (sSeq b_count_full_1 (sSeq b_count_full_2 b_count_full_3))
def F_count_full : Fn := fnOf 2 b_count_full
def b_best_prices_1 : SM := (sRet (ofV (dStep (dLate 1) (oSome (toL (toV (dOp gSubI (dLate 0) (toL (dC (.int 1))))))) (dLate 0))))
def b_best_prices : SM := b_best_prices_1
def F_best_prices : Fn := fnOf 2 b_best_prices
def b_best_saving_1 : SM := (sCallX F_require_offer (aCons (dVar 0) aNil))
def b_best_saving_2 : SM := (sCallX F_require_basket (aCons (dVar 1) aNil))
def b_best_saving_3 : SM := (sRet (dCB gSum (lCons (toL (toV (dCall F_best_prices (aCons (dVar 0) (aCons (dVar 1) aNil))))) lNil)))
def b_best_saving : SM := (sSeq b_best_saving_1 (sSeq b_best_saving_2 b_best_saving_3))
def F_best_saving : Fn := fnOf 2 b_best_saving
def b_free_prices_1 : SM := (sCallX F_require_offer (aCons (dVar 0) aNil))
def b_free_prices_2 : SM := (sCallX F_require_basket (aCons (dVar 1) aNil))
def b_free_prices_3 : SM := (sRet (dCall F_best_prices (aCons (dVar 0) (aCons (dVar 1) aNil))))
def b_free_prices : SM := (sSeq b_free_prices_1 (sSeq b_free_prices_2 b_free_prices_3))
def F_free_prices : Fn := fnOf 2 b_free_prices
def b_require_wishes_1 : SM := (sIf (dOr (dNot (dTruthy (toL (dUn (gIsi "tuple") (dLate 1))))) (dTest (toL (toV (dOp gNe (toL (toV (dCB gLen (lCons (dLate 1) lNil)))) (toL (toV (dCB gLen (lCons (dLate 0) lNil))))))))) (sRaise "InvalidWishes") sNext)
def b_require_wishes_2 : SM := (sIf (dNot (dTruthy (toL (toV (dCB gAll (lCons (toL (toV (dComp (dIter (dVar 1)) (tgName 2) dYes (toV (dCall F_is_integer (aCons (dVar 2) (aCons (dC (.int 0)) (aCons (dC (.int 1000000)) aNil))))) [2]))) lNil)))))) (sRaise "InvalidWishes") sNext)
def b_require_wishes : SM := (sSeq b_require_wishes_1 b_require_wishes_2)
def F_require_wishes : Fn := fnOf 3 b_require_wishes
abbrev W_common_divisor : Nat := 200
def b_common_divisor_1b_1 : SM := (sPar 0 1 (ofV (dVar 1)) (dOp gModI (dLate 0) (dLate 1)))
def b_common_divisor_1b : SM := b_common_divisor_1b_1
def b_common_divisor_1 : SM := (sWhile W_common_divisor (dTruthy (dLate 1))
  b_common_divisor_1b)
def b_common_divisor_2 : SM := (sRet (ofV (dVar 0)))
def b_common_divisor : SM := (sSeq b_common_divisor_1 b_common_divisor_2)
def F_common_divisor : Fn := fnOf 2 b_common_divisor
def b_share_1 : SM := (sCallX F_require_offer (aCons (dVar 0) aNil))
def b_share_2 : SM := (sCallX F_require_basket (aCons (dVar 1) aNil))
def b_share_3 : SM := (sPar 2 3 (dCB gSum (lCons (toL (toV (dCall F_best_prices (aCons (dVar 0) (aCons (dVar 1) aNil))))) lNil)) (dCB gSum (lCons (dLate 1) lNil)))
def b_share_4 : SM := (sAsg 4 (dCall F_common_divisor (aCons (dVar 2) (aCons (dVar 3) aNil))))
def b_share_5 : SM := (sRet (ofV (dTup (aCons (toV (dOp gDivI (dLate 2) (dLate 4))) (aCons (toV (dOp gDivI (dLate 3) (dLate 4))) aNil)))))
def b_share : SM := (sSeq b_share_1 (sSeq b_share_2 (sSeq b_share_3 (sSeq b_share_4 b_share_5))))
def F_share : Fn := fnOf 5 b_share
def b_gain_together_1 : SM := (sCallX F_require_offer (aCons (dVar 0) aNil))
def b_gain_together_2 : SM := (sCallX F_require_basket (aCons (dVar 1) aNil))
def b_gain_together_3 : SM := (sCallX F_require_basket (aCons (dVar 2) aNil))
def b_gain_together_4 : SM := (sCallX F_require_room (aCons (toV (dOp gAdd (toL (toV (dCB gLen (lCons (dLate 1) lNil)))) (toL (toV (dCB gLen (lCons (dLate 2) lNil)))))) aNil))
def b_gain_together_5 : SM := (sAsg 3 (dCB gSum (lCons (toL (toV (dCall F_best_prices (aCons (dVar 0) (aCons (toV (dCall F_descending (aCons (toV (dOp gAdd (dLate 1) (dLate 2))) aNil))) aNil))))) lNil)))
def b_gain_together_6 : SM := (sRet (dOp gSubI (toL (toV (dOp gSubI (dLate 3) (toL (toV (dCB gSum (lCons (toL (toV (dCall F_best_prices (aCons (dVar 0) (aCons (dVar 1) aNil))))) lNil))))))) (toL (toV (dCB gSum (lCons (toL (toV (dCall F_best_prices (aCons (dVar 0) (aCons (dVar 2) aNil))))) lNil))))))
def b_gain_together : SM := (sSeq b_gain_together_1 (sSeq b_gain_together_2 (sSeq b_gain_together_3 (sSeq b_gain_together_4 (sSeq b_gain_together_5 b_gain_together_6)))))
def F_gain_together : Fn := fnOf 4 b_gain_together
def b_rise_1 : SM := (sAsg 3 (dCall F_descending (aCons (toV (dOp gAdd (dLate 1) (toL (dTup (aCons (dVar 2) aNil))))) aNil)))
def b_rise_2 : SM := (sRet (dOp gSubI (toL (toV (dOp gAdd (dLate 2) (toL (toV (dCB gSum (lCons (toL (toV (dCall F_best_prices (aCons (dVar 0) (aCons (dVar 1) aNil))))) lNil))))))) (toL (toV (dCB gSum (lCons (toL (toV (dCall F_best_prices (aCons (dVar 0) (aCons (dVar 3) aNil))))) lNil))))))
def b_rise : SM := (sSeq b_rise_1 b_rise_2)
def F_rise : Fn := fnOf 4 b_rise
def b_dearer_by_1 : SM := (sCallX F_require_offer (aCons (dVar 0) aNil))
def b_dearer_by_2 : SM := (sCallX F_require_basket (aCons (dVar 1) aNil))
def b_dearer_by_3 : SM := (sCallX F_require_price (aCons (dVar 2) aNil))
def b_dearer_by_4 : SM := (sCallX F_require_room (aCons (toV (dOp gAdd (toL (toV (dCB gLen (lCons (dLate 1) lNil)))) (toL (dC (.int 1))))) aNil))
def b_dearer_by_5 : SM := (sRet (dCall F_rise (aCons (dVar 0) (aCons (dVar 1) (aCons (dVar 2) aNil)))))
def b_dearer_by : SM := (sSeq b_dearer_by_1 (sSeq b_dearer_by_2 (sSeq b_dearer_by_3 (sSeq b_dearer_by_4 b_dearer_by_5))))
def F_dearer_by : Fn := fnOf 3 b_dearer_by
abbrev W_free_further : Nat := 40
def b_free_further_1 : SM := (sCallX F_require_offer (aCons (dVar 0) aNil))
def b_free_further_2 : SM := (sCallX F_require_basket (aCons (dVar 1) aNil))
def b_free_further_3 : SM := (sCallX F_require_room (aCons (toV (dOp gAdd (toL (toV (dCB gLen (lCons (dLate 1) lNil)))) (toL (dC (.int 1))))) aNil))
def b_free_further_4 : SM := (sIf (dTest (toL (toV (dOp gGt (toL (toV (dCall F_rise (aCons (dVar 0) (aCons (dVar 1) (aCons (dC (.int 1)) aNil)))))) (toL (dC (.int 0))))))) (sRet (ofV (dC .none))) sNext)
def b_free_further_5 : SM := (sPar 2 3 (ofV (dC (.int 1))) (dOp gAdd (toL (dC (.int 1000000))) (toL (dC (.int 1)))))
def b_free_further_6b_1 : SM := (sAsg 4 (dOp gDivI (toL (toV (dOp gAdd (dLate 2) (dLate 3)))) (toL (dC (.int 2)))))
def b_free_further_6b_2 : SM := (sIf (dTest (toL (toV (dOp gGt (toL (toV (dCall F_rise (aCons (dVar 0) (aCons (dVar 1) (aCons (dVar 4) aNil)))))) (toL (dC (.int 0))))))) (sAsg 3 (ofV (dVar 4))) (sAsg 2 (ofV (dVar 4))))
def b_free_further_6b : SM := (sSeq b_free_further_6b_1 b_free_further_6b_2)
def b_free_further_6 : SM := (sWhile W_free_further (dTest (toL (toV (dOp gGt (toL (toV (dOp gSubI (dLate 3) (dLate 2)))) (toL (dC (.int 1)))))))
  b_free_further_6b)
def b_free_further_7 : SM := (sRet (ofV (dVar 2)))
def b_free_further : SM := (sSeq b_free_further_1 (sSeq b_free_further_2 (sSeq b_free_further_3 (sSeq b_free_further_4 (sSeq b_free_further_5 (sSeq b_free_further_6 b_free_further_7))))))
def F_free_further : Fn := fnOf 5 b_free_further
def b_possible_offers_1 : SM := (sCallX F_require_basket (aCons (dVar 0) aNil))
def b_possible_offers_2 : SM := (sCallX F_require_total (aCons (dVar 1) aNil))
def b_possible_offers_3 : SM := (sRet (dComp (dRange2 (lCons (toL (dC (.int 2))) (lCons (toL (dC (.int 10))) lNil))) (tgName 2) (dTest (toL (toV (dOp gEq (toL (toV (dCall F_cost_of (aCons (dVar 2) (aCons (dVar 0) aNil))))) (dLate 1))))) (dVar 2) [2]))
def b_possible_offers : SM := (sSeq b_possible_offers_1 (sSeq b_possible_offers_2 b_possible_offers_3))
def F_possible_offers : Fn := fnOf 3 b_possible_offers
abbrev W_first_price : Nat := 40
def b_first_price_1 : SM := (sPar 3 4 (ofV (dC (.int 0))) (dOp gAdd (toL (dC (.int 1000000))) (toL (dC (.int 1)))))
def b_first_price_2b_1 : SM := (sAsg 5 (dOp gDivI (toL (toV (dOp gAdd (dLate 3) (dLate 4)))) (toL (dC (.int 2)))))
def b_first_price_2b_2 : SM := (sIf (dTest (toL (toV (dOp gGe (toL (toV (dCall F_cost_of (aCons (dVar 0) (aCons (toV (dCall F_descending (aCons (toV (dOp gAdd (dLate 1) (toL (dTup (aCons (dVar 5) aNil))))) aNil))) aNil))))) (dLate 2))))) (sAsg 4 (ofV (dVar 5))) (sAsg 3 (ofV (dVar 5))))
def b_first_price_2b : SM := (sSeq b_first_price_2b_1 b_first_price_2b_2)
def b_first_price_2 : SM := (sWhile W_first_price (dTest (toL (toV (dOp gGt (toL (toV (dOp gSubI (dLate 4) (dLate 3)))) (toL (dC (.int 1)))))))
  b_first_price_2b)
def b_first_price_3 : SM := (sRet (ofV (dVar 4)))
def b_first_price : SM := (sSeq b_first_price_1 (sSeq b_first_price_2 b_first_price_3))
def F_first_price : Fn := fnOf 6 b_first_price
def b_possible_prices_1 : SM := (sCallX F_require_offer (aCons (dVar 0) aNil))
def b_possible_prices_2 : SM := (sCallX F_require_basket (aCons (dVar 1) aNil))
def b_possible_prices_3 : SM := (sCallX F_require_total (aCons (dVar 2) aNil))
def b_possible_prices_4 : SM := (sCallX F_require_room (aCons (toV (dOp gAdd (toL (toV (dCB gLen (lCons (dLate 1) lNil)))) (toL (dC (.int 1))))) aNil))
def b_possible_prices_5 : SM := (sPar 3 4 (dCall F_first_price (aCons (dVar 0) (aCons (dVar 1) (aCons (dVar 2) aNil)))) (dOp gSubI (toL (toV (dCall F_first_price (aCons (dVar 0) (aCons (dVar 1) (aCons (toV (dOp gAdd (dLate 2) (toL (dC (.int 1))))) aNil)))))) (toL (dC (.int 1)))))
def b_possible_prices_6 : SM := (sRet (dIf (dTest (toL (toV (dOp gLe (dLate 3) (dLate 4))))) (ofV (dTup (aCons (dVar 3) (aCons (dVar 4) aNil)))) (ofV (dC .none))))
def b_possible_prices : SM := (sSeq b_possible_prices_1 (sSeq b_possible_prices_2 (sSeq b_possible_prices_3 (sSeq b_possible_prices_4 (sSeq b_possible_prices_5 b_possible_prices_6)))))
def F_possible_prices : Fn := fnOf 5 b_possible_prices
def b_require_totals_1 : SM := (sIf (dOr (dNot (dTruthy (toL (dUn (gIsi "tuple") (dLate 0))))) (dNot (dChain gLe gLe (toL (dC (.int 1))) (toL (toV (dCB gLen (lCons (dLate 0) lNil)))) (toL (dC (.int 3)))))) (sRaise "InvalidTotals") sNext)
def b_require_totals_2 : SM := (sIf (dNot (dTruthy (toL (toV (dCB gAll (lCons (toL (toV (dComp (dIter (dVar 0)) (tgName 1) dYes (toV (dCall F_is_integer (aCons (dVar 1) (aCons (dC (.int 0)) (aCons (dC (.int 100000000)) aNil))))) [1]))) lNil)))))) (sRaise "InvalidTotals") sNext)
def b_require_totals : SM := (sSeq b_require_totals_1 b_require_totals_2)
def F_require_totals : Fn := fnOf 2 b_require_totals
def b__law_bag_1 : SM := (sAsg 2 (ofV (dC (.int 0))))
def b__law_bag_2 : SM := (sIf (dTest (toL (toV (dOp gLt (dLate 1) (toL (toV (dCB gLen (lCons (dLate 0) lNil)))))))) (sAsg 2 (dOp gModI (toL (toV (dOp gIx (dLate 0) (dLate 1)))) (toL (toV (dOp gPowI (toL (dC (.int 10))) (toL (dC (.int 60)))))))) sNext)
def b__law_bag_3 : SM := (sAsg 3 (dOp gAdd (toL (dC (.int 1))) (toL (toV (dOp gModI (toL (toV (dOp gAdd (toL (toV (dOp gAdd (toL (toV (dOp gAdd (toL (toV (dOp gMul (toL (toV (dOp gModI (dLate 2) (toL (dC (.int 2147483629)))))) (toL (dC (.int 16807)))))) (toL (toV (dOp gMul (toL (toV (dOp gMul (toL (dC (.int 40009))) (dLate 1)))) (dLate 1))))))) (toL (toV (dOp gMul (toL (dC (.int 7919))) (dLate 1))))))) (toL (dC (.int 1009)))))) (toL (dC (.int 2147483645))))))))
def b__law_bag_4 : SM := (sIf (dTest (toL (toV (dOp gLt (dLate 2) (toL (toV (dOp gPowI (toL (dC (.int 10))) (toL (dC (.int 18)))))))))) (sRet (dLst (aCons (dC (.int 0)) (aCons (dVar 3) aNil)))) sNext)
def b__law_bag_5 : SM := (sRet (dLst (aCons (dVar 2) (aCons (dVar 3) aNil))))
def b__law_bag : SM := (sSeq b__law_bag_1 (sSeq b__law_bag_2 (sSeq b__law_bag_3 (sSeq b__law_bag_4 b__law_bag_5))))
def F__law_bag : Fn := fnOf 4 b__law_bag
def b__law_take_1t_1 : SM := (sAsg 2 (dOp gModI (toL (toV (dOp gIx (dLate 0) (toL (dC (.int 0)))))) (dLate 1)))
def b__law_take_1t_2 : SM := (sSet 0 (dC (.int 0)) (toV (dOp gDivI (toL (toV (dOp gIx (dLate 0) (toL (dC (.int 0)))))) (dLate 1))))
def b__law_take_1t_3 : SM := (sRet (ofV (dVar 2)))
def b__law_take_1t : SM := (sSeq b__law_take_1t_1 (sSeq b__law_take_1t_2 b__law_take_1t_3))
def b__law_take_1 : SM := (sIf (dTest (toL (toV (dOp gGt (toL (toV (dOp gIx (dLate 0) (toL (dC (.int 0)))))) (toL (dC (.int 0))))))) b__law_take_1t sNext)
def b__law_take_2 : SM := (sSet 0 (dC (.int 1)) (toV (dOp gModI (toL (toV (dOp gMul (toL (toV (dOp gIx (dLate 0) (toL (dC (.int 1)))))) (toL (dC (.int 48271)))))) (toL (dC (.int 2147483647))))))
def b__law_take_3 : SM := (sRet (dOp gModI (toL (toV (dOp gDivI (toL (toV (dOp gModI (toL (toV (dOp gMul (toL (toV (dOp gDivI (toL (toV (dOp gIx (dLate 0) (toL (dC (.int 1)))))) (toL (dC (.int 13)))))) (toL (toV (dOp gAdd (toL (toV (dOp gModI (toL (toV (dOp gIx (dLate 0) (toL (dC (.int 1)))))) (toL (dC (.int 32749)))))) (toL (dC (.int 17))))))))) (toL (dC (.int 2147483629)))))) (toL (dC (.int 32)))))) (dLate 1)))
def b__law_take : SM := (sSeq b__law_take_1 (sSeq b__law_take_2 b__law_take_3))
def F__law_take : Fn := fnOf 3 b__law_take
def b__law_of_1 : SM := (sRet (dOp gIx (dLate 1) (toL (toV (dCallB F__law_take 0 (aCons (toV (dCB gLen (lCons (dLate 1) lNil))) aNil))))))
def b__law_of : SM := b__law_of_1
def F__law_of : Fn := fnOf 2 b__law_of
def b__law_basket_1 : SM := (sPar 3 4 (dOp gAdd (toL (dC (.int 1))) (toL (toV (dCallB F__law_take 0 (aCons (dVar 1) aNil))))) (dComp (dRange1 (lCons (toL (dC (.int 3))) lNil)) (tgName 6) dYes (toV (dOp gAdd (toL (dC (.int 1))) (toL (toV (dCallB F__law_take 0 (aCons (dVar 2) aNil)))))) [6]))
def b__law_basket_2 : SM := (sAsg 5 (dLst aNil))
def b__law_basket_3b_1 : SM := (sDrop (dMut 5 mAppend (aCons (toV (dCallB F__law_of 0 (aCons (toV (dOp gAdd (dLate 4) (toL (toV (dOp gMul (toL (toV (dLst (aCons (toV (dOp gAdd (toL (dC (.int 1))) (toL (toV (dCallB F__law_take 0 (aCons (dVar 2) aNil)))))) aNil)))) (toL (dC (.int 2)))))))) aNil))) aNil)))
def b__law_basket_3b : SM := b__law_basket_3b_1
def b__law_basket_3 : SM := (sFor (dRange1 (lCons (dLate 3) lNil)) (tgName 6)
  b__law_basket_3b)
def b__law_basket_4 : SM := (sRet (dCB gTuple (lCons (toL (toV (dUnE gRevL (toL (toV (dCB gSorted (lCons (dLate 5) lNil))))))) lNil)))
def b__law_basket : SM := (sSeq b__law_basket_1 (sSeq b__law_basket_2 (sSeq b__law_basket_3 b__law_basket_4)))
def F__law_basket : Fn := fnOf 7 b__law_basket
def b__law_offer_1 : SM := (sRet (dCallB F__law_of 0 (aCons (toV (dLst (aCons (dC (.int 2)) (aCons (dC (.int 3)) (aCons (dC (.int 3)) (aCons (dC (.int 4)) (aCons (toV (dOp gAdd (toL (dC (.int 2))) (toL (toV (dCallB F__law_take 0 (aCons (dC (.int 8)) aNil)))))) aNil))))))) aNil)))
def b__law_offer : SM := b__law_offer_1
def F__law_offer : Fn := fnOf 1 b__law_offer
def b__law_cost_1 : SM := (sAsg 2 (dCB gList (lCons (dLate 1) lNil)))
def b__law_cost_2b_1 : SM := (sDrop (dMut 2 mRemove (aCons (toV (dCB gMin (lCons (dLate 2) lNil))) aNil)))
def b__law_cost_2b : SM := b__law_cost_2b_1
def b__law_cost_2 : SM := (sFor (dRange1 (lCons (toL (toV (dOp gDivI (toL (toV (dCB gLen (lCons (dLate 1) lNil)))) (dLate 0)))) lNil)) (tgName 3)
  b__law_cost_2b)
def b__law_cost_3 : SM := (sRet (dCB gSum (lCons (dLate 2) lNil)))
def b__law_cost : SM := (sSeq b__law_cost_1 (sSeq b__law_cost_2 b__law_cost_3))
def F__law_cost : Fn := fnOf 4 b__law_cost
def b__law_fits_1b_1 : SM := (sAsg 4 (dCB gLen (lCons (toL (toV (dComp (dIter (dVar 2)) (tgName 5) (dTest (toL (toV (dOp gGe (toL (toV (dOp gIx (dLate 1) (dLate 5)))) (dLate 3))))) (dVar 5) [5]))) lNil)))
def b__law_fits_1b_2 : SM := (sIf (dTest (toL (toV (dOp gGt (toL (toV (dOp gMul (dLate 4) (dLate 0)))) (toL (toV (dCB gLen (lCons (toL (toV (dComp (dIter (dVar 1)) (tgName 6) (dTest (toL (toV (dOp gGe (dLate 6) (dLate 3))))) (dVar 6) [6]))) lNil)))))))) (sRet (ofV (dC (.bool false)))) sNext)
def b__law_fits_1b : SM := (sSeq b__law_fits_1b_1 b__law_fits_1b_2)
def b__law_fits_1 : SM := (sFor (dIter (dVar 1)) (tgName 3)
  b__law_fits_1b)
def b__law_fits_2 : SM := (sRet (ofV (dC (.bool true))))
def b__law_fits : SM := (sSeq b__law_fits_1 b__law_fits_2)
def F__law_fits : Fn := fnOf 7 b__law_fits
def b__law_subsets_1 : SM := (sAsg 1 (dLst (aCons (dTup aNil) aNil)))
def b__law_subsets_2b_1 : SM := (sAsg 1 (dOp gAdd (dLate 1) (toL (toV (dComp (dIter (dVar 1)) (tgName 3) dYes (toV (dOp gAdd (dLate 3) (toL (dTup (aCons (dVar 2) aNil))))) [3])))))
def b__law_subsets_2b : SM := b__law_subsets_2b_1
def b__law_subsets_2 : SM := (sFor (dRange1 (lCons (dLate 0) lNil)) (tgName 2)
  b__law_subsets_2b)
def b__law_subsets_3 : SM := (sRet (dCB gSorted (lCons (dLate 1) lNil)))
def b__law_subsets : SM := (sSeq b__law_subsets_1 (sSeq b__law_subsets_2 b__law_subsets_3))
def F__law_subsets : Fn := fnOf 4 b__law_subsets
def b_possible_savings_1 : SM := (sCallX F_require_offer (aCons (dVar 0) aNil))
def b_possible_savings_2 : SM := (sCallX F_require_basket (aCons (dVar 1) aNil))
def b_possible_savings_3 : SM := (sIf (dTest (toL (toV (dOp gGt (toL (toV (dCB gLen (lCons (dLate 1) lNil)))) (toL (dC (.int 16))))))) (sRaise "TooMany") sNext)
def b_possible_savings_4 : SM := (sAsg 2 (dLst (aCons (dTup (aCons (dC (.int 0)) (aCons (dC (.int 0)) aNil))) aNil)))
def b_possible_savings_5b_1 : SM := (sAsg 6 (dLst aNil))
def b_possible_savings_5b_2b_1 : SM := (sExt 6 (dComp (dRange1 (lCons (toL (toV (dOp gAdd (toL (toV (dCB gMin (lCons (dLate 4) (lCons (toL (toV (dOp gSubI (dLate 5) (dLate 7)))) lNil))))) (toL (dC (.int 1)))))) lNil)) (tgName 9) dYes (dTup (aCons (toV (dOp gAdd (dLate 7) (dLate 9))) (aCons (toV (dOp gAdd (dLate 8) (toL (toV (dOp gMul (dLate 9) (dLate 3)))))) aNil))) [9]))
def b_possible_savings_5b_2b : SM := b_possible_savings_5b_2b_1
def b_possible_savings_5b_2 : SM := (sFor (dIter (dVar 2)) (tgTup (tgCons (tgName 7) (tgCons (tgName 8) tgNil)))
  b_possible_savings_5b_2b)
def b_possible_savings_5b_3 : SM := (sAsg 2 (dCB gSortSet (lCons (dLate 6) lNil)))
def b_possible_savings_5b : SM := (sSeq b_possible_savings_5b_1 (sSeq b_possible_savings_5b_2 b_possible_savings_5b_3))
def b_possible_savings_5 : SM := (sFor (dIter (toV (dCall F_price_classes (aCons (dVar 0) (aCons (dVar 1) aNil))))) (tgTup (tgCons (tgName 3) (tgCons (tgName 4) (tgCons (tgName 5) tgNil))))
  b_possible_savings_5b)
def b_possible_savings_6 : SM := (sRet (dCB gSortSet (lCons (toL (toV (dComp (dIter (dVar 2)) (tgTup (tgCons (tgName 7) (tgCons (tgName 8) tgNil))) dYes (dVar 8) [7, 8]))) lNil)))
def b_possible_savings : SM := (sSeq b_possible_savings_1 (sSeq b_possible_savings_2 (sSeq b_possible_savings_3 (sSeq b_possible_savings_4 (sSeq b_possible_savings_5 b_possible_savings_6)))))
def F_possible_savings : Fn := fnOf 10 b_possible_savings
def b_require_line_1 : SM := (sIf (dNot (dTruthy (toL (toV (dCall F_are_prices (aCons (dVar 0) aNil)))))) (sRaise "InvalidLine") sNext)
def b_require_line : SM := b_require_line_1
def F_require_line : Fn := fnOf 1 b_require_line
def b_best_cuts_1 : SM := (sAsg 2 (dLst (aCons (dTup (aCons (dC (.int 0)) (aCons (dTup aNil) aNil))) aNil)))
def b_best_cuts_2b_1 : SM := (sAsg 4 (dLst aNil))
def b_best_cuts_2b_2b_1 : SM := (sAsg 6 (dCall F_descending (aCons (toV (dCut (dLate 1) (oSome (dLate 5)) (oSome (dLate 3)))) aNil)))
def b_best_cuts_2b_2b_2 : SM := (sAsgT (tgTup (tgCons (tgName 7) (tgCons (tgName 8) tgNil))) (toV (dOp gIx (dLate 2) (dLate 5))))
def b_best_cuts_2b_2b_3 : SM := (sAsg 9 (dIf (dTruthy (dLate 5)) (dOp gAdd (dLate 8) (toL (dTup (aCons (dVar 5) aNil)))) (ofV (dTup aNil))))
def b_best_cuts_2b_2b_4 : SM := (sDrop (dMut 4 mAppend (aCons (dTup (aCons (toV (dOp gSubI (toL (toV (dOp gAdd (dLate 7) (toL (toV (dCB gSum (lCons (dLate 6) lNil))))))) (toL (toV (dCall F_cost_of (aCons (dVar 0) (aCons (dVar 6) aNil))))))) (aCons (dVar 9) aNil))) aNil)))
def b_best_cuts_2b_2b : SM := (sSeq b_best_cuts_2b_2b_1 (sSeq b_best_cuts_2b_2b_2 (sSeq b_best_cuts_2b_2b_3 b_best_cuts_2b_2b_4)))
def b_best_cuts_2b_2 : SM := (sFor (dRange1 (lCons (dLate 3) lNil)) (tgName 5)
  b_best_cuts_2b_2b)
def b_best_cuts_2b_3 : SM := (sDrop (dMut 2 mAppend (aCons (toV (dCB gMax (lCons (dLate 4) lNil))) aNil)))
def b_best_cuts_2b : SM := (sSeq b_best_cuts_2b_1 (sSeq b_best_cuts_2b_2 b_best_cuts_2b_3))
def b_best_cuts_2 : SM := (sFor (dRange2 (lCons (toL (dC (.int 1))) (lCons (toL (toV (dOp gAdd (toL (toV (dCB gLen (lCons (dLate 1) lNil)))) (toL (dC (.int 1)))))) lNil))) (tgName 3)
  b_best_cuts_2b)
def b_best_cuts_3 : SM := (sRet (dOp gIx (dLate 2) (toL (dUn gNeg (toL (dC (.int 1)))))))
def b_best_cuts : SM := (sSeq b_best_cuts_1 (sSeq b_best_cuts_2 b_best_cuts_3))
def F_best_cuts : Fn := fnOf 10 b_best_cuts
def b_line_saving_1 : SM := (sCallX F_require_offer (aCons (dVar 0) aNil))
def b_line_saving_2 : SM := (sCallX F_require_line (aCons (dVar 1) aNil))
def b_line_saving_3 : SM := (sRet (dOp gIx (toL (toV (dCall F_best_cuts (aCons (dVar 0) (aCons (dVar 1) aNil))))) (toL (dC (.int 0)))))
def b_line_saving : SM := (sSeq b_line_saving_1 (sSeq b_line_saving_2 b_line_saving_3))
def F_line_saving : Fn := fnOf 2 b_line_saving
def b_line_cuts_1 : SM := (sCallX F_require_offer (aCons (dVar 0) aNil))
def b_line_cuts_2 : SM := (sCallX F_require_line (aCons (dVar 1) aNil))
def b_line_cuts_3 : SM := (sRet (dOp gIx (toL (toV (dCall F_best_cuts (aCons (dVar 0) (aCons (dVar 1) aNil))))) (toL (dC (.int 1)))))
def b_line_cuts : SM := (sSeq b_line_cuts_1 (sSeq b_line_cuts_2 b_line_cuts_3))
def F_line_cuts : Fn := fnOf 2 b_line_cuts
abbrev W__wall : Nat := 100
def b__wall_1b_1 : SM := sNext
def b__wall_1b : SM := b__wall_1b_1
def b__wall_1 : SM := (sWhile W__wall (dTruthy (toL (dC (.bool true))))
  b__wall_1b)
def b__wall : SM := b__wall_1
def F__wall : Fn := fnOf 1 b__wall
end FT
set_option Elab.async false
set_option linter.all false
/-! What the drawing helpers give. -/
namespace FT
open PySem DL
/-! ### the bag -/
def Bag (b : List D) : Prop := ∃ x y : Int, b = [.int x, .int y]
theorem atD_nat {ds : List D} (i : Nat) : atD ds (i : Nat) = ds[i]? := by simp [atD]
theorem take_spec {b : List D} (hb : Bag b) {c : Int} (h1 : 0 < c) (h2 : c < 1073741824) : ∃ r b', F__law_take [.br b, .fz (.int c)] = some (.ret (.fz (.int r)) b') ∧ 0 ≤ r ∧ r < c ∧ Bag b' := by
  obtain ⟨x, y, rfl⟩ := hb
  have i0 : gIx (.list [.int x, .int y]) (.int 0) = some (.fz (.int x)) := rfl
  have i1 : gIx (.list [.int x, .int y]) (.int 1) = some (.fz (.int y)) := rfl
  by_cases hx : 0 < x
  · refine ⟨x % c, [.int (x / c), .int y], ?_, Int.emod_nonneg _ (by omega), Int.emod_lt_of_pos _ h1, ⟨_, _, rfl⟩⟩
    simp [F__law_take, b__law_take, b__law_take_1, b__law_take_1t, b__law_take_1t_1, b__law_take_1t_2, b__law_take_1t_3, b__law_take_2, b__law_take_3, fnOf, DL.start, sSeq, sIf, sAsg_eq, sAsgT, sSet, sRet, sDrop, sRaise, sCallX, sNext, sBreak, sCont, sPar, sPar3, notBr_eq, dTest, dTruthy, toL, toV, ofV, dOp, dUn, dUnE, dC, dLate, dVar, LV.get, slotD, DV.dat, dTup, dLst, aNil, aCons, lNil, lCons, getAll, dCB, dCall, dCallB, dAnd, dOr, dNot, dOfT, dIf, dChain, dMut, isLs, lentOf, tgName_eq, tgNil, tgCons, tgTup, dRange1, dRange2, dIter, itemsD, dYes, LIM, two62, p64, i0, i1, hx, gModI_int h1, gDivI_int h1 h2]
  · have j0 : gIx (.list [.int x, .int (y * 48271 % 2147483647)]) (.int 0) = some (.fz (.int x)) := rfl
    have j1 : gIx (.list [.int x, .int (y * 48271 % 2147483647)]) (.int 1) = some (.fz (.int (y * 48271 % 2147483647))) := rfl
    have m1 : gMul (.int y) (.int 48271) = some (.fz (.int (y * 48271))) := gMul_int (okMul_r (by decide) (by decide))
    have m2 : gModI (.int (y * 48271)) (.int 2147483647) = some (.fz (.int (y * 48271 % 2147483647))) := gModI_int (by decide)
    generalize y * 48271 % 2147483647 = z at *
    have m3 : gDivI (.int z) (.int 13) = some (.fz (.int (z / 13))) := gDivI_int (by decide) (by decide)
    have m4 : gModI (.int z) (.int 32749) = some (.fz (.int (z % 32749))) := gModI_int (by decide)
    have b4 : 0 ≤ z % 32749 ∧ z % 32749 < 32749 := ⟨Int.emod_nonneg _ (by decide), Int.emod_lt_of_pos _ (by decide)⟩
    have m5 : gMul (.int (z / 13)) (.int (z % 32749 + 17)) = some (.fz (.int (z / 13 * (z % 32749 + 17)))) := gMul_int (okMul_r (by unfold p64; omega) (by unfold p64; omega))
    generalize z / 13 * (z % 32749 + 17) = u at *
    have m6 : gModI (.int u) (.int 2147483629) = some (.fz (.int (u % 2147483629))) := gModI_int (by decide)
    have m7 : gDivI (.int (u % 2147483629)) (.int 32) = some (.fz (.int (u % 2147483629 / 32))) := gDivI_int (by decide) (by decide)
    have m8 := @gModI_int (u % 2147483629 / 32) c h1
    refine ⟨u % 2147483629 / 32 % c, [.int x, .int z], ?_, Int.emod_nonneg _ (by omega), Int.emod_lt_of_pos _ h1, ⟨_, _, rfl⟩⟩
    simp [F__law_take, b__law_take, b__law_take_1, b__law_take_1t, b__law_take_1t_1, b__law_take_1t_2, b__law_take_1t_3, b__law_take_2, b__law_take_3, fnOf, DL.start, sSeq, sIf, sAsg_eq, sAsgT, sSet, sRet, sDrop, sRaise, sCallX, sNext, sBreak, sCont, sPar, sPar3, notBr_eq, dTest, dTruthy, toL, toV, ofV, dOp, dUn, dUnE, dC, dLate, dVar, LV.get, slotD, DV.dat, dTup, dLst, aNil, aCons, lNil, lCons, getAll, dCB, dCall, dCallB, dAnd, dOr, dNot, dOfT, dIf, dChain, dMut, isLs, lentOf, tgName_eq, tgNil, tgCons, tgTup, dRange1, dRange2, dIter, itemsD, dYes, LIM, two62, p64, i0, i1, j0, j1, hx, m1, m2, m3, m4, m5, m6, m7, m8]
theorem of_spec {b : List D} (hb : Bag b) {ds : List D} (h1 : ds ≠ []) (h2 : ds.length < 1073741824) : ∃ d b', F__law_of [.br b, .fz (.list ds)] = some (.ret (.fz d) b') ∧ d ∈ ds ∧ Bag b' := by
  have hp : 0 < ds.length := List.length_pos_iff.mpr h1
  obtain ⟨r, b', e, h3, h4, hb'⟩ := take_spec hb (c := ds.length) (by omega) (by omega)
  obtain ⟨n, rfl⟩ := Int.eq_ofNat_of_zero_le h3
  have hn : n < ds.length := by omega
  have i0 : gIx (.list ds) (.int (n : Nat)) = some (.fz ds[n]) := gIx_list (List.getElem?_eq_getElem hn)
  refine ⟨ds[n], b', ?_, List.getElem_mem hn, hb'⟩
  simp [F__law_of, b__law_of, b__law_of_1, fnOf, DL.start, sSeq, sIf, sAsg_eq, sAsgT, sSet, sRet, sDrop, sRaise, sCallX, sNext, sBreak, sCont, sPar, sPar3, notBr_eq, dTest, dTruthy, toL, toV, ofV, dOp, dUn, dUnE, dC, dLate, dVar, LV.get, slotD, DV.dat, dTup, dLst, aNil, aCons, lNil, lCons, getAll, dCB, dCall, dCallB, dAnd, dOr, dNot, dOfT, dIf, dChain, dMut, isLs, lentOf, tgName_eq, tgNil, tgCons, tgTup, dRange1, dRange2, dIter, itemsD, dYes, LIM, two62, p64, e, i0]
def P60 : Int := 10 ^ 60
def P18 : Int := 10 ^ 18
theorem P60_pos : 0 < P60 := Int.pow_pos (by decide)
theorem pow_60 : gPowI (.int 10) (.int 60) = some (.fz (.int P60)) := by exact id rfl
theorem pow_18 : gPowI (.int 10) (.int 18) = some (.fz (.int P18)) := by exact id rfl
theorem bag_cell (ns : List Int) (k : Nat) : ∃ c : Int, b__law_bag_2
      [some (.fz (scrD ns)), some (.fz (.int k)), some (.fz (.int 0)), none] = some (.nx [some (.fz (scrD ns)), some (.fz (.int k)), some (.fz (.int c)), none]) := by
    by_cases hk : k < ns.length
    · have i0 : gIx (scrD ns) (.int (k : Nat)) = some (.fz (.int ns[k])) := gIx_scr (List.getElem?_eq_getElem hk)
      have m : gModI (.int ns[k]) (.int P60) = some (.fz (.int (ns[k] % P60))) := gModI_int P60_pos
      exact ⟨_, by simp [b__law_bag_2, fnOf, DL.start, sSeq, sIf, sAsg_eq, sAsgT, sSet, sRet, sDrop, sRaise, sCallX, sNext, sBreak, sCont, sPar, sPar3, notBr_eq, dTest, dTruthy, toL, toV, ofV, dOp, dUn, dUnE, dC, dLate, dVar, LV.get, slotD, DV.dat, dTup, dLst, aNil, aCons, lNil, lCons, getAll, dCB, dCall, dCallB, dAnd, dOr, dNot, dOfT, dIf, dChain, dMut, isLs, lentOf, tgName_eq, tgNil, tgCons, tgTup, dRange1, dRange2, dIter, itemsD, dYes, LIM, two62, p64, i0, hk, pow_60, m]; rfl⟩
    · exact ⟨0, by simp [b__law_bag_2, fnOf, DL.start, sSeq, sIf, sAsg_eq, sAsgT, sSet, sRet, sDrop, sRaise, sCallX, sNext, sBreak, sCont, sPar, sPar3, notBr_eq, dTest, dTruthy, toL, toV, ofV, dOp, dUn, dUnE, dC, dLate, dVar, LV.get, slotD, DV.dat, dTup, dLst, aNil, aCons, lNil, lCons, getAll, dCB, dCall, dCallB, dAnd, dOr, dNot, dOfT, dIf, dChain, dMut, isLs, lentOf, tgName_eq, tgNil, tgCons, tgTup, dRange1, dRange2, dIter, itemsD, dYes, LIM, two62, p64, hk]⟩
theorem bag_t5 (ns : List Int) (k c u4 u5 u6 : Int)   (m1 : gModI (.int c) (.int 2147483629) = some (.fz (.int (c % 2147483629))))
  (m2 : gMul (.int (c % 2147483629)) (.int 16807) = some (.fz (.int (u6))) )
  (m3 : gMul (.int 40009) (.int k) = some (.fz (.int (40009 * (k : Int)))))
  (m4 : gMul (.int (40009 * (k : Int))) (.int k) = some (.fz (.int (u4))) )
  (m5 : gMul (.int 7919) (.int k) = some (.fz (.int u5)))
  (m6 : gModI (.int (u6 + u4 + u5 + 1009)) (.int 2147483645) = some (.fz (.int ((u6 + u4 + u5 + 1009) % 2147483645)))) :
  b__law_bag_3 [some (.fz (scrD ns)), some (.fz (.int k)), some (.fz (.int c)), none] = some (.nx [some (.fz (scrD ns)), some (.fz (.int k)), some (.fz (.int c)), some (.fz (.int (1 + (u6 + u4 + u5 + 1009) % 2147483645)))]) := by
  simp [b__law_bag_3, fnOf, DL.start, sSeq, sIf, sAsg_eq, sAsgT, sSet, sRet, sDrop, sRaise, sCallX, sNext, sBreak, sCont, sPar, sPar3, notBr_eq, dTest, dTruthy, toL, toV, ofV, dOp, dUn, dUnE, dC, dLate, dVar, LV.get, slotD, DV.dat, dTup, dLst, aNil, aCons, lNil, lCons, getAll, dCB, dCall, dCallB, dAnd, dOr, dNot, dOfT, dIf, dChain, dMut, isLs, lentOf, tgName_eq, tgNil, tgCons, tgTup, dRange1, dRange2, dIter, itemsD, dYes, LIM, two62, p64, m1, m2, m3, m4, m5, m6]
theorem bag_t6 (ns : List Int) (k c s : Int) (hl : c < P18) : sSeq b__law_bag_4 b__law_bag_5 [some (.fz (scrD ns)), some (.fz (.int k)), some (.fz (.int c)), some (.fz (.int s))] = some (.rt (.mt [.int 0, .int s]) [some (.fz (scrD ns)), some (.fz (.int k)), some (.fz (.int c)), some (.fz (.int s))]) := by
  simp [b__law_bag_4, b__law_bag_5, fnOf, DL.start, sSeq, sIf, sAsg_eq, sAsgT, sSet, sRet, sDrop, sRaise, sCallX, sNext, sBreak, sCont, sPar, sPar3, notBr_eq, dTest, dTruthy, toL, toV, ofV, dOp, dUn, dUnE, dC, dLate, dVar, LV.get, slotD, DV.dat, dTup, dLst, aNil, aCons, lNil, lCons, getAll, dCB, dCall, dCallB, dAnd, dOr, dNot, dOfT, dIf, dChain, dMut, isLs, lentOf, tgName_eq, tgNil, tgCons, tgTup, dRange1, dRange2, dIter, itemsD, dYes, LIM, two62, p64, pow_18, hl]
theorem bag_t7 (ns : List Int) (k c s : Int) (hl : ¬ c < P18) : sSeq b__law_bag_4 b__law_bag_5 [some (.fz (scrD ns)), some (.fz (.int k)), some (.fz (.int c)), some (.fz (.int s))] = some (.rt (.mt [.int c, .int s]) [some (.fz (scrD ns)), some (.fz (.int k)), some (.fz (.int c)), some (.fz (.int s))]) := by
  simp [b__law_bag_4, b__law_bag_5, fnOf, DL.start, sSeq, sIf, sAsg_eq, sAsgT, sSet, sRet, sDrop, sRaise, sCallX, sNext, sBreak, sCont, sPar, sPar3, notBr_eq, dTest, dTruthy, toL, toV, ofV, dOp, dUn, dUnE, dC, dLate, dVar, LV.get, slotD, DV.dat, dTup, dLst, aNil, aCons, lNil, lCons, getAll, dCB, dCall, dCallB, dAnd, dOr, dNot, dOfT, dIf, dChain, dMut, isLs, lentOf, tgName_eq, tgNil, tgCons, tgTup, dRange1, dRange2, dIter, itemsD, dYes, LIM, two62, p64, pow_18, hl]
theorem bag_spec (ns : List Int) (k : Nat) (hk8 : k < 1000) : ∃ b, F__law_bag [.fz (scrD ns), .fz (.int k)] = some (.ret (.mt b) []) ∧ Bag b := by
  obtain ⟨c, hc⟩ := bag_cell ns k
  have m1 : gModI (.int c) (.int 2147483629) = some (.fz (.int (c % 2147483629))) := gModI_int (by decide)
  have m2 : gMul (.int (c % 2147483629)) (.int 16807) = some (.fz (.int (c % 2147483629 * 16807))) := gMul_int (okMul_r (by decide) (by decide))
  have m3 : gMul (.int 40009) (.int k) = some (.fz (.int (40009 * (k : Int)))) := gMul_int (okMul_l (by decide) (by decide))
  have m4 : gMul (.int (40009 * (k : Int))) (.int k) = some (.fz (.int (40009 * (k : Int) * k))) := gMul_int (okMul_r (by unfold p64; omega) (by unfold p64; omega))
  have m5 : gMul (.int 7919) (.int k) = some (.fz (.int (7919 * (k : Int)))) := gMul_int (okMul_l (by decide) (by decide))
  generalize 40009 * (k : Int) * k = u4 at *
  generalize 7919 * (k : Int) = u5 at *
  generalize c % 2147483629 * 16807 = u6 at *
  have m6 : gModI (.int (u6 + u4 + u5 + 1009)) (.int 2147483645) = some (.fz (.int ((u6 + u4 + u5 + 1009) % 2147483645))) := gModI_int (by decide)
  unfold F__law_bag b__law_bag fnOf
  have s0 : b__law_bag_1 (DL.start 4 [.fz (scrD ns), .fz (.int k)]) = some (.nx [some (.fz (scrD ns)), some (.fz (.int k)), some (.fz (.int 0)), none]) := by simp [b__law_bag_1, fnOf, DL.start, sSeq, sIf, sAsg_eq, sAsgT, sSet, sRet, sDrop, sRaise, sCallX, sNext, sBreak, sCont, sPar, sPar3, notBr_eq, dTest, dTruthy, toL, toV, ofV, dOp, dUn, dUnE, dC, dLate, dVar, LV.get, slotD, DV.dat, dTup, dLst, aNil, aCons, lNil, lCons, getAll, dCB, dCall, dCallB, dAnd, dOr, dNot, dOfT, dIf, dChain, dMut, isLs, lentOf, tgName_eq, tgNil, tgCons, tgTup, dRange1, dRange2, dIter, itemsD, dYes, LIM, two62, p64]
  rw [sSeq_nx s0, sSeq_nx hc, sSeq_nx (bag_t5 ns k c u4 u5 u6 m1 m2 m3 m4 m5 m6)]
  by_cases hl : c < P18
  · exact ⟨_, by rw [bag_t6 ns k c _ hl]; rfl, ⟨_, _, rfl⟩⟩
  · exact ⟨_, by rw [bag_t7 ns k c _ hl]; rfl, ⟨_, _, rfl⟩⟩
end FT
set_option Elab.async false
set_option linter.all false
/-! Baskets, drawn. -/
namespace FT
open PySem DL
/-- prices in descending order -/
structure Bk (high : Int) (ps : List Int) : Prop where
  pos : 1 ≤ ps.length
  rng : ∀ p ∈ ps, 1 ≤ p ∧ p ≤ high
  dec : ps.Pairwise (· ≥ ·)
/-- a slot that an int is taken in -/
def okB (m : Int) : Prop := 0 < m ∧ m < 1073741824
theorem mAppend_ok {b : List D} {d : D} (h : b.length < LIM) : mAppend b [d] = some (.fz .none, b ++ [d]) := by simp [mAppend, h]
theorem basket_1 {b : List D} (hb : Bag b) {most high : Int} (hm : okB most) (hh : okB high) : ∃ (sz : Int) (so : List Int) (b' : List D), b__law_basket_1 [some (.br b), some (.fz (.int most)), some (.fz (.int high)), none, none, none, none] =
    some (.nx [some (.br b'), some (.fz (.int most)), some (.fz (.int high)), some (.fz (.int sz)), some (.mt (intz so)), none, none]) ∧ Bag b' ∧ 1 ≤ sz ∧ sz ≤ most ∧ so.length = 3 ∧ ∀ p ∈ so, 1 ≤ p ∧ p ≤ high := by
  obtain ⟨r, b1, e1, h1, h2, hb1⟩ := take_spec hb hm.1 hm.2
  obtain ⟨acc, δ', e2, b2, so, x, rfl, hb2, rfl, hl, hr⟩ := compTurns_inv (t := tgName 6) (c := dYes) (e := toV (dOp gAdd (toL (dC (.int 1))) (toL (toV (dCallB F__law_take 0 (aCons (dVar 2) aNil)))))) (vs := [6])
    (fun pre acc δ => ∃ (b : List D) (so : List Int) (x : Option DV), δ = [some (.br b), some (.fz (.int most)), some (.fz (.int high)), none, none, none, x] ∧ Bag b ∧ acc = intz so ∧ so.length = pre.length ∧ ∀ p ∈ so, 1 ≤ p ∧ p ≤ high) (rangeD 0 3) [] []
    [some (.br b1), some (.fz (.int most)), some (.fz (.int high)), none, none, none, none] ⟨b1, [], none, rfl, hb1, rfl, rfl, fun p hp => by cases hp⟩ fun pre d acc δ ⟨b, so, x, e, hb, ea, hl, hr⟩ hd => by
      subst e ea
      obtain ⟨r, b1, e1, h1, h2, hb1⟩ := take_spec hb hh.1 hh.2
      refine ⟨_, _, true, by simp [wipeD, fnOf, DL.start, sSeq, sIf, sAsg_eq, sAsgT, sSet, sRet, sDrop, sRaise, sCallX, sNext, sBreak, sCont, sPar, sPar3, notBr_eq, dTest, dTruthy, toL, toV, ofV, dOp, dUn, dUnE, dC, dLate, dVar, LV.get, slotD, DV.dat, dTup, dLst, aNil, aCons, lNil, lCons, getAll, dCB, dCall, dCallB, dAnd, dOr, dNot, dOfT, dIf, dChain, dMut, isLs, lentOf, tgName_eq, tgNil, tgCons, tgTup, dRange1, dRange2, dIter, itemsD, dYes, LIM, two62, p64]; rfl, rfl, (fun z => by cases z), fun _ => ⟨.int (1 + r), _, by simp [fnOf, DL.start, sSeq, sIf, sAsg_eq, sAsgT, sSet, sRet, sDrop, sRaise, sCallX, sNext, sBreak, sCont, sPar, sPar3, notBr_eq, dTest, dTruthy, toL, toV, ofV, dOp, dUn, dUnE, dC, dLate, dVar, LV.get, slotD, DV.dat, dTup, dLst, aNil, aCons, lNil, lCons, getAll, dCB, dCall, dCallB, dAnd, dOr, dNot, dOfT, dIf, dChain, dMut, isLs, lentOf, tgName_eq, tgNil, tgCons, tgTup, dRange1, dRange2, dIter, itemsD, dYes, LIM, two62, p64, e1]; rfl, b1, so ++ [1 + r], _, rfl, hb1, (ints_append so [1 + r]).symm, by simp [hl], fun p hp => ?_⟩⟩
      rcases List.mem_append.mp hp with h | h
      · exact hr p h
      · rw [List.mem_singleton] at h
        omega
  refine ⟨1 + r, so, b2, ?_, hb2, by omega, by omega, by simpa [rangeD] using hl, hr⟩
  simp [b__law_basket_1, fnOf, DL.start, sSeq, sIf, sAsg_eq, sAsgT, sSet, sRet, sDrop, sRaise, sCallX, sNext, sBreak, sCont, sPar, sPar3, notBr_eq, dTest, dTruthy, toL, toV, ofV, dOp, dUn, dUnE, dC, dLate, dVar, LV.get, slotD, DV.dat, dTup, dLst, aNil, aCons, lNil, lCons, getAll, dCB, dCall, dCallB, dAnd, dOr, dNot, dOfT, dIf, dChain, dMut, isLs, lentOf, tgName_eq, tgNil, tgCons, tgTup, dRange1, dRange2, dIter, itemsD, dYes, LIM, two62, p64, e1, dComp, calmAt_eq, rangeD, wipeD, restore] at e2 ⊢
  rw [e2]
  simp
theorem basket_3 {b : List D} (hb : Bag b) {most high sz : Int} {so : List Int} (hh : okB high) (hl : so.length = 3) (hr : ∀ p ∈ so, 1 ≤ p ∧ p ≤ high) (h1 : 1 ≤ sz) (h2 : sz ≤ 1000000) : ∃ (fo : List Int) (x : Option DV) (b' : List D), b__law_basket_3 [some (.br b), some (.fz (.int most)), some (.fz (.int high)), some (.fz (.int sz)), some (.mt (intz so)), some (.mt []), none] =
    some (.nx [some (.br b'), some (.fz (.int most)), some (.fz (.int high)), some (.fz (.int sz)), some (.mt (intz so)), some (.mt (intz fo)), x]) ∧ Bag b' ∧ fo.length = sz.toNat ∧ ∀ p ∈ fo, 1 ≤ p ∧ p ≤ high := by
  obtain ⟨δ', e, b', fo, x, rfl, hb', hl', hr', hx'⟩ := for_range (t := tgName 6) (b := b__law_basket_3b) (fun i δ => ∃ (b : List D) (fo : List Int) (x : Option DV), δ = [some (.br b), some (.fz (.int most)), some (.fz (.int high)), some (.fz (.int sz)), some (.mt (intz so)), some (.mt (intz fo)), x] ∧ Bag b ∧ fo.length = i ∧ (∀ p ∈ fo, 1 ≤ p ∧ p ≤ high) ∧ nb x = true) 0 sz.toNat
    [some (.br b), some (.fz (.int most)), some (.fz (.int high)), some (.fz (.int sz)), some (.mt (intz so)), some (.mt []), none] ⟨b, [], none, rfl, hb, rfl, (fun p hp => by cases hp), rfl⟩ fun i hi δ ⟨b, fo, x, e, hb, hl0, hr0, hx⟩ => by
      subst e
      obtain ⟨r, b1, e1, q1, q2, hb1⟩ := take_spec hb hh.1 hh.2
      obtain ⟨d, b2, e2, hd, hb2⟩ := of_spec hb1 (ds := intz (so ++ [1 + r, 1 + r])) (ints_ne (by simp)) (by simp [hl])
      obtain ⟨p, hp, rfl⟩ := mem_ints hd
      have hpr : 1 ≤ p ∧ p ≤ high := by
        rcases List.mem_append.mp hp with h | h
        · exact hr p h
        · simp at h
          omega
      have m : gMul (.list [.int (1 + r)]) (.int 2) = some (.mt [.int (1 + r), .int (1 + r)]) := gMul_list (k := 2) (by decide) (by simp [LIM])
      have a : gAdd (.list (intz so)) (.list [.int (1 + r), .int (1 + r)]) = some (.mt (intz (so ++ [1 + r, 1 + r]))) := by
        rw [gAdd_list (by simp [LIM, hl]), ints_append]
        rfl
      have hap : mAppend (intz fo) [.int p] = some (.fz .none, intz (fo ++ [p])) := by
        rw [mAppend_ok (by simp [LIM, hl0]; omega), ints_append]
        rfl
      refine ⟨_, _, by simp [fnOf, DL.start, sSeq, sIf, sAsg_eq, sAsgT, sSet, sRet, sDrop, sRaise, sCallX, sNext, sBreak, sCont, sPar, sPar3, notBr_eq, dTest, dTruthy, toL, toV, ofV, dOp, dUn, dUnE, dC, dLate, dVar, LV.get, slotD, DV.dat, dTup, dLst, aNil, aCons, lNil, lCons, getAll, dCB, dCall, dCallB, dAnd, dOr, dNot, dOfT, dIf, dChain, dMut, isLs, lentOf, tgName_eq, tgNil, tgCons, tgTup, dRange1, dRange2, dIter, itemsD, dYes, LIM, two62, p64, hx]; rfl, .inl (by simp [b__law_basket_3b, b__law_basket_3b_1, fnOf, DL.start, sSeq, sIf, sAsg_eq, sAsgT, sSet, sRet, sDrop, sRaise, sCallX, sNext, sBreak, sCont, sPar, sPar3, notBr_eq, dTest, dTruthy, toL, toV, ofV, dOp, dUn, dUnE, dC, dLate, dVar, LV.get, slotD, DV.dat, dTup, dLst, aNil, aCons, lNil, lCons, getAll, dCB, dCall, dCallB, dAnd, dOr, dNot, dOfT, dIf, dChain, dMut, isLs, lentOf, tgName_eq, tgNil, tgCons, tgTup, dRange1, dRange2, dIter, itemsD, dYes, LIM, two62, p64, e1, m, a, e2, hap]; rfl), b2, fo ++ [p], _, rfl, hb2, by simp [hl0], fun q hq => ?_, rfl⟩
      rcases List.mem_append.mp hq with h | h
      · exact hr0 q h
      · rw [List.mem_singleton] at h
        subst h
        exact hpr
  refine ⟨fo, x, b', ?_, hb', hl', hr'⟩
  have hz : -4611686018427387904 ≤ sz ∧ sz < 4611686018427387904 := ⟨by omega, by omega⟩
  simp [b__law_basket_3, sFor, fnOf, DL.start, sSeq, sIf, sAsg_eq, sAsgT, sSet, sRet, sDrop, sRaise, sCallX, sNext, sBreak, sCont, sPar, sPar3, notBr_eq, dTest, dTruthy, toL, toV, ofV, dOp, dUn, dUnE, dC, dLate, dVar, LV.get, slotD, DV.dat, dTup, dLst, aNil, aCons, lNil, lCons, getAll, dCB, dCall, dCallB, dAnd, dOr, dNot, dOfT, dIf, dChain, dMut, isLs, lentOf, tgName_eq, tgNil, tgCons, tgTup, dRange1, dRange2, dIter, itemsD, dYes, LIM, two62, p64, hz]
  exact e
theorem basket_spec {b : List D} (hb : Bag b) {most high : Int} (hm : okB most) (hm2 : most ≤ 1000000) (hh : okB high) : ∃ (ps : List Int) (b' : List D), F__law_basket [.br b, .fz (.int most), .fz (.int high)] = some (.ret (.fz (ti ps)) b') ∧ Bag b' ∧ Bk high ps ∧ (ps.length : Int) ≤ most := by
  obtain ⟨sz, so, b1, e1, hb1, h1, h2, h3, h4⟩ := basket_1 hb hm hh
  obtain ⟨fo, x, b2, e3, hb2, h5, h6⟩ := basket_3 (most := most) hb1 hh h3 h4 h1 (by omega)
  have e2 : b__law_basket_2 [some (.br b1), some (.fz (.int most)), some (.fz (.int high)), some (.fz (.int sz)), some (.mt (intz so)), none, none] = some (.nx [some (.br b1), some (.fz (.int most)), some (.fz (.int high)), some (.fz (.int sz)), some (.mt (intz so)), some (.mt []), none]) := by simp [b__law_basket_2, fnOf, DL.start, sSeq, sIf, sAsg_eq, sAsgT, sSet, sRet, sDrop, sRaise, sCallX, sNext, sBreak, sCont, sPar, sPar3, notBr_eq, dTest, dTruthy, toL, toV, ofV, dOp, dUn, dUnE, dC, dLate, dVar, LV.get, slotD, DV.dat, dTup, dLst, aNil, aCons, lNil, lCons, getAll, dCB, dCall, dCallB, dAnd, dOr, dNot, dOfT, dIf, dChain, dMut, isLs, lentOf, tgName_eq, tgNil, tgCons, tgTup, dRange1, dRange2, dIter, itemsD, dYes, LIM, two62, p64]
  have hln : (sortI fo).reverse.length = sz.toNat := by rw [List.length_reverse, srt_len, h5]
  refine ⟨(sortI fo).reverse, b2, ?_, hb2, ⟨by omega, fun p hp => h6 p (mem_srt.mp (List.mem_reverse.mp hp)), desc_srt fo⟩, by omega⟩
  have e0 : DL.start 7 [.br b, .fz (.int most), .fz (.int high)] = [some (.br b), some (.fz (.int most)), some (.fz (.int high)), none, none, none, none] := rfl
  unfold F__law_basket b__law_basket fnOf
  rw [e0, sSeq_nx e1, sSeq_nx e2, sSeq_nx e3]
  simp [b__law_basket_4, fnOf, DL.start, sSeq, sIf, sAsg_eq, sAsgT, sSet, sRet, sDrop, sRaise, sCallX, sNext, sBreak, sCont, sPar, sPar3, notBr_eq, dTest, dTruthy, toL, toV, ofV, dOp, dUn, dUnE, dC, dLate, dVar, LV.get, slotD, DV.dat, dTup, dLst, aNil, aCons, lNil, lCons, getAll, dCB, dCall, dCallB, dAnd, dOr, dNot, dOfT, dIf, dChain, dMut, isLs, lentOf, tgName_eq, tgNil, tgCons, tgTup, dRange1, dRange2, dIter, itemsD, dYes, LIM, two62, p64, gRevL, ints_reverse]
theorem offer_spec {b : List D} (hb : Bag b) : ∃ (o : Int) (b' : List D), F__law_offer [.br b] = some (.ret (.fz (.int o)) b') ∧ Bag b' ∧ 2 ≤ o ∧ o ≤ 9 := by
  obtain ⟨r, b1, e1, h1, h2, hb1⟩ := take_spec hb (c := 8) (by decide) (by decide)
  obtain ⟨d, b2, e2, hd, hb2⟩ := of_spec hb1 (ds := intz [2, 3, 3, 4, 2 + r]) (ints_ne (by simp)) (by simp)
  obtain ⟨p, hp, rfl⟩ := mem_ints hd
  refine ⟨p, b2, ?_, hb2, ?_⟩
  · simp only [ints_cons, ints_nil] at e2
    simp [F__law_offer, b__law_offer, b__law_offer_1, fnOf, DL.start, sSeq, sIf, sAsg_eq, sAsgT, sSet, sRet, sDrop, sRaise, sCallX, sNext, sBreak, sCont, sPar, sPar3, notBr_eq, dTest, dTruthy, toL, toV, ofV, dOp, dUn, dUnE, dC, dLate, dVar, LV.get, slotD, DV.dat, dTup, dLst, aNil, aCons, lNil, lCons, getAll, dCB, dCall, dCallB, dAnd, dOr, dNot, dOfT, dIf, dChain, dMut, isLs, lentOf, tgName_eq, tgNil, tgCons, tgTup, dRange1, dRange2, dIter, itemsD, dYes, LIM, two62, p64, e1, e2]
  · simp at hp
    omega
/-! ### the checks -/
def NoDict (d : D) : Prop := ∀ kvs, d ≠ .dict kvs
def isIntD (lo hi : Int) : D → Bool
  | .int i => decide (lo ≤ i) && decide (i ≤ hi)
  | _ => false
theorem is_integer_spec {d : D} (h : NoDict d) (lo hi : Int) : F_is_integer [.fz d, .fz (.int lo), .fz (.int hi)] = some (.ret (.fz (.bool (isIntD lo hi d))) []) := by
  cases d with
  | dict kvs => exact absurd rfl (h kvs)
  | int i =>
    by_cases h1 : lo ≤ i <;> simp [F_is_integer, b_is_integer, b_is_integer_1, fnOf, DL.start, sSeq, sIf, sAsg_eq, sAsgT, sSet, sRet, sDrop, sRaise, sCallX, sNext, sBreak, sCont, sPar, sPar3, notBr_eq, dTest, dTruthy, toL, toV, ofV, dOp, dUn, dUnE, dC, dLate, dVar, LV.get, slotD, DV.dat, dTup, dLst, aNil, aCons, lNil, lCons, getAll, dCB, dCall, dCallB, dAnd, dOr, dNot, dOfT, dIf, dChain, dMut, isLs, lentOf, tgName_eq, tgNil, tgCons, tgTup, dRange1, dRange2, dIter, itemsD, dYes, LIM, two62, p64, gIsi, tyOf, isIntD, h1]
  | _ => simp [F_is_integer, b_is_integer, b_is_integer_1, fnOf, DL.start, sSeq, sIf, sAsg_eq, sAsgT, sSet, sRet, sDrop, sRaise, sCallX, sNext, sBreak, sCont, sPar, sPar3, notBr_eq, dTest, dTruthy, toL, toV, ofV, dOp, dUn, dUnE, dC, dLate, dVar, LV.get, slotD, DV.dat, dTup, dLst, aNil, aCons, lNil, lCons, getAll, dCB, dCall, dCallB, dAnd, dOr, dNot, dOfT, dIf, dChain, dMut, isLs, lentOf, tgName_eq, tgNil, tgCons, tgTup, dRange1, dRange2, dIter, itemsD, dYes, LIM, two62, p64, gIsi, tyOf, isIntD]
theorem is_price_spec {d : D} (h : NoDict d) : F_is_price [.fz d] = some (.ret (.fz (.bool (isIntD 1 1000000 d))) []) := by
  simp [F_is_price, b_is_price, b_is_price_1, fnOf, DL.start, sSeq, sIf, sAsg_eq, sAsgT, sSet, sRet, sDrop, sRaise, sCallX, sNext, sBreak, sCont, sPar, sPar3, notBr_eq, dTest, dTruthy, toL, toV, ofV, dOp, dUn, dUnE, dC, dLate, dVar, LV.get, slotD, DV.dat, dTup, dLst, aNil, aCons, lNil, lCons, getAll, dCB, dCall, dCallB, dAnd, dOr, dNot, dOfT, dIf, dChain, dMut, isLs, lentOf, tgName_eq, tgNil, tgCons, tgTup, dRange1, dRange2, dIter, itemsD, dYes, LIM, two62, p64, is_integer_spec h]
def arePricesD : D → Bool
  | .tuple ds => decide (1 ≤ ds.length) && decide (ds.length ≤ 30) && ds.all (isIntD 1 1000000)
  | _ => false
theorem comp_prices (ds : List D) (hn : ∀ d ∈ ds, NoDict d) (x : Option DV) : ∃ x', compTurns (tgName 1) dYes (toV (dCall F_is_price (aCons (dVar 1) aNil))) [1] ds [] [some (.fz (.tuple ds)), x] = some (ds.map fun d => .bool (isIntD 1 1000000 d), [some (.fz (.tuple ds)), x']) := by
  obtain ⟨δ', e, x', rfl⟩ := compTurns_map (t := tgName 1) (e := toV (dCall F_is_price (aCons (dVar 1) aNil))) (vs := [1]) (fun δ => ∃ x, δ = [some (.fz (.tuple ds)), x]) (fun d => .bool (isIntD 1 1000000 d)) ds [] [some (.fz (.tuple ds)), x] ⟨x, rfl⟩ fun d hd δ ⟨x, e⟩ => by
    subst e
    exact ⟨_, _, by simp [wipeD, fnOf, DL.start, sSeq, sIf, sAsg_eq, sAsgT, sSet, sRet, sDrop, sRaise, sCallX, sNext, sBreak, sCont, sPar, sPar3, notBr_eq, dTest, dTruthy, toL, toV, ofV, dOp, dUn, dUnE, dC, dLate, dVar, LV.get, slotD, DV.dat, dTup, dLst, aNil, aCons, lNil, lCons, getAll, dCB, dCall, dCallB, dAnd, dOr, dNot, dOfT, dIf, dChain, dMut, isLs, lentOf, tgName_eq, tgNil, tgCons, tgTup, dRange1, dRange2, dIter, itemsD, dYes, LIM, two62, p64]; rfl, by simp [fnOf, DL.start, sSeq, sIf, sAsg_eq, sAsgT, sSet, sRet, sDrop, sRaise, sCallX, sNext, sBreak, sCont, sPar, sPar3, notBr_eq, dTest, dTruthy, toL, toV, ofV, dOp, dUn, dUnE, dC, dLate, dVar, LV.get, slotD, DV.dat, dTup, dLst, aNil, aCons, lNil, lCons, getAll, dCB, dCall, dCallB, dAnd, dOr, dNot, dOfT, dIf, dChain, dMut, isLs, lentOf, tgName_eq, tgNil, tgCons, tgTup, dRange1, dRange2, dIter, itemsD, dYes, LIM, two62, p64, is_price_spec (hn d hd)]; rfl, _, rfl⟩
  exact ⟨x', e⟩
end FT
set_option Elab.async false
set_option linter.all false
/-! Baskets checked; costs. -/
namespace FT
open PySem DL
/-- data without the marks -/
def Clean (d : D) : Prop := NoDict d ∧ ∀ ds, d = .tuple ds → ∀ x ∈ ds, NoDict x
theorem nd_int (n : Int) : NoDict (.int n) := fun _ e => by cases e
theorem nd_tup (ds : List D) : NoDict (.tuple ds) := fun _ e => by cases e
theorem nd_list (ds : List D) : NoDict (.list ds) := fun _ e => by cases e
theorem nd_none : NoDict .none := fun _ e => by cases e
theorem nd_bool (b : Bool) : NoDict (.bool b) := fun _ e => by cases e
theorem nd_str (b : Str) : NoDict (.str b) := fun _ e => by cases e
theorem clean_ti (ns : List Int) : Clean (ti ns) := ⟨nd_tup _, fun ds e x hx => by
  cases e
  obtain ⟨n, _, rfl⟩ := mem_ints hx
  exact nd_int n⟩
theorem are_prices_spec {d : D} (h : Clean d) : F_are_prices [.fz d] = some (.ret (.fz (.bool (arePricesD d))) []) := by
  obtain ⟨hn, hd⟩ := h
  cases d with
  | dict kvs => exact absurd rfl (hn kvs)
  | tuple ds =>
    by_cases h1 : 1 ≤ ds.length
    · by_cases h2 : ds.length ≤ 30
      · obtain ⟨δ', e, x', rfl⟩ := compTurns_of (t := tgName 1) (e := toV (dCall F_is_price (aCons (dVar 1) aNil))) (vs := [1]) (fun δ => ∃ x, δ = [some (.fz (.tuple ds)), x]) id (fun d => .bool (isIntD 1 1000000 d)) ds [some (.fz (.tuple ds)), none] ⟨none, rfl⟩ fun d hd' δ ⟨x, e⟩ => by
          subst e
          exact ⟨_, _, by simp [wipeD, fnOf, DL.start, sSeq, sIf, sAsg_eq, sAsgT, sSet, sRet, sDrop, sRaise, sCallX, sNext, sBreak, sCont, sPar, sPar3, notBr_eq, dTest, dTruthy, toL, toV, ofV, dOp, dUn, dUnE, dC, dLate, dVar, LV.get, slotD, DV.dat, dTup, dLst, aNil, aCons, lNil, lCons, getAll, dCB, dCall, dCallB, dAnd, dOr, dNot, dOfT, dIf, dChain, dMut, isLs, lentOf, tgName_eq, tgNil, tgCons, tgTup, dRange1, dRange2, dIter, itemsD, dYes, LIM, two62, p64]; rfl, by simp [fnOf, DL.start, sSeq, sIf, sAsg_eq, sAsgT, sSet, sRet, sDrop, sRaise, sCallX, sNext, sBreak, sCont, sPar, sPar3, notBr_eq, dTest, dTruthy, toL, toV, ofV, dOp, dUn, dUnE, dC, dLate, dVar, LV.get, slotD, DV.dat, dTup, dLst, aNil, aCons, lNil, lCons, getAll, dCB, dCall, dCallB, dAnd, dOr, dNot, dOfT, dIf, dChain, dMut, isLs, lentOf, tgName_eq, tgNil, tgCons, tgTup, dRange1, dRange2, dIter, itemsD, dYes, LIM, two62, p64, is_price_spec (hd ds rfl d hd')]; rfl, _, rfl⟩
        have e' : (ds.map fun d => PyData.bool (isIntD 1 1000000 d)) = bools (ds.map (isIntD 1 1000000)) := by simp [bools]
        rw [e', List.map_id] at e
        have h3 : (1 : Int) ≤ ds.length := by omega
        have h4 : (ds.length : Int) ≤ 30 := by omega
        have h5 : ds.length ≤ 16777216 := by omega
        simp [F_are_prices, b_are_prices, b_are_prices_1, fnOf, DL.start, sSeq, sIf, sAsg_eq, sAsgT, sSet, sRet, sDrop, sRaise, sCallX, sNext, sBreak, sCont, sPar, sPar3, notBr_eq, dTest, dTruthy, toL, toV, ofV, dOp, dUn, dUnE, dC, dLate, dVar, LV.get, slotD, DV.dat, dTup, dLst, aNil, aCons, lNil, lCons, getAll, dCB, dCall, dCallB, dAnd, dOr, dNot, dOfT, dIf, dChain, dMut, isLs, lentOf, tgName_eq, tgNil, tgCons, tgTup, dRange1, dRange2, dIter, itemsD, dYes, LIM, two62, p64, gIsi, tyOf, arePricesD, h1, h2, h3, h4, h5, dComp, calmAt_eq, wipeD, e, restore]
      · have h3 : (1 : Int) ≤ ds.length := by omega
        have h4 : ¬ (ds.length : Int) ≤ 30 := by omega
        simp [F_are_prices, b_are_prices, b_are_prices_1, fnOf, DL.start, sSeq, sIf, sAsg_eq, sAsgT, sSet, sRet, sDrop, sRaise, sCallX, sNext, sBreak, sCont, sPar, sPar3, notBr_eq, dTest, dTruthy, toL, toV, ofV, dOp, dUn, dUnE, dC, dLate, dVar, LV.get, slotD, DV.dat, dTup, dLst, aNil, aCons, lNil, lCons, getAll, dCB, dCall, dCallB, dAnd, dOr, dNot, dOfT, dIf, dChain, dMut, isLs, lentOf, tgName_eq, tgNil, tgCons, tgTup, dRange1, dRange2, dIter, itemsD, dYes, LIM, two62, p64, gIsi, tyOf, arePricesD, h1, h2, h3, h4]
    · have h3 : ¬ (1 : Int) ≤ ds.length := by omega
      simp [F_are_prices, b_are_prices, b_are_prices_1, fnOf, DL.start, sSeq, sIf, sAsg_eq, sAsgT, sSet, sRet, sDrop, sRaise, sCallX, sNext, sBreak, sCont, sPar, sPar3, notBr_eq, dTest, dTruthy, toL, toV, ofV, dOp, dUn, dUnE, dC, dLate, dVar, LV.get, slotD, DV.dat, dTup, dLst, aNil, aCons, lNil, lCons, getAll, dCB, dCall, dCallB, dAnd, dOr, dNot, dOfT, dIf, dChain, dMut, isLs, lentOf, tgName_eq, tgNil, tgCons, tgTup, dRange1, dRange2, dIter, itemsD, dYes, LIM, two62, p64, gIsi, tyOf, arePricesD, h1, h3]
  | _ => simp [F_are_prices, b_are_prices, b_are_prices_1, fnOf, DL.start, sSeq, sIf, sAsg_eq, sAsgT, sSet, sRet, sDrop, sRaise, sCallX, sNext, sBreak, sCont, sPar, sPar3, notBr_eq, dTest, dTruthy, toL, toV, ofV, dOp, dUn, dUnE, dC, dLate, dVar, LV.get, slotD, DV.dat, dTup, dLst, aNil, aCons, lNil, lCons, getAll, dCB, dCall, dCallB, dAnd, dOr, dNot, dOfT, dIf, dChain, dMut, isLs, lentOf, tgName_eq, tgNil, tgCons, tgTup, dRange1, dRange2, dIter, itemsD, dYes, LIM, two62, p64, gIsi, tyOf, arePricesD]
theorem isInt_ints {lo hi : Int} : ∀ {ds : List D}, ds.all (isIntD lo hi) = true → ∃ ns, ds = intz ns ∧ ∀ n ∈ ns, lo ≤ n ∧ n ≤ hi
  | [], _ => ⟨[], rfl, fun n h => by cases h⟩
  | d :: ds, h => by
    rw [List.all_cons, Bool.and_eq_true] at h
    obtain ⟨ns, rfl, h2⟩ := isInt_ints h.2
    have h1 := h.1
    cases d with
    | int i =>
      simp [isIntD] at h1
      exact ⟨i :: ns, rfl, fun n hn => by
        rcases List.mem_cons.mp hn with e | e
        · rw [e]
          exact h1
        · exact h2 n e⟩
    | _ => cases h1
theorem ints_all {lo hi : Int} {ns : List Int} (h : ∀ n ∈ ns, lo ≤ n ∧ n ≤ hi) : (intz ns).all (isIntD lo hi) = true := by
  rw [List.all_eq_true]
  intro d hd
  obtain ⟨n, hn, rfl⟩ := mem_ints hd
  simp [isIntD, h n hn]
theorem arePrices_iff {d : D} : arePricesD d = true ↔ ∃ ns, d = ti ns ∧ 1 ≤ ns.length ∧ ns.length ≤ 30 ∧ ∀ n ∈ ns, 1 ≤ n ∧ n ≤ 1000000 := by
  constructor
  · intro h
    cases d with
    | tuple ds =>
      simp only [arePricesD, Bool.and_eq_true, decide_eq_true_eq] at h
      obtain ⟨ns, rfl, h2⟩ := isInt_ints h.2
      exact ⟨ns, rfl, by simpa using h.1.1, by simpa using h.1.2, h2⟩
    | _ => cases h
  · rintro ⟨ns, rfl, h1, h2, h3⟩
    simp [arePricesD, h1, h2, ints_all h3]
/-- each is not below the next -/
def decB (ns : List Int) : Bool := (ns.zip ns.tail).all fun p => decide (p.2 ≤ p.1)
theorem decB_iff {ns : List Int} : decB ns = true ↔ ns.Pairwise (· ≥ ·) := by
  induction ns with
  | nil => simp [decB]
  | cons x ns ih =>
    cases ns with
    | nil => simp [decB]
    | cons y ns =>
      have e : decB (x :: y :: ns) = (decide (y ≤ x) && decB (y :: ns)) := by simp [decB]
      rw [e, Bool.and_eq_true, ih]
      constructor
      · rintro ⟨h1, h2⟩
        refine List.pairwise_cons.mpr ⟨fun z hz => ?_, h2⟩
        have h1 : y ≤ x := of_decide_eq_true h1
        rcases List.mem_cons.mp hz with e | e
        · rw [e]
          exact h1
        · exact Int.le_trans ((List.pairwise_cons.mp h2).1 z e) h1
      · intro h
        obtain ⟨h1, h2⟩ := List.pairwise_cons.mp h
        exact ⟨decide_eq_true (h1 y List.mem_cons_self), h2⟩
def isBasketD (d : D) : Bool := arePricesD d && (match d with
  | .tuple ds => match intsOf ds with
    | some ns => decB ns
    | none => false
  | _ => false)
theorem isBasket_iff {d : D} : isBasketD d = true ↔ ∃ ns, d = ti ns ∧ ns.length ≤ 30 ∧ Bk 1000000 ns := by
  unfold isBasketD
  rw [Bool.and_eq_true, arePrices_iff]
  constructor
  · rintro ⟨⟨ns, rfl, h1, h2, h3⟩, h4⟩
    simp at h4
    exact ⟨ns, rfl, h2, h1, h3, decB_iff.mp h4⟩
  · rintro ⟨ns, rfl, h2, h1, h3, h4⟩
    refine ⟨⟨ns, rfl, h1, h2, h3⟩, ?_⟩
    simp [decB_iff.mpr h4]
theorem is_basket_spec {d : D} (h : Clean d) : F_is_basket [.fz d] = some (.ret (.fz (.bool (isBasketD d))) []) := by
  cases hp : arePricesD d with
  | false => simp [F_is_basket, b_is_basket, b_is_basket_1, fnOf, DL.start, sSeq, sIf, sAsg_eq, sAsgT, sSet, sRet, sDrop, sRaise, sCallX, sNext, sBreak, sCont, sPar, sPar3, notBr_eq, dTest, dTruthy, toL, toV, ofV, dOp, dUn, dUnE, dC, dLate, dVar, LV.get, slotD, DV.dat, dTup, dLst, aNil, aCons, lNil, lCons, getAll, dCB, dCall, dCallB, dAnd, dOr, dNot, dOfT, dIf, dChain, dMut, isLs, lentOf, tgName_eq, tgNil, tgCons, tgTup, dRange1, dRange2, dIter, itemsD, dYes, LIM, two62, p64, are_prices_spec h, hp, isBasketD]
  | true =>
    obtain ⟨ns, rfl, h1, h2, h3⟩ := arePrices_iff.mp hp
    obtain ⟨δ', e, x, y, rfl⟩ := compTurns_of (t := tgTup (tgCons (tgName 1) (tgCons (tgName 2) tgNil))) (e := toV (dOp gGe (dLate 1) (dLate 2))) (vs := [1, 2]) (fun δ => ∃ x y, δ = [some (.fz (ti ns)), x, y]) (fun p : Int × Int => pairD (.int p.1) (.int p.2)) (fun p => .bool (decide (p.2 ≤ p.1))) (ns.zip ns.tail) [some (.fz (ti ns)), none, none] ⟨none, none, rfl⟩ fun p hp δ ⟨x, y, e⟩ => by
      subst e
      exact ⟨_, _, by simp [wipeD, fnOf, DL.start, sSeq, sIf, sAsg_eq, sAsgT, sSet, sRet, sDrop, sRaise, sCallX, sNext, sBreak, sCont, sPar, sPar3, notBr_eq, dTest, dTruthy, toL, toV, ofV, dOp, dUn, dUnE, dC, dLate, dVar, LV.get, slotD, DV.dat, dTup, dLst, aNil, aCons, lNil, lCons, getAll, dCB, dCall, dCallB, dAnd, dOr, dNot, dOfT, dIf, dChain, dMut, isLs, lentOf, tgName_eq, tgNil, tgCons, tgTup, dRange1, dRange2, dIter, itemsD, dYes, LIM, two62, p64, pairD]; rfl, by simp [fnOf, DL.start, sSeq, sIf, sAsg_eq, sAsgT, sSet, sRet, sDrop, sRaise, sCallX, sNext, sBreak, sCont, sPar, sPar3, notBr_eq, dTest, dTruthy, toL, toV, ofV, dOp, dUn, dUnE, dC, dLate, dVar, LV.get, slotD, DV.dat, dTup, dLst, aNil, aCons, lNil, lCons, getAll, dCB, dCall, dCallB, dAnd, dOr, dNot, dOfT, dIf, dChain, dMut, isLs, lentOf, tgName_eq, tgNil, tgCons, tgTup, dRange1, dRange2, dIter, itemsD, dYes, LIM, two62, p64]; rfl, by exact ⟨_, _, rfl⟩⟩
    have e' : ((ns.zip ns.tail).map fun p => PyData.bool (decide (p.2 ≤ p.1))) = bools ((ns.zip ns.tail).map fun p => decide (p.2 ≤ p.1)) := by simp [bools]
    rw [e'] at e
    have z : zipD (intz ns) (intz ns.tail) = (ns.zip ns.tail).map fun p => pairD (.int p.1) (.int p.2) := zipD_map _ _ ns ns.tail
    have c1 : cutD (intz ns) (some 1) none = intz ns.tail := by rw [show (1 : Int) = ((1 : Nat) : Int) from rfl, cut_from, ints_drop, List.drop_one]
    have h5 : ns.length - 1 ≤ 16777216 := by omega
    have h6 : (ns.zip ns.tail).length ≤ 16777216 := by rw [List.length_zip]; omega
    simp [F_is_basket, b_is_basket, b_is_basket_1, fnOf, DL.start, sSeq, sIf, sAsg_eq, sAsgT, sSet, sRet, sDrop, sRaise, sCallX, sNext, sBreak, sCont, sPar, sPar3, notBr_eq, dTest, dTruthy, toL, toV, ofV, dOp, dUn, dUnE, dC, dLate, dVar, LV.get, slotD, DV.dat, dTup, dLst, aNil, aCons, lNil, lCons, getAll, dCB, dCall, dCallB, dAnd, dOr, dNot, dOfT, dIf, dChain, dMut, isLs, lentOf, tgName_eq, tgNil, tgCons, tgTup, dRange1, dRange2, dIter, itemsD, dYes, LIM, two62, p64, are_prices_spec h, hp, dComp, dZip, dCut, oNone, oSome, c1, z, h5, calmAt_eq, wipeD, e, restore, isBasketD, decB]
theorem require_basket_spec {d : D} (h : Clean d) : F_require_basket [.fz d] = some (if isBasketD d = true then .ret (.fz .none) [] else .ex "InvalidBasket") := by
  cases hb : isBasketD d <;> simp [F_require_basket, b_require_basket, b_require_basket_1, fnOf, DL.start, sSeq, sIf, sAsg_eq, sAsgT, sSet, sRet, sDrop, sRaise, sCallX, sNext, sBreak, sCont, sPar, sPar3, notBr_eq, dTest, dTruthy, toL, toV, ofV, dOp, dUn, dUnE, dC, dLate, dVar, LV.get, slotD, DV.dat, dTup, dLst, aNil, aCons, lNil, lCons, getAll, dCB, dCall, dCallB, dAnd, dOr, dNot, dOfT, dIf, dChain, dMut, isLs, lentOf, tgName_eq, tgNil, tgCons, tgTup, dRange1, dRange2, dIter, itemsD, dYes, LIM, two62, p64, is_basket_spec h, hb]
theorem require_offer_spec {d : D} (h : NoDict d) : F_require_offer [.fz d] = some (if isIntD 2 9 d = true then .ret (.fz .none) [] else .ex "InvalidOffer") := by
  cases hb : isIntD 2 9 d <;> simp [F_require_offer, b_require_offer, b_require_offer_1, fnOf, DL.start, sSeq, sIf, sAsg_eq, sAsgT, sSet, sRet, sDrop, sRaise, sCallX, sNext, sBreak, sCont, sPar, sPar3, notBr_eq, dTest, dTruthy, toL, toV, ofV, dOp, dUn, dUnE, dC, dLate, dVar, LV.get, slotD, DV.dat, dTup, dLst, aNil, aCons, lNil, lCons, getAll, dCB, dCall, dCallB, dAnd, dOr, dNot, dOfT, dIf, dChain, dMut, isLs, lentOf, tgName_eq, tgNil, tgCons, tgTup, dRange1, dRange2, dIter, itemsD, dYes, LIM, two62, p64, is_integer_spec h, hb]
theorem require_offer_ok {o : Int} (h1 : 2 ≤ o) (h2 : o ≤ 9) : F_require_offer [.fz (.int o)] = some (.ret (.fz .none) []) := by
  rw [require_offer_spec (nd_int o)]
  simp [isIntD, h1, h2]
theorem require_basket_ok {ps : List Int} (h : Bk 1000000 ps) (hl : ps.length ≤ 30) : F_require_basket [.fz (ti ps)] = some (.ret (.fz .none) []) := by
  rw [require_basket_spec (clean_ti ps), if_pos (isBasket_iff.mpr ⟨ps, rfl, hl, h⟩)]
/-! ### costs -/
def costOf (o : Nat) (ps : List Int) : Int := (ps.take (ps.length - ps.length / o)).sum
theorem cost_of_spec {o : Nat} (h1 : 0 < o) (h2 : o < 1000) (ps : List Int) : F_cost_of [.fz (.int o), .fz (ti ps)] = some (.ret (.fz (.int (costOf o ps))) []) := by
  have d := @gDivI_int ps.length o (by omega) (by omega)
  have e : (ps.length : Int) - (ps.length : Int) / (o : Int) = ((ps.length - ps.length / o : Nat) : Int) := by
    have h1 := Nat.div_le_self ps.length o
    have h2 : (ps.length : Int) / (o : Int) = ((ps.length / o : Nat) : Int) := rfl
    omega
  have c : cutD (intz ps) none (some ((ps.length : Int) - (ps.length : Int) / (o : Int))) = intz (ps.take (ps.length - ps.length / o)) := by
    rw [e]
    exact (cut_to _ _).trans (ints_take _ _)
  simp [F_cost_of, b_cost_of, b_cost_of_1, fnOf, DL.start, sSeq, sIf, sAsg_eq, sAsgT, sSet, sRet, sDrop, sRaise, sCallX, sNext, sBreak, sCont, sPar, sPar3, notBr_eq, dTest, dTruthy, toL, toV, ofV, dOp, dUn, dUnE, dC, dLate, dVar, LV.get, slotD, DV.dat, dTup, dLst, aNil, aCons, lNil, lCons, getAll, dCB, dCall, dCallB, dAnd, dOr, dNot, dOfT, dIf, dChain, dMut, isLs, lentOf, tgName_eq, tgNil, tgCons, tgTup, dRange1, dRange2, dIter, itemsD, dYes, LIM, two62, p64, d, dCut, oNone, oSome, c, costOf]
theorem cost_of_specL {o : Nat} (h1 : 0 < o) (h2 : o < 1000) (ps : List Int) : F_cost_of [.fz (.int o), .fz (li ps)] = some (.ret (.fz (.int (costOf o ps))) []) := by
  have d := @gDivI_int ps.length o (by omega) (by omega)
  have e : (ps.length : Int) - (ps.length : Int) / (o : Int) = ((ps.length - ps.length / o : Nat) : Int) := by
    have h1 := Nat.div_le_self ps.length o
    have h2 : (ps.length : Int) / (o : Int) = ((ps.length / o : Nat) : Int) := rfl
    omega
  have c : cutD (intz ps) none (some ((ps.length : Int) - (ps.length : Int) / (o : Int))) = intz (ps.take (ps.length - ps.length / o)) := by
    rw [e]
    exact (cut_to _ _).trans (ints_take _ _)
  simp [F_cost_of, b_cost_of, b_cost_of_1, fnOf, DL.start, sSeq, sIf, sAsg_eq, sAsgT, sSet, sRet, sDrop, sRaise, sCallX, sNext, sBreak, sCont, sPar, sPar3, notBr_eq, dTest, dTruthy, toL, toV, ofV, dOp, dUn, dUnE, dC, dLate, dVar, LV.get, slotD, DV.dat, dTup, dLst, aNil, aCons, lNil, lCons, getAll, dCB, dCall, dCallB, dAnd, dOr, dNot, dOfT, dIf, dChain, dMut, isLs, lentOf, tgName_eq, tgNil, tgCons, tgTup, dRange1, dRange2, dIter, itemsD, dYes, LIM, two62, p64, d, dCut, oNone, oSome, c, costOf]
theorem cost_spec {o : Nat} (h1 : 2 ≤ o) (h2 : o ≤ 9) {ps : List Int} (h : Bk 1000000 ps) (hl : ps.length ≤ 30) : F_cost [.fz (.int o), .fz (ti ps)] = some (.ret (.fz (.int (costOf o ps))) []) := by
  simp [F_cost, b_cost, b_cost_1, b_cost_2, b_cost_3, fnOf, DL.start, sSeq, sIf, sAsg_eq, sAsgT, sSet, sRet, sDrop, sRaise, sCallX, sNext, sBreak, sCont, sPar, sPar3, notBr_eq, dTest, dTruthy, toL, toV, ofV, dOp, dUn, dUnE, dC, dLate, dVar, LV.get, slotD, DV.dat, dTup, dLst, aNil, aCons, lNil, lCons, getAll, dCB, dCall, dCallB, dAnd, dOr, dNot, dOfT, dIf, dChain, dMut, isLs, lentOf, tgName_eq, tgNil, tgCons, tgTup, dRange1, dRange2, dIter, itemsD, dYes, LIM, two62, p64, require_offer_ok (show (2 : Int) ≤ o by omega) (show (o : Int) ≤ 9 by omega), require_basket_ok h hl, cost_of_spec (show 0 < o by omega) (show o < 1000 by omega)]
end FT
set_option Elab.async false
set_option linter.all false
/-! Costs by taking the cheapest items away. -/
namespace FT
open PySem DL
theorem perm_sum {a b : List Int} (h : a.Perm b) : a.sum = b.sum := by
  induction h with
  | nil => rfl
  | cons x _ ih => rw [List.sum_cons, List.sum_cons, ih]
  | swap x y l =>
    simp only [List.sum_cons]
    omega
  | trans _ _ h1 h2 => rw [h1, h2]
theorem law_cost_spec {o : Nat} (h1 : 0 < o) (h2 : o < 1000) {ps : List Int} (hd : ps.Pairwise (· ≥ ·)) (hl : ps.length ≤ 1000) : F__law_cost [.fz (.int o), .fz (ti ps)] = some (.ret (.fz (.int (costOf o ps))) []) := by
  have e1 : b__law_cost_1 [some (.fz (.int o)), some (.fz (ti ps)), none, none] = some (.nx [some (.fz (.int o)), some (.fz (ti ps)), some (.mt (intz ps)), none]) := by simp [b__law_cost_1, fnOf, DL.start, sSeq, sIf, sAsg_eq, sAsgT, sSet, sRet, sDrop, sRaise, sCallX, sNext, sBreak, sCont, sPar, sPar3, notBr_eq, dTest, dTruthy, toL, toV, ofV, dOp, dUn, dUnE, dC, dLate, dVar, LV.get, slotD, DV.dat, dTup, dLst, aNil, aCons, lNil, lCons, getAll, dCB, dCall, dCallB, dAnd, dOr, dNot, dOfT, dIf, dChain, dMut, isLs, lentOf, tgName_eq, tgNil, tgCons, tgTup, dRange1, dRange2, dIter, itemsD, dYes, LIM, two62, p64]
  have dv : (ps.length : Int) / (o : Int) = ((ps.length / o : Nat) : Int) := rfl
  have hle := Nat.div_le_self ps.length o
  obtain ⟨δ', e2, left, x, rfl, hx, hp⟩ := for_range (t := tgName 3) (b := b__law_cost_2b) (fun i δ => ∃ (left : List Int) (x : Option DV), δ = [some (.fz (.int o)), some (.fz (ti ps)), some (.mt (intz left)), x] ∧ nb x = true ∧ left.Perm (ps.take (ps.length - i))) 0 (ps.length / o)
    [some (.fz (.int o)), some (.fz (ti ps)), some (.mt (intz ps)), none] ⟨ps, none, rfl, rfl, by simp⟩ fun i hi δ ⟨left, x, e, hx, hp⟩ => by
      subst e
      obtain ⟨j, hj⟩ : ∃ j, ps.length - i = j + 1 := ⟨ps.length - i - 1, by omega⟩
      have hjl : j < ps.length := by omega
      rw [hj] at hp
      have tk : ps.take (j + 1) = ps.take j ++ [ps[j]] := by rw [List.take_add_one, List.getElem?_eq_getElem hjl]; rfl
      rw [tk] at hp
      have hin : ps[j] ∈ left := hp.mem_iff.mpr (List.mem_append_right _ (List.mem_singleton.mpr rfl))
      have hne : left ≠ [] := fun e => by rw [e] at hin; cases hin
      have hm : minI left = ps[j] := by
        apply Int.le_antisymm (mn_low hin)
        have hmem := hp.mem_iff.mp (mn_in hne)
        rcases List.mem_append.mp hmem with h | h
        · have hd' : (ps.take (j + 1)).Pairwise (· ≥ ·) := hd.sublist (List.take_sublist _ _)
          rw [tk, List.pairwise_append] at hd'
          exact hd'.2.2 _ h _ (List.mem_singleton.mpr rfl)
        · rw [List.mem_singleton] at h
          rw [h]
          exact Int.le_refl _
      have hpe : (left.erase ps[j]).Perm (ps.take j) := by
        have q1 := hp.erase ps[j]
        have q2 : (ps.take j ++ [ps[j]]).Perm (ps[j] :: ps.take j) := by
          have := List.perm_append_comm (l₁ := ps.take j) (l₂ := [ps[j]])
          exact this
        have q3 := q2.erase ps[j]
        rw [List.erase_cons_head] at q3
        exact q1.trans q3
      refine ⟨_, _, by simp [fnOf, DL.start, sSeq, sIf, sAsg_eq, sAsgT, sSet, sRet, sDrop, sRaise, sCallX, sNext, sBreak, sCont, sPar, sPar3, notBr_eq, dTest, dTruthy, toL, toV, ofV, dOp, dUn, dUnE, dC, dLate, dVar, LV.get, slotD, DV.dat, dTup, dLst, aNil, aCons, lNil, lCons, getAll, dCB, dCall, dCallB, dAnd, dOr, dNot, dOfT, dIf, dChain, dMut, isLs, lentOf, tgName_eq, tgNil, tgCons, tgTup, dRange1, dRange2, dIter, itemsD, dYes, LIM, two62, p64, hx]; rfl, .inl (by simp [b__law_cost_2b, b__law_cost_2b_1, fnOf, DL.start, sSeq, sIf, sAsg_eq, sAsgT, sSet, sRet, sDrop, sRaise, sCallX, sNext, sBreak, sCont, sPar, sPar3, notBr_eq, dTest, dTruthy, toL, toV, ofV, dOp, dUn, dUnE, dC, dLate, dVar, LV.get, slotD, DV.dat, dTup, dLst, aNil, aCons, lNil, lCons, getAll, dCB, dCall, dCallB, dAnd, dOr, dNot, dOfT, dIf, dChain, dMut, isLs, lentOf, tgName_eq, tgNil, tgCons, tgTup, dRange1, dRange2, dIter, itemsD, dYes, LIM, two62, p64, gMin_ne hne, hm, mRemove_ok hin]; rfl), left.erase ps[j], _, rfl, rfl, ?_⟩
      rw [show ps.length - (i + 1) = j by omega]
      exact hpe
  have e2' : b__law_cost_2 [some (.fz (.int o)), some (.fz (ti ps)), some (.mt (intz ps)), none] = some (.nx [some (.fz (.int o)), some (.fz (ti ps)), some (.mt (intz left)), x]) := by
    have d := @gDivI_int ps.length o (by omega) (by omega)
    have hz : -4611686018427387904 ≤ (ps.length : Int) / (o : Int) ∧ (ps.length : Int) / (o : Int) < 4611686018427387904 := by
      have h0 : 0 ≤ (ps.length : Int) / (o : Int) := Int.ediv_nonneg (by omega) (by omega)
      have h3 : (ps.length : Int) / (o : Int) ≤ ps.length := by rw [dv]; exact Int.ofNat_le.mpr hle
      exact ⟨by omega, by omega⟩
    have ht : ((ps.length : Int) / (o : Int)).toNat = ps.length / o := by rw [dv]; rfl
    simp [b__law_cost_2, sFor, fnOf, DL.start, sSeq, sIf, sAsg_eq, sAsgT, sSet, sRet, sDrop, sRaise, sCallX, sNext, sBreak, sCont, sPar, sPar3, notBr_eq, dTest, dTruthy, toL, toV, ofV, dOp, dUn, dUnE, dC, dLate, dVar, LV.get, slotD, DV.dat, dTup, dLst, aNil, aCons, lNil, lCons, getAll, dCB, dCall, dCallB, dAnd, dOr, dNot, dOfT, dIf, dChain, dMut, isLs, lentOf, tgName_eq, tgNil, tgCons, tgTup, dRange1, dRange2, dIter, itemsD, dYes, LIM, two62, p64, d, hz, ht]
    exact e2
  have e0 : DL.start 4 [.fz (.int o), .fz (ti ps)] = [some (.fz (.int o)), some (.fz (ti ps)), none, none] := rfl
  have sm : left.sum = costOf o ps := perm_sum hp
  unfold F__law_cost b__law_cost fnOf
  rw [e0, sSeq_nx e1, sSeq_nx e2']
  simp [b__law_cost_3, fnOf, DL.start, sSeq, sIf, sAsg_eq, sAsgT, sSet, sRet, sDrop, sRaise, sCallX, sNext, sBreak, sCont, sPar, sPar3, notBr_eq, dTest, dTruthy, toL, toV, ofV, dOp, dUn, dUnE, dC, dLate, dVar, LV.get, slotD, DV.dat, dTup, dLst, aNil, aCons, lNil, lCons, getAll, dCB, dCall, dCallB, dAnd, dOr, dNot, dOfT, dIf, dChain, dMut, isLs, lentOf, tgName_eq, tgNil, tgCons, tgTup, dRange1, dRange2, dIter, itemsD, dYes, LIM, two62, p64, sm]
end FT
set_option Elab.async false
set_option linter.all false
/-! Savings: every o-th price; layers. -/
namespace FT
open PySem DL
/-! ### layers -/
def tot (f : Nat → Nat) : Nat → Nat
  | 0 => 0
  | n + 1 => tot f n + f n
theorem tot_congr {f g : Nat → Nat} {n : Nat} (h : ∀ t, t < n → f t = g t) : tot f n = tot g n := by
  induction n with
  | zero => rfl
  | succ n ih => rw [tot, tot, ih fun t ht => h t (by omega), h n (by omega)]
theorem tot_le {f g : Nat → Nat} {n : Nat} (h : ∀ t, t < n → f t ≤ g t) : tot f n ≤ tot g n := by
  induction n with
  | zero => exact Nat.le_refl _
  | succ n ih =>
    have := ih fun t ht => h t (by omega)
    have := h n (by omega)
    rw [tot, tot]
    omega
theorem tot_add (f g : Nat → Nat) (n : Nat) : tot (fun t => f t + g t) n = tot f n + tot g n := by
  induction n with
  | zero => rfl
  | succ n ih => rw [tot, tot, tot, ih]; omega
theorem tot_zero (n : Nat) : tot (fun _ => 0) n = 0 := by
  induction n with
  | zero => rfl
  | succ n ih => rw [tot, ih]
/-- how many are at least t + 1 -/
def cnt (ps : List Int) (t : Nat) : Nat := ps.countP fun p => decide ((t : Int) + 1 ≤ p)
theorem cnt_nil (t : Nat) : cnt [] t = 0 := rfl
theorem cnt_cons (p : Int) (ps : List Int) (t : Nat) : cnt (p :: ps) t = (if (t : Int) + 1 ≤ p then 1 else 0) + cnt ps t := by
  unfold cnt
  rw [List.countP_cons]
  by_cases h : (t : Int) + 1 ≤ p <;> simp [h] <;> omega
theorem cnt_append (a b : List Int) (t : Nat) : cnt (a ++ b) t = cnt a t + cnt b t := List.countP_append ..
theorem cnt_perm {a b : List Int} (h : a.Perm b) (t : Nat) : cnt a t = cnt b t := h.countP_eq _
theorem cnt_le (ps : List Int) (t : Nat) : cnt ps t ≤ ps.length := List.countP_le_length
theorem tot_one {p : Int} {M : Nat} (h0 : 0 ≤ p) (h1 : p ≤ M) : tot (fun t => if (t : Int) + 1 ≤ p then 1 else 0) M = p.toNat := by
  induction M with
  | zero =>
    have : p = 0 := by omega
    subst this
    rfl
  | succ n ih =>
    rw [tot]
    by_cases h : p ≤ n
    · rw [ih h, if_neg (by omega)]
      exact Nat.add_zero _
    · have e : p = (n : Int) + 1 := by omega
      have : tot (fun t => if (t : Int) + 1 ≤ p then 1 else 0) n = tot (fun _ => 1) n := tot_congr fun t ht => if_pos (by omega)
      have t1 : ∀ n, tot (fun _ => 1) n = n := fun n => by
        induction n with
        | zero => rfl
        | succ n ih => rw [tot, ih]
      rw [this, t1, if_pos (by omega)]
      omega
theorem sum_layers {ps : List Int} {M : Nat} (h : ∀ p ∈ ps, 0 ≤ p ∧ p ≤ M) : ps.sum = (tot (cnt ps) M : Nat) := by
  induction ps with
  | nil =>
    have : tot (cnt []) M = tot (fun _ => 0) M := tot_congr fun t _ => rfl
    rw [this, tot_zero]
    rfl
  | cons p ps ih =>
    have e : tot (cnt (p :: ps)) M = tot (fun t => (if (t : Int) + 1 ≤ p then 1 else 0) + cnt ps t) M := tot_congr fun t _ => cnt_cons p ps t
    obtain ⟨h0, h1⟩ := h p List.mem_cons_self
    rw [e, tot_add, tot_one h0 h1, List.sum_cons, ih fun q hq => h q (List.mem_cons_of_mem _ hq)]
    omega
/-! ### every k-th from a on -/
def pick (a k : Nat) (ps : List Int) : List Int := (List.range ps.length).filterMap fun m => ps[a + m * k]?
theorem step_intz (a k : Nat) (ps : List Int) : stepD (intz ps) a k = intz (pick a k ps) := by
  unfold stepD pick intz
  rw [List.length_map, List.map_filterMap]
  congr 1
  funext m
  rw [List.getElem?_map]
theorem pick_mem {a k : Nat} {ps : List Int} {p : Int} (h : p ∈ pick a k ps) : p ∈ ps := by
  obtain ⟨m, _, e⟩ := List.mem_filterMap.mp h
  exact List.mem_of_getElem? e
/-- places below n, of the form a + m k -/
theorem count_places (o n : Nat) (ho : 0 < o) : ∀ L : Nat, n ≤ L → (List.range L).countP (fun m => decide (o - 1 + m * o < n)) = n / o := by
  intro L hL
  have key : ∀ L, (List.range L).countP (fun m => decide (o - 1 + m * o < n)) = min L (n / o) := by
    intro L
    induction L with
    | zero => simp
    | succ L ih =>
      rw [List.range_succ, List.countP_append, ih]
      by_cases h : o - 1 + L * o < n
      · have h2 : L + 1 ≤ n / o := by
          rw [Nat.le_div_iff_mul_le ho, Nat.add_mul, Nat.one_mul]
          omega
        simp [h]
        omega
      · have h2 : n / o ≤ L := by
          rw [← Nat.lt_succ_iff]
          rw [Nat.div_lt_iff_lt_mul ho, Nat.succ_mul]
          omega
        simp [h]
        omega
  rw [key L]
  exact Nat.min_eq_right (Nat.le_trans (Nat.div_le_self n o) hL)
theorem desc_at {ps : List Int} (hd : ps.Pairwise (· ≥ ·)) (t : Nat) : ∀ j, (h : j < ps.length) → ((t : Int) + 1 ≤ ps[j] ↔ j < cnt ps t) := by
  induction ps with
  | nil => exact fun j h => absurd h (by simp)
  | cons p ps ih =>
    obtain ⟨h1, h2⟩ := List.pairwise_cons.mp hd
    intro j hj
    rw [cnt_cons]
    cases j with
    | zero =>
      show (t : Int) + 1 ≤ p ↔ _
      by_cases h : (t : Int) + 1 ≤ p
      · rw [if_pos h]
        exact ⟨fun _ => by omega, fun _ => h⟩
      · rw [if_neg h]
        have : cnt ps t = 0 := by
          unfold cnt
          rw [List.countP_eq_zero]
          intro q hq
          have := h1 q hq
          simp
          omega
        exact ⟨fun z => absurd z h, fun z => by omega⟩
    | succ j =>
      have hj' : j < ps.length := by simpa using hj
      show (t : Int) + 1 ≤ ps[j] ↔ _
      rw [ih h2 j hj']
      by_cases h : (t : Int) + 1 ≤ p
      · rw [if_pos h]
        omega
      · rw [if_neg h]
        have hx : ¬ (t : Int) + 1 ≤ ps[j] := by
          have := h1 _ (List.getElem_mem hj')
          omega
        rw [ih h2 j hj'] at hx
        omega
theorem cnt_pick {o : Nat} (ho : 0 < o) {ps : List Int} (hd : ps.Pairwise (· ≥ ·)) (t : Nat) : cnt (pick (o - 1) o ps) t = cnt ps t / o := by
  rw [← count_places o (cnt ps t) ho ps.length (cnt_le ps t)]
  unfold pick
  show List.countP _ (List.filterMap _ _) = _
  rw [List.countP_filterMap]
  apply List.countP_congr
  intro m _
  by_cases h : o - 1 + m * o < ps.length
  · rw [List.getElem?_eq_getElem h]
    simp only [Option.map_some, Option.getD_some, decide_eq_true_eq]
    exact desc_at hd t _ h
  · rw [List.getElem?_eq_none (by omega)]
    have := cnt_le ps t
    simp
    omega
/-- the largest saving -/
def sav (o : Nat) (ps : List Int) : Int := (pick (o - 1) o ps).sum
def MX : Nat := 1000000
theorem sav_layers {o : Nat} (ho : 0 < o) {ps : List Int} (hd : ps.Pairwise (· ≥ ·)) (h : ∀ p ∈ ps, 0 ≤ p ∧ p ≤ MX) : sav o ps = (tot (fun t => cnt ps t / o) MX : Nat) := by
  unfold sav
  have e : tot (cnt (pick (o - 1) o ps)) MX = tot (fun t => cnt ps t / o) MX := tot_congr fun t _ => cnt_pick ho hd t
  rw [sum_layers (M := MX) fun p hp => h p (pick_mem hp), e]
theorem bk_rng {high : Int} {ps : List Int} (h : Bk high ps) (hh : high ≤ 1000000) : ∀ p ∈ ps, 0 ≤ p ∧ p ≤ MX := fun p hp => by
  have := h.rng p hp
  unfold MX
  omega
/-! ### the functions -/
def dsc (ps : List Int) : List Int := (sortI ps).reverse
theorem dsc_perm (ps : List Int) : (dsc ps).Perm ps := (List.reverse_perm _).trans (srt_perm ps)
theorem dsc_dec (ps : List Int) : (dsc ps).Pairwise (· ≥ ·) := desc_srt ps
theorem dsc_len (ps : List Int) : (dsc ps).length = ps.length := (dsc_perm ps).length_eq
theorem dsc_mem {ps : List Int} {p : Int} : p ∈ dsc ps ↔ p ∈ ps := (dsc_perm ps).mem_iff
theorem dsc_congr {a b : List Int} (h : a.Perm b) : dsc a = dsc b := by
  unfold dsc
  rw [srt_eq (ns := a) (ms := sortI b) ((srt_perm b).trans h.symm) (srt_sorted b)]
theorem dsc_self {a : List Int} (h : a.Pairwise (· ≥ ·)) : dsc a = a := by
  unfold dsc
  rw [srt_eq (ns := a) (ms := a.reverse) (List.reverse_perm _) (List.pairwise_reverse.mpr (h.imp fun h => h)), List.reverse_reverse]
theorem descending_spec (ps : List Int) : F_descending [.fz (ti ps)] = some (.ret (.fz (ti (dsc ps))) []) := by
  simp [F_descending, b_descending, b_descending_1, fnOf, DL.start, sSeq, sIf, sAsg_eq, sAsgT, sSet, sRet, sDrop, sRaise, sCallX, sNext, sBreak, sCont, sPar, sPar3, notBr_eq, dTest, dTruthy, toL, toV, ofV, dOp, dUn, dUnE, dC, dLate, dVar, LV.get, slotD, DV.dat, dTup, dLst, aNil, aCons, lNil, lCons, getAll, dCB, dCall, dCallB, dAnd, dOr, dNot, dOfT, dIf, dChain, dMut, isLs, lentOf, tgName_eq, tgNil, tgCons, tgTup, dRange1, dRange2, dIter, itemsD, dYes, LIM, two62, p64, dsc]
theorem descending_specL (ps : List Int) : F_descending [.fz (li ps)] = some (.ret (.fz (ti (dsc ps))) []) := by
  simp [F_descending, b_descending, b_descending_1, fnOf, DL.start, sSeq, sIf, sAsg_eq, sAsgT, sSet, sRet, sDrop, sRaise, sCallX, sNext, sBreak, sCont, sPar, sPar3, notBr_eq, dTest, dTruthy, toL, toV, ofV, dOp, dUn, dUnE, dC, dLate, dVar, LV.get, slotD, DV.dat, dTup, dLst, aNil, aCons, lNil, lCons, getAll, dCB, dCall, dCallB, dAnd, dOr, dNot, dOfT, dIf, dChain, dMut, isLs, lentOf, tgName_eq, tgNil, tgCons, tgTup, dRange1, dRange2, dIter, itemsD, dYes, LIM, two62, p64, dsc]
theorem cutIx_nat {n a : Nat} : cutIx n 0 (some (a : Int)) = min a n := by
  show (if (a : Int) < 0 then ((a : Int) + (n : Int)).toNat else min (a : Int).toNat n) = min a n
  rw [if_neg (by omega), Int.toNat_natCast]
theorem pick_min (a k : Nat) (ps : List Int) (hk : 0 < k) : pick (min a ps.length) k ps = pick a k ps := by
  by_cases h : a ≤ ps.length
  · rw [Nat.min_eq_left h]
  · rw [Nat.min_eq_right (by omega)]
    have e : (fun m => ps[ps.length + m * k]?) = fun m => ps[a + m * k]? := by
      funext m
      rw [List.getElem?_eq_none (by omega), List.getElem?_eq_none (by omega)]
    unfold pick
    rw [e]
theorem best_prices_spec {o : Nat} (h1 : 2 ≤ o) (h2 : o ≤ 9) (ps : List Int) : F_best_prices [.fz (.int o), .fz (ti ps)] = some (.ret (.fz (ti (pick (o - 1) o ps))) []) := by
  have e : (o : Int) - 1 = ((o - 1 : Nat) : Int) := by omega
  have e2 : stepD (intz ps) (cutIx ps.length 0 (some ((o : Int) - 1))) o = intz (pick (o - 1) o ps) := by
    rw [e, cutIx_nat, step_intz, pick_min _ _ _ (by omega)]
  have h3 : (2 : Int) ≤ (o : Int) := by omega
  simp [F_best_prices, b_best_prices, b_best_prices_1, fnOf, DL.start, sSeq, sIf, sAsg_eq, sAsgT, sSet, sRet, sDrop, sRaise, sCallX, sNext, sBreak, sCont, sPar, sPar3, notBr_eq, dTest, dTruthy, toL, toV, ofV, dOp, dUn, dUnE, dC, dLate, dVar, LV.get, slotD, DV.dat, dTup, dLst, aNil, aCons, lNil, lCons, getAll, dCB, dCall, dCallB, dAnd, dOr, dNot, dOfT, dIf, dChain, dMut, isLs, lentOf, tgName_eq, tgNil, tgCons, tgTup, dRange1, dRange2, dIter, itemsD, dYes, LIM, two62, p64, dStep, oSome, h3, e2]
theorem best_saving_spec {o : Nat} (h1 : 2 ≤ o) (h2 : o ≤ 9) {ps : List Int} (h : Bk 1000000 ps) (hl : ps.length ≤ 30) : F_best_saving [.fz (.int o), .fz (ti ps)] = some (.ret (.fz (.int (sav o ps))) []) := by
  simp [F_best_saving, b_best_saving, b_best_saving_1, b_best_saving_2, b_best_saving_3, fnOf, DL.start, sSeq, sIf, sAsg_eq, sAsgT, sSet, sRet, sDrop, sRaise, sCallX, sNext, sBreak, sCont, sPar, sPar3, notBr_eq, dTest, dTruthy, toL, toV, ofV, dOp, dUn, dUnE, dC, dLate, dVar, LV.get, slotD, DV.dat, dTup, dLst, aNil, aCons, lNil, lCons, getAll, dCB, dCall, dCallB, dAnd, dOr, dNot, dOfT, dIf, dChain, dMut, isLs, lentOf, tgName_eq, tgNil, tgCons, tgTup, dRange1, dRange2, dIter, itemsD, dYes, LIM, two62, p64, require_offer_ok (show (2 : Int) ≤ o by omega) (show (o : Int) ≤ 9 by omega), require_basket_ok h hl, best_prices_spec h1 h2, sav]
theorem free_prices_spec {o : Nat} (h1 : 2 ≤ o) (h2 : o ≤ 9) {ps : List Int} (h : Bk 1000000 ps) (hl : ps.length ≤ 30) : F_free_prices [.fz (.int o), .fz (ti ps)] = some (.ret (.fz (ti (pick (o - 1) o ps))) []) := by
  simp [F_free_prices, b_free_prices, b_free_prices_1, b_free_prices_2, b_free_prices_3, fnOf, DL.start, sSeq, sIf, sAsg_eq, sAsgT, sSet, sRet, sDrop, sRaise, sCallX, sNext, sBreak, sCont, sPar, sPar3, notBr_eq, dTest, dTruthy, toL, toV, ofV, dOp, dUn, dUnE, dC, dLate, dVar, LV.get, slotD, DV.dat, dTup, dLst, aNil, aCons, lNil, lCons, getAll, dCB, dCall, dCallB, dAnd, dOr, dNot, dOfT, dIf, dChain, dMut, isLs, lentOf, tgName_eq, tgNil, tgCons, tgTup, dRange1, dRange2, dIter, itemsD, dYes, LIM, two62, p64, require_offer_ok (show (2 : Int) ≤ o by omega) (show (o : Int) ≤ 9 by omega), require_basket_ok h hl, best_prices_spec h1 h2]
theorem require_room_spec (n : Int) : F_require_room [.fz (.int n)] = some (if n > 30 then .ex "TooMany" else .ret (.fz .none) []) := by
  by_cases h : (30 : Int) < n <;> simp [F_require_room, b_require_room, b_require_room_1, fnOf, DL.start, sSeq, sIf, sAsg_eq, sAsgT, sSet, sRet, sDrop, sRaise, sCallX, sNext, sBreak, sCont, sPar, sPar3, notBr_eq, dTest, dTruthy, toL, toV, ofV, dOp, dUn, dUnE, dC, dLate, dVar, LV.get, slotD, DV.dat, dTup, dLst, aNil, aCons, lNil, lCons, getAll, dCB, dCall, dCallB, dAnd, dOr, dNot, dOfT, dIf, dChain, dMut, isLs, lentOf, tgName_eq, tgNil, tgCons, tgTup, dRange1, dRange2, dIter, itemsD, dYes, LIM, two62, p64, h]
theorem require_price_spec {d : D} (h : NoDict d) : F_require_price [.fz d] = some (if isIntD 1 1000000 d = true then .ret (.fz .none) [] else .ex "InvalidPrice") := by
  cases hb : isIntD 1 1000000 d <;> simp [F_require_price, b_require_price, b_require_price_1, fnOf, DL.start, sSeq, sIf, sAsg_eq, sAsgT, sSet, sRet, sDrop, sRaise, sCallX, sNext, sBreak, sCont, sPar, sPar3, notBr_eq, dTest, dTruthy, toL, toV, ofV, dOp, dUn, dUnE, dC, dLate, dVar, LV.get, slotD, DV.dat, dTup, dLst, aNil, aCons, lNil, lCons, getAll, dCB, dCall, dCallB, dAnd, dOr, dNot, dOfT, dIf, dChain, dMut, isLs, lentOf, tgName_eq, tgNil, tgCons, tgTup, dRange1, dRange2, dIter, itemsD, dYes, LIM, two62, p64, is_price_spec h, hb]
def gain (o : Nat) (a b : List Int) : Int := sav o (dsc (a ++ b)) - sav o a - sav o b
theorem gain_spec {o : Nat} (h1 : 2 ≤ o) (h2 : o ≤ 9) {a b : List Int} (ha : Bk 1000000 a) (hb : Bk 1000000 b) (hl : a.length + b.length ≤ 30) : F_gain_together [.fz (.int o), .fz (ti a), .fz (ti b)] = some (.ret (.fz (.int (gain o a b))) []) := by
  have q1 := require_basket_ok ha (by omega)
  have q2 := require_basket_ok hb (by omega)
  have q3 : F_require_room [.fz (.int ((a.length : Int) + (b.length : Int)))] = some (.ret (.fz .none) []) := by
    rw [require_room_spec, if_neg (by omega)]
  have q4 : gAdd (ti a) (ti b) = some (.fz (ti (a ++ b))) := by
    rw [gAdd_tuple (by simp [LIM]; omega), ← ints_append]
  simp [F_gain_together, b_gain_together, b_gain_together_1, b_gain_together_2, b_gain_together_3, b_gain_together_4, b_gain_together_5, b_gain_together_6, fnOf, DL.start, sSeq, sIf, sAsg_eq, sAsgT, sSet, sRet, sDrop, sRaise, sCallX, sNext, sBreak, sCont, sPar, sPar3, notBr_eq, dTest, dTruthy, toL, toV, ofV, dOp, dUn, dUnE, dC, dLate, dVar, LV.get, slotD, DV.dat, dTup, dLst, aNil, aCons, lNil, lCons, getAll, dCB, dCall, dCallB, dAnd, dOr, dNot, dOfT, dIf, dChain, dMut, isLs, lentOf, tgName_eq, tgNil, tgCons, tgTup, dRange1, dRange2, dIter, itemsD, dYes, LIM, two62, p64, require_offer_ok (show (2 : Int) ≤ o by omega) (show (o : Int) ≤ 9 by omega), q1, q2, q3, q4, descending_spec, best_prices_spec h1 h2, gain, sav]
/-- later, dearer by -/
def riseOf (o : Nat) (ps : List Int) (p : Int) : Int := p + sav o ps - sav o (dsc (ps ++ [p]))
theorem rise_spec {o : Nat} (h1 : 2 ≤ o) (h2 : o ≤ 9) {ps : List Int} (hl : ps.length ≤ 1000) (p : Int) : F_rise [.fz (.int o), .fz (ti ps), .fz (.int p)] = some (.ret (.fz (.int (riseOf o ps p))) []) := by
  have q4 : gAdd (ti ps) (.tuple [.int p]) = some (.fz (ti (ps ++ [p]))) := by
    rw [gAdd_tuple (by simp [LIM]; omega), show [PyData.int p] = intz [p] from rfl, ← ints_append]
  simp [F_rise, b_rise, b_rise_1, b_rise_2, fnOf, DL.start, sSeq, sIf, sAsg_eq, sAsgT, sSet, sRet, sDrop, sRaise, sCallX, sNext, sBreak, sCont, sPar, sPar3, notBr_eq, dTest, dTruthy, toL, toV, ofV, dOp, dUn, dUnE, dC, dLate, dVar, LV.get, slotD, DV.dat, dTup, dLst, aNil, aCons, lNil, lCons, getAll, dCB, dCall, dCallB, dAnd, dOr, dNot, dOfT, dIf, dChain, dMut, isLs, lentOf, tgName_eq, tgNil, tgCons, tgTup, dRange1, dRange2, dIter, itemsD, dYes, LIM, two62, p64, q4, descending_spec, best_prices_spec h1 h2, riseOf, sav]
theorem dearer_spec {o : Nat} (h1 : 2 ≤ o) (h2 : o ≤ 9) {ps : List Int} (h : Bk 1000000 ps) (hl : ps.length ≤ 29) {p : Int} (hp1 : 1 ≤ p) (hp2 : p ≤ 1000000) : F_dearer_by [.fz (.int o), .fz (ti ps), .fz (.int p)] = some (.ret (.fz (.int (riseOf o ps p))) []) := by
  have q3 : F_require_room [.fz (.int ((ps.length : Int) + 1))] = some (.ret (.fz .none) []) := by
    rw [require_room_spec, if_neg (by omega)]
  have q5 : F_require_price [.fz (.int p)] = some (.ret (.fz .none) []) := by
    rw [require_price_spec (nd_int p)]
    simp [isIntD, hp1, hp2]
  simp [F_dearer_by, b_dearer_by, b_dearer_by_1, b_dearer_by_2, b_dearer_by_3, b_dearer_by_4, b_dearer_by_5, fnOf, DL.start, sSeq, sIf, sAsg_eq, sAsgT, sSet, sRet, sDrop, sRaise, sCallX, sNext, sBreak, sCont, sPar, sPar3, notBr_eq, dTest, dTruthy, toL, toV, ofV, dOp, dUn, dUnE, dC, dLate, dVar, LV.get, slotD, DV.dat, dTup, dLst, aNil, aCons, lNil, lCons, getAll, dCB, dCall, dCallB, dAnd, dOr, dNot, dOfT, dIf, dChain, dMut, isLs, lentOf, tgName_eq, tgNil, tgCons, tgTup, dRange1, dRange2, dIter, itemsD, dYes, LIM, two62, p64, require_offer_ok (show (2 : Int) ≤ o by omega) (show (o : Int) ≤ 9 by omega), require_basket_ok h (show ps.length ≤ 30 by omega), q3, q5, rise_spec h1 h2 (show ps.length ≤ 1000 by omega)]
/-! ### gains -/
theorem rng_append {a b : List Int} {M : Nat} (ha : ∀ p ∈ a, 0 ≤ p ∧ p ≤ M) (hb : ∀ p ∈ b, 0 ≤ p ∧ p ≤ M) : ∀ p ∈ dsc (a ++ b), 0 ≤ p ∧ p ≤ M := fun p hp => by
  rcases List.mem_append.mp (dsc_mem.mp hp) with h | h
  · exact ha p h
  · exact hb p h
theorem gain_layers {o : Nat} (ho : 0 < o) {a b : List Int} (da : a.Pairwise (· ≥ ·)) (db : b.Pairwise (· ≥ ·)) (ra : ∀ p ∈ a, 0 ≤ p ∧ p ≤ MX) (rb : ∀ p ∈ b, 0 ≤ p ∧ p ≤ MX) :
    gain o a b = (tot (fun t => (cnt a t + cnt b t) / o) MX : Nat) - (tot (fun t => cnt a t / o) MX : Nat) - (tot (fun t => cnt b t / o) MX : Nat) := by
  unfold gain
  have e : tot (fun t => cnt (dsc (a ++ b)) t / o) MX = tot (fun t => (cnt a t + cnt b t) / o) MX := tot_congr fun t _ => by rw [cnt_perm (dsc_perm _), cnt_append]
  rw [sav_layers ho (dsc_dec _) (rng_append ra rb), sav_layers ho da ra, sav_layers ho db rb, e]
theorem div_add_le (a b o : Nat) (ho : 0 < o) : a / o + b / o ≤ (a + b) / o := by
  rw [Nat.le_div_iff_mul_le ho, Nat.add_mul]
  have h1 := Nat.div_mul_le_self a o
  have h2 := Nat.div_mul_le_self b o
  omega
theorem gain_nonneg {o : Nat} (ho : 0 < o) {a b : List Int} (da : a.Pairwise (· ≥ ·)) (db : b.Pairwise (· ≥ ·)) (ra : ∀ p ∈ a, 0 ≤ p ∧ p ≤ MX) (rb : ∀ p ∈ b, 0 ≤ p ∧ p ≤ MX) : 0 ≤ gain o a b := by
  rw [gain_layers ho da db ra rb]
  have h := tot_le (n := MX) fun t _ => div_add_le (cnt a t) (cnt b t) o ho
  rw [tot_add] at h
  omega
theorem gain_comm {o : Nat} (a b : List Int) : gain o a b = gain o b a := by
  unfold gain
  rw [dsc_congr (List.perm_append_comm (l₁ := a) (l₂ := b))]
  omega
end FT
set_option Elab.async false
set_option linter.all false
/-! The laws' loops. -/
namespace FT
open PySem DL
/-- for k in range(min(len(script), N) + 2) -/
theorem k_loop {N : Int} (hN : 0 ≤ N ∧ N ≤ 20) {body : SM} (ns : List Int) (hn : ns.length ≤ 63) (P : Sl → Prop) {δ0 : Sl} (h0 : P δ0) (hget : ∀ δ, P δ → δ[0]? = some (some (.fz (scrD ns))))
    (hs : ∀ (i : Nat) δ, i < 100 → P δ → ∃ δ1 δ2, tgName 1 (.int (i : Nat)) δ = some δ1 ∧ (body δ1 = some (.nx δ2) ∨ body δ1 = some (.ct δ2)) ∧ P δ2) :
    ∃ δ', sFor (dRange1 (lCons (toL (toV (dOp gAdd (toL (toV (dCB gMin (lCons (toL (toV (dCB gLen (lCons (dLate 0) lNil)))) (lCons (toL (dC (.int N))) lNil))))) (toL (dC (.int 2)))))) lNil)) (tgName 1) body δ0 = some (.nx δ') ∧ P δ' := by
  obtain ⟨n, hn2, hz⟩ : ∃ n : Nat, n ≤ 100 ∧ (if N < (ns.length : Int) then N else (ns.length : Int)) + 2 = n := by
    by_cases h : N < (ns.length : Int)
    · exact ⟨(N + 2).toNat, by omega, by rw [if_pos h]; omega⟩
    · exact ⟨ns.length + 2, by omega, by rw [if_neg h]; rfl⟩
  obtain ⟨δ', e, h⟩ := for_range (t := tgName 1) (b := body) (fun _ => P) 0 n δ0 h0 fun i hi δ hp => by
    obtain ⟨δ1, δ2, e1, e2, h2⟩ := hs i δ (by omega) hp
    exact ⟨δ1, δ2, by rw [Int.zero_add]; exact e1, e2, h2⟩
  refine ⟨δ', ?_, h⟩
  have hz2 : -4611686018427387904 ≤ (n : Int) ∧ (n : Int) < 4611686018427387904 := ⟨by omega, by omega⟩
  have hg := hget δ0 h0
  simp [sFor, dRange1, lCons, lNil, toL, toV, dOp, dCB, dLate, dC, getAll, LV.get, slotD, DV.dat, two62, hg, hz, hz2]
  exact e
theorem range1_run {z : Int} (hz2 : -two62 ≤ z ∧ z < two62) (δ : Sl) : dRange1 (lCons (toL (dC (.int z))) lNil) δ = some (rangeD 0 z.toNat, δ) := by
  unfold dRange1 lCons lNil toL dC
  dsimp only [getAll, LV.get]
  rw [if_pos hz2]
theorem n_in {n : Nat} (hn : n ≤ 1000) : -two62 ≤ (n : Int) ∧ (n : Int) < two62 := by
  have h1 : (-two62 : Int) ≤ 0 := by decide
  have h2 : (1000 : Int) < two62 := by decide
  exact ⟨by omega, by omega⟩
theorem range1_nat {n : Nat} (hn : n ≤ 1000) (δ : Sl) : dRange1 (lCons (toL (dC (.int (n : Nat)))) lNil) δ = some (rangeD 0 n, δ) := by
  have h := range1_run (n_in hn) δ
  rw [Int.toNat_natCast] at h
  exact h
theorem sFor_run {src : EI} {t : ETg} {b : SM} {δ δ1 : Sl} {ds : List D} (h : src δ = some (ds, δ1)) : sFor src t b δ = forTurns t b ds δ1 := by
  simp only [sFor, h]
/-- for x in range(n), n written -/
theorem n_loop {n s : Nat} (hn : n ≤ 1000) {body : SM} (P : Sl → Prop) {δ0 : Sl} (h0 : P δ0) (hs : ∀ (i : Nat) δ, i < n → P δ → ∃ δ1 δ2, tgName s (.int (i : Nat)) δ = some δ1 ∧ (body δ1 = some (.nx δ2) ∨ body δ1 = some (.ct δ2)) ∧ P δ2) :
    ∃ δ', sFor (dRange1 (lCons (toL (dC (.int (n : Nat)))) lNil)) (tgName s) body δ0 = some (.nx δ') ∧ P δ' := by
  obtain ⟨δ', e, h⟩ := for_range (t := tgName s) (b := body) (fun _ => P) 0 n δ0 h0 fun i hi δ hp => by
    obtain ⟨δ1, δ2, e1, e2, h2⟩ := hs i δ (by omega) hp
    exact ⟨δ1, δ2, by rw [Int.zero_add]; exact e1, e2, h2⟩
  refine ⟨δ', ?_, h⟩
  rw [sFor_run (range1_nat hn δ0)]
  exact e
/-- for x in a list written -/
theorem d_loop {s : Nat} {body : SM} {src : EI} {ds : List D} (P : Sl → Prop) {δ0 : Sl} (hsrc : src δ0 = some (ds, δ0)) (h0 : P δ0) (hs : ∀ d ∈ ds, ∀ δ, P δ → ∃ δ1 δ2, tgName s d δ = some δ1 ∧ (body δ1 = some (.nx δ2) ∨ body δ1 = some (.ct δ2)) ∧ P δ2) :
    ∃ δ', sFor src (tgName s) body δ0 = some (.nx δ') ∧ P δ' := by
  obtain ⟨δ', e, h⟩ := forTurns_keep (t := tgName s) (b := body) P ds δ0 h0 hs
  refine ⟨δ', ?_, h⟩
  simp only [sFor, hsrc]
  exact e
theorem pow_6 : gPowI (.int 10) (.int 6) = some (.fz (.int 1000000)) := by exact id rfl
theorem bk_mono {a b : Int} {ps : List Int} (h : Bk a ps) (hab : a ≤ b) : Bk b ps := ⟨h.pos, fun p hp => by have := h.rng p hp; omega, h.dec⟩
theorem bk_dsc {high : Int} {ps : List Int} (h1 : 1 ≤ ps.length) (h2 : ∀ p ∈ ps, 1 ≤ p ∧ p ≤ high) : Bk high (dsc ps) := ⟨by rw [dsc_len]; exact h1, fun p hp => h2 p (dsc_mem.mp hp), dsc_dec ps⟩
theorem bk_append {high : Int} {a b : List Int} (ha : Bk high a) (hb : ∀ p ∈ b, 1 ≤ p ∧ p ≤ high) : Bk high (dsc (a ++ b)) := bk_dsc (by rw [List.length_append]; have := ha.pos; omega) fun p hp => by
  rcases List.mem_append.mp hp with h | h
  · exact ha.rng p h
  · exact hb p h
theorem bk_lit {ps : List Int} (h : isBasketD (ti ps) = true) : Bk 1000000 ps ∧ ps.length ≤ 30 := by
  obtain ⟨ns, e, h1, h2⟩ := isBasket_iff.mp h
  have e2 : intz ps = intz ns := by
    injection e
  rw [ints_inj e2]
  exact ⟨h2, h1⟩
theorem shp_ti (ns : List Int) : shp (ti ns) = true := by
  have h1 : PyData.canLayAll0 (intz ns) = true := by
    induction ns with
    | nil => rfl
    | cons n ns ih => rw [ints_cons]; simp [PyData.canLayAll0, PyData.canLay0, ih]
  have h2 : PyData.depthAll (intz ns) = 0 := by
    induction ns with
    | nil => rfl
    | cons n ns ih => rw [ints_cons] at *; simp [PyData.depthAll, PyData.depth]; exact ih (by simpa [PyData.canLayAll0, PyData.canLay0] using h1)
  simp [shp, PyData.canLay0, PyData.depth, h1, h2]
theorem eqv_intz : ∀ a b : List Int, PyData.eqvAll (intz a) (intz b) = decide (a = b)
  | [], [] => by simp [intz, PyData.eqvAll]
  | [], b :: bs => by simp [intz, PyData.eqvAll]
  | a :: as, [] => by simp [intz, PyData.eqvAll]
  | a :: as, b :: bs => by
    rw [ints_cons, ints_cons, PyData.eqvAll, eqv_intz as bs]
    by_cases h : a = b
    · subst h
      simp [PyData.eqv]
    · simp [PyData.eqv, h]
theorem gNe_ti (a b : List Int) : gNe (ti a) (ti b) = some (.fz (.bool (!decide (a = b)))) := by
  unfold gNe
  rw [shp_ti, shp_ti]
  show some (DV.fz (.bool (!PyData.eqvAll (intz a) (intz b)))) = _
  rw [eqv_intz]
theorem gEq_ti (a b : List Int) : gEq (ti a) (ti b) = some (.fz (.bool (decide (a = b)))) := by
  unfold gEq
  rw [shp_ti, shp_ti]
  show some (DV.fz (.bool (PyData.eqvAll (intz a) (intz b)))) = _
  rw [eqv_intz]
theorem shp_li (ns : List Int) : shp (li ns) = true := by
  have := shp_ti ns
  simpa [shp, PyData.canLay0, PyData.depth] using this
theorem gNe_li (a b : List Int) : gNe (li a) (li b) = some (.fz (.bool (!decide (a = b)))) := by
  unfold gNe
  rw [shp_li, shp_li]
  show some (DV.fz (.bool (!PyData.eqvAll (intz a) (intz b)))) = _
  rw [eqv_intz]
theorem gEq_li (a b : List Int) : gEq (li a) (li b) = some (.fz (.bool (decide (a = b)))) := by
  unfold gEq
  rw [shp_li, shp_li]
  show some (DV.fz (.bool (PyData.eqvAll (intz a) (intz b)))) = _
  rw [eqv_intz]
theorem gIx_last_ti {ns : List Int} (h : ns ≠ []) : gIx (ti ns) (.int (-1)) = some (.fz (.int (ns.getLast h))) := by
  have hl : 0 < ns.length := List.length_pos_iff.mpr h
  have e : (-1 + ((intz ns).length : Int)).toNat = ns.length - 1 := by rw [ints_len]; omega
  have h2 : -((intz ns).length : Int) ≤ -1 := by rw [ints_len]; omega
  have e3 : atD (intz ns) (-1) = some (.int (ns.getLast h)) := by
    unfold atD
    rw [if_neg (by decide), if_pos h2, e, ints_get, List.getLast_eq_getElem, List.getElem?_eq_getElem (by omega)]
    rfl
  show (match atD (intz ns) (-1) with | some d => some (DV.fz d) | none => none) = _
  rw [e3]
theorem gMul_one {p : Int} {k : Nat} (h1 : 2 ≤ k) (h2 : k ≤ 1000) : gMul (.tuple [.int p]) (.int (k : Nat)) = some (.fz (ti (List.replicate k p))) := by
  have e : rep (k : Int) [PyData.int p] = intz (List.replicate k p) := by
    unfold rep intz
    rw [Int.toNat_natCast, List.map_replicate]
    clear h1 h2
    induction k with
    | zero => rfl
    | succ k ih => rw [List.replicate_succ, List.flatten_cons, ih]; rfl
  have h3 : (2 : Int) ≤ (k : Int) := by omega
  have h4 : (k : Int) ≤ 1000 := by omega
  have h5 : ¬ ((k : Nat) : Int) = 1 := by omega
  simp [h5, gMul, orG, gMulI, gI, gMulL, gMulT, h3, h4, e]
theorem bk_rep {p : Int} {k : Nat} (h : 1 ≤ k) (h1 : 1 ≤ p) (h2 : p ≤ 1000000) : Bk 1000000 (List.replicate k p) := ⟨by rw [List.length_replicate]; exact h, fun q hq => by rw [List.eq_of_mem_replicate hq]; exact ⟨h1, h2⟩, by
  rw [List.pairwise_replicate]
  exact .inr (Int.le_refl p)⟩
/-- gain_together on any data -/
theorem gain_err {a b : D} (ha : Clean a) (hb : Clean b) (hx : isBasketD a = false ∨ isBasketD b = false) : F_gain_together [.fz (.int 3), .fz a, .fz b] = some (.ex "InvalidBasket") := by
  have ro := require_offer_ok (o := 3) (by decide) (by decide)
  by_cases h1 : isBasketD a = true
  · have h2 : isBasketD b = false := by
      rcases hx with h | h
      · rw [h] at h1
        cases h1
      · exact h
    simp [F_gain_together, b_gain_together, b_gain_together_1, b_gain_together_2, b_gain_together_3, fnOf, DL.start, sSeq, sIf, sAsg_eq, sAsgT, sSet, sRet, sDrop, sRaise, sCallX, sNext, sBreak, sCont, sPar, sPar3, notBr_eq, dTest, dTruthy, toL, toV, ofV, dOp, dUn, dUnE, dC, dLate, dVar, LV.get, slotD, DV.dat, dTup, dLst, aNil, aCons, lNil, lCons, getAll, dCB, dCall, dCallB, dAnd, dOr, dNot, dOfT, dIf, dChain, dMut, isLs, lentOf, tgName_eq, tgNil, tgCons, tgTup, dRange1, dRange2, dIter, itemsD, dYes, LIM, two62, p64, ro, require_basket_spec ha, require_basket_spec hb, h1, h2]
  · have h1 : isBasketD a = false := by simpa using h1
    simp [F_gain_together, b_gain_together, b_gain_together_1, b_gain_together_2, fnOf, DL.start, sSeq, sIf, sAsg_eq, sAsgT, sSet, sRet, sDrop, sRaise, sCallX, sNext, sBreak, sCont, sPar, sPar3, notBr_eq, dTest, dTruthy, toL, toV, ofV, dOp, dUn, dUnE, dC, dLate, dVar, LV.get, slotD, DV.dat, dTup, dLst, aNil, aCons, lNil, lCons, getAll, dCB, dCall, dCallB, dAnd, dOr, dNot, dOfT, dIf, dChain, dMut, isLs, lentOf, tgName_eq, tgNil, tgCons, tgTup, dRange1, dRange2, dIter, itemsD, dYes, LIM, two62, p64, ro, require_basket_spec ha, h1]
theorem gain_many {a b : List Int} (ha : Bk 1000000 a) (hb : Bk 1000000 b) (la : a.length ≤ 30) (lb : b.length ≤ 30) (h : 30 < a.length + b.length) : F_gain_together [.fz (.int 3), .fz (ti a), .fz (ti b)] = some (.ex "TooMany") := by
  have ro := require_offer_ok (o := 3) (by decide) (by decide)
  have q3 : F_require_room [.fz (.int ((a.length : Int) + (b.length : Int)))] = some (.ex "TooMany") := by
    rw [require_room_spec, if_pos (by omega)]
  simp [F_gain_together, b_gain_together, b_gain_together_1, b_gain_together_2, b_gain_together_3, b_gain_together_4, fnOf, DL.start, sSeq, sIf, sAsg_eq, sAsgT, sSet, sRet, sDrop, sRaise, sCallX, sNext, sBreak, sCont, sPar, sPar3, notBr_eq, dTest, dTruthy, toL, toV, ofV, dOp, dUn, dUnE, dC, dLate, dVar, LV.get, slotD, DV.dat, dTup, dLst, aNil, aCons, lNil, lCons, getAll, dCB, dCall, dCallB, dAnd, dOr, dNot, dOfT, dIf, dChain, dMut, isLs, lentOf, tgName_eq, tgNil, tgCons, tgTup, dRange1, dRange2, dIter, itemsD, dYes, LIM, two62, p64, ro, require_basket_ok ha la, require_basket_ok hb lb, q3]
end FT
set_option Elab.async false
set_option linter.all false
/-! Items; what fits. -/
namespace FT
open PySem DL
/-! ### a loop that may return -/
theorem for_all {α : Type} {t : ETg} {b : SM} {r : DV} (P P' : Sl → Prop) (good : α → Bool) (g : α → D) : ∀ (xs : List α) (δ : Sl), P δ →
    (∀ x ∈ xs, ∀ δ, P δ → ∃ δ1, t (g x) δ = some δ1 ∧ (good x = true → ∃ δ2, (b δ1 = some (.nx δ2) ∨ b δ1 = some (.ct δ2)) ∧ P δ2) ∧ (good x = false → ∃ δ2, b δ1 = some (.rt r δ2) ∧ P' δ2)) →
    (xs.all good = true → ∃ δ', forTurns t b (xs.map g) δ = some (.nx δ') ∧ P δ') ∧ (xs.all good = false → ∃ δ', forTurns t b (xs.map g) δ = some (.rt r δ') ∧ P' δ')
  | [], δ, h, _ => ⟨fun _ => ⟨δ, rfl, h⟩, fun z => by cases z⟩
  | x :: xs, δ, h, hs => by
    obtain ⟨δ1, e1, h1, h2⟩ := hs x List.mem_cons_self δ h
    have tl : ∀ y ∈ xs, _ := fun y hy => hs y (List.mem_cons_of_mem _ hy)
    rw [List.all_cons, List.map_cons]
    unfold forTurns
    rw [e1]
    cases hg : good x with
    | false =>
      refine ⟨fun z => by simp at z, fun _ => ?_⟩
      obtain ⟨δ2, e2, q⟩ := h2 hg
      exact ⟨δ2, by dsimp only; rw [e2], q⟩
    | true =>
      obtain ⟨δ2, e2, q⟩ := h1 hg
      obtain ⟨i1, i2⟩ := for_all P P' good g xs δ2 q tl
      refine ⟨fun z => ?_, fun z => ?_⟩
      · obtain ⟨δ', e3, q3⟩ := i1 (by simpa using z)
        exact ⟨δ', by rcases e2 with e2 | e2 <;> (dsimp only; rw [e2]; exact e3), q3⟩
      · obtain ⟨δ', e3, q3⟩ := i2 (by simpa using z)
        exact ⟨δ', by rcases e2 with e2 | e2 <;> (dsimp only; rw [e2]; exact e3), q3⟩
/-! ### items -/
def pr (ps : List Int) (i : Int) : Int := ps.getD i.toNat 0
theorem gIx_pr {ps : List Int} {i : Int} (h0 : 0 ≤ i) (h1 : i < ps.length) : gIx (ti ps) (.int i) = some (.fz (.int (pr ps i))) := by
  obtain ⟨n, rfl⟩ := Int.eq_ofNat_of_zero_le h0
  have hn : n < ps.length := by omega
  have : (intz ps)[n]? = some (.int (pr ps n)) := by
    rw [ints_get, List.getElem?_eq_getElem hn]
    unfold pr
    rw [Int.toNat_natCast, List.getD_eq_getElem?_getD, List.getElem?_eq_getElem hn]
    rfl
  exact gIx_tuple this
structure It (n : Nat) (is : List Int) : Prop where
  rng : ∀ i ∈ is, 0 ≤ i ∧ i < n
  inc : is.Pairwise (· < ·)
def incB (is : List Int) : Bool := (is.zip is.tail).all fun p => decide (p.1 < p.2)
theorem incB_iff {ns : List Int} : incB ns = true ↔ ns.Pairwise (· < ·) := by
  induction ns with
  | nil => simp [incB]
  | cons x ns ih =>
    cases ns with
    | nil => simp [incB]
    | cons y ns =>
      have e : incB (x :: y :: ns) = (decide (x < y) && incB (y :: ns)) := by simp [incB]
      rw [e, Bool.and_eq_true, ih]
      constructor
      · rintro ⟨h1, h2⟩
        refine List.pairwise_cons.mpr ⟨fun z hz => ?_, h2⟩
        have h1 : x < y := of_decide_eq_true h1
        rcases List.mem_cons.mp hz with e | e
        · rw [e]
          exact h1
        · exact Int.lt_trans h1 ((List.pairwise_cons.mp h2).1 z e)
      · intro h
        obtain ⟨h1, h2⟩ := List.pairwise_cons.mp h
        exact ⟨decide_eq_true (h1 y List.mem_cons_self), h2⟩
def areItemsD (n : Nat) (d : D) : Bool := match d with
  | .tuple ds => ds.all (isIntD 0 ((n : Int) - 1)) && (match intsOf ds with
    | some ns => incB ns
    | none => false)
  | _ => false
theorem areItems_iff {n : Nat} {d : D} : areItemsD n d = true ↔ ∃ is, d = ti is ∧ It n is := by
  constructor
  · intro h
    cases d with
    | tuple ds =>
      simp only [areItemsD, Bool.and_eq_true] at h
      obtain ⟨ns, rfl, h2⟩ := isInt_ints h.1
      have h3 := h.2
      simp at h3
      exact ⟨ns, rfl, fun i hi => by have := h2 i hi; omega, incB_iff.mp h3⟩
    | _ => cases h
  · rintro ⟨is, rfl, h1, h2⟩
    have : (intz is).all (isIntD 0 ((n : Int) - 1)) = true := ints_all fun i hi => by have := h1 i hi; omega
    simp [areItemsD, this, incB_iff.mpr h2]
theorem are_items_spec {d : D} (h : Clean d) (ps : List Int) (hl : ∀ ds, d = .tuple ds → ds.length ≤ 1000) : F_are_items [.fz (ti ps), .fz d] = some (.ret (.fz (.bool (areItemsD ps.length d))) []) := by
  obtain ⟨hn, hd⟩ := h
  cases d with
  | dict kvs => exact absurd rfl (hn kvs)
  | tuple ds =>
    have hl := hl ds rfl
    obtain ⟨δ', e, x', rfl⟩ := compTurns_of (t := tgName 2) (e := toV (dCall F_is_integer (aCons (dVar 2) (aCons (dC (.int 0)) (aCons (toV (dOp gSubI (toL (toV (dCB gLen (lCons (dLate 0) lNil)))) (toL (dC (.int 1))))) aNil))))) (vs := [2]) (fun δ => ∃ x, δ = [some (.fz (ti ps)), some (.fz (.tuple ds)), x, none, none]) id (fun d => .bool (isIntD 0 ((ps.length : Int) - 1) d)) ds [some (.fz (ti ps)), some (.fz (.tuple ds)), none, none, none] ⟨none, rfl⟩ fun d hd' δ ⟨x, e⟩ => by
      subst e
      exact ⟨_, _, by simp [wipeD, fnOf, DL.start, sSeq, sIf, sAsg_eq, sAsgT, sSet, sRet, sDrop, sRaise, sCallX, sNext, sBreak, sCont, sPar, sPar3, notBr_eq, dTest, dTruthy, toL, toV, ofV, dOp, dUn, dUnE, dC, dLate, dVar, LV.get, slotD, DV.dat, dTup, dLst, aNil, aCons, lNil, lCons, getAll, dCB, dCall, dCallB, dAnd, dOr, dNot, dOfT, dIf, dChain, dMut, isLs, lentOf, tgName_eq, tgNil, tgCons, tgTup, dRange1, dRange2, dIter, itemsD, dYes, LIM, two62, p64]; rfl, by simp [fnOf, DL.start, sSeq, sIf, sAsg_eq, sAsgT, sSet, sRet, sDrop, sRaise, sCallX, sNext, sBreak, sCont, sPar, sPar3, notBr_eq, dTest, dTruthy, toL, toV, ofV, dOp, dUn, dUnE, dC, dLate, dVar, LV.get, slotD, DV.dat, dTup, dLst, aNil, aCons, lNil, lCons, getAll, dCB, dCall, dCallB, dAnd, dOr, dNot, dOfT, dIf, dChain, dMut, isLs, lentOf, tgName_eq, tgNil, tgCons, tgTup, dRange1, dRange2, dIter, itemsD, dYes, LIM, two62, p64, is_integer_spec (hd ds rfl d hd')]; rfl, by exact ⟨_, rfl⟩⟩
    have e' : (ds.map fun d => PyData.bool (isIntD 0 ((ps.length : Int) - 1) d)) = bools (ds.map (isIntD 0 ((ps.length : Int) - 1))) := by simp [bools]
    rw [e', List.map_id] at e
    have h5 : ds.length ≤ 16777216 := by omega
    cases ha : ds.all (isIntD 0 ((ps.length : Int) - 1)) with
    | false => simp [F_are_items, b_are_items, b_are_items_1, fnOf, DL.start, sSeq, sIf, sAsg_eq, sAsgT, sSet, sRet, sDrop, sRaise, sCallX, sNext, sBreak, sCont, sPar, sPar3, notBr_eq, dTest, dTruthy, toL, toV, ofV, dOp, dUn, dUnE, dC, dLate, dVar, LV.get, slotD, DV.dat, dTup, dLst, aNil, aCons, lNil, lCons, getAll, dCB, dCall, dCallB, dAnd, dOr, dNot, dOfT, dIf, dChain, dMut, isLs, lentOf, tgName_eq, tgNil, tgCons, tgTup, dRange1, dRange2, dIter, itemsD, dYes, LIM, two62, p64, gIsi, tyOf, h5, dComp, calmAt_eq, wipeD, e, restore, ha, areItemsD]
    | true =>
      obtain ⟨ns, rfl, _⟩ := isInt_ints ha
      obtain ⟨δ', e2, x, y, rfl⟩ := compTurns_of (t := tgTup (tgCons (tgName 3) (tgCons (tgName 4) tgNil))) (e := toV (dOp gLt (dLate 3) (dLate 4))) (vs := [3, 4]) (fun δ => ∃ x y, δ = [some (.fz (ti ps)), some (.fz (ti ns)), none, x, y]) (fun p : Int × Int => pairD (.int p.1) (.int p.2)) (fun p => .bool (decide (p.1 < p.2))) (ns.zip ns.tail) [some (.fz (ti ps)), some (.fz (ti ns)), none, none, none] ⟨none, none, rfl⟩ fun p hp δ ⟨x, y, e⟩ => by
        subst e
        exact ⟨_, _, by simp [wipeD, fnOf, DL.start, sSeq, sIf, sAsg_eq, sAsgT, sSet, sRet, sDrop, sRaise, sCallX, sNext, sBreak, sCont, sPar, sPar3, notBr_eq, dTest, dTruthy, toL, toV, ofV, dOp, dUn, dUnE, dC, dLate, dVar, LV.get, slotD, DV.dat, dTup, dLst, aNil, aCons, lNil, lCons, getAll, dCB, dCall, dCallB, dAnd, dOr, dNot, dOfT, dIf, dChain, dMut, isLs, lentOf, tgName_eq, tgNil, tgCons, tgTup, dRange1, dRange2, dIter, itemsD, dYes, LIM, two62, p64, pairD]; rfl, by simp [fnOf, DL.start, sSeq, sIf, sAsg_eq, sAsgT, sSet, sRet, sDrop, sRaise, sCallX, sNext, sBreak, sCont, sPar, sPar3, notBr_eq, dTest, dTruthy, toL, toV, ofV, dOp, dUn, dUnE, dC, dLate, dVar, LV.get, slotD, DV.dat, dTup, dLst, aNil, aCons, lNil, lCons, getAll, dCB, dCall, dCallB, dAnd, dOr, dNot, dOfT, dIf, dChain, dMut, isLs, lentOf, tgName_eq, tgNil, tgCons, tgTup, dRange1, dRange2, dIter, itemsD, dYes, LIM, two62, p64]; rfl, by exact ⟨_, _, rfl⟩⟩
      have e3 : ((ns.zip ns.tail).map fun p => PyData.bool (decide (p.1 < p.2))) = bools ((ns.zip ns.tail).map fun p => decide (p.1 < p.2)) := by simp [bools]
      rw [e3] at e2
      have z : zipD (intz ns) (intz ns.tail) = (ns.zip ns.tail).map fun p => pairD (.int p.1) (.int p.2) := zipD_map _ _ ns ns.tail
      have c1 : cutD (intz ns) (some 1) none = intz ns.tail := by rw [show (1 : Int) = ((1 : Nat) : Int) from rfl, cut_from, ints_drop, List.drop_one]
      have h7 : ns.length ≤ 16777216 := by simpa using h5
      have h6 : ns.length - 1 ≤ 16777216 := by omega
      simp [F_are_items, b_are_items, b_are_items_1, b_are_items_2, fnOf, DL.start, sSeq, sIf, sAsg_eq, sAsgT, sSet, sRet, sDrop, sRaise, sCallX, sNext, sBreak, sCont, sPar, sPar3, notBr_eq, dTest, dTruthy, toL, toV, ofV, dOp, dUn, dUnE, dC, dLate, dVar, LV.get, slotD, DV.dat, dTup, dLst, aNil, aCons, lNil, lCons, getAll, dCB, dCall, dCallB, dAnd, dOr, dNot, dOfT, dIf, dChain, dMut, isLs, lentOf, tgName_eq, tgNil, tgCons, tgTup, dRange1, dRange2, dIter, itemsD, dYes, LIM, two62, p64, gIsi, tyOf, h7, h6, dComp, dZip, dCut, oNone, oSome, c1, z, calmAt_eq, wipeD, e, e2, restore, ha, areItemsD, incB]
  | _ => simp [F_are_items, b_are_items, b_are_items_1, fnOf, DL.start, sSeq, sIf, sAsg_eq, sAsgT, sSet, sRet, sDrop, sRaise, sCallX, sNext, sBreak, sCont, sPar, sPar3, notBr_eq, dTest, dTruthy, toL, toV, ofV, dOp, dUn, dUnE, dC, dLate, dVar, LV.get, slotD, DV.dat, dTup, dLst, aNil, aCons, lNil, lCons, getAll, dCB, dCall, dCallB, dAnd, dOr, dNot, dOfT, dIf, dChain, dMut, isLs, lentOf, tgName_eq, tgNil, tgCons, tgTup, dRange1, dRange2, dIter, itemsD, dYes, LIM, two62, p64, gIsi, tyOf, areItemsD]
/-! ### what fits -/
def fitsB (o : Nat) (ps is : List Int) : Bool := ps.all fun p => decide (is.countP (fun i => decide (p ≤ pr ps i)) ≤ ps.countP (fun q => decide (p ≤ q)) / o)
theorem len_filter {α : Type} (p : α → Bool) (xs : List α) : (xs.filter p).length = xs.countP p := (List.countP_eq_length_filter ..).symm
theorem comp_free {o : D} {ps is : List Int} (hi : ∀ i ∈ is, 0 ≤ i ∧ i < ps.length) (p : Int) (x4 x6 : Option DV) : ∃ x5, compTurns (tgName 5) (dTest (toL (toV (dOp gGe (toL (toV (dOp gIx (dLate 1) (dLate 5)))) (dLate 3))))) (dVar 5) [5] (intz is) [] [some (.fz o), some (.fz (ti ps)), some (.fz (ti is)), some (.fz (.int p)), x4, none, x6] =
    some (intz (is.filter fun i => decide (p ≤ pr ps i)), [some (.fz o), some (.fz (ti ps)), some (.fz (ti is)), some (.fz (.int p)), x4, x5, x6]) := by
  obtain ⟨δ', e, x5, rfl⟩ := compTurns_ofIf (t := tgName 5) (c := dTest (toL (toV (dOp gGe (toL (toV (dOp gIx (dLate 1) (dLate 5)))) (dLate 3))))) (e := dVar 5) (vs := [5]) (fun δ => ∃ x5, δ = [some (.fz o), some (.fz (ti ps)), some (.fz (ti is)), some (.fz (.int p)), x4, x5, x6]) PyData.int PyData.int (fun i => decide (p ≤ pr ps i)) is
    [some (.fz o), some (.fz (ti ps)), some (.fz (ti is)), some (.fz (.int p)), x4, none, x6] ⟨none, rfl⟩ fun i hii δ ⟨x5, e⟩ => by
      subst e
      have g := gIx_pr (hi i hii).1 (hi i hii).2
      exact ⟨_, _, by simp [wipeD, fnOf, DL.start, sSeq, sIf, sAsg_eq, sAsgT, sSet, sRet, sDrop, sRaise, sCallX, sNext, sBreak, sCont, sPar, sPar3, notBr_eq, dTest, dTruthy, toL, toV, ofV, dOp, dUn, dUnE, dC, dLate, dVar, LV.get, slotD, DV.dat, dTup, dLst, aNil, aCons, lNil, lCons, getAll, dCB, dCall, dCallB, dAnd, dOr, dNot, dOfT, dIf, dChain, dMut, isLs, lentOf, tgName_eq, tgNil, tgCons, tgTup, dRange1, dRange2, dIter, itemsD, dYes, LIM, two62, p64]; rfl, by simp [fnOf, DL.start, sSeq, sIf, sAsg_eq, sAsgT, sSet, sRet, sDrop, sRaise, sCallX, sNext, sBreak, sCont, sPar, sPar3, notBr_eq, dTest, dTruthy, toL, toV, ofV, dOp, dUn, dUnE, dC, dLate, dVar, LV.get, slotD, DV.dat, dTup, dLst, aNil, aCons, lNil, lCons, getAll, dCB, dCall, dCallB, dAnd, dOr, dNot, dOfT, dIf, dChain, dMut, isLs, lentOf, tgName_eq, tgNil, tgCons, tgTup, dRange1, dRange2, dIter, itemsD, dYes, LIM, two62, p64, g]; rfl, fun _ => ⟨_, rfl⟩, fun _ => ⟨_, by simp [fnOf, DL.start, sSeq, sIf, sAsg_eq, sAsgT, sSet, sRet, sDrop, sRaise, sCallX, sNext, sBreak, sCont, sPar, sPar3, notBr_eq, dTest, dTruthy, toL, toV, ofV, dOp, dUn, dUnE, dC, dLate, dVar, LV.get, slotD, DV.dat, dTup, dLst, aNil, aCons, lNil, lCons, getAll, dCB, dCall, dCallB, dAnd, dOr, dNot, dOfT, dIf, dChain, dMut, isLs, lentOf, tgName_eq, tgNil, tgCons, tgTup, dRange1, dRange2, dIter, itemsD, dYes, LIM, two62, p64]; rfl, by exact ⟨_, rfl⟩⟩⟩
  exact ⟨x5, e⟩
theorem comp_paid {o : D} {ps is : List Int} (p : Int) (x4 x5 : Option DV) : ∃ x6, compTurns (tgName 6) (dTest (toL (toV (dOp gGe (dLate 6) (dLate 3))))) (dVar 6) [6] (intz ps) [] [some (.fz o), some (.fz (ti ps)), some (.fz (ti is)), some (.fz (.int p)), x4, x5, none] =
    some (intz (ps.filter fun q => decide (p ≤ q)), [some (.fz o), some (.fz (ti ps)), some (.fz (ti is)), some (.fz (.int p)), x4, x5, x6]) := by
  obtain ⟨δ', e, x6, rfl⟩ := compTurns_ofIf (t := tgName 6) (c := dTest (toL (toV (dOp gGe (dLate 6) (dLate 3))))) (e := dVar 6) (vs := [6]) (fun δ => ∃ x6, δ = [some (.fz o), some (.fz (ti ps)), some (.fz (ti is)), some (.fz (.int p)), x4, x5, x6]) PyData.int PyData.int (fun q => decide (p ≤ q)) ps
    [some (.fz o), some (.fz (ti ps)), some (.fz (ti is)), some (.fz (.int p)), x4, x5, none] ⟨none, rfl⟩ fun i hii δ ⟨x6, e⟩ => by
      subst e
      exact ⟨_, _, by simp [wipeD, fnOf, DL.start, sSeq, sIf, sAsg_eq, sAsgT, sSet, sRet, sDrop, sRaise, sCallX, sNext, sBreak, sCont, sPar, sPar3, notBr_eq, dTest, dTruthy, toL, toV, ofV, dOp, dUn, dUnE, dC, dLate, dVar, LV.get, slotD, DV.dat, dTup, dLst, aNil, aCons, lNil, lCons, getAll, dCB, dCall, dCallB, dAnd, dOr, dNot, dOfT, dIf, dChain, dMut, isLs, lentOf, tgName_eq, tgNil, tgCons, tgTup, dRange1, dRange2, dIter, itemsD, dYes, LIM, two62, p64]; rfl, by simp [fnOf, DL.start, sSeq, sIf, sAsg_eq, sAsgT, sSet, sRet, sDrop, sRaise, sCallX, sNext, sBreak, sCont, sPar, sPar3, notBr_eq, dTest, dTruthy, toL, toV, ofV, dOp, dUn, dUnE, dC, dLate, dVar, LV.get, slotD, DV.dat, dTup, dLst, aNil, aCons, lNil, lCons, getAll, dCB, dCall, dCallB, dAnd, dOr, dNot, dOfT, dIf, dChain, dMut, isLs, lentOf, tgName_eq, tgNil, tgCons, tgTup, dRange1, dRange2, dIter, itemsD, dYes, LIM, two62, p64]; rfl, fun _ => ⟨_, rfl⟩, fun _ => ⟨_, by simp [fnOf, DL.start, sSeq, sIf, sAsg_eq, sAsgT, sSet, sRet, sDrop, sRaise, sCallX, sNext, sBreak, sCont, sPar, sPar3, notBr_eq, dTest, dTruthy, toL, toV, ofV, dOp, dUn, dUnE, dC, dLate, dVar, LV.get, slotD, DV.dat, dTup, dLst, aNil, aCons, lNil, lCons, getAll, dCB, dCall, dCallB, dAnd, dOr, dNot, dOfT, dIf, dChain, dMut, isLs, lentOf, tgName_eq, tgNil, tgCons, tgTup, dRange1, dRange2, dIter, itemsD, dYes, LIM, two62, p64]; rfl, by exact ⟨_, rfl⟩⟩⟩
  exact ⟨x6, e⟩
theorem fits_spec {o : Nat} (h1 : 1 ≤ o) (h2 : o ≤ 9) {ps is : List Int} (hl : ps.length ≤ 1000) (hm : is.length ≤ 1000) (hi : ∀ i ∈ is, 0 ≤ i ∧ i < ps.length) : F_fits [.fz (.int o), .fz (ti ps), .fz (ti is)] = some (.ret (.fz (.bool (fitsB o ps is))) []) := by
  have key := for_all (t := tgName 3) (b := b_fits_1b) (r := .fz (.bool false)) (fun δ => ∃ x3 x4 x5 x6, δ = [some (.fz (.int o)), some (.fz (ti ps)), some (.fz (ti is)), x3, x4, x5, x6] ∧ nb x3 = true ∧ nb x4 = true ∧ calmB x5 = true ∧ calmB x6 = true) (fun δ => lentOf δ = [])
    (fun p => decide (is.countP (fun i => decide (p ≤ pr ps i)) ≤ ps.countP (fun q => decide (p ≤ q)) / o)) PyData.int ps [some (.fz (.int o)), some (.fz (ti ps)), some (.fz (ti is)), none, none, none, none] ⟨none, none, none, none, rfl, rfl, rfl, rfl, rfl⟩ fun p hp δ ⟨x3, x4, x5, x6, e, h3, h4, h5, h6⟩ => by
      subst e
      obtain ⟨y5, q5⟩ := comp_free (o := .int o) hi p x4 x6
      have hm' : is.length ≤ 16777216 := by omega
      have hl' : ps.length ≤ 16777216 := by omega
      have e1 : b_fits_1b_1 [some (.fz (.int o)), some (.fz (ti ps)), some (.fz (ti is)), some (.fz (.int p)), x4, x5, x6] = some (.nx [some (.fz (.int o)), some (.fz (ti ps)), some (.fz (ti is)), some (.fz (.int p)), some (.fz (.int (is.countP fun i => decide (p ≤ pr ps i)))), x5, x6]) := by
        simp [b_fits_1b_1, fnOf, DL.start, sSeq, sIf, sAsg_eq, sAsgT, sSet, sRet, sDrop, sRaise, sCallX, sNext, sBreak, sCont, sPar, sPar3, notBr_eq, dTest, dTruthy, toL, toV, ofV, dOp, dUn, dUnE, dC, dLate, dVar, LV.get, slotD, DV.dat, dTup, dLst, aNil, aCons, lNil, lCons, getAll, dCB, dCall, dCallB, dAnd, dOr, dNot, dOfT, dIf, dChain, dMut, isLs, lentOf, tgName_eq, tgNil, tgCons, tgTup, dRange1, dRange2, dIter, itemsD, dYes, LIM, two62, p64, dComp, calmAt_eq, h5, hm', wipeD, q5, restore, h4, len_filter]
      obtain ⟨y6, q6⟩ := comp_paid (o := .int o) (ps := ps) (is := is) p (some (.fz (.int (is.countP fun i => decide (p ≤ pr ps i))))) x5
      obtain ⟨z, dv, hz⟩ : ∃ z, gDivI (.int (ps.countP fun q => decide (p ≤ q))) (.int o) = some (.fz (.int z)) ∧ (z < (is.countP fun i => decide (p ≤ pr ps i)) ↔ ¬ is.countP (fun i => decide (p ≤ pr ps i)) ≤ ps.countP (fun q => decide (p ≤ q)) / o) := by
        refine ⟨_, gDivI_int (by omega) (by omega), ?_⟩
        have : ((ps.countP fun q => decide (p ≤ q) : Nat) : Int) / (o : Int) = ((ps.countP (fun q => decide (p ≤ q)) / o : Nat) : Int) := rfl
        rw [this]
        omega
      have e2 : b_fits_1b_2 [some (.fz (.int o)), some (.fz (ti ps)), some (.fz (ti is)), some (.fz (.int p)), some (.fz (.int (is.countP fun i => decide (p ≤ pr ps i)))), x5, x6] = some (if z < (is.countP fun i => decide (p ≤ pr ps i)) then .rt (.fz (.bool false)) [some (.fz (.int o)), some (.fz (ti ps)), some (.fz (ti is)), some (.fz (.int p)), some (.fz (.int (is.countP fun i => decide (p ≤ pr ps i)))), x5, x6] else .nx [some (.fz (.int o)), some (.fz (ti ps)), some (.fz (ti is)), some (.fz (.int p)), some (.fz (.int (is.countP fun i => decide (p ≤ pr ps i)))), x5, x6]) := by
        by_cases hc : z < (is.countP fun i => decide (p ≤ pr ps i)) <;> simp [b_fits_1b_2, fnOf, DL.start, sSeq, sIf, sAsg_eq, sAsgT, sSet, sRet, sDrop, sRaise, sCallX, sNext, sBreak, sCont, sPar, sPar3, notBr_eq, dTest, dTruthy, toL, toV, ofV, dOp, dUn, dUnE, dC, dLate, dVar, LV.get, slotD, DV.dat, dTup, dLst, aNil, aCons, lNil, lCons, getAll, dCB, dCall, dCallB, dAnd, dOr, dNot, dOfT, dIf, dChain, dMut, isLs, lentOf, tgName_eq, tgNil, tgCons, tgTup, dRange1, dRange2, dIter, itemsD, dYes, LIM, two62, p64, dComp, calmAt_eq, h6, hl', wipeD, q6, restore, len_filter, dv, hc]
      refine ⟨[some (.fz (.int o)), some (.fz (ti ps)), some (.fz (ti is)), some (.fz (.int p)), x4, x5, x6], by simp only [tgName_eq, List.getElem?_cons_succ, List.getElem?_cons_zero, if_true, List.set_cons_succ, List.set_cons_zero, Int.zero_add, h3], fun hg => ?_, fun hg => ?_⟩
      · have hg := of_decide_eq_true hg
        refine ⟨_, .inl (by unfold b_fits_1b; rw [sSeq_nx e1, e2, if_neg (fun c => hz.mp c hg)]), _, _, x5, x6, rfl, rfl, rfl, h5, h6⟩
      · have hg := of_decide_eq_false hg
        exact ⟨_, by unfold b_fits_1b; rw [sSeq_nx e1, e2, if_pos (hz.mpr hg)], rfl⟩
  have run : b_fits_1 [some (.fz (.int o)), some (.fz (ti ps)), some (.fz (ti is)), none, none, none, none] = forTurns (tgName 3) b_fits_1b (intz ps) [some (.fz (.int o)), some (.fz (ti ps)), some (.fz (ti is)), none, none, none, none] := by
    simp [b_fits_1, sFor, fnOf, DL.start, sSeq, sIf, sAsg_eq, sAsgT, sSet, sRet, sDrop, sRaise, sCallX, sNext, sBreak, sCont, sPar, sPar3, notBr_eq, dTest, dTruthy, toL, toV, ofV, dOp, dUn, dUnE, dC, dLate, dVar, LV.get, slotD, DV.dat, dTup, dLst, aNil, aCons, lNil, lCons, getAll, dCB, dCall, dCallB, dAnd, dOr, dNot, dOfT, dIf, dChain, dMut, isLs, lentOf, tgName_eq, tgNil, tgCons, tgTup, dRange1, dRange2, dIter, itemsD, dYes, LIM, two62, p64]
  have e0 : DL.start 7 [.fz (.int o), .fz (ti ps), .fz (ti is)] = [some (.fz (.int o)), some (.fz (ti ps)), some (.fz (ti is)), none, none, none, none] := rfl
  unfold F_fits b_fits fnOf
  rw [e0]
  cases hf : fitsB o ps is with
  | true =>
    obtain ⟨δ', e, x3, x4, x5, x6, rfl, _⟩ := key.1 hf
    have e : b_fits_1 [some (.fz (.int o)), some (.fz (ti ps)), some (.fz (ti is)), none, none, none, none] = some (.nx [some (.fz (.int o)), some (.fz (ti ps)), some (.fz (ti is)), x3, x4, x5, x6]) := run.trans e
    rw [sSeq_nx e]
    simp [b_fits_2, fnOf, DL.start, sSeq, sIf, sAsg_eq, sAsgT, sSet, sRet, sDrop, sRaise, sCallX, sNext, sBreak, sCont, sPar, sPar3, notBr_eq, dTest, dTruthy, toL, toV, ofV, dOp, dUn, dUnE, dC, dLate, dVar, LV.get, slotD, DV.dat, dTup, dLst, aNil, aCons, lNil, lCons, getAll, dCB, dCall, dCallB, dAnd, dOr, dNot, dOfT, dIf, dChain, dMut, isLs, lentOf, tgName_eq, tgNil, tgCons, tgTup, dRange1, dRange2, dIter, itemsD, dYes, LIM, two62, p64]
  | false =>
    obtain ⟨δ', e, hb⟩ := key.2 hf
    have e : b_fits_1 [some (.fz (.int o)), some (.fz (ti ps)), some (.fz (ti is)), none, none, none, none] = some (.rt (.fz (.bool false)) δ') := run.trans e
    simp [sSeq, e, hb]
end FT
set_option Elab.async false
set_option linter.all false
/-! What fits, by the law; free sets. -/
namespace FT
open PySem DL
theorem lf_yes (c1 z p : Int) (o : Nat) (ps is fl : List Int) (x5 x6 y6 : Option DV) (dv : gMul (.int c1) (.int o) = some (.fz (.int z))) (hc : (fl.length : Int) < z) (h6 : calmB x6 = true) (hl' : ps.length ≤ 16777216)
 (q6 : compTurns (tgName 6) (dTest (toL (toV (dOp gGe (dLate 6) (dLate 3))))) (dVar 6) [6] (intz ps) [] [some (.fz (.int o)), some (.fz (ti ps)), some (.fz (ti is)), some (.fz (.int p)), some (.fz (.int c1)), x5, none] =
    some (intz fl, [some (.fz (.int o)), some (.fz (ti ps)), some (.fz (ti is)), some (.fz (.int p)), some (.fz (.int c1)), x5, y6])) :
 b__law_fits_1b_2 [some (.fz (.int o)), some (.fz (ti ps)), some (.fz (ti is)), some (.fz (.int p)), some (.fz (.int c1)), x5, x6] = some (.rt (.fz (.bool false)) [some (.fz (.int o)), some (.fz (ti ps)), some (.fz (ti is)), some (.fz (.int p)), some (.fz (.int c1)), x5, x6]) := by
  simp [b__law_fits_1b_2, fnOf, DL.start, sSeq, sIf, sAsg_eq, sAsgT, sSet, sRet, sDrop, sRaise, sCallX, sNext, sBreak, sCont, sPar, sPar3, notBr_eq, dTest, dTruthy, toL, toV, ofV, dOp, dUn, dUnE, dC, dLate, dVar, LV.get, slotD, DV.dat, dTup, dLst, aNil, aCons, lNil, lCons, getAll, dCB, dCall, dCallB, dAnd, dOr, dNot, dOfT, dIf, dChain, dMut, isLs, lentOf, tgName_eq, tgNil, tgCons, tgTup, dRange1, dRange2, dIter, itemsD, dYes, LIM, two62, p64, dComp, calmAt_eq, h6, hl', wipeD, q6, restore, dv, hc]
theorem lf_no (c1 z p : Int) (o : Nat) (ps is fl : List Int) (x5 x6 y6 : Option DV) (dv : gMul (.int c1) (.int o) = some (.fz (.int z))) (hc : ¬ (fl.length : Int) < z) (h6 : calmB x6 = true) (hl' : ps.length ≤ 16777216)
 (q6 : compTurns (tgName 6) (dTest (toL (toV (dOp gGe (dLate 6) (dLate 3))))) (dVar 6) [6] (intz ps) [] [some (.fz (.int o)), some (.fz (ti ps)), some (.fz (ti is)), some (.fz (.int p)), some (.fz (.int c1)), x5, none] =
    some (intz fl, [some (.fz (.int o)), some (.fz (ti ps)), some (.fz (ti is)), some (.fz (.int p)), some (.fz (.int c1)), x5, y6])) :
 b__law_fits_1b_2 [some (.fz (.int o)), some (.fz (ti ps)), some (.fz (ti is)), some (.fz (.int p)), some (.fz (.int c1)), x5, x6] = some (.nx [some (.fz (.int o)), some (.fz (ti ps)), some (.fz (ti is)), some (.fz (.int p)), some (.fz (.int c1)), x5, x6]) := by
  simp [b__law_fits_1b_2, fnOf, DL.start, sSeq, sIf, sAsg_eq, sAsgT, sSet, sRet, sDrop, sRaise, sCallX, sNext, sBreak, sCont, sPar, sPar3, notBr_eq, dTest, dTruthy, toL, toV, ofV, dOp, dUn, dUnE, dC, dLate, dVar, LV.get, slotD, DV.dat, dTup, dLst, aNil, aCons, lNil, lCons, getAll, dCB, dCall, dCallB, dAnd, dOr, dNot, dOfT, dIf, dChain, dMut, isLs, lentOf, tgName_eq, tgNil, tgCons, tgTup, dRange1, dRange2, dIter, itemsD, dYes, LIM, two62, p64, dComp, calmAt_eq, h6, hl', wipeD, q6, restore, dv, hc]
theorem law_fits_spec {o : Nat} (h1 : 1 ≤ o) (h2 : o ≤ 9) {ps is : List Int} (hl : ps.length ≤ 1000) (hm : is.length ≤ 1000) (hi : ∀ i ∈ is, 0 ≤ i ∧ i < ps.length) : F__law_fits [.fz (.int o), .fz (ti ps), .fz (ti is)] = some (.ret (.fz (.bool (fitsB o ps is))) []) := by
  have key := for_all (t := tgName 3) (b := b__law_fits_1b) (r := .fz (.bool false)) (fun δ => ∃ x3 x4 x5 x6, δ = [some (.fz (.int o)), some (.fz (ti ps)), some (.fz (ti is)), x3, x4, x5, x6] ∧ nb x3 = true ∧ nb x4 = true ∧ calmB x5 = true ∧ calmB x6 = true) (fun δ => lentOf δ = [])
    (fun p => decide (is.countP (fun i => decide (p ≤ pr ps i)) ≤ ps.countP (fun q => decide (p ≤ q)) / o)) PyData.int ps [some (.fz (.int o)), some (.fz (ti ps)), some (.fz (ti is)), none, none, none, none] ⟨none, none, none, none, rfl, rfl, rfl, rfl, rfl⟩ fun p hp δ ⟨x3, x4, x5, x6, e, h3, h4, h5, h6⟩ => by
      subst e
      obtain ⟨y5, q5⟩ := comp_free (o := .int o) hi p x4 x6
      have hm' : is.length ≤ 16777216 := by omega
      have hl' : ps.length ≤ 16777216 := by omega
      have e1 : b__law_fits_1b_1 [some (.fz (.int o)), some (.fz (ti ps)), some (.fz (ti is)), some (.fz (.int p)), x4, x5, x6] = some (.nx [some (.fz (.int o)), some (.fz (ti ps)), some (.fz (ti is)), some (.fz (.int p)), some (.fz (.int (is.countP fun i => decide (p ≤ pr ps i)))), x5, x6]) := by
        simp [b__law_fits_1b_1, fnOf, DL.start, sSeq, sIf, sAsg_eq, sAsgT, sSet, sRet, sDrop, sRaise, sCallX, sNext, sBreak, sCont, sPar, sPar3, notBr_eq, dTest, dTruthy, toL, toV, ofV, dOp, dUn, dUnE, dC, dLate, dVar, LV.get, slotD, DV.dat, dTup, dLst, aNil, aCons, lNil, lCons, getAll, dCB, dCall, dCallB, dAnd, dOr, dNot, dOfT, dIf, dChain, dMut, isLs, lentOf, tgName_eq, tgNil, tgCons, tgTup, dRange1, dRange2, dIter, itemsD, dYes, LIM, two62, p64, dComp, calmAt_eq, h5, hm', wipeD, q5, restore, h4, len_filter]
      obtain ⟨y6, q6⟩ := comp_paid (o := .int o) (ps := ps) (is := is) p (some (.fz (.int (is.countP fun i => decide (p ≤ pr ps i))))) x5
      obtain ⟨z, dv, hz⟩ : ∃ z, gMul (.int (is.countP fun i => decide (p ≤ pr ps i))) (.int o) = some (.fz (.int z)) ∧ ((ps.countP fun q => decide (p ≤ q) : Nat) < z ↔ ¬ is.countP (fun i => decide (p ≤ pr ps i)) ≤ ps.countP (fun q => decide (p ≤ q)) / o) := by
        refine ⟨_, gMul_int (okMul_rs (by omega) (by omega)), ?_⟩
        have : ((is.countP fun i => decide (p ≤ pr ps i) : Nat) : Int) * (o : Int) = ((is.countP (fun i => decide (p ≤ pr ps i)) * o : Nat) : Int) := rfl
        rw [this, Nat.le_div_iff_mul_le (by omega)]
        omega
      have e2 : ∀ (cc : Nat), cc = ps.countP (fun q => decide (p ≤ q)) → b__law_fits_1b_2 [some (.fz (.int o)), some (.fz (ti ps)), some (.fz (ti is)), some (.fz (.int p)), some (.fz (.int (is.countP fun i => decide (p ≤ pr ps i)))), x5, x6] = some (if (cc : Int) < z then .rt (.fz (.bool false)) [some (.fz (.int o)), some (.fz (ti ps)), some (.fz (ti is)), some (.fz (.int p)), some (.fz (.int (is.countP fun i => decide (p ≤ pr ps i)))), x5, x6] else .nx [some (.fz (.int o)), some (.fz (ti ps)), some (.fz (ti is)), some (.fz (.int p)), some (.fz (.int (is.countP fun i => decide (p ≤ pr ps i)))), x5, x6]) := fun cc hcc => by
        have hlf : ((ps.filter fun q => decide (p ≤ q)).length : Int) = cc := by rw [len_filter, hcc]
        by_cases hc : (cc : Int) < z
        · rw [if_pos hc]
          exact lf_yes _ z p o ps is _ x5 x6 y6 dv (by rw [hlf]; exact hc) h6 hl' q6
        · rw [if_neg hc]
          exact lf_no _ z p o ps is _ x5 x6 y6 dv (by rw [hlf]; exact hc) h6 hl' q6
      have e2 := e2 _ rfl
      refine ⟨[some (.fz (.int o)), some (.fz (ti ps)), some (.fz (ti is)), some (.fz (.int p)), x4, x5, x6], by simp only [tgName_eq, List.getElem?_cons_succ, List.getElem?_cons_zero, if_true, List.set_cons_succ, List.set_cons_zero, Int.zero_add, h3], fun hg => ?_, fun hg => ?_⟩
      · have hg := of_decide_eq_true hg
        refine ⟨_, .inl (by unfold b__law_fits_1b; rw [sSeq_nx e1, e2, if_neg (fun c => hz.mp c hg)]), _, _, x5, x6, rfl, rfl, rfl, h5, h6⟩
      · have hg := of_decide_eq_false hg
        exact ⟨_, by unfold b__law_fits_1b; rw [sSeq_nx e1, e2, if_pos (hz.mpr hg)], rfl⟩
  have run : b__law_fits_1 [some (.fz (.int o)), some (.fz (ti ps)), some (.fz (ti is)), none, none, none, none] = forTurns (tgName 3) b__law_fits_1b (intz ps) [some (.fz (.int o)), some (.fz (ti ps)), some (.fz (ti is)), none, none, none, none] := by
    simp [b__law_fits_1, sFor, fnOf, DL.start, sSeq, sIf, sAsg_eq, sAsgT, sSet, sRet, sDrop, sRaise, sCallX, sNext, sBreak, sCont, sPar, sPar3, notBr_eq, dTest, dTruthy, toL, toV, ofV, dOp, dUn, dUnE, dC, dLate, dVar, LV.get, slotD, DV.dat, dTup, dLst, aNil, aCons, lNil, lCons, getAll, dCB, dCall, dCallB, dAnd, dOr, dNot, dOfT, dIf, dChain, dMut, isLs, lentOf, tgName_eq, tgNil, tgCons, tgTup, dRange1, dRange2, dIter, itemsD, dYes, LIM, two62, p64]
  have e0 : DL.start 7 [.fz (.int o), .fz (ti ps), .fz (ti is)] = [some (.fz (.int o)), some (.fz (ti ps)), some (.fz (ti is)), none, none, none, none] := rfl
  unfold F__law_fits b__law_fits fnOf
  rw [e0]
  cases hf : fitsB o ps is with
  | true =>
    obtain ⟨δ', e, x3, x4, x5, x6, rfl, _⟩ := key.1 hf
    have e : b__law_fits_1 [some (.fz (.int o)), some (.fz (ti ps)), some (.fz (ti is)), none, none, none, none] = some (.nx [some (.fz (.int o)), some (.fz (ti ps)), some (.fz (ti is)), x3, x4, x5, x6]) := run.trans e
    rw [sSeq_nx e]
    simp [b__law_fits_2, fnOf, DL.start, sSeq, sIf, sAsg_eq, sAsgT, sSet, sRet, sDrop, sRaise, sCallX, sNext, sBreak, sCont, sPar, sPar3, notBr_eq, dTest, dTruthy, toL, toV, ofV, dOp, dUn, dUnE, dC, dLate, dVar, LV.get, slotD, DV.dat, dTup, dLst, aNil, aCons, lNil, lCons, getAll, dCB, dCall, dCallB, dAnd, dOr, dNot, dOfT, dIf, dChain, dMut, isLs, lentOf, tgName_eq, tgNil, tgCons, tgTup, dRange1, dRange2, dIter, itemsD, dYes, LIM, two62, p64]
  | false =>
    obtain ⟨δ', e, hb⟩ := key.2 hf
    have e : b__law_fits_1 [some (.fz (.int o)), some (.fz (ti ps)), some (.fz (ti is)), none, none, none, none] = some (.rt (.fz (.bool false)) δ') := run.trans e
    simp [sSeq, e, hb]
theorem inc_len : ∀ {is : List Int} {a n : Int}, (∀ i ∈ is, a ≤ i ∧ i < n) → is.Pairwise (· < ·) → a ≤ n → (is.length : Int) ≤ n - a
  | [], a, n, _, _, h => by
    show (0 : Int) ≤ n - a
    omega
  | x :: l, a, n, hr, hp, h => by
    obtain ⟨h1, h2⟩ := List.pairwise_cons.mp hp
    have hx := hr x List.mem_cons_self
    have := inc_len (is := l) (a := x + 1) (n := n) (fun i hi => by have := h1 i hi; have := hr i (List.mem_cons_of_mem _ hi); omega) h2 (by omega)
    rw [List.length_cons]
    omega
theorem nodup_le {n : Nat} {is : List Int} (h : It n is) : is.length ≤ n := by
  have := inc_len (a := 0) (n := n) (fun i hi => h.rng i hi) h.inc (by omega)
  omega
theorem require_items_spec {d : D} (h : Clean d) (ps : List Int) (hl : ∀ ds, d = .tuple ds → ds.length ≤ 1000) : F_require_items [.fz (ti ps), .fz d] = some (if areItemsD ps.length d = true then .ret (.fz .none) [] else .ex "InvalidItems") := by
  cases hb : areItemsD ps.length d <;> simp [F_require_items, b_require_items, b_require_items_1, fnOf, DL.start, sSeq, sIf, sAsg_eq, sAsgT, sSet, sRet, sDrop, sRaise, sCallX, sNext, sBreak, sCont, sPar, sPar3, notBr_eq, dTest, dTruthy, toL, toV, ofV, dOp, dUn, dUnE, dC, dLate, dVar, LV.get, slotD, DV.dat, dTup, dLst, aNil, aCons, lNil, lCons, getAll, dCB, dCall, dCallB, dAnd, dOr, dNot, dOfT, dIf, dChain, dMut, isLs, lentOf, tgName_eq, tgNil, tgCons, tgTup, dRange1, dRange2, dIter, itemsD, dYes, LIM, two62, p64, are_items_spec h ps hl, hb]
theorem require_items_ok {ps is : List Int} (hp : ps.length ≤ 1000) (h : It ps.length is) : F_require_items [.fz (ti ps), .fz (ti is)] = some (.ret (.fz .none) []) := by
  rw [require_items_spec (clean_ti is) ps fun ds e => by cases e; rw [ints_len]; exact Nat.le_trans (nodup_le h) hp, if_pos (areItems_iff.mpr ⟨is, rfl, h⟩)]
theorem is_free_set_spec {o : Nat} (h1 : 2 ≤ o) (h2 : o ≤ 9) {ps is : List Int} (h : Bk 1000000 ps) (hl : ps.length ≤ 30) (hi : It ps.length is) : F_is_free_set [.fz (.int o), .fz (ti ps), .fz (ti is)] = some (.ret (.fz (.bool (fitsB o ps is))) []) := by
  have hm := nodup_le hi
  simp [F_is_free_set, b_is_free_set, b_is_free_set_1, b_is_free_set_2, b_is_free_set_3, b_is_free_set_4, fnOf, DL.start, sSeq, sIf, sAsg_eq, sAsgT, sSet, sRet, sDrop, sRaise, sCallX, sNext, sBreak, sCont, sPar, sPar3, notBr_eq, dTest, dTruthy, toL, toV, ofV, dOp, dUn, dUnE, dC, dLate, dVar, LV.get, slotD, DV.dat, dTup, dLst, aNil, aCons, lNil, lCons, getAll, dCB, dCall, dCallB, dAnd, dOr, dNot, dOfT, dIf, dChain, dMut, isLs, lentOf, tgName_eq, tgNil, tgCons, tgTup, dRange1, dRange2, dIter, itemsD, dYes, LIM, two62, p64, require_offer_ok (show (2 : Int) ≤ o by omega) (show (o : Int) ≤ 9 by omega), require_basket_ok h hl, require_items_ok (show ps.length ≤ 1000 by omega) hi, fits_spec (show 1 ≤ o by omega) h2 (show ps.length ≤ 1000 by omega) (show is.length ≤ 1000 by omega) hi.rng]
def withItem (is : List Int) (i : Int) : List Int := sortI (is ++ [i])
theorem with_item_spec {is : List Int} (hl : is.length ≤ 1000) (i : Int) : F_with_item [.fz (ti is), .fz (.int i)] = some (.ret (.fz (ti (withItem is i))) []) := by
  have q4 : gAdd (ti is) (.tuple [.int i]) = some (.fz (ti (is ++ [i]))) := by
    rw [gAdd_tuple (by simp [LIM]; omega), show [PyData.int i] = intz [i] from rfl, ← ints_append]
  simp [F_with_item, b_with_item, b_with_item_1, fnOf, DL.start, sSeq, sIf, sAsg_eq, sAsgT, sSet, sRet, sDrop, sRaise, sCallX, sNext, sBreak, sCont, sPar, sPar3, notBr_eq, dTest, dTruthy, toL, toV, ofV, dOp, dUn, dUnE, dC, dLate, dVar, LV.get, slotD, DV.dat, dTup, dLst, aNil, aCons, lNil, lCons, getAll, dCB, dCall, dCallB, dAnd, dOr, dNot, dOfT, dIf, dChain, dMut, isLs, lentOf, tgName_eq, tgNil, tgCons, tgTup, dRange1, dRange2, dIter, itemsD, dYes, LIM, two62, p64, q4, withItem]
theorem strict_of {l : List Int} (h : l.Pairwise (· ≤ ·)) (hn : l.Nodup) : l.Pairwise (· < ·) :=
  (List.Pairwise.and h hn).imp fun ⟨h1, h2⟩ => by omega
theorem it_sorted {n : Nat} {is : List Int} (hr : ∀ i ∈ is, 0 ≤ i ∧ i < n) (hn : is.Nodup) : It n (sortI is) :=
  ⟨fun i hi => hr i (mem_srt.mp hi), strict_of (srt_sorted is) ((srt_perm is).nodup_iff.mpr hn)⟩
theorem it_with {n : Nat} {is : List Int} (h : It n is) {i : Int} (h0 : 0 ≤ i ∧ i < n) (hi : i ∉ is) : It n (withItem is i) := by
  refine it_sorted (fun j hj => ?_) ?_
  · rcases List.mem_append.mp hj with q | q
    · exact h.rng j q
    · rw [List.mem_singleton] at q
      rw [q]
      exact h0
  · rw [List.nodup_append]
    refine ⟨h.inc.imp fun h => Int.ne_of_lt h, by simp, fun a ha b hb => ?_⟩
    rw [List.mem_singleton] at hb
    rintro rfl
    rw [hb] at ha
    exact hi ha
theorem fits_perm {o : Nat} {ps a b : List Int} (h : a.Perm b) : fitsB o ps a = fitsB o ps b := by
  unfold fitsB
  congr 1
  funext p
  rw [h.countP_eq]
theorem fits_iff {o : Nat} {ps is : List Int} : fitsB o ps is = true ↔ ∀ p ∈ ps, is.countP (fun i => decide (p ≤ pr ps i)) ≤ ps.countP (fun q => decide (p ≤ q)) / o := by
  unfold fitsB
  rw [List.all_eq_true]
  exact ⟨fun h p hp => of_decide_eq_true (h p hp), fun h p hp => decide_eq_true (h p hp)⟩
theorem fits_sub {o : Nat} {ps a b : List Int} (h : a.Sublist b) (hb : fitsB o ps b = true) : fitsB o ps a = true := by
  rw [fits_iff] at *
  exact fun p hp => Nat.le_trans (List.Sublist.countP_le h) (hb p hp)
theorem fits_mono {o o' : Nat} (h0 : 0 < o) (h : o ≤ o') {ps is : List Int} (hb : fitsB o' ps is = true) : fitsB o ps is = true := by
  rw [fits_iff] at *
  exact fun p hp => Nat.le_trans (hb p hp) (Nat.div_le_div_left h h0)
theorem fits_nil (o : Nat) (ps : List Int) : fitsB o ps [] = true := by
  rw [fits_iff]
  exact fun p hp => Nat.zero_le _
end FT
set_option Elab.async false
set_option linter.all false
/-! Membership; draws of items; the best set; all items. -/
namespace FT
open PySem DL
theorem inD_intz (x : Int) : ∀ ns : List Int, inD (.int x) (intz ns) = decide (x ∈ ns)
  | [] => by simp [inD, intz]
  | n :: ns => by
    have ih := inD_intz x ns
    unfold inD at ih ⊢
    rw [ints_cons, List.any_cons, ih]
    by_cases h : n = x
    · subst h
      simp [PyData.eqv]
    · have h2 : ¬ x = n := fun e => h e.symm
      simp [PyData.eqv, h, h2]
theorem gIn_li (neg : Bool) (x : Int) (ns : List Int) : gIn neg (.int x) (li ns) = some (.fz (.bool (decide (x ∈ ns) != neg))) := by
  show (if shp (.int x) && shp (li ns) then some (DV.fz (.bool (inD (.int x) (intz ns) != neg))) else none) = _
  rw [shp_int, shp_li, inD_intz]
  rfl
theorem gIn_ti (neg : Bool) (x : Int) (ns : List Int) : gIn neg (.int x) (ti ns) = some (.fz (.bool (decide (x ∈ ns) != neg))) := by
  show (if shp (.int x) && shp (ti ns) then some (DV.fz (.bool (inD (.int x) (intz ns) != neg))) else none) = _
  rw [shp_int, shp_ti, inD_intz]
  rfl
def upto (n : Nat) : List Int := (List.range n).map fun i => ((i : Nat) : Int)
theorem rangeD_upto (n : Nat) : rangeD 0 n = intz (upto n) := by
  unfold rangeD upto intz
  rw [List.map_map]
  refine List.map_congr_left fun i _ => ?_
  show PyData.int (0 + (i : Nat)) = PyData.int (i : Nat)
  rw [Int.zero_add]
theorem range1_gen {f : EL} {δ δ1 : Sl} {x : LV} {n : Nat} (hf : f δ = some (x, δ1)) (hx : x.get δ1 = some (.int n)) (hn : n ≤ 1000) : dRange1 (lCons f lNil) δ = some (intz (upto n), δ1) := by
  have h2 := n_in hn
  have h3 : ((n : Nat) : Int).toNat = n := Int.toNat_natCast n
  rw [← rangeD_upto]
  generalize ((n : Nat) : Int) = z at *
  unfold dRange1 lCons lNil
  rw [hf]
  dsimp only [getAll]
  rw [hx]
  dsimp only
  rw [if_pos h2, h3]
theorem upto_len (n : Nat) : (upto n).length = n := by simp [upto]
theorem mem_upto {n : Nat} {i : Int} : i ∈ upto n ↔ 0 ≤ i ∧ i < n := by
  unfold upto
  rw [List.mem_map]
  constructor
  · rintro ⟨j, hj, rfl⟩
    have := List.mem_range.mp hj
    omega
  · rintro ⟨h0, h1⟩
    exact ⟨i.toNat, List.mem_range.mpr (by omega), by omega⟩
theorem it_upto (n : Nat) : It n (upto n) := by
  refine ⟨fun i hi => mem_upto.mp hi, ?_⟩
  unfold upto
  refine List.Pairwise.map _ (fun a b hab => Int.ofNat_lt.mpr hab) List.pairwise_lt_range
theorem it_sub {n : Nat} {a b : List Int} (h : a.Sublist b) (hb : It n b) : It n a := ⟨fun i hi => hb.rng i (h.subset hi), hb.inc.sublist h⟩
/-- the counts of a free set hang on its prices alone -/
theorem fits_prices {o : Nat} {ps a b : List Int} (h : a.map (pr ps) = b.map (pr ps)) : fitsB o ps a = fitsB o ps b := by
  unfold fitsB
  congr 1
  funext p
  have e : ∀ l : List Int, l.countP (fun i => decide (p ≤ pr ps i)) = (l.map (pr ps)).countP (fun q => decide (p ≤ q)) := fun l => by rw [List.countP_map]; rfl
  rw [e a, e b, h]
/-! the best set -/
def bestI (o n : Nat) : List Int := (List.range (n / o)).map fun m => (((o - 1) + m * o : Nat) : Int)
theorem rgN_best {o n : Nat} (ho : 2 ≤ o) : rgN ((o : Int) - 1) n o = n / o := by
  unfold rgN
  have h1 : (o : Int) > 0 := by omega
  rw [if_pos h1]
  by_cases h : (o : Int) - 1 < (n : Int)
  · rw [if_pos h]
    have e : (n : Int) - ((o : Int) - 1) - 1 = ((n - o : Nat) : Int) := by omega
    rw [e]
    have e2 : ((n - o : Nat) : Int) / (o : Int) = (((n - o) / o : Nat) : Int) := rfl
    rw [e2]
    have e3 : n / o = (n - o) / o + 1 := by
      rw [Nat.div_eq n o, if_pos ⟨by omega, by omega⟩]
    rw [e3]
    exact Int.toNat_natCast ((n - o) / o + 1)
  · rw [if_neg h]
    have : n / o = 0 := Nat.div_eq_of_lt (by omega)
    rw [this]
    rfl
theorem range_best {o n : Nat} (ho : 2 ≤ o) : rangeCD ((o : Int) - 1) o (n / o) = intz (bestI o n) := by
  unfold rangeCD bestI intz
  rw [List.map_map]
  refine List.map_congr_left fun m _ => ?_
  show PyData.int ((o : Int) - 1 + (m : Int) * (o : Int)) = PyData.int (((o - 1) + m * o : Nat) : Int)
  have : (m : Int) * (o : Int) = ((m * o : Nat) : Int) := rfl
  rw [this]
  congr 1
  omega
theorem best_lt {o n m : Nat} (ho : 0 < o) (hm : m < n / o) : o - 1 + m * o < n := by
  have h1 : (m + 1) * o ≤ n := Nat.le_trans (Nat.mul_le_mul_right o hm) (Nat.div_mul_le_self n o)
  rw [Nat.add_mul, Nat.one_mul] at h1
  omega
theorem it_best {o n : Nat} (ho : 0 < o) : It n (bestI o n) := by
  refine ⟨fun i hi => ?_, ?_⟩
  · obtain ⟨m, hm, rfl⟩ := List.mem_map.mp hi
    have := best_lt ho (List.mem_range.mp hm)
    omega
  · unfold bestI
    refine List.Pairwise.map _ (fun a b hab => ?_) List.pairwise_lt_range
    have hab : a < b := hab
    have : a * o < b * o := Nat.mul_lt_mul_of_pos_right hab ho
    show (((o - 1) + a * o : Nat) : Int) < (((o - 1) + b * o : Nat) : Int)
    omega
theorem pr_get {ps : List Int} {j : Nat} (h : j < ps.length) : pr ps (j : Int) = ps[j] := by
  unfold pr
  rw [Int.toNat_natCast, List.getD_eq_getElem?_getD, List.getElem?_eq_getElem h]
  rfl
theorem at_iff {ps : List Int} (hd : ps.Pairwise (· ≥ ·)) {p : Int} (hp : 1 ≤ p) {j : Nat} (h : j < ps.length) : p ≤ pr ps (j : Int) ↔ j < ps.countP fun q => decide (p ≤ q) := by
  obtain ⟨t, rfl⟩ : ∃ t : Nat, p = (t : Int) + 1 := ⟨(p - 1).toNat, by omega⟩
  rw [pr_get h]
  exact desc_at hd t j h
theorem best_fits {o : Nat} (ho : 2 ≤ o) {ps : List Int} (hd : ps.Pairwise (· ≥ ·)) (hp : ∀ p ∈ ps, 1 ≤ p) : fitsB o ps (bestI o ps.length) = true := by
  rw [fits_iff]
  intro p hpm
  unfold bestI
  rw [List.countP_map]
  have hc := count_places o (ps.countP fun q => decide (p ≤ q)) (by omega) ps.length List.countP_le_length
  have : (List.range (ps.length / o)).countP ((fun i => decide (p ≤ pr ps i)) ∘ fun m => (((o - 1) + m * o : Nat) : Int)) = (List.range (ps.length / o)).countP fun m => decide (o - 1 + m * o < ps.countP fun q => decide (p ≤ q)) := by
    apply List.countP_congr
    intro m hm
    have hl := best_lt (show 0 < o by omega) (List.mem_range.mp hm)
    simp only [Function.comp, decide_eq_true_eq]
    exact at_iff hd (hp p hpm) hl
  rw [this, ← hc]
  exact List.Sublist.countP_le (List.range_sublist.mpr (Nat.div_le_self _ _))
/-- all items are no free set -/
theorem all_not {o : Nat} (ho : 2 ≤ o) {ps : List Int} (h1 : 1 ≤ ps.length) : fitsB o ps (upto ps.length) = false := by
  cases h : fitsB o ps (upto ps.length) with
  | false => rfl
  | true =>
    rw [fits_iff] at h
    have hm := h ps[0] (List.getElem_mem (by omega))
    have e : (upto ps.length).countP (fun i => decide (ps[0] ≤ pr ps i)) = ps.countP (fun q => decide (ps[0] ≤ q)) := by
      have : ps = (upto ps.length).map (pr ps) := by
        apply List.ext_getElem (by simp [upto_len])
        intro j hj _
        rw [List.getElem_map]
        unfold upto
        rw [List.getElem_map, List.getElem_range, pr_get hj]
      conv => rhs; arg 2; rw [this]
      rw [List.countP_map]
      rfl
    rw [e] at hm
    have pos : 0 < ps.countP (fun q => decide (ps[0] ≤ q)) := List.countP_pos_iff.mpr ⟨ps[0], List.getElem_mem (by omega), by simp⟩
    have := Nat.div_lt_self pos (show 1 < o by omega)
    omega
/-- the best set and the last item -/
theorem last_not {o : Nat} (ho : 2 ≤ o) {ps : List Int} (hd : ps.Pairwise (· ≥ ·)) (h1 : 1 ≤ ps.length) : fitsB o ps (bestI o ps.length ++ [((ps.length - 1 : Nat) : Int)]) = false := by
  cases h : fitsB o ps (bestI o ps.length ++ [((ps.length - 1 : Nat) : Int)]) with
  | false => rfl
  | true =>
    rw [fits_iff] at h
    have hl : ps.length - 1 < ps.length := by omega
    have hmin : ∀ q ∈ ps, ps[ps.length - 1] ≤ q := fun q hq => by
      obtain ⟨j, hj, rfl⟩ := List.getElem_of_mem hq
      rcases Nat.lt_or_ge j (ps.length - 1) with c | c
      · exact List.pairwise_iff_getElem.mp hd j (ps.length - 1) hj hl c
      · have : j = ps.length - 1 := by omega
        subst this
        exact Int.le_refl _
    have hm := h ps[ps.length - 1] (List.getElem_mem hl)
    have e1 : ps.countP (fun q => decide (ps[ps.length - 1] ≤ q)) = ps.length := by
      rw [List.countP_eq_length]
      exact fun q hq => decide_eq_true (hmin q hq)
    have e2 : (bestI o ps.length ++ [((ps.length - 1 : Nat) : Int)]).countP (fun i => decide (ps[ps.length - 1] ≤ pr ps i)) = ps.length / o + 1 := by
      have : (bestI o ps.length ++ [((ps.length - 1 : Nat) : Int)]).countP (fun i => decide (ps[ps.length - 1] ≤ pr ps i)) = (bestI o ps.length ++ [((ps.length - 1 : Nat) : Int)]).length := by
        rw [List.countP_eq_length]
        intro i hi
        have hr : 0 ≤ i ∧ i < ps.length := by
          rcases List.mem_append.mp hi with q | q
          · exact (it_best (show 0 < o by omega)).rng i q
          · rw [List.mem_singleton] at q
            omega
        obtain ⟨j, rfl⟩ := Int.eq_ofNat_of_zero_le hr.1
        have hj : j < ps.length := by omega
        rw [decide_eq_true_eq, pr_get hj]
        exact hmin _ (List.getElem_mem hj)
      rw [this, List.length_append]
      simp [bestI]
    rw [e1, e2] at hm
    omega
theorem it_last {o n : Nat} (ho : 0 < o) (hn : 1 ≤ n) (h : ((n - 1 : Nat) : Int) ∉ bestI o n) : It n (bestI o n ++ [((n - 1 : Nat) : Int)]) := by
  have hb := it_best (n := n) ho
  refine ⟨fun i hi => ?_, ?_⟩
  · rcases List.mem_append.mp hi with q | q
    · exact hb.rng i q
    · rw [List.mem_singleton] at q
      omega
  · rw [List.pairwise_append]
    refine ⟨hb.inc, by simp, fun a ha b hb' => ?_⟩
    rw [List.mem_singleton] at hb'
    have h1 := hb.rng a ha
    have h2 : a ≠ ((n - 1 : Nat) : Int) := fun e => h (e ▸ ha)
    omega
theorem dTupI_run {f : EI} {δ δ1 : Sl} {ds : List D} (h : f δ = some (ds, δ1)) (hl : ds.length ≤ LIM) : dTupI f δ = some (.tuple ds, δ1) := by
  unfold dTupI
  rw [h]
  dsimp only
  rw [if_pos hl]
theorem range3_run {a : EAL} {δ δ1 : Sl} {vs : List LV} {i j c : Int} (h : a δ = some (vs, δ1)) (hv : getAll δ1 vs = some [.int i, .int j, .int c]) (hc : c ≠ 0 ∧ -RLIM ≤ c ∧ c ≤ RLIM ∧ -RLIM ≤ i ∧ i ≤ RLIM ∧ -RLIM ≤ j ∧ j ≤ RLIM) : dRange3 a δ = some (rangeCD i c (rgN i j c), δ1) := by
  unfold dRange3
  rw [h]
  dsimp only
  rw [hv]
  dsimp only
  rw [if_pos hc]
theorem rl_of {z : Int} (h0 : -1 ≤ z) (h1 : z ≤ 1000) : -RLIM ≤ z ∧ z ≤ RLIM := by unfold RLIM; omega
theorem range3_best {a : EAL} {δ δ1 : Sl} {vs : List LV} {o n : Nat} (h1 : 2 ≤ o) (h2 : o ≤ 9) (hn : n ≤ 1000) (h : a δ = some (vs, δ1)) (hv : getAll δ1 vs = some [.int ((o : Int) - 1), .int n, .int o]) : dRange3 a δ = some (intz (bestI o n), δ1) := by
  have e := range3_run h hv ⟨by omega, (rl_of (by omega) (by omega)).1, (rl_of (by omega) (by omega)).2, (rl_of (by omega) (by omega)).1, (rl_of (by omega) (by omega)).2, (rl_of (by omega) (by omega)).1, (rl_of (by omega) (by omega)).2⟩
  rw [rgN_best h1, range_best h1] at e
  exact e
end FT
set_option Elab.async false
set_option linter.all false
/-! Costs of any order; costs with a further price; the first price. -/
namespace FT
open PySem DL
theorem law_cost_any {o : Nat} (h1 : 0 < o) (h2 : o < 1000) {ps : List Int} {d : D} (gl : gLen [d] = some (.fz (.int ps.length))) (gs : gList [d] = some (.mt (intz ps))) (hl : ps.length ≤ 1000) : F__law_cost [.fz (.int o), .fz d] = some (.ret (.fz (.int (costOf o (dsc ps)))) []) := by
  have e1 : b__law_cost_1 [some (.fz (.int o)), some (.fz d), none, none] = some (.nx [some (.fz (.int o)), some (.fz d), some (.mt (intz ps)), none]) := by simp [b__law_cost_1, fnOf, DL.start, sSeq, sIf, sAsg_eq, sAsgT, sSet, sRet, sDrop, sRaise, sCallX, sNext, sBreak, sCont, sPar, sPar3, notBr_eq, dTest, dTruthy, toL, toV, ofV, dOp, dUn, dUnE, dC, dLate, dVar, LV.get, slotD, DV.dat, dTup, dLst, aNil, aCons, lNil, lCons, getAll, dCB, dCall, dCallB, dAnd, dOr, dNot, dOfT, dIf, dChain, dMut, isLs, lentOf, tgName_eq, tgNil, tgCons, tgTup, dRange1, dRange2, dIter, itemsD, dYes, LIM, two62, p64, gs]
  have hd := dsc_dec ps
  have hdl := dsc_len ps
  have hle := Nat.div_le_self ps.length o
  obtain ⟨δ', e2, left, x, rfl, hx, hp⟩ := for_range (t := tgName 3) (b := b__law_cost_2b) (fun i δ => ∃ (left : List Int) (x : Option DV), δ = [some (.fz (.int o)), some (.fz d), some (.mt (intz left)), x] ∧ nb x = true ∧ left.Perm ((dsc ps).take (ps.length - i))) 0 (ps.length / o)
    [some (.fz (.int o)), some (.fz d), some (.mt (intz ps)), none] ⟨ps, none, rfl, rfl, by rw [Nat.sub_zero, ← hdl, List.take_length]; exact (dsc_perm ps).symm⟩ fun i hi δ ⟨left, x, e, hx, hp⟩ => by
      subst e
      obtain ⟨j, hj⟩ : ∃ j, ps.length - i = j + 1 := ⟨ps.length - i - 1, by omega⟩
      have hjl : j < (dsc ps).length := by omega
      rw [hj] at hp
      have tk : (dsc ps).take (j + 1) = (dsc ps).take j ++ [(dsc ps)[j]] := by rw [List.take_add_one, List.getElem?_eq_getElem hjl]; rfl
      rw [tk] at hp
      have hin : (dsc ps)[j] ∈ left := hp.mem_iff.mpr (List.mem_append_right _ (List.mem_singleton.mpr rfl))
      have hne : left ≠ [] := fun e => by rw [e] at hin; cases hin
      have hm : minI left = (dsc ps)[j] := by
        apply Int.le_antisymm (mn_low hin)
        have hmem := hp.mem_iff.mp (mn_in hne)
        rcases List.mem_append.mp hmem with h | h
        · have hd' : ((dsc ps).take (j + 1)).Pairwise (· ≥ ·) := hd.sublist (List.take_sublist _ _)
          rw [tk, List.pairwise_append] at hd'
          exact hd'.2.2 _ h _ (List.mem_singleton.mpr rfl)
        · rw [List.mem_singleton] at h
          rw [h]
          exact Int.le_refl _
      have hpe : (left.erase (dsc ps)[j]).Perm ((dsc ps).take j) := by
        have q1 := hp.erase (dsc ps)[j]
        have q2 : ((dsc ps).take j ++ [(dsc ps)[j]]).Perm ((dsc ps)[j] :: (dsc ps).take j) := List.perm_append_comm (l₁ := (dsc ps).take j) (l₂ := [(dsc ps)[j]])
        have q3 := q2.erase (dsc ps)[j]
        rw [List.erase_cons_head] at q3
        exact q1.trans q3
      generalize (dsc ps)[j] = m at *
      refine ⟨_, _, by simp [fnOf, DL.start, sSeq, sIf, sAsg_eq, sAsgT, sSet, sRet, sDrop, sRaise, sCallX, sNext, sBreak, sCont, sPar, sPar3, notBr_eq, dTest, dTruthy, toL, toV, ofV, dOp, dUn, dUnE, dC, dLate, dVar, LV.get, slotD, DV.dat, dTup, dLst, aNil, aCons, lNil, lCons, getAll, dCB, dCall, dCallB, dAnd, dOr, dNot, dOfT, dIf, dChain, dMut, isLs, lentOf, tgName_eq, tgNil, tgCons, tgTup, dRange1, dRange2, dIter, itemsD, dYes, LIM, two62, p64, hx]; rfl, .inl (by simp [b__law_cost_2b, b__law_cost_2b_1, fnOf, DL.start, sSeq, sIf, sAsg_eq, sAsgT, sSet, sRet, sDrop, sRaise, sCallX, sNext, sBreak, sCont, sPar, sPar3, notBr_eq, dTest, dTruthy, toL, toV, ofV, dOp, dUn, dUnE, dC, dLate, dVar, LV.get, slotD, DV.dat, dTup, dLst, aNil, aCons, lNil, lCons, getAll, dCB, dCall, dCallB, dAnd, dOr, dNot, dOfT, dIf, dChain, dMut, isLs, lentOf, tgName_eq, tgNil, tgCons, tgTup, dRange1, dRange2, dIter, itemsD, dYes, LIM, two62, p64, gMin_ne hne, hm, mRemove_ok hin]; rfl), left.erase m, _, rfl, rfl, ?_⟩
      rw [show ps.length - (i + 1) = j by omega]
      exact hpe
  have e2' : b__law_cost_2 [some (.fz (.int o)), some (.fz d), some (.mt (intz ps)), none] = some (.nx [some (.fz (.int o)), some (.fz d), some (.mt (intz left)), x]) := by
    have dv := @gDivI_int ps.length o (by omega) (by omega)
    have dq : (ps.length : Int) / (o : Int) = ((ps.length / o : Nat) : Int) := rfl
    have src : dRange1 (lCons (toL (toV (dOp gDivI (toL (toV (dCB gLen (lCons (dLate 1) lNil)))) (dLate 0)))) lNil) [some (.fz (.int o)), some (.fz d), some (.mt (intz ps)), none] = some (intz (upto (ps.length / o)), [some (.fz (.int o)), some (.fz d), some (.mt (intz ps)), none]) := by
      rw [dq] at dv
      refine range1_gen (x := .val (.int (ps.length / o : Nat))) ?_ rfl (by omega)
      generalize ((ps.length / o : Nat) : Int) = z at *
      simp [fnOf, DL.start, sSeq, sIf, sAsg_eq, sAsgT, sSet, sRet, sDrop, sRaise, sCallX, sNext, sBreak, sCont, sPar, sPar3, notBr_eq, dTest, dTruthy, toL, toV, ofV, dOp, dUn, dUnE, dC, dLate, dVar, LV.get, slotD, DV.dat, dTup, dLst, aNil, aCons, lNil, lCons, getAll, dCB, dCall, dCallB, dAnd, dOr, dNot, dOfT, dIf, dChain, dMut, isLs, lentOf, tgName_eq, tgNil, tgCons, tgTup, dRange1, dRange2, dIter, itemsD, dYes, LIM, two62, p64, gl, dv]
    rw [← rangeD_upto] at src
    unfold b__law_cost_2
    rw [sFor_run src]
    exact e2
  have e0 : DL.start 4 [.fz (.int o), .fz d] = [some (.fz (.int o)), some (.fz d), none, none] := rfl
  have sm : left.sum = costOf o (dsc ps) := by
    unfold costOf
    rw [hdl]
    exact perm_sum hp
  unfold F__law_cost b__law_cost fnOf
  rw [e0, sSeq_nx e1, sSeq_nx e2']
  simp [b__law_cost_3, fnOf, DL.start, sSeq, sIf, sAsg_eq, sAsgT, sSet, sRet, sDrop, sRaise, sCallX, sNext, sBreak, sCont, sPar, sPar3, notBr_eq, dTest, dTruthy, toL, toV, ofV, dOp, dUn, dUnE, dC, dLate, dVar, LV.get, slotD, DV.dat, dTup, dLst, aNil, aCons, lNil, lCons, getAll, dCB, dCall, dCallB, dAnd, dOr, dNot, dOfT, dIf, dChain, dMut, isLs, lentOf, tgName_eq, tgNil, tgCons, tgTup, dRange1, dRange2, dIter, itemsD, dYes, LIM, two62, p64, sm]
theorem law_cost_ti {o : Nat} (h1 : 0 < o) (h2 : o < 1000) {ps : List Int} (hl : ps.length ≤ 1000) : F__law_cost [.fz (.int o), .fz (ti ps)] = some (.ret (.fz (.int (costOf o (dsc ps)))) []) := law_cost_any h1 h2 (by rw [gLen_tuple, ints_len]) (gList_tuple _) hl
theorem law_cost_li {o : Nat} (h1 : 0 < o) (h2 : o < 1000) {ps : List Int} (hl : ps.length ≤ 1000) : F__law_cost [.fz (.int o), .fz (li ps)] = some (.ret (.fz (.int (costOf o (dsc ps)))) []) := law_cost_any h1 h2 (by rw [gLen_list, ints_len]) (gList_list _) hl
/-! ### layers of a cost -/
theorem cnt_take {ps : List Int} (hd : ps.Pairwise (· ≥ ·)) (t m : Nat) : cnt (ps.take m) t = min m (cnt ps t) := by
  induction ps generalizing m with
  | nil => simp [cnt_nil]
  | cons p ps ih =>
    obtain ⟨h1, h2⟩ := List.pairwise_cons.mp hd
    cases m with
    | zero => simp [cnt_nil]
    | succ m =>
      rw [List.take_succ_cons, cnt_cons, cnt_cons, ih h2]
      by_cases h : (t : Int) + 1 ≤ p
      · rw [if_pos h]
        omega
      · have : cnt ps t = 0 := by
          unfold cnt
          rw [List.countP_eq_zero]
          intro q hq
          have := h1 q hq
          simp
          omega
        rw [if_neg h, this]
        omega
theorem cost_layers {o : Nat} {ps : List Int} (M : Nat) (h : ∀ p ∈ ps, 0 ≤ p ∧ p ≤ M) : costOf o (dsc ps) = (tot (fun t => min (ps.length - ps.length / o) (cnt ps t)) M : Nat) := by
  have e : tot (cnt ((dsc ps).take (ps.length - ps.length / o))) M = tot (fun t => min (ps.length - ps.length / o) (cnt ps t)) M := tot_congr fun t _ => by
    rw [cnt_take (dsc_dec ps), cnt_perm (dsc_perm ps)]
  unfold costOf
  rw [dsc_len, sum_layers (M := M) fun p hp => h p (dsc_mem.mp (List.mem_of_mem_take hp)), e]
/-- the cost with a further price -/
def costW (o : Nat) (ps : List Int) (p : Int) : Int := costOf o (dsc (ps ++ [p]))
theorem costW_mono {o : Nat} {ps : List Int} (h : ∀ p ∈ ps, 0 ≤ p) {p q : Int} (h0 : 0 ≤ p) (hpq : p ≤ q) : costW o ps p ≤ costW o ps q := by
  obtain ⟨M, hM⟩ : ∃ M : Nat, ∀ x ∈ ps ++ [p] ++ [q], x ≤ M := by
    refine ⟨(maxI (ps ++ [p] ++ [q])).toNat, fun x hx => ?_⟩
    have := mx_high hx
    omega
  have hp : ∀ x ∈ ps ++ [p], 0 ≤ x ∧ x ≤ M := fun x hx => ⟨by
    rcases List.mem_append.mp hx with q | q
    · exact h x q
    · rw [List.mem_singleton] at q
      omega, hM x (List.mem_append_left _ hx)⟩
  have hq : ∀ x ∈ ps ++ [q], 0 ≤ x ∧ x ≤ M := fun x hx => ⟨by
    rcases List.mem_append.mp hx with q | q
    · exact h x q
    · rw [List.mem_singleton] at q
      omega, hM x (by
    rcases List.mem_append.mp hx with q | q
    · exact List.mem_append_left _ (List.mem_append_left _ q)
    · exact List.mem_append_right _ q)⟩
  unfold costW
  rw [cost_layers M hp, cost_layers M hq]
  have : tot (fun t => min ((ps ++ [p]).length - (ps ++ [p]).length / o) (cnt (ps ++ [p]) t)) M ≤ tot (fun t => min ((ps ++ [q]).length - (ps ++ [q]).length / o) (cnt (ps ++ [q]) t)) M := tot_le fun t _ => by
    rw [List.length_append, List.length_append, cnt_append, cnt_append, cnt_cons, cnt_cons, cnt_nil]
    have e : ([p] : List Int).length = ([q] : List Int).length := rfl
    rw [e]
    by_cases c : (t : Int) + 1 ≤ p
    · rw [if_pos c, if_pos (by omega)]
      exact Nat.le_refl _
    · rw [if_neg c]
      by_cases c2 : (t : Int) + 1 ≤ q
      · rw [if_pos c2]
        omega
      · rw [if_neg c2]
        exact Nat.le_refl _
  omega
/-- the further price is paid if it is the largest -/
theorem costW_ge {o : Nat} (ho : 2 ≤ o) {ps : List Int} (h : ∀ p ∈ ps, 0 ≤ p) {p : Int} (h0 : 0 ≤ p) (hm : ∀ q ∈ ps, q ≤ p) : p ≤ costW o ps p := by
  unfold costW costOf
  rw [dsc_len, List.length_append]
  have hl : ([p] : List Int).length = 1 := rfl
  rw [hl]
  have hd : dsc (ps ++ [p]) = p :: dsc ps := by
    have hperm : (ps ++ [p]).Perm (p :: dsc ps) := (List.perm_append_comm (l₁ := ps) (l₂ := [p])).trans (List.Perm.cons p (dsc_perm ps).symm)
    rw [dsc_congr hperm]
    refine dsc_self (List.pairwise_cons.mpr ⟨fun q hq => ?_, dsc_dec ps⟩)
    exact hm q (dsc_mem.mp hq)
  rw [hd]
  obtain ⟨k, hk⟩ : ∃ k, ps.length + 1 - (ps.length + 1) / o = k + 1 := by
    have : (ps.length + 1) / o < ps.length + 1 := Nat.div_lt_self (by omega) (by omega)
    exact ⟨ps.length + 1 - (ps.length + 1) / o - 1, by omega⟩
  rw [hk, List.take_succ_cons, List.sum_cons]
  have : 0 ≤ ((dsc ps).take k).sum := by
    have : ∀ l : List Int, (∀ x ∈ l, 0 ≤ x) → 0 ≤ l.sum := fun l => by
      induction l with
      | nil => exact fun _ => Int.le_refl _
      | cons a l ih =>
        intro hh
        rw [List.sum_cons]
        have := hh a List.mem_cons_self
        have := ih fun x hx => hh x (List.mem_cons_of_mem _ hx)
        omega
    exact this _ fun x hx => h x (dsc_mem.mp (List.mem_of_mem_take hx))
  omega
/-! ### a search by halves -/
theorem while_half {c : ET} {b : SM} (P : Int → Int → Sl → Prop) (hs : ∀ lo hi δ, P lo hi δ → lo < hi → (c δ = some (decide (1 < hi - lo), δ)) ∧ (1 < hi - lo → ∃ δ2, b δ = some (.nx δ2) ∧ (P ((lo + hi) / 2) hi δ2 ∨ P lo ((lo + hi) / 2) δ2))) :
    ∀ (k n : Nat) (lo hi : Int) (δ : Sl), P lo hi δ → lo < hi → hi - lo ≤ 2 ^ k → k < n → ∃ lo' δ', whileTurns c b n δ = some (.nx δ') ∧ P lo' (lo' + 1) δ'
  | k, 0, lo, hi, δ, _, _, _, hn => absurd hn (Nat.not_lt_zero _)
  | k, n + 1, lo, hi, δ, h, hlt, hk, hn => by
    obtain ⟨e1, e2⟩ := hs lo hi δ h hlt
    unfold whileTurns
    rw [e1]
    by_cases hc : 1 < hi - lo
    · obtain ⟨δ2, e3, h3⟩ := e2 hc
      rw [decide_eq_true hc]
      dsimp only
      rw [e3]
      dsimp only
      cases k with
      | zero =>
        have : (2 : Int) ^ 0 = 1 := by decide
        omega
      | succ k =>
        have hp : (2 : Int) ^ (k + 1) = 2 * 2 ^ k := by rw [Int.pow_succ, Int.mul_comm]
        rcases h3 with h3 | h3
        · exact while_half P hs k n _ _ δ2 h3 (by omega) (by omega) (by omega)
        · exact while_half P hs k n _ _ δ2 h3 (by omega) (by omega) (by omega)
    · rw [decide_eq_false hc]
      have : hi = lo + 1 := by omega
      subst this
      exact ⟨lo, δ, rfl, h⟩
/-- the first price with which the cost is at least total -/
structure First (o : Nat) (ps : List Int) (total r : Int) : Prop where
  low : 1 ≤ r
  high : r ≤ 1000001
  below : ∀ p, 1 ≤ p → p < r → costW o ps p < total
  at_ : r ≤ 1000000 → total ≤ costW o ps r
theorem cost_of_dsc {o : Nat} (h1 : 0 < o) (h2 : o < 1000) (ps : List Int) (p : Int) (hl : ps.length ≤ 1000) : gAdd (ti ps) (.tuple [.int p]) = some (.fz (ti (ps ++ [p]))) := by
  rw [gAdd_tuple (by rw [ints_len]; simp only [List.length_singleton]; exact lim_of' hl), show [PyData.int p] = intz [p] from rfl, ← ints_append]
theorem first_price_spec {o : Nat} (h1 : 2 ≤ o) (h2 : o ≤ 9) {ps : List Int} (hp : ∀ p ∈ ps, 0 ≤ p) (hl : ps.length ≤ 1000) (total : Int) : ∃ r, F_first_price [.fz (.int o), .fz (ti ps), .fz (.int total)] = some (.ret (.fz (.int r)) []) ∧ First o ps total r := by
  have s1 : b_first_price_1 [some (.fz (.int o)), some (.fz (ti ps)), some (.fz (.int total)), none, none, none] = some (.nx [some (.fz (.int o)), some (.fz (ti ps)), some (.fz (.int total)), some (.fz (.int 0)), some (.fz (.int 1000001)), none]) := by
    simp [b_first_price_1, fnOf, DL.start, sSeq, sIf, sAsg_eq, sAsgT, sSet, sRet, sDrop, sRaise, sCallX, sNext, sBreak, sCont, sPar, sPar3, notBr_eq, dTest, dTruthy, toL, toV, ofV, dOp, dUn, dUnE, dC, dLate, dVar, LV.get, slotD, DV.dat, dTup, dLst, aNil, aCons, lNil, lCons, getAll, dCB, dCall, dCallB, dAnd, dOr, dNot, dOfT, dIf, dChain, dMut, isLs, lentOf, tgName_eq, tgNil, tgCons, tgTup, dRange1, dRange2, dIter, itemsD, dYes, LIM, two62, p64]
  obtain ⟨lo, δ', s2, x5, rfl, q1, q2, q3, q4, h5⟩ := while_half (c := dTest (toL (toV (dOp gGt (toL (toV (dOp gSubI (dLate 4) (dLate 3)))) (toL (dC (.int 1))))))) (b := b_first_price_2b)
    (fun lo hi δ => ∃ x5, δ = [some (.fz (.int o)), some (.fz (ti ps)), some (.fz (.int total)), some (.fz (.int lo)), some (.fz (.int hi)), x5] ∧ 0 ≤ lo ∧ hi ≤ 1000001 ∧ (lo = 0 ∨ costW o ps lo < total) ∧ (hi = 1000001 ∨ total ≤ costW o ps hi) ∧ nb x5 = true)
    (fun lo hi δ ⟨x5, e, q1, q2, q3, q4, h5⟩ hlt => by
      subst e
      refine ⟨by simp [fnOf, DL.start, sSeq, sIf, sAsg_eq, sAsgT, sSet, sRet, sDrop, sRaise, sCallX, sNext, sBreak, sCont, sPar, sPar3, notBr_eq, dTest, dTruthy, toL, toV, ofV, dOp, dUn, dUnE, dC, dLate, dVar, LV.get, slotD, DV.dat, dTup, dLst, aNil, aCons, lNil, lCons, getAll, dCB, dCall, dCallB, dAnd, dOr, dNot, dOfT, dIf, dChain, dMut, isLs, lentOf, tgName_eq, tgNil, tgCons, tgTup, dRange1, dRange2, dIter, itemsD, dYes, LIM, two62, p64], fun hc => ?_⟩
      have dv : gDivI (.int (lo + hi)) (.int 2) = some (.fz (.int ((lo + hi) / 2))) := gDivI_int (by decide) (by decide)
      have hm : lo < (lo + hi) / 2 ∧ (lo + hi) / 2 < hi := by omega
      generalize (lo + hi) / 2 = mid at *
      have t1 : b_first_price_2b_1 [some (.fz (.int o)), some (.fz (ti ps)), some (.fz (.int total)), some (.fz (.int lo)), some (.fz (.int hi)), x5] = some (.nx [some (.fz (.int o)), some (.fz (ti ps)), some (.fz (.int total)), some (.fz (.int lo)), some (.fz (.int hi)), some (.fz (.int mid))]) := by
        simp [b_first_price_2b_1, fnOf, DL.start, sSeq, sIf, sAsg_eq, sAsgT, sSet, sRet, sDrop, sRaise, sCallX, sNext, sBreak, sCont, sPar, sPar3, notBr_eq, dTest, dTruthy, toL, toV, ofV, dOp, dUn, dUnE, dC, dLate, dVar, LV.get, slotD, DV.dat, dTup, dLst, aNil, aCons, lNil, lCons, getAll, dCB, dCall, dCallB, dAnd, dOr, dNot, dOfT, dIf, dChain, dMut, isLs, lentOf, tgName_eq, tgNil, tgCons, tgTup, dRange1, dRange2, dIter, itemsD, dYes, LIM, two62, p64, dv, h5]
      have ga := cost_of_dsc (o := o) (by omega) (by omega) ps mid hl
      have gc : F_cost_of [.fz (.int o), .fz (ti (dsc (ps ++ [mid])))] = some (.ret (.fz (.int (costW o ps mid))) []) := cost_of_spec (by omega) (by omega) _
      by_cases hg : total ≤ costW o ps mid
      · exact ⟨_, by unfold b_first_price_2b; rw [sSeq_nx t1]; simp [b_first_price_2b_2, fnOf, DL.start, sSeq, sIf, sAsg_eq, sAsgT, sSet, sRet, sDrop, sRaise, sCallX, sNext, sBreak, sCont, sPar, sPar3, notBr_eq, dTest, dTruthy, toL, toV, ofV, dOp, dUn, dUnE, dC, dLate, dVar, LV.get, slotD, DV.dat, dTup, dLst, aNil, aCons, lNil, lCons, getAll, dCB, dCall, dCallB, dAnd, dOr, dNot, dOfT, dIf, dChain, dMut, isLs, lentOf, tgName_eq, tgNil, tgCons, tgTup, dRange1, dRange2, dIter, itemsD, dYes, LIM, two62, p64, ga, descending_spec, gc, hg]; rfl, .inr ⟨_, rfl, q1, by omega, q3, .inr hg, rfl⟩⟩
      · exact ⟨_, by unfold b_first_price_2b; rw [sSeq_nx t1]; simp [b_first_price_2b_2, fnOf, DL.start, sSeq, sIf, sAsg_eq, sAsgT, sSet, sRet, sDrop, sRaise, sCallX, sNext, sBreak, sCont, sPar, sPar3, notBr_eq, dTest, dTruthy, toL, toV, ofV, dOp, dUn, dUnE, dC, dLate, dVar, LV.get, slotD, DV.dat, dTup, dLst, aNil, aCons, lNil, lCons, getAll, dCB, dCall, dCallB, dAnd, dOr, dNot, dOfT, dIf, dChain, dMut, isLs, lentOf, tgName_eq, tgNil, tgCons, tgTup, dRange1, dRange2, dIter, itemsD, dYes, LIM, two62, p64, ga, descending_spec, gc, hg]; rfl, .inl ⟨_, rfl, by omega, q2, .inr (by omega), q4, rfl⟩⟩)
    20 W_first_price 0 1000001 [some (.fz (.int o)), some (.fz (ti ps)), some (.fz (.int total)), some (.fz (.int 0)), some (.fz (.int 1000001)), none] ⟨none, rfl, by decide, by decide, .inl rfl, .inl rfl, rfl⟩ (by decide) (by decide) (by decide)
  have s2' : b_first_price_2 [some (.fz (.int o)), some (.fz (ti ps)), some (.fz (.int total)), some (.fz (.int 0)), some (.fz (.int 1000001)), none] = some (.nx [some (.fz (.int o)), some (.fz (ti ps)), some (.fz (.int total)), some (.fz (.int lo)), some (.fz (.int (lo + 1))), x5]) := s2
  refine ⟨lo + 1, ?_, by omega, by omega, fun p hp1 hp2 => ?_, fun hle => ?_⟩
  · have e0 : DL.start 6 [.fz (.int o), .fz (ti ps), .fz (.int total)] = [some (.fz (.int o)), some (.fz (ti ps)), some (.fz (.int total)), none, none, none] := rfl
    unfold F_first_price b_first_price fnOf
    rw [e0, sSeq_nx s1, sSeq_nx s2']
    simp [b_first_price_3, fnOf, DL.start, sSeq, sIf, sAsg_eq, sAsgT, sSet, sRet, sDrop, sRaise, sCallX, sNext, sBreak, sCont, sPar, sPar3, notBr_eq, dTest, dTruthy, toL, toV, ofV, dOp, dUn, dUnE, dC, dLate, dVar, LV.get, slotD, DV.dat, dTup, dLst, aNil, aCons, lNil, lCons, getAll, dCB, dCall, dCallB, dAnd, dOr, dNot, dOfT, dIf, dChain, dMut, isLs, lentOf, tgName_eq, tgNil, tgCons, tgTup, dRange1, dRange2, dIter, itemsD, dYes, LIM, two62, p64]
  · rcases q3 with z | z
    · omega
    · have := costW_mono (o := o) hp (show 0 ≤ p by omega) (show p ≤ lo by omega)
      omega
  · rcases q4 with z | z
    · omega
    · exact z
end FT
set_option Elab.async false
set_option linter.all false
/-! Offers and prices that explain a total. -/
namespace FT
open PySem DL
/-- lo, lo + 1, .. -/
def span (lo : Int) (n : Nat) : List Int := (List.range n).map fun i => lo + ((i : Nat) : Int)
theorem rangeD_span (lo : Int) (n : Nat) : rangeD lo n = intz (span lo n) := by
  unfold rangeD span intz
  rw [List.map_map]
  rfl
theorem span_len (lo : Int) (n : Nat) : (span lo n).length = n := by simp [span]
theorem mem_span {lo : Int} {n : Nat} {i : Int} : i ∈ span lo n ↔ lo ≤ i ∧ i < lo + n := by
  unfold span
  rw [List.mem_map]
  constructor
  · rintro ⟨j, hj, rfl⟩
    have := List.mem_range.mp hj
    omega
  · rintro ⟨h0, h1⟩
    exact ⟨(i - lo).toNat, List.mem_range.mpr (by omega), by omega⟩
theorem span_inc (lo : Int) (n : Nat) : (span lo n).Pairwise (· < ·) := by
  unfold span
  refine List.Pairwise.map _ (fun a b hab => ?_) List.pairwise_lt_range
  have := Int.ofNat_lt.mpr hab
  omega
theorem range2_gen {f g : EL} {δ δ1 δ2 : Sl} {x y : LV} {a b : Int} {n : Nat} (hf : f δ = some (x, δ1)) (hg : g δ1 = some (y, δ2)) (hx : x.get δ2 = some (.int a)) (hy : y.get δ2 = some (.int b)) (ha : -1000 ≤ a ∧ a ≤ 1000) (hb : b = a + n) (hn : n ≤ 1000) :
    dRange2 (lCons f (lCons g lNil)) δ = some (intz (span a n), δ2) := by
  have h1 : (-two62 : Int) ≤ -1000 := by decide
  have h2 : (2000 : Int) < two62 := by decide
  have h3 : (b - a).toNat = n := by omega
  have h4 : -two62 ≤ a ∧ a < two62 ∧ -two62 ≤ b ∧ b < two62 := ⟨by omega, by omega, by omega, by omega⟩
  rw [← rangeD_span]
  unfold dRange2 lCons lNil
  rw [hf]
  dsimp only
  rw [hg]
  dsimp only [getAll]
  rw [hx, hy]
  dsimp only
  rw [if_pos h4, h3]
/-- the least and the greatest of the sorted -/
theorem head_inc {l : List Int} (h : l.Pairwise (· < ·)) {x : Int} (hx : x ∈ l) (hm : ∀ y ∈ l, x ≤ y) : l[0]? = some x := by
  cases l with
  | nil => cases hx
  | cons a l =>
    rcases List.mem_cons.mp hx with e | e
    · rw [e]
      rfl
    · have h1 := (List.pairwise_cons.mp h).1 x e
      have h2 := hm a List.mem_cons_self
      omega
theorem last_inc {l : List Int} (h : l.Pairwise (· < ·)) {x : Int} (hx : x ∈ l) (hm : ∀ y ∈ l, y ≤ x) (hne : l ≠ []) : l.getLast hne = x := by
  have e := List.dropLast_concat_getLast hne
  rcases List.mem_append.mp (by rw [e]; exact hx : x ∈ l.dropLast ++ [l.getLast hne]) with q | q
  · rw [← e] at h
    have h1 := (List.pairwise_append.mp h).2.2 x q _ (List.mem_singleton.mpr rfl)
    have h2 := hm _ (List.getLast_mem hne)
    omega
  · exact (List.mem_singleton.mp q).symm
theorem gIx_last_li {ns : List Int} (h : ns ≠ []) : gIx (li ns) (.int (-1)) = some (.fz (.int (ns.getLast h))) := by
  have h1 : 0 < ns.length := List.length_pos_iff.mpr h
  have e := gIx_last_ti h
  exact e
/-- three turns of which the last one leaves something -/
theorem three_turns {s : Nat} {body : SM} (P : Bool → Sl → Prop) {δ0 : Sl} (h0 : P false δ0) (hs : ∀ (j : Bool) (z : Int) δ, P j δ → ∃ δ1 δ2, tgName s (.int z) δ = some δ1 ∧ (body δ1 = some (.nx δ2) ∨ body δ1 = some (.ct δ2)) ∧ P true δ2) :
    ∃ δ', sFor (dRange1 (lCons (toL (dC (.int 3))) lNil)) (tgName s) body δ0 = some (.nx δ') ∧ P true δ' := by
  obtain ⟨δ', e, h⟩ := for_range (t := tgName s) (b := body) (fun i => P (decide (0 < i))) 0 3 δ0 h0 fun i hi δ hp => by
    obtain ⟨δ1, δ2, e1, e2, h2⟩ := hs _ (0 + (i : Nat)) δ hp
    exact ⟨δ1, δ2, e1, e2, by rw [decide_eq_true (Nat.succ_pos i)]; exact h2⟩
  refine ⟨δ', ?_, h⟩
  exact (sFor_run (range1_nat (n := 3) (by decide) δ0)).trans e
/-! ### totals -/
theorem pow_8 : gPowI (.int 10) (.int 8) = some (.fz (.int 100000000)) := by exact id rfl
theorem require_total_spec {d : D} (h : NoDict d) : F_require_total [.fz d] = some (if isIntD 0 100000000 d = true then .ret (.fz .none) [] else .ex "InvalidNumber") := by
  cases hb : isIntD 0 100000000 d <;> simp [F_require_total, b_require_total, b_require_total_1, fnOf, DL.start, sSeq, sIf, sAsg_eq, sAsgT, sSet, sRet, sDrop, sRaise, sCallX, sNext, sBreak, sCont, sPar, sPar3, notBr_eq, dTest, dTruthy, toL, toV, ofV, dOp, dUn, dUnE, dC, dLate, dVar, LV.get, slotD, DV.dat, dTup, dLst, aNil, aCons, lNil, lCons, getAll, dCB, dCall, dCallB, dAnd, dOr, dNot, dOfT, dIf, dChain, dMut, isLs, lentOf, tgName_eq, tgNil, tgCons, tgTup, dRange1, dRange2, dIter, itemsD, dYes, LIM, two62, p64, is_integer_spec h, hb]
theorem require_total_ok {t : Int} (h1 : 0 ≤ t) (h2 : t ≤ 100000000) : F_require_total [.fz (.int t)] = some (.ret (.fz .none) []) := by
  rw [require_total_spec (nd_int t)]
  simp [isIntD, h1, h2]
theorem require_room_ok {n : Nat} (h : n ≤ 30) : F_require_room [.fz (.int n)] = some (.ret (.fz .none) []) := by
  have : ¬ (30 : Int) < (n : Int) := by omega
  simp [F_require_room, b_require_room, b_require_room_1, fnOf, DL.start, sSeq, sIf, sAsg_eq, sAsgT, sSet, sRet, sDrop, sRaise, sCallX, sNext, sBreak, sCont, sPar, sPar3, notBr_eq, dTest, dTruthy, toL, toV, ofV, dOp, dUn, dUnE, dC, dLate, dVar, LV.get, slotD, DV.dat, dTup, dLst, aNil, aCons, lNil, lCons, getAll, dCB, dCall, dCallB, dAnd, dOr, dNot, dOfT, dIf, dChain, dMut, isLs, lentOf, tgName_eq, tgNil, tgCons, tgTup, dRange1, dRange2, dIter, itemsD, dYes, LIM, two62, p64, this]
theorem require_room_err {n : Nat} (h : 30 < n) : F_require_room [.fz (.int n)] = some (.ex "TooMany") := by
  have : (30 : Int) < (n : Int) := by omega
  simp [F_require_room, b_require_room, b_require_room_1, fnOf, DL.start, sSeq, sIf, sAsg_eq, sAsgT, sSet, sRet, sDrop, sRaise, sCallX, sNext, sBreak, sCont, sPar, sPar3, notBr_eq, dTest, dTruthy, toL, toV, ofV, dOp, dUn, dUnE, dC, dLate, dVar, LV.get, slotD, DV.dat, dTup, dLst, aNil, aCons, lNil, lCons, getAll, dCB, dCall, dCallB, dAnd, dOr, dNot, dOfT, dIf, dChain, dMut, isLs, lentOf, tgName_eq, tgNil, tgCons, tgTup, dRange1, dRange2, dIter, itemsD, dYes, LIM, two62, p64, this]
/-! ### offers -/
def offersI (ps : List Int) (t : Int) : List Int := (span 2 8).filter fun o => decide (costOf o.toNat ps = t)
theorem mem_offers {ps : List Int} {t o : Int} : o ∈ offersI ps t ↔ (2 ≤ o ∧ o ≤ 9) ∧ costOf o.toNat ps = t := by
  unfold offersI
  rw [List.mem_filter, mem_span, decide_eq_true_eq]
  constructor
  · rintro ⟨h, h2⟩
    exact ⟨by omega, h2⟩
  · rintro ⟨h, h2⟩
    exact ⟨by omega, h2⟩
theorem offers_len (ps : List Int) (t : Int) : (offersI ps t).length ≤ 1000 := Nat.le_trans (List.length_filter_le _ _) (by rw [span_len]; decide)
theorem offers_comp (ps : List Int) (t : Int) (x : Option DV) : ∃ x', compTurns (tgName 2) (dTest (toL (toV (dOp gEq (toL (toV (dCall F_cost_of (aCons (dVar 2) (aCons (dVar 0) aNil))))) (dLate 1))))) (dVar 2) [2] (intz (span 2 8)) [] [some (.fz (ti ps)), some (.fz (.int t)), x] =
    some (intz (offersI ps t), [some (.fz (ti ps)), some (.fz (.int t)), x']) := by
  obtain ⟨δ', e, x', rfl⟩ := compTurns_ofIf (t := tgName 2) (c := dTest (toL (toV (dOp gEq (toL (toV (dCall F_cost_of (aCons (dVar 2) (aCons (dVar 0) aNil))))) (dLate 1))))) (e := dVar 2) (vs := [2]) (fun δ => ∃ x', δ = [some (.fz (ti ps)), some (.fz (.int t)), x']) PyData.int PyData.int (fun o => decide (costOf o.toNat ps = t)) (span 2 8)
    [some (.fz (ti ps)), some (.fz (.int t)), x] ⟨x, rfl⟩ fun o ho δ ⟨x', e⟩ => by
      subst e
      have hm := mem_span.mp ho
      obtain ⟨k, rfl⟩ := Int.eq_ofNat_of_zero_le (show 0 ≤ o by omega)
      have hc := cost_of_spec (o := k) (by omega) (by omega) ps
      rw [Int.toNat_natCast]
      generalize (k : Int) = kz at *
      exact ⟨[some (.fz (ti ps)), some (.fz (.int t)), some (.fz (.int kz))], [some (.fz (ti ps)), some (.fz (.int t)), some (.fz (.int kz))], by simp [wipeD, fnOf, DL.start, sSeq, sIf, sAsg_eq, sAsgT, sSet, sRet, sDrop, sRaise, sCallX, sNext, sBreak, sCont, sPar, sPar3, notBr_eq, dTest, dTruthy, toL, toV, ofV, dOp, dUn, dUnE, dC, dLate, dVar, LV.get, slotD, DV.dat, dTup, dLst, aNil, aCons, lNil, lCons, getAll, dCB, dCall, dCallB, dAnd, dOr, dNot, dOfT, dIf, dChain, dMut, isLs, lentOf, tgName_eq, tgNil, tgCons, tgTup, dRange1, dRange2, dIter, itemsD, dYes, LIM, two62, p64], by simp [fnOf, DL.start, sSeq, sIf, sAsg_eq, sAsgT, sSet, sRet, sDrop, sRaise, sCallX, sNext, sBreak, sCont, sPar, sPar3, notBr_eq, dTest, dTruthy, toL, toV, ofV, dOp, dUn, dUnE, dC, dLate, dVar, LV.get, slotD, DV.dat, dTup, dLst, aNil, aCons, lNil, lCons, getAll, dCB, dCall, dCallB, dAnd, dOr, dNot, dOfT, dIf, dChain, dMut, isLs, lentOf, tgName_eq, tgNil, tgCons, tgTup, dRange1, dRange2, dIter, itemsD, dYes, LIM, two62, p64, hc], fun _ => ⟨_, rfl⟩, fun _ => ⟨_, by simp [fnOf, DL.start, sSeq, sIf, sAsg_eq, sAsgT, sSet, sRet, sDrop, sRaise, sCallX, sNext, sBreak, sCont, sPar, sPar3, notBr_eq, dTest, dTruthy, toL, toV, ofV, dOp, dUn, dUnE, dC, dLate, dVar, LV.get, slotD, DV.dat, dTup, dLst, aNil, aCons, lNil, lCons, getAll, dCB, dCall, dCallB, dAnd, dOr, dNot, dOfT, dIf, dChain, dMut, isLs, lentOf, tgName_eq, tgNil, tgCons, tgTup, dRange1, dRange2, dIter, itemsD, dYes, LIM, two62, p64]; rfl, by exact ⟨_, rfl⟩⟩⟩
  exact ⟨x', e⟩
theorem possible_offers_spec {ps : List Int} (h : Bk 1000000 ps) (hl : ps.length ≤ 30) {t : Int} (h1 : 0 ≤ t) (h2 : t ≤ 100000000) : F_possible_offers [.fz (ti ps), .fz (.int t)] = some (.ret (.mt (intz (offersI ps t))) []) := by
  obtain ⟨x', e⟩ := offers_comp ps t none
  have rg : dRange2 (lCons (toL (dC (.int 2))) (lCons (toL (dC (.int 10))) lNil)) [some (.fz (ti ps)), some (.fz (.int t)), none] = some (intz (span 2 8), [some (.fz (ti ps)), some (.fz (.int t)), none]) := range2_gen (x := .val (.int 2)) (y := .val (.int 10)) rfl rfl rfl rfl (by decide) (by decide) (by decide)
  have cm := dComp_run rg (by simp [calmAt_eq]) (by rw [ints_len, span_len]; exact lim_of (by decide)) e
  simp [F_possible_offers, b_possible_offers, b_possible_offers_1, b_possible_offers_2, b_possible_offers_3, fnOf, DL.start, sSeq, sIf, sAsg_eq, sAsgT, sSet, sRet, sDrop, sRaise, sCallX, sNext, sBreak, sCont, sPar, sPar3, notBr_eq, dTest, dTruthy, toL, toV, ofV, dOp, dUn, dUnE, dC, dLate, dVar, LV.get, slotD, DV.dat, dTup, dLst, aNil, aCons, lNil, lCons, getAll, dCB, dCall, dCallB, dAnd, dOr, dNot, dOfT, dIf, dChain, dMut, isLs, lentOf, tgName_eq, tgNil, tgCons, tgTup, dIter, itemsD, dYes, LIM, require_basket_ok h hl, require_total_ok h1 h2, cm, restore]
theorem offers_err {ps : List Int} (h : Bk 1000000 ps) (hl : ps.length ≤ 30) {d : D} (hd : NoDict d) (he : isIntD 0 100000000 d = false) : F_possible_offers [.fz (ti ps), .fz d] = some (.ex "InvalidNumber") := by
  simp [F_possible_offers, b_possible_offers, b_possible_offers_1, b_possible_offers_2, b_possible_offers_3, fnOf, DL.start, sSeq, sIf, sAsg_eq, sAsgT, sSet, sRet, sDrop, sRaise, sCallX, sNext, sBreak, sCont, sPar, sPar3, notBr_eq, dTest, dTruthy, toL, toV, ofV, dOp, dUn, dUnE, dC, dLate, dVar, LV.get, slotD, DV.dat, dTup, dLst, aNil, aCons, lNil, lCons, getAll, dCB, dCall, dCallB, dAnd, dOr, dNot, dOfT, dIf, dChain, dMut, isLs, lentOf, tgName_eq, tgNil, tgCons, tgTup, dIter, itemsD, dYes, LIM, require_basket_ok h hl, require_total_spec hd, he]
/-! ### prices -/
def toldD (lo hi : Int) : D := if lo ≤ hi then .tuple [.int lo, .int hi] else .none
theorem possible_prices_spec {o : Nat} (o1 : 2 ≤ o) (o2 : o ≤ 9) {ps : List Int} (h : Bk 1000000 ps) (hl : ps.length ≤ 29) {t : Int} (h1 : 0 ≤ t) (h2 : t ≤ 100000000) :
    ∃ lo hi, First o ps t lo ∧ First o ps (t + 1) (hi + 1) ∧ F_possible_prices [.fz (.int o), .fz (ti ps), .fz (.int t)] = some (.ret (.fz (toldD lo hi)) []) := by
  obtain ⟨lo, e1, f1⟩ := first_price_spec o1 o2 (ps := ps) (fun p hp => by have := h.rng p hp; omega) (by omega) t
  obtain ⟨hi1, e2, f2⟩ := first_price_spec o1 o2 (ps := ps) (fun p hp => by have := h.rng p hp; omega) (by omega) (t + 1)
  refine ⟨lo, hi1 - 1, f1, by rw [Int.sub_add_cancel]; exact f2, ?_⟩
  have ro := require_room_ok (n := ps.length + 1) (by omega)
  have rf := require_offer_ok (o := (o : Int)) (by omega) (by omega)
  have s4 : b_possible_prices_4 [some (.fz (.int o)), some (.fz (ti ps)), some (.fz (.int t)), none, none] = some (.nx [some (.fz (.int o)), some (.fz (ti ps)), some (.fz (.int t)), none, none]) := by
    rw [Int.natCast_add] at ro
    have ro : F_require_room [.fz (.int ((ps.length : Int) + 1))] = some (.ret (.fz .none) []) := ro
    generalize hz : (ps.length : Int) = z at *
    simp [b_possible_prices_4, fnOf, DL.start, sSeq, sIf, sAsg_eq, sAsgT, sSet, sRet, sDrop, sRaise, sCallX, sNext, sBreak, sCont, sPar, sPar3, notBr_eq, dTest, dTruthy, toL, toV, ofV, dOp, dUn, dUnE, dC, dLate, dVar, LV.get, slotD, DV.dat, dTup, dLst, aNil, aCons, lNil, lCons, getAll, dCB, dCall, dCallB, dAnd, dOr, dNot, dOfT, dIf, dChain, dMut, isLs, lentOf, tgName_eq, tgNil, tgCons, tgTup, dIter, itemsD, dYes, LIM, hz, ro]
  generalize (o : Int) = oz at *
  have s1 : b_possible_prices_1 [some (.fz (.int oz)), some (.fz (ti ps)), some (.fz (.int t)), none, none] = some (.nx [some (.fz (.int oz)), some (.fz (ti ps)), some (.fz (.int t)), none, none]) := by
    simp [b_possible_prices_1, fnOf, DL.start, sSeq, sIf, sAsg_eq, sAsgT, sSet, sRet, sDrop, sRaise, sCallX, sNext, sBreak, sCont, sPar, sPar3, notBr_eq, dTest, dTruthy, toL, toV, ofV, dOp, dUn, dUnE, dC, dLate, dVar, LV.get, slotD, DV.dat, dTup, dLst, aNil, aCons, lNil, lCons, getAll, dCB, dCall, dCallB, dAnd, dOr, dNot, dOfT, dIf, dChain, dMut, isLs, lentOf, tgName_eq, tgNil, tgCons, tgTup, dIter, itemsD, dYes, LIM, rf]
  have s2 : b_possible_prices_2 [some (.fz (.int oz)), some (.fz (ti ps)), some (.fz (.int t)), none, none] = some (.nx [some (.fz (.int oz)), some (.fz (ti ps)), some (.fz (.int t)), none, none]) := by
    simp [b_possible_prices_2, fnOf, DL.start, sSeq, sIf, sAsg_eq, sAsgT, sSet, sRet, sDrop, sRaise, sCallX, sNext, sBreak, sCont, sPar, sPar3, notBr_eq, dTest, dTruthy, toL, toV, ofV, dOp, dUn, dUnE, dC, dLate, dVar, LV.get, slotD, DV.dat, dTup, dLst, aNil, aCons, lNil, lCons, getAll, dCB, dCall, dCallB, dAnd, dOr, dNot, dOfT, dIf, dChain, dMut, isLs, lentOf, tgName_eq, tgNil, tgCons, tgTup, dIter, itemsD, dYes, LIM, require_basket_ok h (show ps.length ≤ 30 by omega)]
  have s3 : b_possible_prices_3 [some (.fz (.int oz)), some (.fz (ti ps)), some (.fz (.int t)), none, none] = some (.nx [some (.fz (.int oz)), some (.fz (ti ps)), some (.fz (.int t)), none, none]) := by
    simp [b_possible_prices_3, fnOf, DL.start, sSeq, sIf, sAsg_eq, sAsgT, sSet, sRet, sDrop, sRaise, sCallX, sNext, sBreak, sCont, sPar, sPar3, notBr_eq, dTest, dTruthy, toL, toV, ofV, dOp, dUn, dUnE, dC, dLate, dVar, LV.get, slotD, DV.dat, dTup, dLst, aNil, aCons, lNil, lCons, getAll, dCB, dCall, dCallB, dAnd, dOr, dNot, dOfT, dIf, dChain, dMut, isLs, lentOf, tgName_eq, tgNil, tgCons, tgTup, dIter, itemsD, dYes, LIM, require_total_ok h1 h2]
  have s5 : b_possible_prices_5 [some (.fz (.int oz)), some (.fz (ti ps)), some (.fz (.int t)), none, none] = some (.nx [some (.fz (.int oz)), some (.fz (ti ps)), some (.fz (.int t)), some (.fz (.int lo)), some (.fz (.int (hi1 - 1)))]) := by
    simp [b_possible_prices_5, fnOf, DL.start, sSeq, sIf, sAsg_eq, sAsgT, sSet, sRet, sDrop, sRaise, sCallX, sNext, sBreak, sCont, sPar, sPar3, notBr_eq, dTest, dTruthy, toL, toV, ofV, dOp, dUn, dUnE, dC, dLate, dVar, LV.get, slotD, DV.dat, dTup, dLst, aNil, aCons, lNil, lCons, getAll, dCB, dCall, dCallB, dAnd, dOr, dNot, dOfT, dIf, dChain, dMut, isLs, lentOf, tgName_eq, tgNil, tgCons, tgTup, dIter, itemsD, dYes, LIM, e1, e2]
  have e0 : DL.start 5 [.fz (.int oz), .fz (ti ps), .fz (.int t)] = [some (.fz (.int oz)), some (.fz (ti ps)), some (.fz (.int t)), none, none] := rfl
  unfold F_possible_prices b_possible_prices fnOf
  rw [e0, sSeq_nx s1, sSeq_nx s2, sSeq_nx s3, sSeq_nx s4, sSeq_nx s5]
  by_cases hc : lo ≤ hi1 - 1
  · simp [b_possible_prices_6, fnOf, DL.start, sSeq, sIf, sAsg_eq, sAsgT, sSet, sRet, sDrop, sRaise, sCallX, sNext, sBreak, sCont, sPar, sPar3, notBr_eq, dTest, dTruthy, toL, toV, ofV, dOp, dUn, dUnE, dC, dLate, dVar, LV.get, slotD, DV.dat, dTup, dLst, aNil, aCons, lNil, lCons, getAll, dCB, dCall, dCallB, dAnd, dOr, dNot, dOfT, dIf, dChain, dMut, isLs, lentOf, tgName_eq, tgNil, tgCons, tgTup, dIter, itemsD, dYes, LIM, hc, toldD]
  · simp [b_possible_prices_6, fnOf, DL.start, sSeq, sIf, sAsg_eq, sAsgT, sSet, sRet, sDrop, sRaise, sCallX, sNext, sBreak, sCont, sPar, sPar3, notBr_eq, dTest, dTruthy, toL, toV, ofV, dOp, dUn, dUnE, dC, dLate, dVar, LV.get, slotD, DV.dat, dTup, dLst, aNil, aCons, lNil, lCons, getAll, dCB, dCall, dCallB, dAnd, dOr, dNot, dOfT, dIf, dChain, dMut, isLs, lentOf, tgName_eq, tgNil, tgCons, tgTup, dIter, itemsD, dYes, LIM, hc, toldD]
theorem prices_err {ps : List Int} (h : Bk 1000000 ps) (hl : ps.length ≤ 30) {d : D} (hd : NoDict d) (he : isIntD 0 100000000 d = false) : F_possible_prices [.fz (.int 3), .fz (ti ps), .fz d] = some (.ex "InvalidNumber") := by
  simp [F_possible_prices, b_possible_prices, b_possible_prices_1, b_possible_prices_2, b_possible_prices_3, fnOf, DL.start, sSeq, sIf, sAsg_eq, sAsgT, sSet, sRet, sDrop, sRaise, sCallX, sNext, sBreak, sCont, sPar, sPar3, notBr_eq, dTest, dTruthy, toL, toV, ofV, dOp, dUn, dUnE, dC, dLate, dVar, LV.get, slotD, DV.dat, dTup, dLst, aNil, aCons, lNil, lCons, getAll, dCB, dCall, dCallB, dAnd, dOr, dNot, dOfT, dIf, dChain, dMut, isLs, lentOf, tgName_eq, tgNil, tgCons, tgTup, dIter, itemsD, dYes, LIM, require_offer_ok (o := 3) (by decide) (by decide), require_basket_ok h hl, require_total_spec hd, he]
theorem prices_many {ps : List Int} (h : Bk 1000000 ps) (hl : ps.length = 30) {t : Int} (h1 : 0 ≤ t) (h2 : t ≤ 100000000) : F_possible_prices [.fz (.int 3), .fz (ti ps), .fz (.int t)] = some (.ex "TooMany") := by
  have ro : F_require_room [.fz (.int 31)] = some (.ex "TooMany") := require_room_err (n := 31) (by decide)
  simp [F_possible_prices, b_possible_prices, b_possible_prices_1, b_possible_prices_2, b_possible_prices_3, b_possible_prices_4, fnOf, DL.start, sSeq, sIf, sAsg_eq, sAsgT, sSet, sRet, sDrop, sRaise, sCallX, sNext, sBreak, sCont, sPar, sPar3, notBr_eq, dTest, dTruthy, toL, toV, ofV, dOp, dUn, dUnE, dC, dLate, dVar, LV.get, slotD, DV.dat, dTup, dLst, aNil, aCons, lNil, lCons, getAll, dCB, dCall, dCallB, dAnd, dOr, dNot, dOfT, dIf, dChain, dMut, isLs, lentOf, tgName_eq, tgNil, tgCons, tgTup, dIter, itemsD, dYes, LIM, require_offer_ok (o := 3) (by decide) (by decide), require_basket_ok h (by omega), require_total_ok h1 h2, hl, ro]
/-! ### what the ends mean -/
theorem told_iff {o : Nat} {ps : List Int} (hp : ∀ p ∈ ps, 0 ≤ p) {t lo hi : Int} (f1 : First o ps t lo) (f2 : First o ps (t + 1) (hi + 1)) {p : Int} (h1 : 1 ≤ p) (h2 : p ≤ 1000000) : costW o ps p = t ↔ lo ≤ p ∧ p ≤ hi := by
  constructor
  · intro e
    refine ⟨?_, ?_⟩
    · rcases Int.lt_or_le p lo with c | c
      · have := f1.below p h1 c
        omega
      · exact c
    · rcases Int.lt_or_le hi p with c | c
      · have q1 := f2.at_ (by omega)
        have q2 := costW_mono (o := o) hp (show 0 ≤ hi + 1 by have := f2.low; omega) (show hi + 1 ≤ p by omega)
        omega
      · exact c
  · rintro ⟨q1, q2⟩
    have a1 := f1.at_ (by omega)
    have a2 := costW_mono (o := o) hp (show 0 ≤ lo by have := f1.low; omega) q1
    have a3 := f2.below p h1 (by omega)
    omega
end FT
set_option Elab.async false
set_option linter.all false
/-! Runs step by step; comprehensions whose elements leave the slots as they were. -/
namespace FT
open PySem DL
/-! ### steps -/
/-- m runs on, to a state with Q -/
def Go (m : SM) (δ : Sl) (Q : Sl → Prop) : Prop := ∃ δ', m δ = some (.nx δ') ∧ Q δ'
def Gives (m : SM) (δ : Sl) (Q : DV → Sl → Prop) : Prop := ∃ r δ', m δ = some (.rt r δ') ∧ Q r δ'
theorem Go.seq {a b : SM} {δ δ1 : Sl} {Q : Sl → Prop} (h : a δ = some (.nx δ1)) (k : Go b δ1 Q) : Go (sSeq a b) δ Q := by
  obtain ⟨δ', e, q⟩ := k
  exact ⟨δ', by rw [sSeq_nx h]; exact e, q⟩
theorem Go.sq {a b : SM} {δ : Sl} {P Q : Sl → Prop} (h : Go a δ P) (k : ∀ δ1, P δ1 → Go b δ1 Q) : Go (sSeq a b) δ Q := by
  obtain ⟨δ1, e, p⟩ := h
  exact Go.seq e (k δ1 p)
theorem Go.one {a : SM} {δ δ1 : Sl} {Q : Sl → Prop} (h : a δ = some (.nx δ1)) (q : Q δ1) : Go a δ Q := ⟨δ1, h, q⟩
theorem Go.imp {a : SM} {δ : Sl} {P Q : Sl → Prop} (h : Go a δ P) (k : ∀ δ1, P δ1 → Q δ1) : Go a δ Q := by
  obtain ⟨δ1, e, p⟩ := h
  exact ⟨δ1, e, k δ1 p⟩
theorem Go.iff_t {c : ET} {a b : SM} {δ δ1 : Sl} {Q : Sl → Prop} (h : c δ = some (true, δ1)) (k : Go a δ1 Q) : Go (sIf c a b) δ Q := by
  obtain ⟨δ', e, q⟩ := k
  exact ⟨δ', by rw [sIf_t h]; exact e, q⟩
theorem Go.iff_f {c : ET} {a b : SM} {δ δ1 : Sl} {Q : Sl → Prop} (h : c δ = some (false, δ1)) (k : Go b δ1 Q) : Go (sIf c a b) δ Q := by
  obtain ⟨δ', e, q⟩ := k
  exact ⟨δ', by rw [sIf_f h]; exact e, q⟩
theorem Gives.seq {a b : SM} {δ δ1 : Sl} {Q : DV → Sl → Prop} (h : a δ = some (.nx δ1)) (k : Gives b δ1 Q) : Gives (sSeq a b) δ Q := by
  obtain ⟨r, δ', e, q⟩ := k
  exact ⟨r, δ', by rw [sSeq_nx h]; exact e, q⟩
theorem Gives.sq {a b : SM} {δ : Sl} {P : Sl → Prop} {Q : DV → Sl → Prop} (h : Go a δ P) (k : ∀ δ1, P δ1 → Gives b δ1 Q) : Gives (sSeq a b) δ Q := by
  obtain ⟨δ1, e, p⟩ := h
  exact Gives.seq e (k δ1 p)
theorem Gives.one {a : SM} {δ δ1 : Sl} {r : DV} {Q : DV → Sl → Prop} (h : a δ = some (.rt r δ1)) (q : Q r δ1) : Gives a δ Q := ⟨r, δ1, h, q⟩
/-- the first part returns already -/
theorem Gives.fst {a b : SM} {δ : Sl} {Q : DV → Sl → Prop} (h : Gives a δ Q) : Gives (sSeq a b) δ Q := by
  obtain ⟨r, δ1, e, q⟩ := h
  exact ⟨r, δ1, by simp only [sSeq, e], q⟩
theorem Gives.imp {a : SM} {δ : Sl} {P Q : DV → Sl → Prop} (h : Gives a δ P) (k : ∀ r δ1, P r δ1 → Q r δ1) : Gives a δ Q := by
  obtain ⟨r, δ1, e, p⟩ := h
  exact ⟨r, δ1, e, k r δ1 p⟩
theorem Gives.iff_t {c : ET} {a b : SM} {δ δ1 : Sl} {Q : DV → Sl → Prop} (h : c δ = some (true, δ1)) (k : Gives a δ1 Q) : Gives (sIf c a b) δ Q := by
  obtain ⟨r, δ', e, q⟩ := k
  exact ⟨r, δ', by rw [sIf_t h]; exact e, q⟩
theorem Gives.iff_f {c : ET} {a b : SM} {δ δ1 : Sl} {Q : DV → Sl → Prop} (h : c δ = some (false, δ1)) (k : Gives b δ1 Q) : Gives (sIf c a b) δ Q := by
  obtain ⟨r, δ', e, q⟩ := k
  exact ⟨r, δ', by rw [sIf_f h]; exact e, q⟩
theorem fn_gives {n : Nat} {b : SM} {args : List DV} {r : DV} {l : List D} (h : Gives b (DL.start n args) (fun r' δ' => r' = r ∧ lentOf δ' = l)) : fnOf n b args = some (.ret r l) := by
  obtain ⟨r', δ', e, rfl, rfl⟩ := h
  unfold fnOf
  rw [e]
/-- .. a result with R -/
theorem fn_gives' {n : Nat} {b : SM} {args : List DV} {R : DV → List D → Prop} (h : Gives b (DL.start n args) (fun r' δ' => R r' (lentOf δ'))) : ∃ r l, fnOf n b args = some (.ret r l) ∧ R r l := by
  obtain ⟨r', δ', e, q⟩ := h
  exact ⟨r', _, by unfold fnOf; rw [e], q⟩
theorem fn_go {n : Nat} {b : SM} {args : List DV} {l : List D} (h : Go b (DL.start n args) (fun δ' => lentOf δ' = l)) : fnOf n b args = some (.ret (.fz .none) l) := by
  obtain ⟨δ', e, rfl⟩ := h
  unfold fnOf
  rw [e]
/-! ### loops -/
theorem Go.forL {α : Type} {src : EI} {t : ETg} {b : SM} {δ δ1 : Sl} {Q : Sl → Prop} (xs : List α) (g : α → D) (P : List α → Sl → Prop) (hs : src δ = some (xs.map g, δ1)) (h0 : P [] δ1)
    (hb : ∀ pre x post δ, xs = pre ++ x :: post → P pre δ → ∃ δ2, t (g x) δ = some δ2 ∧ Go b δ2 (P (pre ++ [x]))) (k : ∀ δ, P xs δ → Q δ) : Go (sFor src t b) δ Q := by
  have H : ∀ (post pre : List α) (δ : Sl), xs = pre ++ post → P pre δ → ∃ δ', forTurns t b (post.map g) δ = some (.nx δ') ∧ P xs δ' := by
    intro post
    induction post with
    | nil =>
      intro pre δ e h
      rw [List.append_nil] at e
      subst e
      exact ⟨δ, rfl, h⟩
    | cons x post ih =>
      intro pre δ e h
      obtain ⟨δ2, e2, δ3, e3, h3⟩ := hb pre x post δ e h
      obtain ⟨δ', e4, h4⟩ := ih (pre ++ [x]) δ3 (by rw [e, List.append_assoc]; rfl) h3
      refine ⟨δ', ?_, h4⟩
      rw [List.map_cons]
      unfold forTurns
      rw [e2]
      dsimp only
      rw [e3]
      exact e4
  obtain ⟨δ', e, h⟩ := H xs [] δ1 rfl h0
  exact ⟨δ', by rw [sFor_run hs]; exact e, k δ' h⟩
/-- the state after each turn is of one kind -/
theorem Go.forK {α : Type} {src : EI} {t : ETg} {b : SM} {δ δ1 : Sl} {Q : Sl → Prop} (xs : List α) (g : α → D) (hs : src δ = some (xs.map g, δ1)) (h0 : Q δ1)
    (hb : ∀ x ∈ xs, ∀ δ, Q δ → ∃ δ2, t (g x) δ = some δ2 ∧ Go b δ2 Q) : Go (sFor src t b) δ Q :=
  Go.forL xs g (fun _ => Q) hs h0 (fun pre x post δ e h => hb x (by rw [e]; simp) δ h) fun _ h => h
/-- n turns -/
theorem Go.forN {src : EI} {t : ETg} {b : SM} {δ δ1 : Sl} {Q : Sl → Prop} (n : Nat) (P : Nat → Sl → Prop) (hs : src δ = some (intz (upto n), δ1)) (h0 : P 0 δ1)
    (hb : ∀ i δ, i < n → P i δ → ∃ δ2, t (.int (i : Nat)) δ = some δ2 ∧ Go b δ2 (P (i + 1))) (k : ∀ δ, P n δ → Q δ) : Go (sFor src t b) δ Q := by
  have e0 : intz (upto n) = (List.range n).map fun i : Nat => PyData.int (i : Int) := by simp [intz, upto]
  rw [e0] at hs
  refine Go.forL (List.range n) (fun i : Nat => PyData.int (i : Int)) (fun pre => P pre.length) hs h0 (fun pre x post δ e h => ?_) fun δ h => k δ (by rw [List.length_range] at h; exact h)
  have hl := congrArg List.length e
  have hx : x = pre.length := by
    have h1 : (List.range n)[pre.length]? = some x := by
      rw [e, List.getElem?_append_right (Nat.le_refl _), Nat.sub_self]
      rfl
    rw [List.getElem?_range] at h1
    · exact (Option.some.inj h1).symm
    · simp at hl
      omega
  have hn : x < n := by
    have : x ∈ List.range n := by rw [e]; simp
    simpa using this
  subst hx
  obtain ⟨δ2, e2, h2⟩ := hb pre.length δ hn h
  exact ⟨δ2, e2, h2.imp fun δ1 h => by rw [List.length_append, List.length_singleton]; exact h⟩
/-! ### comprehensions -/
theorem wipe1 (δ : Sl) (i : Nat) : wipeD δ [i] = δ.set i none := rfl
theorem restore1 (δ δ' : Sl) (i : Nat) : restore δ [i] δ' = δ'.set i ((δ[i]?).getD none) := rfl
theorem set_back {δ : Sl} {i : Nat} {a y : Option DV} (h : δ[i]? = some a) : (δ.set i y).set i ((δ[i]?).getD none) = δ := by
  rw [List.set_set, h]
  apply List.ext_getElem?
  intro j
  rw [List.getElem?_set]
  split
  · rename_i e
    subst e
    obtain ⟨h1, h2⟩ := List.getElem?_eq_some_iff.mp h
    simp [h1, h2]
  · rfl
theorem tg_at {δ : Sl} {i : Nat} {d : D} {y : Option DV} (h : i < δ.length) (hy : nb y = true) : tgName i d (δ.set i y) = some (δ.set i (some (.fz d))) := by
  rw [tgName_eq, List.getElem?_set_self h]
  dsimp only
  rw [if_pos hy, List.set_set]
theorem dComp_pick {α : Type} {src : EI} {c : ET} {e : EV} {i : Nat} {δ δ1 : Sl} (g f : α → D) (p : α → Bool) (xs : List α) {a : Option DV} (hs : src δ = some (xs.map g, δ1)) (hi : δ1[i]? = some a) (ha : calmB a = true) (hl : xs.length ≤ LIM)
    (hc : ∀ x ∈ xs, c (δ1.set i (some (.fz (g x)))) = some (p x, δ1.set i (some (.fz (g x))))) (he : ∀ x ∈ xs, p x = true → e (δ1.set i (some (.fz (g x)))) = some (f x, δ1.set i (some (.fz (g x))))) :
    dComp src (tgName i) c e [i] δ = some (.mt ((xs.filter p).map f), δ1) := by
  have hlen : i < δ1.length := (List.getElem?_eq_some_iff.mp hi).1
  obtain ⟨δ2, e2, y, e3⟩ := compTurns_ofIf (t := tgName i) (c := c) (e := e) (vs := [i]) (fun δ => ∃ y, δ = δ1.set i y) g f p xs (wipeD δ1 [i]) ⟨none, rfl⟩ fun x hx δ ⟨y, e⟩ => by
    subst e
    refine ⟨δ1.set i (some (.fz (g x))), δ1.set i (some (.fz (g x))), ?_, hc x hx, fun _ => ⟨_, rfl⟩, fun h => ⟨_, he x hx h, _, rfl⟩⟩
    rw [wipe1, List.set_set]
    exact tg_at hlen rfl
  rw [dComp_run hs (by simp [calmAt_eq, hi, ha]) (by rw [List.length_map]; exact hl) e2, restore1, e3, set_back hi]
theorem dComp_map {α : Type} {src : EI} {e : EV} {i : Nat} {δ δ1 : Sl} (g f : α → D) (xs : List α) {a : Option DV} (hs : src δ = some (xs.map g, δ1)) (hi : δ1[i]? = some a) (ha : calmB a = true) (hl : xs.length ≤ LIM)
    (he : ∀ x ∈ xs, e (δ1.set i (some (.fz (g x)))) = some (f x, δ1.set i (some (.fz (g x))))) :
    dComp src (tgName i) dYes e [i] δ = some (.mt (xs.map f), δ1) := by
  have h := dComp_pick (c := dYes) (e := e) g f (fun _ => true) xs hs hi ha hl (fun x hx => rfl) (fun x hx _ => he x hx)
  rw [List.filter_eq_self.mpr (fun _ _ => rfl)] at h
  exact h
theorem set2_back {δ : Sl} {i j : Nat} {a b y z : Option DV} (h : δ[i]? = some a) (h' : δ[j]? = some b) : (((δ.set i y).set j z).set j ((δ[j]?).getD none)).set i ((δ[i]?).getD none) = δ := by
  rw [List.set_set]
  apply List.ext_getElem?
  intro k
  have l1 := (List.getElem?_eq_some_iff.mp h).1
  have l2 := (List.getElem?_eq_some_iff.mp h').1
  rw [List.getElem?_set]
  split
  · rename_i e
    subst e
    obtain ⟨h1, h2⟩ := List.getElem?_eq_some_iff.mp h
    simp [h1, h2]
  · rw [List.getElem?_set]
    split
    · rename_i e
      subst e
      obtain ⟨h1, h2⟩ := List.getElem?_eq_some_iff.mp h'
      simp [h1, h2]
    · rw [List.getElem?_set]
      split
      · rename_i h1 _ e
        exact absurd e h1
      · rfl
/-- two names -/
theorem dComp_pick2 {α : Type} {src : EI} {c : ET} {e : EV} {i j : Nat} {δ δ1 : Sl} (u v f : α → D) (p : α → Bool) (xs : List α) {a b : Option DV} (hij : i ≠ j) (hs : src δ = some (xs.map fun x => pairD (u x) (v x), δ1)) (hi : δ1[i]? = some a) (ha : calmB a = true) (hj : δ1[j]? = some b) (hb : calmB b = true) (hl : xs.length ≤ LIM)
    (hc : ∀ x ∈ xs, c ((δ1.set i (some (.fz (u x)))).set j (some (.fz (v x)))) = some (p x, (δ1.set i (some (.fz (u x)))).set j (some (.fz (v x))))) (he : ∀ x ∈ xs, p x = true → e ((δ1.set i (some (.fz (u x)))).set j (some (.fz (v x)))) = some (f x, (δ1.set i (some (.fz (u x)))).set j (some (.fz (v x))))) :
    dComp src (tgTup (tgCons (tgName i) (tgCons (tgName j) tgNil))) c e [i, j] δ = some (.mt ((xs.filter p).map f), δ1) := by
  have hli : i < δ1.length := (List.getElem?_eq_some_iff.mp hi).1
  have hlj : j < δ1.length := (List.getElem?_eq_some_iff.mp hj).1
  obtain ⟨δ2, e2, y, z, e3⟩ := compTurns_ofIf (t := tgTup (tgCons (tgName i) (tgCons (tgName j) tgNil))) (c := c) (e := e) (vs := [i, j]) (fun δ => ∃ y z, δ = (δ1.set i y).set j z) (fun x => pairD (u x) (v x)) f p xs (wipeD δ1 [i, j]) ⟨none, none, by
      show (δ1.set j none).set i none = _
      rw [List.set_comm _ _ hij]⟩ fun x hx δ ⟨y, z, e⟩ => by
    subst e
    refine ⟨(δ1.set i (some (.fz (u x)))).set j (some (.fz (v x))), (δ1.set i (some (.fz (u x)))).set j (some (.fz (v x))), ?_, hc x hx, fun _ => ⟨_, _, rfl⟩, fun h => ⟨_, he x hx h, _, _, rfl⟩⟩
    show tgTup (tgCons (tgName i) (tgCons (tgName j) tgNil)) (pairD (u x) (v x)) ((((δ1.set i y).set j z).set j none).set i none) = _
    have e1 : (((δ1.set i y).set j z).set j none).set i none = (δ1.set j none).set i none := by
      rw [List.set_set, List.set_comm _ _ (Ne.symm hij), List.set_set, List.set_comm _ _ hij]
    rw [e1]
    show tgCons (tgName i) (tgCons (tgName j) tgNil) [u x, v x] ((δ1.set j none).set i none) = _
    have e2 : tgName i (u x) ((δ1.set j none).set i none) = some ((δ1.set i (some (.fz (u x)))).set j none) := by
      rw [tg_at (by rw [List.length_set]; exact hli) rfl, List.set_comm _ _ (Ne.symm hij)]
    have e4 : tgName j (v x) ((δ1.set i (some (.fz (u x)))).set j none) = some ((δ1.set i (some (.fz (u x)))).set j (some (.fz (v x)))) := tg_at (by rw [List.length_set]; exact hlj) rfl
    simp only [tgCons, tgNil, e2, e4]
  have er : restore δ1 [i, j] δ2 = δ1 := by
    show ((δ2.set j ((δ1[j]?).getD none))).set i ((δ1[i]?).getD none) = δ1
    rw [e3]
    exact set2_back hi hj
  rw [dComp_run hs (by simp [calmAt_eq, hi, ha, hj, hb]) (by rw [List.length_map]; exact hl) e2, er]
theorem dComp_map2 {α : Type} {src : EI} {e : EV} {i j : Nat} {δ δ1 : Sl} (u v f : α → D) (xs : List α) {a b : Option DV} (hij : i ≠ j) (hs : src δ = some (xs.map fun x => pairD (u x) (v x), δ1)) (hi : δ1[i]? = some a) (ha : calmB a = true) (hj : δ1[j]? = some b) (hb : calmB b = true) (hl : xs.length ≤ LIM)
    (he : ∀ x ∈ xs, e ((δ1.set i (some (.fz (u x)))).set j (some (.fz (v x)))) = some (f x, (δ1.set i (some (.fz (u x)))).set j (some (.fz (v x))))) :
    dComp src (tgTup (tgCons (tgName i) (tgCons (tgName j) tgNil))) dYes e [i, j] δ = some (.mt (xs.map f), δ1) := by
  have h := dComp_pick2 (c := dYes) (e := e) u v f (fun _ => true) xs hij hs hi ha hj hb hl (fun x hx => rfl) (fun x hx _ => he x hx)
  rw [List.filter_eq_self.mpr (fun _ _ => rfl)] at h
  exact h
/-- elements that are drawn: the bag is in slot k -/
inductive All2 {α β : Type} (R : α → β → Prop) : List α → List β → Prop
  | nil : All2 R [] []
  | cons {x xs y ys} : R x y → All2 R xs ys → All2 R (x :: xs) (y :: ys)
theorem All2.len {α β : Type} {R : α → β → Prop} {xs : List α} {ys : List β} (h : All2 R xs ys) : xs.length = ys.length := by
  induction h with
  | nil => rfl
  | cons _ _ ih => simp [ih]
theorem All2.all {α β : Type} {P : β → Prop} {R : α → β → Prop} {xs : List α} {ys : List β} (h : All2 R xs ys) (hp : ∀ x y, R x y → P y) : ∀ y ∈ ys, P y := by
  induction h with
  | nil => exact fun y h => by cases h
  | cons h1 _ ih =>
    intro y h
    rcases List.mem_cons.mp h with e | e
    · rw [e]
      exact hp _ _ h1
    · exact ih y e
theorem dComp_draw {α : Type} {src : EI} {e : EV} {i k : Nat} {δ δ1 : Sl} (w : List D → DV) (B : List D → Prop) (g : α → D) (R : α → D → Prop) (xs : List α) {a : Option DV} {b : List D} (hik : i ≠ k) (hs : src δ = some (xs.map g, δ1)) (hi : δ1[i]? = some a) (ha : calmB a = true) (hk : δ1[k]? = some (some (w b))) (hb : B b) (hl : xs.length ≤ LIM)
    (he : ∀ x ∈ xs, ∀ b, B b → ∃ d b', e ((δ1.set k (some (w b))).set i (some (.fz (g x)))) = some (d, (δ1.set k (some (w b'))).set i (some (.fz (g x)))) ∧ B b' ∧ R x d) :
    ∃ ds b', dComp src (tgName i) dYes e [i] δ = some (.mt ds, δ1.set k (some (w b'))) ∧ B b' ∧ All2 R xs ds := by
  have hlen : i < δ1.length := (List.getElem?_eq_some_iff.mp hi).1
  have H : ∀ (xs : List α) (acc : List D) (b : List D) (y : Option DV), B b → (∀ x ∈ xs, ∀ b, B b → ∃ d b', e ((δ1.set k (some (w b))).set i (some (.fz (g x)))) = some (d, (δ1.set k (some (w b'))).set i (some (.fz (g x)))) ∧ B b' ∧ R x d) →
      ∃ ds b' y', compTurns (tgName i) dYes e [i] (xs.map g) acc ((δ1.set k (some (w b))).set i y) = some (acc ++ ds, (δ1.set k (some (w b'))).set i y') ∧ B b' ∧ All2 R xs ds := by
    intro xs
    induction xs with
    | nil => exact fun acc b y hb _ => ⟨[], b, y, by simp [compTurns], hb, .nil⟩
    | cons x xs ih =>
      intro acc b y hb he
      obtain ⟨d, b1, e1, hb1, r⟩ := he x List.mem_cons_self b hb
      obtain ⟨ds, b2, y2, e2, hb2, r2⟩ := ih (acc ++ [d]) b1 (some (.fz (g x))) hb1 fun z hz => he z (List.mem_cons_of_mem _ hz)
      refine ⟨d :: ds, b2, y2, ?_, hb2, .cons r r2⟩
      rw [List.map_cons]
      unfold compTurns
      rw [wipe1, List.set_set, tg_at (by rw [List.length_set]; exact hlen) rfl]
      dsimp only [dYes]
      rw [e1]
      dsimp only
      rw [show acc ++ d :: ds = acc ++ [d] ++ ds by simp]
      exact e2
  have e0 : wipeD δ1 [i] = (δ1.set k (some (w b))).set i none := by
    rw [wipe1]
    congr 1
    apply List.ext_getElem?
    intro j
    rw [List.getElem?_set]
    split
    · rename_i e
      subst e
      obtain ⟨h1, h2⟩ := List.getElem?_eq_some_iff.mp hk
      simp [h1, h2]
    · rfl
  obtain ⟨ds, b', y', e1, hb', r⟩ := H xs [] b none hb he
  rw [← e0, List.nil_append] at e1
  refine ⟨ds, b', ?_, hb', r⟩
  have er : restore δ1 [i] ((δ1.set k (some (w b'))).set i y') = δ1.set k (some (w b')) := by
    rw [restore1]
    have : (δ1[i]?).getD none = ((δ1.set k (some (w b')))[i]?).getD none := by rw [List.getElem?_set_ne (Ne.symm hik)]
    rw [this]
    exact set_back (a := a) (by rw [List.getElem?_set_ne (Ne.symm hik)]; exact hi)
  rw [dComp_run hs (by simp [calmAt_eq, hi, ha]) (by rw [List.length_map]; exact hl) e1, er]
/-! ### the main loop -/
def ExL {X : Type} : Nat → (List X → Prop) → Prop
  | 0, P => P []
  | n + 1, P => ∃ x, ExL n fun l => P (x :: l)
theorem exL {X : Type} : ∀ {n : Nat} {P : List X → Prop} {xs : List X}, xs.length = n → P xs → ExL n P
  | 0, P, [], _, h => h
  | n + 1, P, x :: xs, e, h => ⟨x, exL (n := n) (P := fun l => P (x :: l)) (by simpa using e) h⟩
theorem open1 {X : Type} {xs : List X} {n : Nat} (h : xs.length = n + 1) : ∃ x t, xs = x :: t ∧ t.length = n := by
  cases xs with
  | nil => cases h
  | cons x t => exact ⟨x, t, rfl, by simpa using h⟩
def calms (cs : List Nat) (xs : List (Option DV)) : Bool := cs.all fun i => calmB ((xs[i]?).getD none)
/-- the slots behind the first m; n in number; those of cs hold no list of their own -/
def Rest (n : Nat) (cs : List Nat) (xs : List (Option DV)) : Prop := xs.length = n ∧ xs.all nb = true ∧ calms cs xs = true
def Inv1 (n : Nat) (cs : List Nat) (ns : List Int) (δ : Sl) : Prop := ∃ x1 x2 xs, δ = some (.fz (scrD ns)) :: x1 :: x2 :: xs ∧ nb x1 = true ∧ nb x2 = true ∧ Rest n cs xs
def InvB (n : Nat) (cs : List Nat) (ns : List Int) (k : Nat) (δ : Sl) : Prop := ∃ b xs, δ = some (.fz (scrD ns)) :: some (.fz (.int (k : Nat))) :: some (.mt b) :: xs ∧ Bag b ∧ Rest n cs xs
theorem InvB.inv1 {n : Nat} {cs : List Nat} {ns : List Int} {k : Nat} {δ : Sl} (h : InvB n cs ns k δ) : Inv1 n cs ns δ := by
  obtain ⟨b, xs, e, hb, r⟩ := h
  exact ⟨_, _, xs, e, rfl, rfl, r⟩
theorem rest_none (n : Nat) (cs : List Nat) : Rest n cs (List.replicate n none) := by
  refine ⟨List.length_replicate, ?_, ?_⟩
  · rw [List.all_eq_true]
    intro x hx
    rw [List.eq_of_mem_replicate hx]
    rfl
  · unfold calms
    rw [List.all_eq_true]
    intro i _
    rw [List.getElem?_replicate]
    split <;> rfl
theorem main_loop {N : Int} (hN : 0 ≤ N ∧ N ≤ 20) {n : Nat} (cs : List Nat) {ns : List Int} (hn : ns.length ≤ 63) {body : SM} (hb : ∀ k δ, k < 100 → InvB n cs ns k δ → Go body δ (Inv1 n cs ns)) :
    Go (sFor (dRange1 (lCons (toL (toV (dOp gAdd (toL (toV (dCB gMin (lCons (toL (toV (dCB gLen (lCons (dLate 0) lNil)))) (lCons (toL (dC (.int N))) lNil))))) (toL (dC (.int 2)))))) lNil)) (tgName 1) (sSeq (sAsg 2 (dCall F__law_bag (aCons (dVar 0) (aCons (dVar 1) aNil)))) body))
      (some (.fz (scrD ns)) :: none :: none :: List.replicate n none) (Inv1 n cs ns) := by
  refine k_loop hN ns hn (Inv1 n cs ns) ⟨none, none, _, rfl, rfl, rfl, rest_none n cs⟩ (fun δ ⟨x1, x2, xs, e, _⟩ => by rw [e]; rfl) fun i δ hi ⟨x1, x2, xs, e, h1, h2, r⟩ => ?_
  subst e
  obtain ⟨b, eb, hb0⟩ := bag_spec ns i (by omega)
  have s1 : (sAsg 2 (dCall F__law_bag (aCons (dVar 0) (aCons (dVar 1) aNil)))) (some (.fz (scrD ns)) :: some (.fz (.int (i : Nat))) :: x2 :: xs) = some (.nx (some (.fz (scrD ns)) :: some (.fz (.int (i : Nat))) :: some (.mt b) :: xs)) := by
    simp [fnOf, DL.start, sSeq, sIf, sAsg_eq, sAsgT, sSet, sRet, sDrop, sRaise, sCallX, sNext, sBreak, sCont, sPar, sPar3, notBr_eq, dTest, dTruthy, toL, toV, ofV, dOp, dUn, dUnE, dC, dLate, dVar, LV.get, slotD, DV.dat, dTup, dLst, aNil, aCons, lNil, lCons, getAll, dCB, dCall, dCallB, dAnd, dOr, dNot, dOfT, dIf, dChain, dMut, isLs, lentOf, tgName_eq, tgNil, tgCons, tgTup, dRange1, dRange2, dIter, itemsD, dYes, LIM, two62, p64, eb, h2]
  obtain ⟨δ', e, q⟩ := hb i _ hi ⟨b, xs, rfl, hb0, r⟩
  refine ⟨some (.fz (scrD ns)) :: some (.fz (.int (i : Nat))) :: x2 :: xs, δ', by simp only [tgName_eq, List.getElem?_cons_succ, List.getElem?_cons_zero, if_true, List.set_cons_succ, List.set_cons_zero, Int.zero_add, h1], .inl ?_, q⟩
  rw [sSeq_nx s1]
  exact e
/-- for turn in range(m) -/
theorem turn_loop {m : Nat} (hm : m ≤ 1000) {n : Nat} {cs : List Nat} {ns : List Int} {k : Nat} {body : SM} {δ : Sl} (h : InvB (n + 1) cs ns k δ) (hc : 0 ∉ cs)
    (hb : ∀ (j : Nat) b xs, Bag b → xs.length = n → xs.all nb = true → calms cs (some (.fz (.int (j : Nat))) :: xs) = true → Go body (some (.fz (scrD ns)) :: some (.fz (.int (k : Nat))) :: some (.mt b) :: some (.fz (.int (j : Nat))) :: xs) (InvB (n + 1) cs ns k)) :
    Go (sFor (dRange1 (lCons (toL (dC (.int (m : Nat)))) lNil)) (tgName 3) body) δ (InvB (n + 1) cs ns k) := by
  refine Go.forN m (fun _ => InvB (n + 1) cs ns k) (by rw [range1_nat hm, rangeD_upto]) h (fun i δ hi ⟨b, xs, e, hb0, r1, r2, r3⟩ => ?_) fun _ h => h
  subst e
  cases xs with
  | nil => cases r1
  | cons x3 xs =>
    rw [List.all_cons, Bool.and_eq_true] at r2
    refine ⟨some (.fz (scrD ns)) :: some (.fz (.int (k : Nat))) :: some (.mt b) :: some (.fz (.int (i : Nat))) :: xs, by simp only [tgName_eq, List.getElem?_cons_succ, List.getElem?_cons_zero, if_true, List.set_cons_succ, List.set_cons_zero, Int.zero_add, r2.1], hb i b xs hb0 (by simpa using r1) r2.2 ?_⟩
    unfold calms at r3 ⊢
    rw [List.all_eq_true] at r3 ⊢
    intro c hc0
    have := r3 c hc0
    cases c with
    | zero => exact absurd hc0 hc
    | succ c => simpa using this
/-! ### sets -/
theorem once_mm {k : Int} : ∀ {ns : List Int}, k ∈ onceI ns ↔ k ∈ ns
  | [] => Iff.rfl
  | x :: xs => by
    unfold onceI
    by_cases h : x ∈ xs
    · rw [if_pos h, once_mm, List.mem_cons]
      exact ⟨.inr, fun e => by
        rcases e with e | e
        · rw [e]
          exact h
        · exact e⟩
    · rw [if_neg h, List.mem_cons, List.mem_cons, once_mm]
theorem once_nd : ∀ ns : List Int, (onceI ns).Nodup
  | [] => List.nodup_nil
  | x :: xs => by
    unfold onceI
    by_cases h : x ∈ xs
    · rw [if_pos h]
      exact once_nd xs
    · rw [if_neg h]
      exact List.nodup_cons.mpr ⟨fun e => h (once_mm.mp e), once_nd xs⟩
theorem set_mem {ns : List Int} {k : Int} : k ∈ setI ns ↔ k ∈ ns := by
  unfold setI
  rw [mem_srt, once_mm]
theorem set_inc (ns : List Int) : (setI ns).Pairwise (· < ·) := strict_of (srt_sorted _) ((srt_perm _).nodup_iff.mpr (once_nd ns))
theorem set_len (ns : List Int) : (setI ns).length ≤ ns.length := by
  unfold setI
  rw [srt_len]
  induction ns with
  | nil => exact Nat.le_refl _
  | cons x xs ih =>
    unfold onceI
    split
    · exact Nat.le_trans ih (by simp)
    · simpa using ih
theorem set_self {ns : List Int} (h : ns.Pairwise (· < ·)) : setI ns = ns := by
  have hn : ns.Nodup := h.imp fun h => Int.ne_of_lt h
  have e : ∀ l : List Int, l.Nodup → onceI l = l := by
    intro l
    induction l with
    | nil => exact fun _ => rfl
    | cons x xs ih =>
      intro hd
      obtain ⟨h1, h2⟩ := List.nodup_cons.mp hd
      unfold onceI
      rw [if_neg h1, ih h2]
  unfold setI
  rw [e ns hn]
  exact srt_eq (List.Perm.refl _) (h.imp fun h => Int.le_of_lt h)
@[simp] theorem gSortSet_li {ns : List Int} (h : ns.length < 64) : gSortSet [li ns] = some (.mt (intz (setI ns))) := by
  have e : gSortSet [li ns] = (match intsOf (intz ns) with
    | some ns => if ns.length < 64 then some (.mt ((setI ns).map PyData.int)) else none
    | none => none) := id rfl
  rw [e, intsOf_map']
  dsimp only
  rw [if_pos h]
  rfl
@[simp] theorem gSortSet_ti {ns : List Int} (h : ns.length < 64) : gSortSet [ti ns] = some (.mt (intz (setI ns))) := by
  have e : gSortSet [ti ns] = (match intsOf (intz ns) with
    | some ns => if ns.length < 64 then some (.mt ((setI ns).map PyData.int)) else none
    | none => none) := id rfl
  rw [e, intsOf_map']
  dsimp only
  rw [if_pos h]
  rfl
end FT
set_option Elab.async false
set_option linter.all false
/-! A further item. -/
namespace FT
open PySem DL
/-- what a layer adds to the rise -/
def lay (o c b : Nat) : Nat := b + c / o - (c + b) / o
theorem lay_le (o c b : Nat) (ho : 0 < o) (hb : b ≤ 1) : lay o c b ≤ b ∧ lay o c b + (c + b) / o = b + c / o := by
  have h1 : c / o ≤ (c + b) / o := Nat.div_le_div_right (by omega)
  have h2 : (c + b) / o ≤ c / o + b := by
    rcases Nat.eq_zero_or_pos b with z | z
    · rw [z]
      exact Nat.le_refl _
    · have : b = 1 := by omega
      subst this
      have e : (c + 1) / o ≤ (c + o) / o := Nat.div_le_div_right (by omega)
      rw [Nat.add_div_right c ho] at e
      exact e
  unfold lay
  omega
theorem lay_zero (o c : Nat) : lay o c 0 = 0 := by simp [lay]
theorem rise_layers {o : Nat} (ho : 2 ≤ o) {ps : List Int} (hd : ps.Pairwise (· ≥ ·)) (h : ∀ p ∈ ps, 0 ≤ p ∧ p ≤ MX) {p : Int} (h0 : 0 ≤ p) (h1 : p ≤ MX) :
    riseOf o ps p = (tot (fun t => lay o (cnt ps t) (if (t : Int) + 1 ≤ p then 1 else 0)) MX : Nat) := by
  have e1 := sav_layers (o := o) (by omega) hd h
  have e2 := sav_layers (o := o) (by omega) (dsc_dec (ps ++ [p])) (rng_append h (b := [p]) (M := MX) fun q hq => by
    rw [List.mem_singleton] at hq
    subst hq
    exact ⟨h0, h1⟩)
  have e3 := tot_one h0 h1
  have e4 : ∀ t, cnt (dsc (ps ++ [p])) t = cnt ps t + (if (t : Int) + 1 ≤ p then 1 else 0) := fun t => by
    rw [cnt_perm (dsc_perm _), cnt_append, cnt_cons, cnt_nil]
    rfl
  have e5 : tot (fun t => lay o (cnt ps t) (if (t : Int) + 1 ≤ p then 1 else 0) + cnt (dsc (ps ++ [p])) t / o) MX = tot (fun t => (if (t : Int) + 1 ≤ p then 1 else 0) + cnt ps t / o) MX := tot_congr fun t _ => by
    rw [e4]
    exact (lay_le o _ _ (by omega) (by split <;> omega)).2
  rw [tot_add, tot_add, e3] at e5
  unfold riseOf
  rw [e1, e2]
  omega
theorem rise_mono {o : Nat} (ho : 2 ≤ o) {ps : List Int} (hd : ps.Pairwise (· ≥ ·)) (h : ∀ p ∈ ps, 0 ≤ p ∧ p ≤ MX) {p q : Int} (h0 : 0 ≤ p) (hpq : p ≤ q) (h1 : q ≤ MX) : riseOf o ps p ≤ riseOf o ps q := by
  rw [rise_layers ho hd h h0 (by omega), rise_layers ho hd h (by omega) h1]
  have : tot (fun t => lay o (cnt ps t) (if (t : Int) + 1 ≤ p then 1 else 0)) MX ≤ tot (fun t => lay o (cnt ps t) (if (t : Int) + 1 ≤ q then 1 else 0)) MX := tot_le fun t _ => by
    by_cases c : (t : Int) + 1 ≤ p
    · rw [if_pos c, if_pos (by omega)]
      exact Nat.le_refl _
    · rw [if_neg c, lay_zero]
      exact Nat.zero_le _
  omega
theorem rise_rng {o : Nat} (ho : 2 ≤ o) {ps : List Int} (hd : ps.Pairwise (· ≥ ·)) (h : ∀ p ∈ ps, 0 ≤ p ∧ p ≤ MX) {p : Int} (h0 : 0 ≤ p) (h1 : p ≤ MX) : 0 ≤ riseOf o ps p ∧ riseOf o ps p ≤ p := by
  rw [rise_layers ho hd h h0 h1]
  have e3 := tot_one h0 h1
  have : tot (fun t => lay o (cnt ps t) (if (t : Int) + 1 ≤ p then 1 else 0)) MX ≤ tot (fun t => if (t : Int) + 1 ≤ p then 1 else 0) MX := tot_le fun t _ => (lay_le o _ _ (by omega) (by split <;> omega)).1
  omega
theorem rise_last {o : Nat} (ho : 2 ≤ o) {ps : List Int} (hd : ps.Pairwise (· ≥ ·)) (h : ∀ p ∈ ps, 0 ≤ p ∧ p ≤ MX) {p : Int} (h0 : 0 ≤ p) (h1 : p ≤ MX) (hm : (ps.length + 1) % o = 0) (hp : ∀ q ∈ ps, p ≤ q) : riseOf o ps p = 0 := by
  rw [rise_layers ho hd h h0 h1]
  have e : tot (fun t => lay o (cnt ps t) (if (t : Int) + 1 ≤ p then 1 else 0)) MX = tot (fun _ => 0) MX := tot_congr fun t _ => by
    by_cases c : (t : Int) + 1 ≤ p
    · rw [if_pos c]
      have ca : cnt ps t = ps.length := by
        unfold cnt
        rw [List.countP_eq_length]
        intro q hq
        have := hp q hq
        simp
        omega
      rw [ca]
      obtain ⟨m, hm⟩ := Nat.dvd_of_mod_eq_zero hm
      have hmp : 0 < m := by
        rcases Nat.eq_zero_or_pos m with z | z
        · rw [z] at hm
          omega
        · exact z
      have e1 : (ps.length + 1) / o = m := by rw [hm, Nat.mul_div_cancel_left m (by omega)]
      have e2 : ps.length / o = m - 1 := by
        have : ps.length = o * (m - 1) + (o - 1) := by
          have : o * m = o * (m - 1) + o := by rw [← Nat.mul_succ]; congr 1; omega
          omega
        rw [this, Nat.mul_add_div (by omega), Nat.div_eq_of_lt (by omega)]
        omega
      unfold lay
      omega
    · rw [if_neg c, lay_zero]
  rw [e, tot_zero]
  rfl
theorem sav_short {o : Nat} {a : List Int} (h : a.length < o) : sav o a = 0 := by
  have e : pick (o - 1) o a = [] := by
    unfold pick
    rw [List.filterMap_eq_nil_iff]
    intro m _
    rw [List.getElem?_eq_none]
    omega
  unfold sav
  rw [e]
  rfl
theorem rise_few {o : Nat} {ps : List Int} (h : ps.length + 1 < o) (p : Int) : riseOf o ps p = p := by
  unfold riseOf
  rw [sav_short (by omega), sav_short (by rw [dsc_len, List.length_append, List.length_singleton]; exact h)]
  omega
theorem rise_gain {o : Nat} (ho : 2 ≤ o) (ps : List Int) (p : Int) : p - gain o ps [p] = riseOf o ps p := by
  unfold gain riseOf
  rw [sav_short (a := [p]) (by simp; omega)]
  omega
/-- the largest price that makes the purchase no dearer -/
structure Free (o : Nat) (ps : List Int) (r : Int) : Prop where
  low : 1 ≤ r
  high : r ≤ 1000000
  zero : riseOf o ps r = 0
  next : r < 1000000 → 0 < riseOf o ps (r + 1)
theorem free_further_spec {o : Nat} (h1 : 2 ≤ o) (h2 : o ≤ 9) {ps : List Int} (h : Bk 1000000 ps) (hl : ps.length ≤ 29) :
    (0 < riseOf o ps 1 ∧ F_free_further [.fz (.int o), .fz (ti ps)] = some (.ret (.fz .none) [])) ∨ ∃ r, Free o ps r ∧ F_free_further [.fz (.int o), .fz (ti ps)] = some (.ret (.fz (.int r)) []) := by
  have hr := bk_rng h (by decide)
  have a1 := require_offer_ok (o := (o : Int)) (by omega) (by omega)
  have a2 := require_basket_ok h (by omega)
  have a3 : F_require_room [.fz (.int ((ps.length : Int) + 1))] = some (.ret (.fz .none) []) := by
    rw [require_room_spec, if_neg (by omega)]
  have a4 := rise_spec h1 h2 (ps := ps) (by omega)
  by_cases hc : 0 < riseOf o ps 1
  · refine .inl ⟨hc, fn_gives ?_⟩
    refine .seq (by simp [b_free_further_1, DL.start, fnOf, DL.start, sSeq, sIf, sAsg_eq, sAsgT, sSet, sRet, sDrop, sRaise, sCallX, sNext, sBreak, sCont, sPar, sPar3, notBr_eq, dTest, dTruthy, toL, toV, ofV, dOp, dUn, dUnE, dC, dLate, dVar, LV.get, slotD, DV.dat, dTup, dLst, aNil, aCons, lNil, lCons, getAll, dCB, dCall, dCallB, dAnd, dOr, dNot, dOfT, dIf, dChain, dMut, isLs, lentOf, tgName_eq, tgNil, tgCons, tgTup, dIter, itemsD, dYes, LIM, a1] <;> rfl) ?_
    refine .seq (by simp [b_free_further_2, DL.start, fnOf, DL.start, sSeq, sIf, sAsg_eq, sAsgT, sSet, sRet, sDrop, sRaise, sCallX, sNext, sBreak, sCont, sPar, sPar3, notBr_eq, dTest, dTruthy, toL, toV, ofV, dOp, dUn, dUnE, dC, dLate, dVar, LV.get, slotD, DV.dat, dTup, dLst, aNil, aCons, lNil, lCons, getAll, dCB, dCall, dCallB, dAnd, dOr, dNot, dOfT, dIf, dChain, dMut, isLs, lentOf, tgName_eq, tgNil, tgCons, tgTup, dIter, itemsD, dYes, LIM, a2] <;> rfl) ?_
    refine .seq (by simp [b_free_further_3, DL.start, fnOf, DL.start, sSeq, sIf, sAsg_eq, sAsgT, sSet, sRet, sDrop, sRaise, sCallX, sNext, sBreak, sCont, sPar, sPar3, notBr_eq, dTest, dTruthy, toL, toV, ofV, dOp, dUn, dUnE, dC, dLate, dVar, LV.get, slotD, DV.dat, dTup, dLst, aNil, aCons, lNil, lCons, getAll, dCB, dCall, dCallB, dAnd, dOr, dNot, dOfT, dIf, dChain, dMut, isLs, lentOf, tgName_eq, tgNil, tgCons, tgTup, dIter, itemsD, dYes, LIM, a3] <;> rfl) ?_
    refine .fst ?_
    exact .one (by simp [b_free_further_4, DL.start, fnOf, DL.start, sSeq, sIf, sAsg_eq, sAsgT, sSet, sRet, sDrop, sRaise, sCallX, sNext, sBreak, sCont, sPar, sPar3, notBr_eq, dTest, dTruthy, toL, toV, ofV, dOp, dUn, dUnE, dC, dLate, dVar, LV.get, slotD, DV.dat, dTup, dLst, aNil, aCons, lNil, lCons, getAll, dCB, dCall, dCallB, dAnd, dOr, dNot, dOfT, dIf, dChain, dMut, isLs, lentOf, tgName_eq, tgNil, tgCons, tgTup, dIter, itemsD, dYes, LIM, a4, hc] <;> first | rfl | exact ⟨rfl, rfl⟩) (by exact ⟨rfl, rfl⟩)
  · refine .inr ?_
    have z1 : riseOf o ps 1 = 0 := by
      have := (rise_rng h1 h.dec hr (p := 1) (by decide) (by decide)).1
      omega
    obtain ⟨lo, δ', s2, x4, rfl, q1, q2, q3, q4, h4⟩ := while_half (c := dTest (toL (toV (dOp gGt (toL (toV (dOp gSubI (dLate 3) (dLate 2)))) (toL (dC (.int 1))))))) (b := b_free_further_6b)
      (fun lo hi δ => ∃ x4, δ = [some (.fz (.int o)), some (.fz (ti ps)), some (.fz (.int lo)), some (.fz (.int hi)), x4] ∧ 1 ≤ lo ∧ hi ≤ 1000001 ∧ riseOf o ps lo = 0 ∧ (hi = 1000001 ∨ 0 < riseOf o ps hi) ∧ nb x4 = true)
      (fun lo hi δ ⟨x4, e, q1, q2, q3, q4, h4⟩ hlt => by
        subst e
        refine ⟨by simp [fnOf, DL.start, sSeq, sIf, sAsg_eq, sAsgT, sSet, sRet, sDrop, sRaise, sCallX, sNext, sBreak, sCont, sPar, sPar3, notBr_eq, dTest, dTruthy, toL, toV, ofV, dOp, dUn, dUnE, dC, dLate, dVar, LV.get, slotD, DV.dat, dTup, dLst, aNil, aCons, lNil, lCons, getAll, dCB, dCall, dCallB, dAnd, dOr, dNot, dOfT, dIf, dChain, dMut, isLs, lentOf, tgName_eq, tgNil, tgCons, tgTup, dRange1, dRange2, dIter, itemsD, dYes, LIM, two62, p64], fun hc => ?_⟩
        have dv : gDivI (.int (lo + hi)) (.int 2) = some (.fz (.int ((lo + hi) / 2))) := gDivI_int (by decide) (by decide)
        have hm : lo < (lo + hi) / 2 ∧ (lo + hi) / 2 < hi := by omega
        generalize (lo + hi) / 2 = mid at *
        have rr := (rise_rng h1 h.dec hr (p := mid) (by omega) (by unfold MX; omega)).1
        have t1 : b_free_further_6b_1 [some (.fz (.int o)), some (.fz (ti ps)), some (.fz (.int lo)), some (.fz (.int hi)), x4] = some (.nx [some (.fz (.int o)), some (.fz (ti ps)), some (.fz (.int lo)), some (.fz (.int hi)), some (.fz (.int mid))]) := by
          simp [b_free_further_6b_1, fnOf, DL.start, sSeq, sIf, sAsg_eq, sAsgT, sSet, sRet, sDrop, sRaise, sCallX, sNext, sBreak, sCont, sPar, sPar3, notBr_eq, dTest, dTruthy, toL, toV, ofV, dOp, dUn, dUnE, dC, dLate, dVar, LV.get, slotD, DV.dat, dTup, dLst, aNil, aCons, lNil, lCons, getAll, dCB, dCall, dCallB, dAnd, dOr, dNot, dOfT, dIf, dChain, dMut, isLs, lentOf, tgName_eq, tgNil, tgCons, tgTup, dRange1, dRange2, dIter, itemsD, dYes, LIM, two62, p64, dv, h4]
        by_cases hg : 0 < riseOf o ps mid
        · exact ⟨_, by unfold b_free_further_6b; rw [sSeq_nx t1]; simp [b_free_further_6b_2, fnOf, DL.start, sSeq, sIf, sAsg_eq, sAsgT, sSet, sRet, sDrop, sRaise, sCallX, sNext, sBreak, sCont, sPar, sPar3, notBr_eq, dTest, dTruthy, toL, toV, ofV, dOp, dUn, dUnE, dC, dLate, dVar, LV.get, slotD, DV.dat, dTup, dLst, aNil, aCons, lNil, lCons, getAll, dCB, dCall, dCallB, dAnd, dOr, dNot, dOfT, dIf, dChain, dMut, isLs, lentOf, tgName_eq, tgNil, tgCons, tgTup, dRange1, dRange2, dIter, itemsD, dYes, LIM, two62, p64, a4, hg]; rfl, .inr ⟨_, rfl, q1, by omega, q3, .inr hg, rfl⟩⟩
        · exact ⟨_, by unfold b_free_further_6b; rw [sSeq_nx t1]; simp [b_free_further_6b_2, fnOf, DL.start, sSeq, sIf, sAsg_eq, sAsgT, sSet, sRet, sDrop, sRaise, sCallX, sNext, sBreak, sCont, sPar, sPar3, notBr_eq, dTest, dTruthy, toL, toV, ofV, dOp, dUn, dUnE, dC, dLate, dVar, LV.get, slotD, DV.dat, dTup, dLst, aNil, aCons, lNil, lCons, getAll, dCB, dCall, dCallB, dAnd, dOr, dNot, dOfT, dIf, dChain, dMut, isLs, lentOf, tgName_eq, tgNil, tgCons, tgTup, dRange1, dRange2, dIter, itemsD, dYes, LIM, two62, p64, a4, hg]; rfl, .inl ⟨_, rfl, by omega, q2, by omega, q4, rfl⟩⟩)
      20 W_free_further 1 1000001 [some (.fz (.int o)), some (.fz (ti ps)), some (.fz (.int 1)), some (.fz (.int 1000001)), none] ⟨none, rfl, by decide, by decide, z1, .inl rfl, rfl⟩ (by decide) (by decide) (by decide)
    refine ⟨lo, ⟨q1, by omega, q3, fun hlt => by rcases q4 with z | z <;> omega⟩, fn_gives ?_⟩
    refine .seq (by simp [b_free_further_1, DL.start, fnOf, DL.start, sSeq, sIf, sAsg_eq, sAsgT, sSet, sRet, sDrop, sRaise, sCallX, sNext, sBreak, sCont, sPar, sPar3, notBr_eq, dTest, dTruthy, toL, toV, ofV, dOp, dUn, dUnE, dC, dLate, dVar, LV.get, slotD, DV.dat, dTup, dLst, aNil, aCons, lNil, lCons, getAll, dCB, dCall, dCallB, dAnd, dOr, dNot, dOfT, dIf, dChain, dMut, isLs, lentOf, tgName_eq, tgNil, tgCons, tgTup, dIter, itemsD, dYes, LIM, a1] <;> rfl) ?_
    refine .seq (by simp [b_free_further_2, DL.start, fnOf, DL.start, sSeq, sIf, sAsg_eq, sAsgT, sSet, sRet, sDrop, sRaise, sCallX, sNext, sBreak, sCont, sPar, sPar3, notBr_eq, dTest, dTruthy, toL, toV, ofV, dOp, dUn, dUnE, dC, dLate, dVar, LV.get, slotD, DV.dat, dTup, dLst, aNil, aCons, lNil, lCons, getAll, dCB, dCall, dCallB, dAnd, dOr, dNot, dOfT, dIf, dChain, dMut, isLs, lentOf, tgName_eq, tgNil, tgCons, tgTup, dIter, itemsD, dYes, LIM, a2] <;> rfl) ?_
    refine .seq (by simp [b_free_further_3, DL.start, fnOf, DL.start, sSeq, sIf, sAsg_eq, sAsgT, sSet, sRet, sDrop, sRaise, sCallX, sNext, sBreak, sCont, sPar, sPar3, notBr_eq, dTest, dTruthy, toL, toV, ofV, dOp, dUn, dUnE, dC, dLate, dVar, LV.get, slotD, DV.dat, dTup, dLst, aNil, aCons, lNil, lCons, getAll, dCB, dCall, dCallB, dAnd, dOr, dNot, dOfT, dIf, dChain, dMut, isLs, lentOf, tgName_eq, tgNil, tgCons, tgTup, dIter, itemsD, dYes, LIM, a3] <;> rfl) ?_
    refine .seq (by simp [b_free_further_4, DL.start, fnOf, DL.start, sSeq, sIf, sAsg_eq, sAsgT, sSet, sRet, sDrop, sRaise, sCallX, sNext, sBreak, sCont, sPar, sPar3, notBr_eq, dTest, dTruthy, toL, toV, ofV, dOp, dUn, dUnE, dC, dLate, dVar, LV.get, slotD, DV.dat, dTup, dLst, aNil, aCons, lNil, lCons, getAll, dCB, dCall, dCallB, dAnd, dOr, dNot, dOfT, dIf, dChain, dMut, isLs, lentOf, tgName_eq, tgNil, tgCons, tgTup, dIter, itemsD, dYes, LIM, a4, hc] <;> rfl) ?_
    refine .seq (by simp [b_free_further_5, DL.start, fnOf, DL.start, sSeq, sIf, sAsg_eq, sAsgT, sSet, sRet, sDrop, sRaise, sCallX, sNext, sBreak, sCont, sPar, sPar3, notBr_eq, dTest, dTruthy, toL, toV, ofV, dOp, dUn, dUnE, dC, dLate, dVar, LV.get, slotD, DV.dat, dTup, dLst, aNil, aCons, lNil, lCons, getAll, dCB, dCall, dCallB, dAnd, dOr, dNot, dOfT, dIf, dChain, dMut, isLs, lentOf, tgName_eq, tgNil, tgCons, tgTup, dIter, itemsD, dYes, LIM] <;> rfl) ?_
    refine .seq s2 ?_
    exact .one (by simp [b_free_further_7, DL.start, fnOf, DL.start, sSeq, sIf, sAsg_eq, sAsgT, sSet, sRet, sDrop, sRaise, sCallX, sNext, sBreak, sCont, sPar, sPar3, notBr_eq, dTest, dTruthy, toL, toV, ofV, dOp, dUn, dUnE, dC, dLate, dVar, LV.get, slotD, DV.dat, dTup, dLst, aNil, aCons, lNil, lCons, getAll, dCB, dCall, dCallB, dAnd, dOr, dNot, dOfT, dIf, dChain, dMut, isLs, lentOf, tgName_eq, tgNil, tgCons, tgTup, dIter, itemsD, dYes, LIM] <;> first | rfl | exact ⟨rfl, rfl⟩) (by exact ⟨rfl, rfl⟩)
end FT
set_option Elab.async false
set_option linter.all false
/-! Shapes of data; joinable, swaps; exchanges. -/
namespace FT
open PySem DL
/-! ### sources -/
theorem src_ti {i : Nat} {δ : Sl} {ns : List Int} (h : δ[i]? = some (some (.fz (ti ns)))) : dIter (dVar i) δ = some (ns.map PyData.int, δ) := by
  simp only [dIter, dVar, h, itemsD]
  rfl
theorem src_li {i : Nat} {δ : Sl} {ns : List Int} (h : δ[i]? = some (some (.fz (li ns)))) : dIter (dVar i) δ = some (ns.map PyData.int, δ) := by
  simp only [dIter, dVar, h, itemsD]
  rfl
theorem src_mt {i : Nat} {δ : Sl} {ns : List Int} (h : δ[i]? = some (some (.mt (intz ns)))) : dIter (dVar i) δ = some (ns.map PyData.int, δ.set i (some (.fz (li ns)))) := by
  simp only [dIter, dVar, h, itemsD]
  rfl
theorem src_var {α : Type} {i : Nat} {δ : Sl} {d : D} {g : α → D} {xs : List α} (h : δ[i]? = some (some (.fz d))) (hd : itemsD d = some (xs.map g)) : dIter (dVar i) δ = some (xs.map g, δ) := by
  simp only [dIter, dVar, h, hd]
theorem src_len {i : Nat} {δ : Sl} {v : DV} {ds : List D} (h : δ[i]? = some (some v)) (hd : itemsD v.dat = some ds) (hl : ds.length ≤ 1000) : dRange1 (lCons (toL (toV (dCB gLen (lCons (dLate i) lNil)))) lNil) δ = some ((upto ds.length).map PyData.int, δ) := by
  refine range1_gen (x := .val (.int ds.length)) ?_ rfl hl
  have e1 : dLate i δ = some (.slot i, δ) := by simp only [dLate, h]
  have e2 : (LV.slot i).get δ = some v.dat := by
    show slotD δ i = _
    unfold slotD
    rw [h]
    cases v with
    | ow c => cases hd
    | _ => rfl
  have e3 : gLen [v.dat] = some (.fz (.int ds.length)) := by
    generalize v.dat = d at *
    cases d with
    | list l =>
      cases hd
      rfl
    | tuple l =>
      cases hd
      rfl
    | _ => cases hd
  exact toL_run (toV_fz (dCB_one e1 e2 e3))
theorem src_lenT {i : Nat} {δ : Sl} {ns : List Int} (h : δ[i]? = some (some (.fz (ti ns)))) (hl : ns.length ≤ 1000) : dRange1 (lCons (toL (toV (dCB gLen (lCons (dLate i) lNil)))) lNil) δ = some ((upto ns.length).map PyData.int, δ) := by
  have := src_len (ds := intz ns) h rfl (by rw [ints_len]; exact hl)
  rw [ints_len] at this
  exact this
/-! ### shapes -/
def Sh (k : Nat) (d : D) : Prop := d.canLay0 = true ∧ d.depth ≤ k
theorem sh_int (k : Nat) (i : Int) : Sh k (.int i) := ⟨by simp [PyData.canLay0], by simp [PyData.depth]⟩
theorem sh_none (k : Nat) : Sh k .none := ⟨by simp [PyData.canLay0], by simp [PyData.depth]⟩
theorem sh_bool (k : Nat) (b : Bool) : Sh k (.bool b) := ⟨by simp [PyData.canLay0], by simp [PyData.depth]⟩
theorem canAll_of : ∀ {ds : List D}, (∀ d ∈ ds, d.canLay0 = true) → PyData.canLayAll0 ds = true
  | [], _ => rfl
  | d :: ds, h => by
    rw [PyData.canLayAll0, h d List.mem_cons_self, canAll_of fun x hx => h x (List.mem_cons_of_mem _ hx)]
    rfl
theorem depthAll_of {k : Nat} : ∀ {ds : List D}, (∀ d ∈ ds, d.depth ≤ k) → PyData.depthAll ds ≤ k
  | [], _ => Nat.zero_le _
  | d :: ds, h => by
    have h1 := h d List.mem_cons_self
    have h2 := depthAll_of fun x hx => h x (List.mem_cons_of_mem _ hx)
    rw [PyData.depthAll]
    omega
theorem sh_list {k : Nat} {ds : List D} (h : ∀ d ∈ ds, Sh k d) : Sh (k + 1) (.list ds) := by
  have h1 := canAll_of fun d hd => (h d hd).1
  have h2 := depthAll_of fun d hd => (h d hd).2
  exact ⟨by simpa [PyData.canLay0] using h1, by simp only [PyData.depth]; omega⟩
theorem sh_tuple {k : Nat} {ds : List D} (h : ∀ d ∈ ds, Sh k d) : Sh (k + 1) (.tuple ds) := by
  have h1 := canAll_of fun d hd => (h d hd).1
  have h2 := depthAll_of fun d hd => (h d hd).2
  exact ⟨by simpa [PyData.canLay0] using h1, by simp only [PyData.depth]; omega⟩
theorem sh_ti (k : Nat) (ns : List Int) : Sh (k + 1) (ti ns) := sh_tuple fun d hd => by
  obtain ⟨n, _, rfl⟩ := mem_ints hd
  exact sh_int _ _
theorem sh_li (k : Nat) (ns : List Int) : Sh (k + 1) (li ns) := sh_list fun d hd => by
  obtain ⟨n, _, rfl⟩ := mem_ints hd
  exact sh_int _ _
theorem shp_of {k : Nat} {d : D} (h : Sh k d) (hk : k ≤ 64 := by decide) : shp d = true := by
  unfold shp
  rw [h.1, decide_eq_true (Nat.le_trans h.2 hk)]
  rfl
theorem gNe_self {k : Nat} {d : D} (h : Sh k d) (hk : k ≤ 64 := by decide) : gNe d d = some (.fz (.bool false)) := by
  unfold gNe
  rw [shp_of h hk, PySem.SeqAt.eqv_refl d h.1]
  rfl
theorem gEq_self {k : Nat} {d : D} (h : Sh k d) (hk : k ≤ 64 := by decide) : gEq d d = some (.fz (.bool true)) := by
  unfold gEq
  rw [shp_of h hk, PySem.SeqAt.eqv_refl d h.1]
  rfl
theorem gNe_bool (a b : Bool) : gNe (.bool a) (.bool b) = some (.fz (.bool (a != b))) := by
  unfold gNe
  rw [shp_bool, shp_bool]
  cases a <;> cases b <;> simp [PyData.eqv]
theorem gEq_bool (a b : Bool) : gEq (.bool a) (.bool b) = some (.fz (.bool (a == b))) := by
  unfold gEq
  rw [shp_bool, shp_bool]
  cases a <;> cases b <;> simp [PyData.eqv]
/-- pairs as data -/
def prs (l : List (Int × Int)) : List D := l.map fun p => .tuple [.int p.1, .int p.2]
theorem prs_append (a b : List (Int × Int)) : prs (a ++ b) = prs a ++ prs b := List.map_append
theorem sh_prs (l : List (Int × Int)) : Sh 2 (.list (prs l)) := sh_list fun d hd => by
  obtain ⟨p, _, rfl⟩ := List.mem_map.mp hd
  exact sh_ti 0 [p.1, p.2]
@[simp] theorem prs_len (l : List (Int × Int)) : (prs l).length = l.length := List.length_map ..
/-! ### what the functions give -/
def restI (n : Nat) (is : List Int) : List Int := (upto n).filter fun i => (decide (i ∈ is) != true)
def joinI (o : Nat) (ps is : List Int) : List Int := (restI ps.length is).filter fun i => fitsB o ps (withItem is i)
def without (is : List Int) (i : Int) : List Int := is.filter fun j => !decide (j = i)
def swapL (o : Nat) (ps is : List Int) : List (Int × Int) := is.flatMap fun one => ((restI ps.length is).filter fun j => fitsB o ps (withItem (without is one) j)).map fun j => (one, j)
theorem mem_rest {n : Nat} {is : List Int} {i : Int} : i ∈ restI n is ↔ (0 ≤ i ∧ i < n) ∧ i ∉ is := by
  unfold restI
  rw [List.mem_filter, mem_upto]
  simp
theorem rest_len (n : Nat) (is : List Int) : (restI n is).length ≤ n := Nat.le_trans (List.length_filter_le _ _) (by rw [upto_len]; exact Nat.le_refl _)
theorem mem_join {o : Nat} {ps is : List Int} {i : Int} : i ∈ joinI o ps is ↔ ((0 ≤ i ∧ i < ps.length) ∧ i ∉ is) ∧ fitsB o ps (withItem is i) = true := by
  unfold joinI
  rw [List.mem_filter, mem_rest]
theorem it_without {n : Nat} {is : List Int} (h : It n is) (i : Int) : It n (without is i) := it_sub List.filter_sublist h
theorem mem_with {is : List Int} {i j : Int} : j ∈ withItem is i ↔ j ∈ is ∨ j = i := by
  unfold withItem
  rw [mem_srt, List.mem_append, List.mem_singleton]
theorem with_len (is : List Int) (i : Int) : (withItem is i).length = is.length + 1 := by
  unfold withItem
  rw [srt_len, List.length_append, List.length_singleton]
theorem require_set_ok {o : Nat} (h1 : 2 ≤ o) (h2 : o ≤ 9) {ps is : List Int} (h : Bk 1000000 ps) (hl : ps.length ≤ 30) (hi : It ps.length is) (hf : fitsB o ps is = true) : F_require_set [.fz (.int o), .fz (ti ps), .fz (ti is)] = some (.ret (.fz .none) []) := by
  have hm := nodup_le hi
  have a3 := are_items_spec (clean_ti is) ps fun ds e => by cases e; rw [ints_len]; omega
  rw [areItems_iff.mpr ⟨is, rfl, hi⟩] at a3
  simp [F_require_set, b_require_set, b_require_set_1, b_require_set_2, b_require_set_3, fnOf, DL.start, sSeq, sIf, sAsg_eq, sAsgT, sSet, sRet, sDrop, sRaise, sCallX, sNext, sBreak, sCont, sPar, sPar3, notBr_eq, dTest, dTruthy, toL, toV, ofV, dOp, dUn, dUnE, dC, dLate, dVar, LV.get, slotD, DV.dat, dTup, dLst, aNil, aCons, lNil, lCons, getAll, dCB, dCall, dCallB, dAnd, dOr, dNot, dOfT, dIf, dChain, dMut, isLs, lentOf, tgName_eq, tgNil, tgCons, tgTup, dRange1, dRange2, dIter, itemsD, dYes, LIM, two62, p64, require_offer_ok (show (2 : Int) ≤ o by omega) (show (o : Int) ≤ 9 by omega), require_basket_ok h hl, a3, fits_spec (show 1 ≤ o by omega) h2 (show ps.length ≤ 1000 by omega) (show is.length ≤ 1000 by omega) hi.rng, hf]
theorem fits_with {o : Nat} (h1 : 2 ≤ o) (h2 : o ≤ 9) {ps is : List Int} (hl : ps.length ≤ 30) (hi : It ps.length is) {j : Int} (hj : 0 ≤ j ∧ j < ps.length) : F_fits [.fz (.int o), .fz (ti ps), .fz (ti (withItem is j))] = some (.ret (.fz (.bool (fitsB o ps (withItem is j)))) []) := by
  have hm := nodup_le hi
  refine fits_spec (by omega) h2 (by omega) (by rw [with_len]; omega) fun i h => ?_
  rcases mem_with.mp h with h | h
  · exact hi.rng i h
  · rw [h]
    exact hj
theorem joinable_spec {o : Nat} (h1 : 2 ≤ o) (h2 : o ≤ 9) {ps is : List Int} (h : Bk 1000000 ps) (hl : ps.length ≤ 30) (hi : It ps.length is) (hf : fitsB o ps is = true) : F_joinable [.fz (.int o), .fz (ti ps), .fz (ti is)] = some (.ret (.mt (intz (joinI o ps is))) []) := by
  have hm := nodup_le hi
  have rl := rest_len ps.length is
  refine fn_gives ?_
  refine .seq (by simp [b_joinable_1, DL.start, fnOf, DL.start, sSeq, sIf, sAsg_eq, sAsgT, sSet, sRet, sDrop, sRaise, sCallX, sNext, sBreak, sCont, sPar, sPar3, notBr_eq, dTest, dTruthy, toL, toV, ofV, dOp, dUn, dUnE, dC, dLate, dVar, LV.get, slotD, DV.dat, dTup, dLst, aNil, aCons, lNil, lCons, getAll, dCB, dCall, dCallB, dAnd, dOr, dNot, dOfT, dIf, dChain, dMut, isLs, lentOf, tgName_eq, tgNil, tgCons, tgTup, dIter, itemsD, dYes, LIM, require_set_ok h1 h2 h hl hi hf] <;> rfl) ?_
  refine .seq (sAsg_run (dComp_pick PyData.int PyData.int (fun i => decide (i ∈ is) != true) (upto ps.length) (a := none) (src_lenT rfl (by omega)) rfl rfl (lim_of (by rw [upto_len]; omega)) (fun i hi => by simp [fnOf, DL.start, sSeq, sIf, sAsg_eq, sAsgT, sSet, sRet, sDrop, sRaise, sCallX, sNext, sBreak, sCont, sPar, sPar3, notBr_eq, dTest, dTruthy, toL, toV, ofV, dOp, dUn, dUnE, dC, dLate, dVar, LV.get, slotD, DV.dat, dTup, dLst, aNil, aCons, lNil, lCons, getAll, dCB, dCall, dCallB, dAnd, dOr, dNot, dOfT, dIf, dChain, dMut, isLs, lentOf, tgName_eq, tgNil, tgCons, tgTup, dRange1, dRange2, dIter, itemsD, dYes, LIM, two62, p64, gIn_ti]) (fun i hi _ => by simp [fnOf, DL.start, sSeq, sIf, sAsg_eq, sAsgT, sSet, sRet, sDrop, sRaise, sCallX, sNext, sBreak, sCont, sPar, sPar3, notBr_eq, dTest, dTruthy, toL, toV, ofV, dOp, dUn, dUnE, dC, dLate, dVar, LV.get, slotD, DV.dat, dTup, dLst, aNil, aCons, lNil, lCons, getAll, dCB, dCall, dCallB, dAnd, dOr, dNot, dOfT, dIf, dChain, dMut, isLs, lentOf, tgName_eq, tgNil, tgCons, tgTup, dRange1, dRange2, dIter, itemsD, dYes, LIM, two62, p64])) rfl rfl) ?_
  refine .one (sRet_run (dComp_pick PyData.int PyData.int (fun i => fitsB o ps (withItem is i)) (restI ps.length is) (a := none) (src_mt rfl) rfl rfl (lim_of (by omega)) (fun i hi' => by simp [fnOf, DL.start, sSeq, sIf, sAsg_eq, sAsgT, sSet, sRet, sDrop, sRaise, sCallX, sNext, sBreak, sCont, sPar, sPar3, notBr_eq, dTest, dTruthy, toL, toV, ofV, dOp, dUn, dUnE, dC, dLate, dVar, LV.get, slotD, DV.dat, dTup, dLst, aNil, aCons, lNil, lCons, getAll, dCB, dCall, dCallB, dAnd, dOr, dNot, dOfT, dIf, dChain, dMut, isLs, lentOf, tgName_eq, tgNil, tgCons, tgTup, dRange1, dRange2, dIter, itemsD, dYes, LIM, two62, p64, with_item_spec (show is.length ≤ 1000 by omega), fits_with h1 h2 hl hi (mem_rest.mp hi').1]) (fun i hi _ => by simp [fnOf, DL.start, sSeq, sIf, sAsg_eq, sAsgT, sSet, sRet, sDrop, sRaise, sCallX, sNext, sBreak, sCont, sPar, sPar3, notBr_eq, dTest, dTruthy, toL, toV, ofV, dOp, dUn, dUnE, dC, dLate, dVar, LV.get, slotD, DV.dat, dTup, dLst, aNil, aCons, lNil, lCons, getAll, dCB, dCall, dCallB, dAnd, dOr, dNot, dOfT, dIf, dChain, dMut, isLs, lentOf, tgName_eq, tgNil, tgCons, tgTup, dRange1, dRange2, dIter, itemsD, dYes, LIM, two62, p64]))) ?_
  exact ⟨rfl, rfl⟩
theorem swaps_spec {o : Nat} (h1 : 2 ≤ o) (h2 : o ≤ 9) {ps is : List Int} (h : Bk 1000000 ps) (hl : ps.length ≤ 30) (hi : It ps.length is) (hf : fitsB o ps is = true) : F_swaps [.fz (.int o), .fz (ti ps), .fz (ti is)] = some (.ret (.fz (.list (prs (swapL o ps is)))) []) := by
  have hm := nodup_le hi
  refine fn_gives ?_
  refine .seq (by simp [b_swaps_1, DL.start, fnOf, DL.start, sSeq, sIf, sAsg_eq, sAsgT, sSet, sRet, sDrop, sRaise, sCallX, sNext, sBreak, sCont, sPar, sPar3, notBr_eq, dTest, dTruthy, toL, toV, ofV, dOp, dUn, dUnE, dC, dLate, dVar, LV.get, slotD, DV.dat, dTup, dLst, aNil, aCons, lNil, lCons, getAll, dCB, dCall, dCallB, dAnd, dOr, dNot, dOfT, dIf, dChain, dMut, isLs, lentOf, tgName_eq, tgNil, tgCons, tgTup, dIter, itemsD, dYes, LIM, require_set_ok h1 h2 h hl hi hf] <;> rfl) ?_
  refine .seq (by simp [b_swaps_2, DL.start, fnOf, DL.start, sSeq, sIf, sAsg_eq, sAsgT, sSet, sRet, sDrop, sRaise, sCallX, sNext, sBreak, sCont, sPar, sPar3, notBr_eq, dTest, dTruthy, toL, toV, ofV, dOp, dUn, dUnE, dC, dLate, dVar, LV.get, slotD, DV.dat, dTup, dLst, aNil, aCons, lNil, lCons, getAll, dCB, dCall, dCallB, dAnd, dOr, dNot, dOfT, dIf, dChain, dMut, isLs, lentOf, tgName_eq, tgNil, tgCons, tgTup, dIter, itemsD, dYes, LIM] <;> rfl) ?_
  refine .sq (P := fun δ => ∃ x4 x5 x6, δ = [some (.fz (.int o)), some (.fz (ti ps)), some (.fz (ti is)), some (.mt (prs (swapL o ps is))), x4, x5, x6, none]) ?_ fun δ ⟨x4, x5, x6, e⟩ => ?_
  · refine Go.forL is PyData.int (fun pre δ => ∃ x4 x5 x6, δ = [some (.fz (.int o)), some (.fz (ti ps)), some (.fz (ti is)), some (.mt (prs (pre.flatMap fun one => ((restI ps.length is).filter fun j => fitsB o ps (withItem (without is one) j)).map fun j => (one, j)))), x4, x5, x6, none] ∧ nb x4 = true ∧ nb x5 = true ∧ nb x6 = true) (src_ti rfl) ⟨_, _, _, rfl, rfl, rfl, rfl⟩ (fun pre one post δ e ⟨x4, x5, x6, e', g4, g5, g6⟩ => ?_) fun δ ⟨x4, x5, x6, e, _⟩ => ⟨_, _, _, e⟩
    subst e'
    have hlen : pre.length < is.length := by rw [e]; simp
    have fl : ∀ l : List Int, (l.flatMap fun one => ((restI ps.length is).filter fun j => fitsB o ps (withItem (without is one) j)).map fun j => (one, j)).length ≤ l.length * 30 := by
      intro l
      induction l with
      | nil => simp
      | cons a l ih =>
        rw [List.flatMap_cons, List.length_append, List.length_map, List.length_cons]
        have := List.length_filter_le (fun j => fitsB o ps (withItem (without is a) j)) (restI ps.length is)
        have := rest_len ps.length is
        omega
    have fp := fl pre
    generalize hacc : (pre.flatMap fun one => ((restI ps.length is).filter fun j => fitsB o ps (withItem (without is one) j)).map fun j => (one, j)) = acc at *
    refine ⟨[some (.fz (.int o)), some (.fz (ti ps)), some (.fz (ti is)), some (.mt (prs acc)), some (.fz (.int one)), x5, x6, none], by simp only [tgName_eq, List.getElem?_cons_succ, List.getElem?_cons_zero, if_true, List.set_cons_succ, List.set_cons_zero, Int.zero_add, g4], ?_⟩
    have c1 : dComp (dIter (dVar 2)) (tgName 7) (dTest (toL (toV (dOp gNe (dLate 7) (dLate 4))))) (dVar 7) [7] [some (.fz (.int o)), some (.fz (ti ps)), some (.fz (ti is)), some (.mt (prs acc)), some (.fz (.int one)), x5, x6, none] = some (.mt (intz (without is one)), [some (.fz (.int o)), some (.fz (ti ps)), some (.fz (ti is)), some (.mt (prs acc)), some (.fz (.int one)), x5, x6, none]) :=
      dComp_pick PyData.int PyData.int (fun i => !decide (i = one)) is (a := none) (src_ti rfl) rfl rfl (lim_of (by omega)) (fun i hi => by simp [fnOf, DL.start, sSeq, sIf, sAsg_eq, sAsgT, sSet, sRet, sDrop, sRaise, sCallX, sNext, sBreak, sCont, sPar, sPar3, notBr_eq, dTest, dTruthy, toL, toV, ofV, dOp, dUn, dUnE, dC, dLate, dVar, LV.get, slotD, DV.dat, dTup, dLst, aNil, aCons, lNil, lCons, getAll, dCB, dCall, dCallB, dAnd, dOr, dNot, dOfT, dIf, dChain, dMut, isLs, lentOf, tgName_eq, tgNil, tgCons, tgTup, dRange1, dRange2, dIter, itemsD, dYes, LIM, two62, p64]) (fun i hi _ => by simp [fnOf, DL.start, sSeq, sIf, sAsg_eq, sAsgT, sSet, sRet, sDrop, sRaise, sCallX, sNext, sBreak, sCont, sPar, sPar3, notBr_eq, dTest, dTruthy, toL, toV, ofV, dOp, dUn, dUnE, dC, dLate, dVar, LV.get, slotD, DV.dat, dTup, dLst, aNil, aCons, lNil, lCons, getAll, dCB, dCall, dCallB, dAnd, dOr, dNot, dOfT, dIf, dChain, dMut, isLs, lentOf, tgName_eq, tgNil, tgCons, tgTup, dRange1, dRange2, dIter, itemsD, dYes, LIM, two62, p64])
    refine .seq (by simp [b_swaps_3b_1, DL.start, fnOf, DL.start, sSeq, sIf, sAsg_eq, sAsgT, sSet, sRet, sDrop, sRaise, sCallX, sNext, sBreak, sCont, sPar, sPar3, notBr_eq, dTest, dTruthy, toL, toV, ofV, dOp, dUn, dUnE, dC, dLate, dVar, LV.get, slotD, DV.dat, dTup, dLst, aNil, aCons, lNil, lCons, getAll, dCB, dCall, dCallB, dAnd, dOr, dNot, dOfT, dIf, dChain, dMut, isLs, lentOf, tgName_eq, tgNil, tgCons, tgTup, dIter, itemsD, dYes, LIM, c1, g5] <;> rfl) ?_
    have hw := it_without hi one
    refine Go.forL (upto ps.length) PyData.int (fun pr δ => ∃ x6, δ = [some (.fz (.int o)), some (.fz (ti ps)), some (.fz (ti is)), some (.mt (prs (acc ++ (pr.filter fun j => (decide (j ∈ is) != true) && fitsB o ps (withItem (without is one) j)).map fun j => (one, j)))), some (.fz (.int one)), some (.fz (ti (without is one))), x6, none] ∧ nb x6 = true) (src_lenT rfl (by omega)) ⟨x6, by simp, g6⟩ (fun pr j post δ e ⟨x6, e', g6⟩ => ?_) fun δ ⟨x6, e', g6⟩ => ?_
    · subst e'
      have hj : 0 ≤ j ∧ j < ps.length := mem_upto.mp (by rw [e]; simp)
      have hpl : pr.length ≤ 1000 := by
        have := congrArg List.length e
        rw [upto_len, List.length_append, List.length_cons] at this
        omega
      have hpf := List.length_filter_le (fun j => (decide (j ∈ is) != true) && fitsB o ps (withItem (without is one) j)) pr
      refine ⟨[some (.fz (.int o)), some (.fz (ti ps)), some (.fz (ti is)), some (.mt (prs (acc ++ (pr.filter fun j => (decide (j ∈ is) != true) && fitsB o ps (withItem (without is one) j)).map fun j => (one, j)))), some (.fz (.int one)), some (.fz (ti (without is one))), some (.fz (.int j)), none], by simp only [tgName_eq, List.getElem?_cons_succ, List.getElem?_cons_zero, if_true, List.set_cons_succ, List.set_cons_zero, Int.zero_add, g6], ?_⟩
      rw [List.filter_append, List.map_append]
      have hap : (prs (acc ++ (pr.filter fun j => (decide (j ∈ is) != true) && fitsB o ps (withItem (without is one) j)).map fun j => (one, j))).length < LIM := by
        rw [prs_len, List.length_append, List.length_map]
        unfold LIM
        omega
      have pa : prs (acc ++ ((pr.filter fun j => (decide (j ∈ is) != true) && fitsB o ps (withItem (without is one) j)).map fun j => (one, j)) ++ [(one, j)]) = prs (acc ++ (pr.filter fun j => (decide (j ∈ is) != true) && fitsB o ps (withItem (without is one) j)).map fun j => (one, j)) ++ [.tuple [.int one, .int j]] := prs_append _ _
      generalize hql : ((pr.filter fun j => (decide (j ∈ is) != true) && fitsB o ps (withItem (without is one) j)).map fun j => (one, j)) = ql at *
      have wl : (without is one).length ≤ 1000 := by have := nodup_le hw; omega
      by_cases hin : j ∈ is
      · refine .one (δ1 := [some (.fz (.int o)), some (.fz (ti ps)), some (.fz (ti is)), some (.mt (prs (acc ++ ql))), some (.fz (.int one)), some (.fz (ti (without is one))), some (.fz (.int j)), none]) (by simp [b_swaps_3b_2b, b_swaps_3b_2b_1, fnOf, DL.start, sSeq, sIf, sAsg_eq, sAsgT, sSet, sRet, sDrop, sRaise, sCallX, sNext, sBreak, sCont, sPar, sPar3, notBr_eq, dTest, dTruthy, toL, toV, ofV, dOp, dUn, dUnE, dC, dLate, dVar, LV.get, slotD, DV.dat, dTup, dLst, aNil, aCons, lNil, lCons, getAll, dCB, dCall, dCallB, dAnd, dOr, dNot, dOfT, dIf, dChain, dMut, isLs, lentOf, tgName_eq, tgNil, tgCons, tgTup, dRange1, dRange2, dIter, itemsD, dYes, LIM, two62, p64, gIn_ti, hin]) ⟨_, by simp [hin]; rfl, rfl⟩
      · have fw := fits_with h1 h2 hl hw hj
        cases hb : fitsB o ps (withItem (without is one) j) with
        | false =>
          rw [hb] at fw
          refine .one (δ1 := [some (.fz (.int o)), some (.fz (ti ps)), some (.fz (ti is)), some (.mt (prs (acc ++ ql))), some (.fz (.int one)), some (.fz (ti (without is one))), some (.fz (.int j)), none]) (by simp [b_swaps_3b_2b, b_swaps_3b_2b_1, fnOf, DL.start, sSeq, sIf, sAsg_eq, sAsgT, sSet, sRet, sDrop, sRaise, sCallX, sNext, sBreak, sCont, sPar, sPar3, notBr_eq, dTest, dTruthy, toL, toV, ofV, dOp, dUn, dUnE, dC, dLate, dVar, LV.get, slotD, DV.dat, dTup, dLst, aNil, aCons, lNil, lCons, getAll, dCB, dCall, dCallB, dAnd, dOr, dNot, dOfT, dIf, dChain, dMut, isLs, lentOf, tgName_eq, tgNil, tgCons, tgTup, dRange1, dRange2, dIter, itemsD, dYes, LIM, two62, p64, gIn_ti, hin, with_item_spec wl, fw]) ⟨_, by simp [hb]; rfl, rfl⟩
        | true =>
          rw [hb] at fw
          have ma : mAppend (prs (acc ++ ql)) [.tuple [.int one, .int j]] = some (.fz .none, prs (acc ++ ql ++ [(one, j)])) := by rw [mAppend_ok hap, pa]
          refine .one (δ1 := [some (.fz (.int o)), some (.fz (ti ps)), some (.fz (ti is)), some (.mt (prs (acc ++ ql ++ [(one, j)]))), some (.fz (.int one)), some (.fz (ti (without is one))), some (.fz (.int j)), none]) (by simp [b_swaps_3b_2b, b_swaps_3b_2b_1, fnOf, DL.start, sSeq, sIf, sAsg_eq, sAsgT, sSet, sRet, sDrop, sRaise, sCallX, sNext, sBreak, sCont, sPar, sPar3, notBr_eq, dTest, dTruthy, toL, toV, ofV, dOp, dUn, dUnE, dC, dLate, dVar, LV.get, slotD, DV.dat, dTup, dLst, aNil, aCons, lNil, lCons, getAll, dCB, dCall, dCallB, dAnd, dOr, dNot, dOfT, dIf, dChain, dMut, isLs, lentOf, tgName_eq, tgNil, tgCons, tgTup, dRange1, dRange2, dIter, itemsD, dYes, LIM, two62, p64, gIn_ti, hin, with_item_spec wl, fw, ma]) ⟨_, by simp [hb, hin]; rfl, rfl⟩
    · refine ⟨some (.fz (.int one)), some (.fz (ti (without is one))), x6, e'.trans ?_, rfl, rfl, g6⟩
      rw [List.flatMap_append, hacc]
      simp [restI, List.filter_filter, Bool.and_comm]
  · subst e
    exact .one (by simp [b_swaps_4, DL.start, fnOf, DL.start, sSeq, sIf, sAsg_eq, sAsgT, sSet, sRet, sDrop, sRaise, sCallX, sNext, sBreak, sCont, sPar, sPar3, notBr_eq, dTest, dTruthy, toL, toV, ofV, dOp, dUn, dUnE, dC, dLate, dVar, LV.get, slotD, DV.dat, dTup, dLst, aNil, aCons, lNil, lCons, getAll, dCB, dCall, dCallB, dAnd, dOr, dNot, dOfT, dIf, dChain, dMut, isLs, lentOf, tgName_eq, tgNil, tgCons, tgTup, dIter, itemsD, dYes, LIM] <;> first | rfl | exact ⟨rfl, rfl⟩) (by exact ⟨rfl, rfl⟩)
/-! ### exchanges -/
theorem sub_len {a b : List Int} (ha : a.Nodup) (h : ∀ x ∈ a, x ∈ b) : a.length ≤ b.length := by
  induction a generalizing b with
  | nil => exact Nat.zero_le _
  | cons x a ih =>
    obtain ⟨h1, h2⟩ := List.nodup_cons.mp ha
    have hx := h x List.mem_cons_self
    have := ih (b := b.erase x) h2 fun y hy => by
      have hne : y ≠ x := fun e => h1 (e ▸ hy)
      exact (List.mem_erase_of_ne hne).mpr (h y (List.mem_cons_of_mem _ hy))
    rw [List.length_erase_of_mem hx] at this
    have : 0 < b.length := List.length_pos_iff.mpr fun e => by rw [e] at hx; cases hx
    rw [List.length_cons]
    omega
theorem split_len (p : Int → Bool) (l : List Int) : l.length = l.countP p + (l.filter fun x => !p x).length := by
  rw [List.length_eq_countP_add_countP p, ← List.countP_eq_length_filter]
  congr 2
  funext x
  cases p x <;> rfl
theorem it_nodup {n : Nat} {is : List Int} (h : It n is) : is.Nodup := h.inc.imp fun h => Int.ne_of_lt h
theorem exchange {o : Nat} {ps S L : List Int} (hS : It ps.length S) (hL : It ps.length L) (fS : fitsB o ps S = true) (fL : fitsB o ps L = true) (hlt : S.length < L.length) : ∃ i ∈ L, i ∈ joinI o ps S := by
  rw [fits_iff] at fS fL
  have hx : ∃ x : Int, (∀ p ∈ ps, S.countP (fun i => decide (p ≤ pr ps i)) = ps.countP (fun q => decide (p ≤ q)) / o → x ≤ p) ∧ L.countP (fun i => decide (x ≤ pr ps i)) ≤ S.countP (fun i => decide (x ≤ pr ps i)) := by
    cases hT : ps.filter fun p => decide (S.countP (fun i => decide (p ≤ pr ps i)) = ps.countP (fun q => decide (p ≤ q)) / o) with
    | nil =>
      have hno : ∀ p ∈ ps, ¬ S.countP (fun i => decide (p ≤ pr ps i)) = ps.countP (fun q => decide (p ≤ q)) / o := fun p hp e => by
        have : p ∈ ps.filter fun p => decide (S.countP (fun i => decide (p ≤ pr ps i)) = ps.countP (fun q => decide (p ≤ q)) / o) := List.mem_filter.mpr ⟨hp, decide_eq_true e⟩
        rw [hT] at this
        cases this
      have hin : ∀ i ∈ L, pr ps i ∈ ps := fun i hi => by
        have := hL.rng i hi
        unfold pr
        rw [List.getD_eq_getElem?_getD, List.getElem?_eq_getElem (by omega)]
        exact List.getElem_mem _
      refine ⟨maxI ps + 1, fun p hp e => absurd e (hno p hp), ?_⟩
      have : L.countP (fun i => decide (maxI ps + 1 ≤ pr ps i)) = 0 := by
        rw [List.countP_eq_zero]
        intro i hi
        have := mx_high (hin i hi)
        simp
        omega
      omega
    | cons t T =>
      have hmem : ∀ p, p ∈ t :: T ↔ p ∈ ps ∧ S.countP (fun i => decide (p ≤ pr ps i)) = ps.countP (fun q => decide (p ≤ q)) / o := fun p => by
        rw [← hT, List.mem_filter, decide_eq_true_eq]
      obtain ⟨h1, h2⟩ := (hmem _).mp (mn_mem t T)
      refine ⟨minI (t :: T), fun p hp e => mn_le ((hmem p).mpr ⟨hp, e⟩), ?_⟩
      rw [h2]
      exact fL _ h1
  obtain ⟨x, hx1, hx2⟩ := hx
  have l1 := split_len (fun i => decide (x ≤ pr ps i)) L
  have l2 := split_len (fun i => decide (x ≤ pr ps i)) S
  have hex : ∃ i ∈ L, i ∉ S ∧ pr ps i < x := by
    refine Classical.byContradiction fun hno => ?_
    have := sub_len (a := L.filter fun i => !decide (x ≤ pr ps i)) (b := S.filter fun i => !decide (x ≤ pr ps i)) ((it_nodup hL).sublist List.filter_sublist) fun i hi => by
      obtain ⟨h1, h2⟩ := List.mem_filter.mp hi
      refine List.mem_filter.mpr ⟨Classical.byContradiction fun hn => hno ⟨i, h1, hn, ?_⟩, h2⟩
      simp at h2
      exact h2
    omega
  obtain ⟨i, hi, hn, hp⟩ := hex
  refine ⟨i, hi, mem_join.mpr ⟨⟨hL.rng i hi, hn⟩, ?_⟩⟩
  rw [fits_iff]
  intro p hpm
  have e : (withItem S i).countP (fun j => decide (p ≤ pr ps j)) = S.countP (fun j => decide (p ≤ pr ps j)) + if p ≤ pr ps i then 1 else 0 := by
    unfold withItem
    rw [(srt_perm _).countP_eq, List.countP_append, List.countP_singleton]
    simp
  rw [e]
  have f := fS p hpm
  by_cases c : p ≤ pr ps i
  · rw [if_pos c]
    have := fun e => hx1 p hpm e
    rcases Nat.lt_or_eq_of_le f with g | g
    · omega
    · have := this g
      omega
  · rw [if_neg c]
    exact f
theorem fits_len {o : Nat} {ps is : List Int} (h1 : 1 ≤ ps.length) (hr : ∀ i ∈ is, 0 ≤ i ∧ i < ps.length) (hf : fitsB o ps is = true) : is.length ≤ ps.length / o := by
  rw [fits_iff] at hf
  have hne : ps ≠ [] := List.length_pos_iff.mp h1
  have := hf _ (mn_in hne)
  have e1 : is.countP (fun i => decide (minI ps ≤ pr ps i)) = is.length := by
    rw [List.countP_eq_length]
    intro i hi
    have := hr i hi
    have : pr ps i ∈ ps := by
      unfold pr
      rw [List.getD_eq_getElem?_getD, List.getElem?_eq_getElem (by omega)]
      exact List.getElem_mem _
    simp [mn_low this]
  have e2 : ps.countP (fun q => decide (minI ps ≤ q)) = ps.length := by
    rw [List.countP_eq_length]
    intro q hq
    simp [mn_low hq]
  rw [e1, e2] at this
  exact this
theorem join_full {o : Nat} (ho : 2 ≤ o) {ps is : List Int} (hB : Bk 1000000 ps) (hi : It ps.length is) (hf : fitsB o ps is = true) : joinI o ps is = [] ↔ is.length = ps.length / o := by
  have hl := fits_len hB.pos hi.rng hf
  constructor
  · intro h
    refine Classical.byContradiction fun hne => ?_
    have hb := best_fits ho hB.dec (fun p hp => (hB.rng p hp).1)
    obtain ⟨i, _, hj⟩ := exchange hi (it_best (o := o) (n := ps.length) (by omega)) hf hb (by
      unfold bestI
      rw [List.length_map, List.length_range]
      omega)
    rw [h] at hj
    cases hj
  · intro h
    refine List.eq_nil_iff_forall_not_mem.mpr fun i hj => ?_
    obtain ⟨⟨h1, h2⟩, h3⟩ := mem_join.mp hj
    have := fits_len hB.pos (it_with hi h1 h2).rng h3
    rw [with_len] at this
    omega
end FT
set_option Elab.async false
set_option linter.all false
/-! Splits. -/
namespace FT
open PySem DL
abbrev Rc := List Int × List Int
def rcD (p : Rc) : D := .tuple [ti p.1, ti p.2]
def splitI (m : Nat) : List Int → List Int → List Rc
  | _, [] => []
  | paid, x :: is => (paid.take m, [x]) :: splitI m (paid.drop m) is
def splitR (m : Nat) : Nat → List Int → List Rc
  | 0, _ => []
  | n + 1, paid => if paid = [] then [] else (paid.take m, []) :: splitR m n (paid.drop m)
def splitL (o n : Nat) (is : List Int) : List Rc := splitI (o - 1) (restI n is) is ++ splitR (o - 1) n ((restI n is).drop ((o - 1) * is.length))
theorem whileGo {c : ET} {b : SM} {Q : Sl → Prop} (P : Nat → Sl → Prop) : ∀ (n W : Nat) (δ : Sl), P n δ → n < W →
    (∀ n δ, P n δ → ∃ bo δ1, c δ = some (bo, δ1) ∧ (bo = false → Q δ1) ∧ (bo = true → ∃ n', n' < n ∧ Go b δ1 (P n'))) → Go (sWhile W c b) δ Q
  | n, 0, δ, _, h, _ => absurd h (Nat.not_lt_zero _)
  | n, W + 1, δ, hP, hW, hs => by
    obtain ⟨bo, δ1, e1, h1, h2⟩ := hs n δ hP
    cases bo with
    | false => exact ⟨δ1, by simp only [sWhile, whileTurns, e1], h1 rfl⟩
    | true =>
      obtain ⟨n', hn, δ2, e2, h3⟩ := h2 rfl
      obtain ⟨δ3, e3, q⟩ := whileGo P n' W δ2 h3 (by omega) hs
      refine ⟨δ3, ?_, q⟩
      have e3 : whileTurns c b W δ2 = some (.nx δ3) := e3
      simp only [sWhile, whileTurns, e1, e2, e3]
theorem splitI_len (m : Nat) : ∀ (is paid : List Int), (splitI m paid is).length = is.length
  | [], _ => rfl
  | x :: is, paid => by rw [splitI, List.length_cons, List.length_cons, splitI_len m is]
theorem splitR_len (m : Nat) : ∀ (n : Nat) (paid : List Int), (splitR m n paid).length ≤ n
  | 0, _ => Nat.le_refl _
  | n + 1, paid => by
    unfold splitR
    split
    · exact Nat.zero_le _
    · rw [List.length_cons]
      have := splitR_len m n (paid.drop m)
      omega
theorem split_of_spec {o : Nat} (h1 : 2 ≤ o) (h2 : o ≤ 9) {ps is : List Int} (hl : ps.length ≤ 30) (hi : It ps.length is) : F_split_of [.fz (.int o), .fz (ti ps), .fz (ti is)] = some (.ret (.fz (.tuple ((splitL o ps.length is).map rcD))) []) := by
  have hm := nodup_le hi
  have rl := rest_len ps.length is
  obtain ⟨z, hz⟩ : ∃ z : Int, z = (o : Int) - 1 := ⟨_, rfl⟩
  have ez : z = ((o - 1 : Nat) : Int) := by omega
  have ct : ∀ ns : List Int, cutD (intz ns) none (some z) = intz (ns.take (o - 1)) := fun ns => by rw [ez, cut_to, ints_take]
  have cf : ∀ ns : List Int, cutD (intz ns) (some z) none = intz (ns.drop (o - 1)) := fun ns => by rw [ez, cut_from, ints_drop]
  have m1 : 1 ≤ o - 1 := by omega
  unfold splitL
  generalize o - 1 = m at *
  refine fn_gives ?_
  refine .seq (sAsg_run (dComp_pick PyData.int PyData.int (fun i => decide (i ∈ is) != true) (upto ps.length) (a := none) (src_lenT rfl (by omega)) rfl rfl (lim_of (by rw [upto_len]; omega)) (fun i hi => by simp [fnOf, DL.start, sSeq, sIf, sAsg_eq, sAsgT, sSet, sRet, sDrop, sRaise, sCallX, sNext, sBreak, sCont, sPar, sPar3, notBr_eq, dTest, dTruthy, toL, toV, ofV, dOp, dUn, dUnE, dC, dLate, dVar, LV.get, slotD, DV.dat, dTup, dLst, aNil, aCons, lNil, lCons, getAll, dCB, dCall, dCallB, dAnd, dOr, dNot, dOfT, dIf, dChain, dMut, isLs, lentOf, tgName_eq, tgNil, tgCons, tgTup, dIter, itemsD, dYes, LIM, gIn_ti]) (fun i hi _ => by simp [fnOf, DL.start, sSeq, sIf, sAsg_eq, sAsgT, sSet, sRet, sDrop, sRaise, sCallX, sNext, sBreak, sCont, sPar, sPar3, notBr_eq, dTest, dTruthy, toL, toV, ofV, dOp, dUn, dUnE, dC, dLate, dVar, LV.get, slotD, DV.dat, dTup, dLst, aNil, aCons, lNil, lCons, getAll, dCB, dCall, dCallB, dAnd, dOr, dNot, dOfT, dIf, dChain, dMut, isLs, lentOf, tgName_eq, tgNil, tgCons, tgTup, dIter, itemsD, dYes, LIM])) rfl rfl) ?_
  have hee : List.map PyData.int ((upto ps.length).filter fun i => decide (i ∈ is) != true) = intz (restI ps.length is) := rfl
  rw [hee]
  generalize hpd : restI ps.length is = paid at *
  refine .seq (by simp [b_split_of_2, DL.start, fnOf, DL.start, sSeq, sIf, sAsg_eq, sAsgT, sSet, sRet, sDrop, sRaise, sCallX, sNext, sBreak, sCont, sPar, sPar3, notBr_eq, dTest, dTruthy, toL, toV, ofV, dOp, dUn, dUnE, dC, dLate, dVar, LV.get, slotD, DV.dat, dTup, dLst, aNil, aCons, lNil, lCons, getAll, dCB, dCall, dCallB, dAnd, dOr, dNot, dOfT, dIf, dChain, dMut, isLs, lentOf, tgName_eq, tgNil, tgCons, tgTup, dIter, itemsD, dYes, LIM, ← hz] <;> rfl) ?_
  refine .sq (P := fun δ => ∃ x6, δ = [some (.fz (.int o)), some (.fz (ti ps)), some (.fz (ti is)), some (.mt (intz (paid.drop (m * is.length)))), some (.fz (.int z)), some (.mt ((splitI m paid is).map rcD)), x6]) (Go.forL is PyData.int (fun pre δ => ∃ acc x6, δ = [some (.fz (.int o)), some (.fz (ti ps)), some (.fz (ti is)), some (.mt (intz (paid.drop (m * pre.length)))), some (.fz (.int z)), some (.mt (acc.map rcD)), x6] ∧ acc.length = pre.length ∧ (∀ post, is = pre ++ post → acc ++ splitI m (paid.drop (m * pre.length)) post = splitI m paid is) ∧ nb x6 = true) (src_ti rfl) ⟨[], none, rfl, rfl, fun post e => by simp [e], rfl⟩ (fun pre x post δ e ⟨acc, x6, e', la, ha, g6⟩ => ?_) fun δ ⟨acc, x6, e', la, ha, _⟩ => ?_) fun δ ⟨x6, e'⟩ => ?_
  · subst e'
    have hlen : pre.length < is.length := by rw [e]; simp
    generalize hq : paid.drop (m * pre.length) = q at *
    refine ⟨_, by simp only [tgName_eq, List.getElem?_cons_succ, List.getElem?_cons_zero, if_true, List.set_cons_succ, List.set_cons_zero, Int.zero_add, g6]; rfl, ?_⟩
    have ma : mAppend (acc.map rcD) [.tuple [ti (q.take m), .tuple [.int x]]] = some (.fz .none, (acc ++ [(q.take m, [x])]).map rcD) := by
      rw [mAppend_ok (by rw [List.length_map]; unfold LIM; omega), List.map_append]
      rfl
    refine .seq (a := b_split_of_3b_1) (by simp [b_split_of_3b_1, fnOf, DL.start, sSeq, sIf, sAsg_eq, sAsgT, sSet, sRet, sDrop, sRaise, sCallX, sNext, sBreak, sCont, sPar, sPar3, notBr_eq, dTest, dTruthy, toL, toV, ofV, dOp, dUn, dUnE, dC, dLate, dVar, LV.get, slotD, DV.dat, dTup, dLst, aNil, aCons, lNil, lCons, getAll, dCB, dCall, dCallB, dAnd, dOr, dNot, dOfT, dIf, dChain, dMut, isLs, lentOf, tgName_eq, tgNil, tgCons, tgTup, dIter, itemsD, dYes, LIM, dCut, oNone, oSome, ct, ma]; rfl) ?_
    refine .one (a := b_split_of_3b_2) (by simp [b_split_of_3b_2, fnOf, DL.start, sSeq, sIf, sAsg_eq, sAsgT, sSet, sRet, sDrop, sRaise, sCallX, sNext, sBreak, sCont, sPar, sPar3, notBr_eq, dTest, dTruthy, toL, toV, ofV, dOp, dUn, dUnE, dC, dLate, dVar, LV.get, slotD, DV.dat, dTup, dLst, aNil, aCons, lNil, lCons, getAll, dCB, dCall, dCallB, dAnd, dOr, dNot, dOfT, dIf, dChain, dMut, isLs, lentOf, tgName_eq, tgNil, tgCons, tgTup, dIter, itemsD, dYes, LIM, dCut, oNone, oSome, cf]; rfl) ?_
    have eq : q.drop m = paid.drop (m * (pre ++ [x]).length) := by
      rw [← hq, List.drop_drop]
      congr 1
      rw [List.length_append, List.length_singleton, Nat.mul_add, Nat.mul_one]
    refine ⟨acc ++ [(q.take m, [x])], some (.fz (.int x)), ?_, by simp [la], fun post' e2 => ?_, rfl⟩
    · rw [eq]
      simp
    · have := ha (x :: post') (by rw [e2]; simp)
      rw [← this, ← eq, splitI]
      simp
  · refine ⟨x6, ?_⟩
    have := ha [] (by simp)
    rw [splitI, List.append_nil] at this
    rw [← this]
    exact e'
  · subst e'
    have lI := splitI_len m is paid
    have ld : (paid.drop (m * is.length)).length ≤ ps.length := by rw [List.length_drop]; omega
    generalize splitI m paid is = one at *
    generalize paid.drop (m * is.length) = q at *
    have W := whileGo (c := dTruthy (dLate 3)) (b := b_split_of_4b) (Q := fun δ => ∃ x6, δ = [some (.fz (.int o)), some (.fz (ti ps)), some (.fz (ti is)), some (.mt (intz [])), some (.fz (.int z)), some (.mt ((one ++ splitR m ps.length q).map rcD)), x6])
      (fun n δ => n ≤ ps.length ∧ ∃ q' acc, δ = [some (.fz (.int o)), some (.fz (ti ps)), some (.fz (ti is)), some (.mt (intz q')), some (.fz (.int z)), some (.mt ((one ++ acc).map rcD)), x6] ∧ acc.length + n = ps.length ∧ q'.length ≤ n ∧ acc ++ splitR m n q' = splitR m ps.length q)
      ps.length W_split_of [some (.fz (.int o)), some (.fz (ti ps)), some (.fz (ti is)), some (.mt (intz q)), some (.fz (.int z)), some (.mt (one.map rcD)), x6] ⟨Nat.le_refl _, q, [], by simp, by simp, ld, rfl⟩ (by show ps.length < 60; omega) fun n δ ⟨hn, q', acc, e, la, lq, hq⟩ => by
        subst e
        cases q' with
        | nil =>
          refine ⟨false, _, by simp [fnOf, DL.start, sSeq, sIf, sAsg_eq, sAsgT, sSet, sRet, sDrop, sRaise, sCallX, sNext, sBreak, sCont, sPar, sPar3, notBr_eq, dTest, dTruthy, toL, toV, ofV, dOp, dUn, dUnE, dC, dLate, dVar, LV.get, slotD, DV.dat, dTup, dLst, aNil, aCons, lNil, lCons, getAll, dCB, dCall, dCallB, dAnd, dOr, dNot, dOfT, dIf, dChain, dMut, isLs, lentOf, tgName_eq, tgNil, tgCons, tgTup, dIter, itemsD, dYes, LIM, intz]; rfl, fun _ => ⟨x6, ?_⟩, fun h => by cases h⟩
          have : splitR m n [] = [] := by cases n <;> simp [splitR]
          rw [this, List.append_nil] at hq
          rw [hq]
          simp [intz]
        | cons a q' =>
          refine ⟨true, _, by simp [fnOf, DL.start, sSeq, sIf, sAsg_eq, sAsgT, sSet, sRet, sDrop, sRaise, sCallX, sNext, sBreak, sCont, sPar, sPar3, notBr_eq, dTest, dTruthy, toL, toV, ofV, dOp, dUn, dUnE, dC, dLate, dVar, LV.get, slotD, DV.dat, dTup, dLst, aNil, aCons, lNil, lCons, getAll, dCB, dCall, dCallB, dAnd, dOr, dNot, dOfT, dIf, dChain, dMut, isLs, lentOf, tgName_eq, tgNil, tgCons, tgTup, dIter, itemsD, dYes, LIM, intz]; rfl, fun h => (by cases h), fun _ => ?_⟩
          cases n with
          | zero => simp at lq
          | succ n =>
            have hc : PyData.int a :: List.map PyData.int q' = intz (a :: q') := rfl
            rw [hc]
            have hR : splitR m (n + 1) (a :: q') = ((a :: q').take m, []) :: splitR m n ((a :: q').drop m) := by rw [splitR, if_neg (by simp)]
            have ld : ((a :: q').drop m).length ≤ n := by rw [List.length_drop]; omega
            generalize a :: q' = q1 at *
            have ma : mAppend ((one ++ acc).map rcD) [.tuple [ti (q1.take m), .tuple []]] = some (.fz .none, (one ++ (acc ++ [(q1.take m, [])])).map rcD) := by
              rw [mAppend_ok (by rw [List.length_map, List.length_append]; unfold LIM; omega), ← List.append_assoc]
              simp [rcD, ints_nil]
            refine ⟨n, by omega, ?_⟩
            refine .seq (a := b_split_of_4b_1) (by simp only [List.map_append] at ma; simp [b_split_of_4b_1, fnOf, DL.start, sSeq, sIf, sAsg_eq, sAsgT, sSet, sRet, sDrop, sRaise, sCallX, sNext, sBreak, sCont, sPar, sPar3, notBr_eq, dTest, dTruthy, toL, toV, ofV, dOp, dUn, dUnE, dC, dLate, dVar, LV.get, slotD, DV.dat, dTup, dLst, aNil, aCons, lNil, lCons, getAll, dCB, dCall, dCallB, dAnd, dOr, dNot, dOfT, dIf, dChain, dMut, isLs, lentOf, tgName_eq, tgNil, tgCons, tgTup, dIter, itemsD, dYes, LIM, dCut, oNone, oSome, ct, ma]; rfl) ?_
            refine .one (a := b_split_of_4b_2) (by simp [b_split_of_4b_2, fnOf, DL.start, sSeq, sIf, sAsg_eq, sAsgT, sSet, sRet, sDrop, sRaise, sCallX, sNext, sBreak, sCont, sPar, sPar3, notBr_eq, dTest, dTruthy, toL, toV, ofV, dOp, dUn, dUnE, dC, dLate, dVar, LV.get, slotD, DV.dat, dTup, dLst, aNil, aCons, lNil, lCons, getAll, dCB, dCall, dCallB, dAnd, dOr, dNot, dOfT, dIf, dChain, dMut, isLs, lentOf, tgName_eq, tgNil, tgCons, tgTup, dIter, itemsD, dYes, LIM, dCut, oNone, oSome, cf]; rfl) ?_
            refine ⟨by omega, q1.drop m, acc ++ [(q1.take m, [])], by simp, by simp; omega, ld, ?_⟩
            rw [← hq, hR]
            simp
    refine .sq W fun δ ⟨x6, e⟩ => ?_
    subst e
    refine .one (by simp [b_split_of_5, DL.start, fnOf, DL.start, sSeq, sIf, sAsg_eq, sAsgT, sSet, sRet, sDrop, sRaise, sCallX, sNext, sBreak, sCont, sPar, sPar3, notBr_eq, dTest, dTruthy, toL, toV, ofV, dOp, dUn, dUnE, dC, dLate, dVar, LV.get, slotD, DV.dat, dTup, dLst, aNil, aCons, lNil, lCons, getAll, dCB, dCall, dCallB, dAnd, dOr, dNot, dOfT, dIf, dChain, dMut, isLs, lentOf, tgName_eq, tgNil, tgCons, tgTup, dIter, itemsD, dYes, LIM] <;> first | rfl | exact ⟨rfl, rfl⟩) ?_
    exact ⟨by simp, rfl⟩
theorem split_for_4 {z : Int} {ps is : List Int} {r : List D} (Φ Ψ : Fn) (a4 : Ψ [.fz (.int z), .fz (ti ps), .fz (ti is)] = some (.ret (.fz (.bool true)) [])) (a5 : Φ [.fz (.int z), .fz (ti ps), .fz (ti is)] = some (.ret (.fz (.tuple r)) [])) : Gives (sRet (dIf (dTruthy (toL (toV (dCall Ψ (aCons (dVar 0) (aCons (dVar 1) (aCons (dVar 2) aNil))))))) (dCall Φ (aCons (dVar 0) (aCons (dVar 1) (aCons (dVar 2) aNil)))) (ofV (dC .none)))) [some (.fz (.int z)), some (.fz (ti ps)), some (.fz (ti is))] (fun r' δ' => r' = .fz (.tuple r) ∧ lentOf δ' = []) :=
  .one (by simp [fnOf, DL.start, sSeq, sIf, sAsg_eq, sAsgT, sSet, sRet, sDrop, sRaise, sCallX, sNext, sBreak, sCont, sPar, sPar3, notBr_eq, dTest, dTruthy, toL, toV, ofV, dOp, dUn, dUnE, dC, dLate, dVar, LV.get, slotD, DV.dat, dTup, dLst, aNil, aCons, lNil, lCons, getAll, dCB, dCall, dCallB, dAnd, dOr, dNot, dOfT, dIf, dChain, dMut, isLs, lentOf, tgName_eq, tgNil, tgCons, tgTup, dIter, itemsD, dYes, LIM, a4, a5]; exact ⟨rfl, rfl⟩) (by exact ⟨rfl, rfl⟩)
theorem split_for_spec {o : Nat} (h1 : 2 ≤ o) (h2 : o ≤ 9) {ps is : List Int} (h : Bk 1000000 ps) (hl : ps.length ≤ 30) (hi : It ps.length is) :
    (fitsB o ps is = true → F_split_for [.fz (.int o), .fz (ti ps), .fz (ti is)] = some (.ret (.fz (.tuple ((splitL o ps.length is).map rcD))) [])) ∧ (fitsB o ps is = false → F_split_for [.fz (.int o), .fz (ti ps), .fz (ti is)] = some (.ret (.fz .none) [])) := by
  have hm := nodup_le hi
  have a1 := require_offer_ok (o := (o : Int)) (by omega) (by omega)
  have a2 := require_basket_ok h hl
  have a3 := require_items_ok (show ps.length ≤ 1000 by omega) hi
  have a4 := fits_spec (show 1 ≤ o by omega) h2 (show ps.length ≤ 1000 by omega) (show is.length ≤ 1000 by omega) hi.rng
  have a5 := split_of_spec h1 h2 hl hi
  generalize (splitL o ps.length is).map rcD = r at *
  generalize (o : Int) = z at *
  constructor <;> intro hf <;> rw [hf] at a4 <;> refine fn_gives ?_
  · refine .seq (by simp [b_split_for_1, DL.start, fnOf, DL.start, sSeq, sIf, sAsg_eq, sAsgT, sSet, sRet, sDrop, sRaise, sCallX, sNext, sBreak, sCont, sPar, sPar3, notBr_eq, dTest, dTruthy, toL, toV, ofV, dOp, dUn, dUnE, dC, dLate, dVar, LV.get, slotD, DV.dat, dTup, dLst, aNil, aCons, lNil, lCons, getAll, dCB, dCall, dCallB, dAnd, dOr, dNot, dOfT, dIf, dChain, dMut, isLs, lentOf, tgName_eq, tgNil, tgCons, tgTup, dIter, itemsD, dYes, LIM, a1] <;> rfl) ?_
    refine .seq (by simp [b_split_for_2, DL.start, fnOf, DL.start, sSeq, sIf, sAsg_eq, sAsgT, sSet, sRet, sDrop, sRaise, sCallX, sNext, sBreak, sCont, sPar, sPar3, notBr_eq, dTest, dTruthy, toL, toV, ofV, dOp, dUn, dUnE, dC, dLate, dVar, LV.get, slotD, DV.dat, dTup, dLst, aNil, aCons, lNil, lCons, getAll, dCB, dCall, dCallB, dAnd, dOr, dNot, dOfT, dIf, dChain, dMut, isLs, lentOf, tgName_eq, tgNil, tgCons, tgTup, dIter, itemsD, dYes, LIM, a2] <;> rfl) ?_
    refine .seq (by simp [b_split_for_3, DL.start, fnOf, DL.start, sSeq, sIf, sAsg_eq, sAsgT, sSet, sRet, sDrop, sRaise, sCallX, sNext, sBreak, sCont, sPar, sPar3, notBr_eq, dTest, dTruthy, toL, toV, ofV, dOp, dUn, dUnE, dC, dLate, dVar, LV.get, slotD, DV.dat, dTup, dLst, aNil, aCons, lNil, lCons, getAll, dCB, dCall, dCallB, dAnd, dOr, dNot, dOfT, dIf, dChain, dMut, isLs, lentOf, tgName_eq, tgNil, tgCons, tgTup, dIter, itemsD, dYes, LIM, a3] <;> rfl) ?_
    exact split_for_4 F_split_of F_fits a4 a5
  · refine .seq (by simp [b_split_for_1, DL.start, fnOf, DL.start, sSeq, sIf, sAsg_eq, sAsgT, sSet, sRet, sDrop, sRaise, sCallX, sNext, sBreak, sCont, sPar, sPar3, notBr_eq, dTest, dTruthy, toL, toV, ofV, dOp, dUn, dUnE, dC, dLate, dVar, LV.get, slotD, DV.dat, dTup, dLst, aNil, aCons, lNil, lCons, getAll, dCB, dCall, dCallB, dAnd, dOr, dNot, dOfT, dIf, dChain, dMut, isLs, lentOf, tgName_eq, tgNil, tgCons, tgTup, dIter, itemsD, dYes, LIM, a1] <;> rfl) ?_
    refine .seq (by simp [b_split_for_2, DL.start, fnOf, DL.start, sSeq, sIf, sAsg_eq, sAsgT, sSet, sRet, sDrop, sRaise, sCallX, sNext, sBreak, sCont, sPar, sPar3, notBr_eq, dTest, dTruthy, toL, toV, ofV, dOp, dUn, dUnE, dC, dLate, dVar, LV.get, slotD, DV.dat, dTup, dLst, aNil, aCons, lNil, lCons, getAll, dCB, dCall, dCallB, dAnd, dOr, dNot, dOfT, dIf, dChain, dMut, isLs, lentOf, tgName_eq, tgNil, tgCons, tgTup, dIter, itemsD, dYes, LIM, a2] <;> rfl) ?_
    refine .seq (by simp [b_split_for_3, DL.start, fnOf, DL.start, sSeq, sIf, sAsg_eq, sAsgT, sSet, sRet, sDrop, sRaise, sCallX, sNext, sBreak, sCont, sPar, sPar3, notBr_eq, dTest, dTruthy, toL, toV, ofV, dOp, dUn, dUnE, dC, dLate, dVar, LV.get, slotD, DV.dat, dTup, dLst, aNil, aCons, lNil, lCons, getAll, dCB, dCall, dCallB, dAnd, dOr, dNot, dOfT, dIf, dChain, dMut, isLs, lentOf, tgName_eq, tgNil, tgCons, tgTup, dIter, itemsD, dYes, LIM, a3] <;> rfl) ?_
    exact .one (by simp [b_split_for_4, DL.start, fnOf, DL.start, sSeq, sIf, sAsg_eq, sAsgT, sSet, sRet, sDrop, sRaise, sCallX, sNext, sBreak, sCont, sPar, sPar3, notBr_eq, dTest, dTruthy, toL, toV, ofV, dOp, dUn, dUnE, dC, dLate, dVar, LV.get, slotD, DV.dat, dTup, dLst, aNil, aCons, lNil, lCons, getAll, dCB, dCall, dCallB, dAnd, dOr, dNot, dOfT, dIf, dChain, dMut, isLs, lentOf, tgName_eq, tgNil, tgCons, tgTup, dIter, itemsD, dYes, LIM, a4] <;> first | rfl | exact ⟨rfl, rfl⟩) (by exact ⟨rfl, rfl⟩)
/-- for turn in range(m), m not 0; E holds behind each turn -/
theorem turn_loop2 {m : Nat} (hm : m ≤ 1000) (hm1 : 1 ≤ m) {n : Nat} {cs : List Nat} {ns : List Int} {k : Nat} {body : SM} {δ : Sl} (E : Sl → Prop) (h : InvB (n + 1) cs ns k δ) (hc : 0 ∉ cs)
    (hb : ∀ (j : Nat) b xs, Bag b → xs.length = n → xs.all nb = true → calms cs (some (.fz (.int (j : Nat))) :: xs) = true → Go body (some (.fz (scrD ns)) :: some (.fz (.int (k : Nat))) :: some (.mt b) :: some (.fz (.int (j : Nat))) :: xs) (fun δ => InvB (n + 1) cs ns k δ ∧ E δ)) :
    Go (sFor (dRange1 (lCons (toL (dC (.int (m : Nat)))) lNil)) (tgName 3) body) δ (fun δ => InvB (n + 1) cs ns k δ ∧ E δ) := by
  refine Go.forN m (fun i δ => InvB (n + 1) cs ns k δ ∧ (0 < i → E δ)) (by rw [range1_nat hm, rangeD_upto]) ⟨h, fun h => absurd h (Nat.lt_irrefl 0)⟩ (fun i δ hi ⟨⟨b, xs, e, hb0, r1, r2, r3⟩, _⟩ => ?_) fun _ h => ⟨h.1, h.2 (by omega)⟩
  subst e
  cases xs with
  | nil => cases r1
  | cons x3 xs =>
    rw [List.all_cons, Bool.and_eq_true] at r2
    refine ⟨some (.fz (scrD ns)) :: some (.fz (.int (k : Nat))) :: some (.mt b) :: some (.fz (.int (i : Nat))) :: xs, by simp only [tgName_eq, List.getElem?_cons_succ, List.getElem?_cons_zero, if_true, List.set_cons_succ, List.set_cons_zero, Int.zero_add, r2.1], (hb i b xs hb0 (by simpa using r1) r2.2 ?_).imp fun δ h => ⟨h.1, fun _ => h.2⟩⟩
    unfold calms at r3 ⊢
    rw [List.all_eq_true] at r3 ⊢
    intro c hc0
    have := r3 c hc0
    cases c with
    | zero => exact absurd hc0 hc
    | succ c => simpa using this
theorem sh_str (s : Str) (h : (PyData.str s).canLay0 = true) (k : Nat) : Sh k (.str s) := ⟨h, by simp [PyData.depth]⟩
end FT
set_option Elab.async false
set_option linter.all false
/-! All sets of items. -/
namespace FT
open PySem DL
abbrev tls (ls : List (List Int)) : List D := ls.map fun l => ti l
theorem tupsOf_tls : ∀ ls : List (List Int), tupsOf (tls ls) = some ls
  | [] => rfl
  | l :: ls => by
    have h : tupOf (ti l) = some l := intsOf_map' l
    simp only [tls, List.map_cons, tupsOf, h]
    have := tupsOf_tls ls
    simp only [tls] at this
    rw [this]
theorem gSorted_tups {ls : List (List Int)} (hne : ls ≠ []) (h : okT ls = true) : gSorted [.list (tls ls)] = some (.mt (tls (sortT ls))) := by
  cases ls with
  | nil => exact absurd rfl hne
  | cons l r =>
    have e1 : gSortedI [.list (tls (l :: r))] = none := rfl
    have e2 : gSortT [.list (tls (l :: r))] = some (.mt (tls (sortT (l :: r)))) := by
      show (match tupsOf (tls (l :: r)) with
        | some ls => if okT ls then some (DV.mt ((sortT ls).map fun (l : List Int) => .tuple (l.map PyData.int))) else none
        | none => none) = _
      rw [tupsOf_tls]
      dsimp only
      rw [if_pos h]
      rfl
    simp only [gSorted, orN, e1, e2]
theorem src_mtg {α : Type} {i : Nat} {δ : Sl} {xs : List α} {g : α → D} (h : δ[i]? = some (some (.mt (xs.map g)))) : dIter (dVar i) δ = some (xs.map g, δ.set i (some (.fz (.list (xs.map g))))) := by
  simp only [dIter, dVar, h, itemsD]
def subsL : Nat → List (List Int)
  | 0 => [[]]
  | n + 1 => subsL n ++ (subsL n).map fun r => r ++ [((n : Nat) : Int)]
theorem subsL_len : ∀ n, (subsL n).length = 2 ^ n
  | 0 => rfl
  | n + 1 => by
    rw [subsL, List.length_append, List.length_map, subsL_len n, Nat.pow_succ]
    omega
theorem subsL_head : ∀ n, ∃ r, subsL n = [] :: r
  | 0 => ⟨[], rfl⟩
  | n + 1 => by
    obtain ⟨r, e⟩ := subsL_head n
    exact ⟨_, by rw [subsL, e]; rfl⟩
theorem mem_subsL : ∀ {n : Nat} {r : List Int}, r ∈ subsL n ↔ It n r
  | 0, r => by
    rw [subsL, List.mem_singleton]
    constructor
    · rintro rfl
      exact ⟨(fun i h => by cases h), List.Pairwise.nil⟩
    · intro h
      cases r with
      | nil => rfl
      | cons x r =>
        have := h.rng x List.mem_cons_self
        omega
  | n + 1, r => by
    rw [subsL, List.mem_append, mem_subsL, List.mem_map]
    constructor
    · rintro (h | ⟨q, hq, rfl⟩)
      · exact ⟨fun i hi => by have := h.rng i hi; omega, h.inc⟩
      · rw [mem_subsL] at hq
        refine ⟨fun i hi => ?_, ?_⟩
        · rcases List.mem_append.mp hi with h | h
          · have := hq.rng i h
            omega
          · rw [List.mem_singleton] at h
            omega
        · rw [List.pairwise_append]
          refine ⟨hq.inc, List.pairwise_singleton .., fun a ha b hb => ?_⟩
          rw [List.mem_singleton] at hb
          have := hq.rng a ha
          omega
    · intro h
      by_cases hn : ((n : Nat) : Int) ∈ r
      · refine .inr ⟨r.dropLast, ?_, ?_⟩
        · rw [mem_subsL]
          have hne : r ≠ [] := fun e => by rw [e] at hn; cases hn
          have e := List.dropLast_concat_getLast hne
          have hp := h.inc
          rw [← e, List.pairwise_append] at hp
          refine ⟨fun i hi => ?_, hp.1⟩
          have h1 := hp.2.2 i hi _ (List.mem_singleton.mpr rfl)
          have h2 := h.rng _ (List.getLast_mem hne)
          have h3 := h.rng i ((List.dropLast_sublist r).subset hi)
          omega
        · have hne : r ≠ [] := fun e => by rw [e] at hn; cases hn
          have e := List.dropLast_concat_getLast hne
          have hp := h.inc
          have : r.getLast hne = ((n : Nat) : Int) := by
            have h2 := h.rng _ (List.getLast_mem hne)
            rw [← e] at hn hp
            rcases List.mem_append.mp hn with q | q
            · have := (List.pairwise_append.mp hp).2.2 _ q _ (List.mem_singleton.mpr rfl)
              omega
            · rw [List.mem_singleton] at q
              exact q.symm
          rw [← this]
          exact e
      · refine .inl ⟨fun i hi => ?_, h.inc⟩
        have := h.rng i hi
        have : i ≠ n := fun e => hn (e ▸ hi)
        omega
theorem sortT_perm (ls : List (List Int)) : (sortT ls).Perm ls := List.mergeSort_perm ..
theorem mem_sortT {ls : List (List Int)} {r : List Int} : r ∈ sortT ls ↔ r ∈ ls := (sortT_perm ls).mem_iff
/-- all sets, in the order of tuples -/
def subsS (n : Nat) : List (List Int) := sortT (subsL n)
theorem mem_subsS {n : Nat} {r : List Int} : r ∈ subsS n ↔ It n r := mem_sortT.trans mem_subsL
theorem subsS_len (n : Nat) : (subsS n).length = 2 ^ n := by
  unfold subsS
  rw [(sortT_perm _).length_eq, subsL_len]
theorem subsL_okT (n : Nat) : okT (subsL n) = true := by
  obtain ⟨r, e⟩ := subsL_head n
  rw [e]
  simp [okT]
theorem pow_le12 {n : Nat} (h : n ≤ 12) : 2 ^ n ≤ 4096 := Nat.le_trans (Nat.pow_le_pow_right (by decide) h) (by decide)
theorem subsets_spec {n : Nat} (hn : n ≤ 12) : F__law_subsets [.fz (.int (n : Nat))] = some (.ret (.mt (tls (subsS n))) []) := by
  refine fn_gives ?_
  refine .seq (by simp [b__law_subsets_1, DL.start, fnOf, DL.start, sSeq, sIf, sAsg_eq, sAsgT, sSet, sRet, sDrop, sRaise, sCallX, sNext, sBreak, sCont, sPar, sPar3, notBr_eq, dTest, dTruthy, toL, toV, ofV, dOp, dUn, dUnE, dC, dLate, dVar, LV.get, slotD, DV.dat, dTup, dLst, aNil, aCons, lNil, lCons, getAll, dCB, dCall, dCallB, dAnd, dOr, dNot, dOfT, dIf, dChain, dMut, isLs, lentOf, tgName_eq, tgNil, tgCons, tgTup, dIter, itemsD, dYes, LIM] <;> rfl) ?_
  refine .sq (P := fun δ => ∃ x2, δ = [some (.fz (.int (n : Nat))), some (.mt (tls (subsL n))), x2, none]) (Go.forN n (fun i δ => ∃ x2, δ = [some (.fz (.int (n : Nat))), some (.mt (tls (subsL i))), x2, none] ∧ nb x2 = true) (range1_gen (x := .slot 0) rfl rfl (by omega)) ⟨none, rfl, rfl⟩ (fun i δ hi ⟨x2, e, g2⟩ => ?_) fun δ ⟨x2, e, _⟩ => ⟨x2, e⟩) fun δ ⟨x2, e⟩ => ?_
  · subst e
    have p1 := pow_le12 (show i ≤ 12 by omega)
    have sl := subsL_len i
    have e3 : tls (subsL (i + 1)) = tls (subsL i) ++ (subsL i).map fun r => ti (r ++ [((i : Nat) : Int)]) := by
      unfold tls
      rw [subsL, List.map_append, List.map_map]
      rfl
    rw [e3]
    have rl : ∀ r ∈ subsL i, r.length ≤ 12 := fun r hr => by
      have := nodup_le (mem_subsL.mp hr)
      omega
    obtain ⟨z, hz⟩ : ∃ z : Int, z = ((i : Nat) : Int) := ⟨_, rfl⟩
    rw [← hz]
    generalize subsL i = ls at *
    refine ⟨_, by simp only [tgName_eq, List.getElem?_cons_succ, List.getElem?_cons_zero, if_true, List.set_cons_succ, List.set_cons_zero, Int.zero_add, g2]; rfl, ?_⟩
    have c : dComp (dIter (dVar 1)) (tgName 3) dYes (toV (dOp gAdd (dLate 3) (toL (dTup (aCons (dVar 2) aNil))))) [3] [some (.fz (.int (n : Nat))), some (.mt (tls ls)), some (.fz (.int z)), none] = some (.mt (ls.map fun r => ti (r ++ [z])), [some (.fz (.int (n : Nat))), some (.fz (.list (tls ls))), some (.fz (.int z)), none]) :=
      dComp_map (fun l => ti l) (fun r => ti (r ++ [z])) ls (src_mtg rfl) rfl rfl (lim_of' (k := 1000) (n := 1000) (Nat.le_refl _) (Nat.le_refl _) |> fun _ => by unfold LIM; omega) fun r hr => by
        have q := cost_of_dsc (o := 1) (by decide) (by decide) r z (by have := rl r hr; omega)
        simp [fnOf, DL.start, sSeq, sIf, sAsg_eq, sAsgT, sSet, sRet, sDrop, sRaise, sCallX, sNext, sBreak, sCont, sPar, sPar3, notBr_eq, dTest, dTruthy, toL, toV, ofV, dOp, dUn, dUnE, dC, dLate, dVar, LV.get, slotD, DV.dat, dTup, dLst, aNil, aCons, lNil, lCons, getAll, dCB, dCall, dCallB, dAnd, dOr, dNot, dOfT, dIf, dChain, dMut, isLs, lentOf, tgName_eq, tgNil, tgCons, tgTup, dIter, itemsD, dYes, LIM, q]
    have a : gAdd (.list (tls ls)) (.list (ls.map fun r => ti (r ++ [z]))) = some (.mt (tls ls ++ ls.map fun r => ti (r ++ [z]))) := gAdd_list (by rw [List.length_map, List.length_map]; unfold LIM; omega)
    refine .one (by simp [b__law_subsets_2b, b__law_subsets_2b_1, fnOf, DL.start, sSeq, sIf, sAsg_eq, sAsgT, sSet, sRet, sDrop, sRaise, sCallX, sNext, sBreak, sCont, sPar, sPar3, notBr_eq, dTest, dTruthy, toL, toV, ofV, dOp, dUn, dUnE, dC, dLate, dVar, LV.get, slotD, DV.dat, dTup, dLst, aNil, aCons, lNil, lCons, getAll, dCB, dCall, dCallB, dAnd, dOr, dNot, dOfT, dIf, dChain, dMut, isLs, lentOf, tgName_eq, tgNil, tgCons, tgTup, dIter, itemsD, dYes, LIM, c, a]; rfl) ?_
    exact ⟨_, rfl, rfl⟩
  · subst e
    have s := gSorted_tups (fun e => by obtain ⟨r, e2⟩ := subsL_head n; rw [e] at e2; cases e2) (subsL_okT n)
    exact .one (by simp [b__law_subsets_3, DL.start, fnOf, DL.start, sSeq, sIf, sAsg_eq, sAsgT, sSet, sRet, sDrop, sRaise, sCallX, sNext, sBreak, sCont, sPar, sPar3, notBr_eq, dTest, dTruthy, toL, toV, ofV, dOp, dUn, dUnE, dC, dLate, dVar, LV.get, slotD, DV.dat, dTup, dLst, aNil, aCons, lNil, lCons, getAll, dCB, dCall, dCallB, dAnd, dOr, dNot, dOfT, dIf, dChain, dMut, isLs, lentOf, tgName_eq, tgNil, tgCons, tgTup, dIter, itemsD, dYes, LIM, s] <;> first | rfl | exact ⟨rfl, rfl⟩) (by exact ⟨rfl, rfl⟩)
end FT
set_option Elab.async false
set_option linter.all false
/-! Lines: cuts and their savings. -/
namespace FT
open PySem DL
def seg (l : List Int) (a b : Nat) : List Int := (l.drop a).take (b - a)
def sv (o : Nat) (p : List Int) : Int := p.sum - costOf o (dsc p)
def savF (o : Nat) (l : List Int) : Nat → List Nat → Int
  | _, [] => 0
  | a, b :: r => sv o (seg l a b) + savF o l b r
theorem savF_snoc (o : Nat) (l : List Int) : ∀ (r : List Nat) (a c j : Nat), savF o l a (r ++ [c] ++ [j]) = savF o l a (r ++ [c]) + sv o (seg l c j)
  | [], a, c, j => by simp [savF]
  | b :: r, a, c, j => by
    have := savF_snoc o l r b c j
    simp only [List.cons_append, savF] at *
    omega
structure Valid (n : Nat) (cs : List Nat) : Prop where
  inc : cs.Pairwise (· < ·)
  rng : ∀ c ∈ cs, 1 ≤ c ∧ c < n
def natI (cs : List Nat) : List Int := cs.map fun c => ((c : Nat) : Int)
theorem sv_perm {o : Nat} {a b : List Int} (h : a.Perm b) : sv o a = sv o b := by
  unfold sv
  rw [perm_sum h, dsc_congr h]
theorem sv_nil (o : Nat) : sv o [] = 0 := by
  have : dsc [] = [] := List.eq_nil_of_length_eq_zero (by rw [dsc_len]; rfl)
  unfold sv costOf
  rw [this]
  simp
/-! ### the best -/
def cand (o : Nat) (l : List Int) (b : List (Int × List Int)) (stop start : Nat) : Int × List Int :=
  let p := b.getD start (0, [])
  (p.1 + sv o (seg l start stop), if start = 0 then [] else p.2 ++ [((start : Nat) : Int)])
def mxc : List (Int × List Int) → Int × List Int
  | [] => (0, [])
  | p :: r => maxP p r
def bestL (o : Nat) (l : List Int) : Nat → List (Int × List Int)
  | 0 => [(0, [])]
  | j + 1 => bestL o l j ++ [mxc ((List.range (j + 1)).map (cand o l (bestL o l j) (j + 1)))]
structure BestAt (o : Nat) (l : List Int) (j : Nat) (p : Int × List Int) : Prop where
  ex : ∃ cs, p.2 = natI cs ∧ Valid j cs ∧ savF o l 0 (cs ++ [j]) = p.1
  up : ∀ cs, Valid j cs → savF o l 0 (cs ++ [j]) ≤ p.1
theorem bestL_len (o : Nat) (l : List Int) : ∀ j, (bestL o l j).length = j + 1
  | 0 => rfl
  | j + 1 => by rw [bestL, List.length_append, bestL_len o l j]; rfl
theorem maxP_in (p : Int × List Int) (r : List (Int × List Int)) : maxP p r ∈ p :: r := by
  unfold maxP
  induction r generalizing p with
  | nil => exact List.mem_cons_self
  | cons q r ih =>
    rw [List.foldl_cons]
    have := ih (if ltP p q then q else p)
    rcases List.mem_cons.mp this with e | e
    · rw [e]
      split
      · exact List.mem_cons_of_mem _ List.mem_cons_self
      · exact List.mem_cons_self
    · exact List.mem_cons_of_mem _ (List.mem_cons_of_mem _ e)
theorem maxP_up (r : List (Int × List Int)) : ∀ (p : Int × List Int), p.1 ≤ (maxP p r).1 ∧ ∀ q ∈ r, q.1 ≤ (maxP p r).1 := by
  unfold maxP
  induction r with
  | nil => exact fun p => ⟨Int.le_refl _, fun q hq => by cases hq⟩
  | cons q r ih =>
    intro p
    rw [List.foldl_cons]
    obtain ⟨h1, h2⟩ := ih (if ltP p q then q else p)
    have h3 : p.1 ≤ (if ltP p q then q else p).1 ∧ q.1 ≤ (if ltP p q then q else p).1 := by
      by_cases h : ltP p q = true
      · rw [if_pos h]
        have := of_decide_eq_true h
        omega
      · rw [if_neg h]
        have : ¬ (p.1 < q.1 ∨ (p.1 = q.1 ∧ p.2 < q.2)) := fun c => h (decide_eq_true c)
        omega
    refine ⟨by omega, fun x hx => ?_⟩
    rcases List.mem_cons.mp hx with rfl | hx
    · omega
    · exact h2 x hx
theorem mxc_in {l : List (Int × List Int)} (h : l ≠ []) : mxc l ∈ l := by
  cases l with
  | nil => exact absurd rfl h
  | cons p r => exact maxP_in p r
theorem mxc_up {l : List (Int × List Int)} {q : Int × List Int} (h : q ∈ l) : q.1 ≤ (mxc l).1 := by
  cases l with
  | nil => cases h
  | cons p r =>
    rcases List.mem_cons.mp h with rfl | h
    · exact (maxP_up r q).1
    · exact (maxP_up r p).2 q h
theorem natI_append (a b : List Nat) : natI (a ++ b) = natI a ++ natI b := List.map_append
theorem bestL_ok (o : Nat) (l : List Int) : ∀ j i, i ≤ j → BestAt o l i ((bestL o l j).getD i (0, []))
  | 0, i, h => by
    have : i = 0 := by omega
    subst this
    refine ⟨⟨[], rfl, ⟨List.Pairwise.nil, fun c h => by cases h⟩, ?_⟩, fun cs hv => ?_⟩
    · simp [savF, seg, sv_nil, bestL]
    · cases cs with
      | nil => simp [savF, seg, sv_nil, bestL]
      | cons c cs =>
        have := hv.rng c List.mem_cons_self
        omega
  | j + 1, i, h => by
    have hl := bestL_len o l j
    have ih := bestL_ok o l j
    rw [bestL]
    by_cases hi : i ≤ j
    · rw [List.getD_eq_getElem?_getD, List.getElem?_append_left (by omega), ← List.getD_eq_getElem?_getD]
      exact ih i hi
    · have : i = j + 1 := by omega
      subst this
      have e : ∀ x, (bestL o l j ++ [x]).getD (j + 1) ((0, []) : Int × List Int) = x := fun x => by
        rw [List.getD_eq_getElem?_getD, List.getElem?_append_right (by omega), hl, Nat.sub_self]
        rfl
      rw [e]
      generalize hb : bestL o l j = b at *
      have hne : (List.range (j + 1)).map (cand o l b (j + 1)) ≠ [] := by simp
      constructor
      · obtain ⟨s, hs, hm⟩ := List.mem_map.mp (mxc_in hne)
        rw [List.mem_range] at hs
        rw [← hm]
        obtain ⟨⟨cs, e1, e2, e3⟩, _⟩ := ih s (by omega)
        by_cases h0 : s = 0
        · subst h0
          refine ⟨[], by simp [cand, natI], ⟨List.Pairwise.nil, fun c h => by cases h⟩, ?_⟩
          have : cs = [] := by
            cases cs with
            | nil => rfl
            | cons c cs =>
              have := e2.rng c List.mem_cons_self
              omega
          subst this
          have z : savF o l 0 ([] ++ [0]) = 0 := by simp [savF, seg, sv_nil]
          rw [z] at e3
          simp only [savF, cand, List.nil_append]
          omega
        · refine ⟨cs ++ [s], ?_, ⟨?_, ?_⟩, ?_⟩
          · simp only [cand, if_neg h0, e1]
            rw [natI_append]
            rfl
          · rw [List.pairwise_append]
            refine ⟨e2.inc, List.pairwise_singleton .., fun a ha c hc => ?_⟩
            rw [List.mem_singleton] at hc
            have := (e2.rng a ha).2
            omega
          · intro c hc
            rcases List.mem_append.mp hc with hc | hc
            · have := e2.rng c hc
              omega
            · rw [List.mem_singleton] at hc
              omega
          · rw [savF_snoc, e3]
            rfl
      · intro cs hv
        rcases List.eq_nil_or_concat cs with rfl | ⟨r, c, rfl⟩
        · have h0 : cand o l b (j + 1) 0 ∈ (List.range (j + 1)).map (cand o l b (j + 1)) := List.mem_map.mpr ⟨0, by simp, rfl⟩
          have := mxc_up h0
          obtain ⟨_, u⟩ := ih 0 (by omega)
          have u0 := u [] ⟨List.Pairwise.nil, fun c h => by cases h⟩
          have z : savF o l 0 ([] ++ [0]) = 0 := by simp [savF, seg, sv_nil]
          rw [z] at u0
          simp only [cand] at this
          simp only [List.nil_append, savF]
          omega
        · rw [List.concat_eq_append] at hv ⊢
          have hp := List.pairwise_append.mp hv.inc
          have hc := hv.rng c (List.mem_append_right _ (List.mem_singleton.mpr rfl))
          have hr : Valid c r := ⟨hp.1, fun a ha => ⟨(hv.rng a (List.mem_append_left _ ha)).1, hp.2.2 a ha c (List.mem_singleton.mpr rfl)⟩⟩
          have h0 : cand o l b (j + 1) c ∈ (List.range (j + 1)).map (cand o l b (j + 1)) := List.mem_map.mpr ⟨c, by simp; omega, rfl⟩
          have := mxc_up h0
          obtain ⟨_, u⟩ := ih c (by omega)
          have u0 := u r hr
          rw [savF_snoc]
          simp only [cand] at this
          omega
def bestOf (o : Nat) (l : List Int) : Int × List Int := (bestL o l l.length).getD l.length (0, [])
theorem best_ok (o : Nat) (l : List Int) : BestAt o l l.length (bestOf o l) := bestL_ok o l l.length l.length (Nat.le_refl _)
/-! ### one receipt, all receipts -/
theorem sv_layers {o : Nat} {p : List Int} (h : ∀ x ∈ p, 0 ≤ x ∧ x ≤ MX) : sv o p + (tot (fun t => min (p.length - p.length / o) (cnt p t)) MX : Nat) = (tot (cnt p) MX : Nat) := by
  have h1 := sum_layers h
  have h2 := cost_layers (o := o) MX h
  unfold sv
  omega
theorem one_le {o n c : Nat} (ho : 0 < o) (hc : c ≤ n) : c ≤ c / o + min (n - n / o) c := by
  rcases Nat.le_total c (n - n / o) with h | h
  · rw [Nat.min_eq_right h]
    exact Nat.le_add_left _ _
  · rw [Nat.min_eq_left h]
    have h1 : o * (n / o) ≤ n := Nat.mul_div_le n o
    have h2 : n / o - (n - c) ≤ c / o := by
      rw [Nat.le_div_iff_mul_le ho]
      have : (n / o - (n - c)) * o ≤ o * (n / o) - (n - c) := by
        rw [Nat.sub_mul, Nat.mul_comm (n / o) o]
        have : n - c ≤ (n - c) * o := Nat.le_mul_of_pos_right _ ho
        omega
      omega
    have h3 := Nat.div_le_self n o
    omega
theorem sv_le {o : Nat} (ho : 0 < o) {p : List Int} (h : ∀ x ∈ p, 0 ≤ x ∧ x ≤ MX) : sv o p ≤ sav o (dsc p) := by
  have h1 := sv_layers (o := o) h
  have h2 := sav_layers ho (dsc_dec p) (fun x hx => h x (dsc_mem.mp hx))
  have h3 : tot (cnt p) MX ≤ tot (fun t => cnt (dsc p) t / o + min (p.length - p.length / o) (cnt p t)) MX := tot_le fun t _ => by
    rw [cnt_perm (dsc_perm p)]
    exact one_le ho (cnt_le p t)
  rw [tot_add] at h3
  omega
theorem sav_super {o : Nat} (ho : 0 < o) {a b : List Int} (ra : ∀ p ∈ a, 0 ≤ p ∧ p ≤ MX) (rb : ∀ p ∈ b, 0 ≤ p ∧ p ≤ MX) : sav o (dsc a) + sav o (dsc b) ≤ sav o (dsc (a ++ b)) := by
  have := gain_nonneg ho (dsc_dec a) (dsc_dec b) (fun p hp => ra p (dsc_mem.mp hp)) (fun p hp => rb p (dsc_mem.mp hp))
  unfold gain at this
  rw [dsc_congr (show (dsc a ++ dsc b).Perm (a ++ b) from (dsc_perm a).append (dsc_perm b))] at this
  omega
theorem seg_drop {l : List Int} {a c : Nat} (h : a ≤ c) : seg l a c ++ l.drop c = l.drop a := by
  unfold seg
  have : l.drop c = (l.drop a).drop (c - a) := by rw [List.drop_drop]; congr 1; omega
  rw [this, List.take_append_drop]
theorem savF_le {o : Nat} (ho : 0 < o) {l : List Int} (h : ∀ x ∈ l, 0 ≤ x ∧ x ≤ MX) : ∀ (cs : List Nat) (a : Nat), cs.Pairwise (· < ·) → (∀ c ∈ cs, a < c ∧ c < l.length) → savF o l a (cs ++ [l.length]) ≤ sav o (dsc (l.drop a))
  | [], a, _, _ => by
    have e : seg l a l.length = l.drop a := by
      unfold seg
      rw [List.take_of_length_le (by rw [List.length_drop]; omega)]
    simp only [List.nil_append, savF, e, Int.add_zero]
    exact sv_le ho fun x hx => h x (List.mem_of_mem_drop hx)
  | c :: cs, a, hp, hr => by
    obtain ⟨h1, h2⟩ := List.pairwise_cons.mp hp
    have hc := hr c List.mem_cons_self
    have ih := savF_le ho h cs c h2 fun d hd => ⟨h1 d hd, (hr d (List.mem_cons_of_mem _ hd)).2⟩
    have s1 := sv_le (o := o) ho (p := seg l a c) fun x hx => h x (List.mem_of_mem_drop (List.mem_of_mem_take hx))
    have s2 := sav_super (o := o) ho (a := seg l a c) (b := l.drop c) (fun x hx => h x (List.mem_of_mem_drop (List.mem_of_mem_take hx))) (fun x hx => h x (List.mem_of_mem_drop hx))
    rw [seg_drop (by omega)] at s2
    simp only [List.cons_append, savF]
    omega
theorem best_le {o : Nat} (ho : 0 < o) {l : List Int} (h : ∀ x ∈ l, 0 ≤ x ∧ x ≤ MX) : (bestOf o l).1 ≤ sav o (dsc l) := by
  obtain ⟨⟨cs, e1, e2, e3⟩, _⟩ := best_ok o l
  rw [← e3]
  have := savF_le ho h cs 0 e2.inc fun c hc => ⟨(e2.rng c hc).1, (e2.rng c hc).2⟩
  rwa [List.drop_zero] at this
/-! ### a basket in its order -/
theorem sv_group {o : Nat} (ho : 0 < o) {d : List Int} (hd : d.Pairwise (· ≥ ·)) (hl : d.length = o) : sv o d = d.getD (o - 1) 0 := by
  unfold sv costOf
  rw [dsc_self hd, hl, Nat.div_self ho]
  have e : d = d.take (o - 1) ++ [d.getD (o - 1) 0] := by
    have h1 : o - 1 < d.length := by omega
    have : d.drop (o - 1) = [d.getD (o - 1) 0] := by
      rw [List.drop_eq_getElem_cons h1, List.drop_of_length_le (by omega), List.getD_eq_getElem?_getD, List.getElem?_eq_getElem h1]
      rfl
    rw [← this, List.take_append_drop]
  have : d.sum = (d.take (o - 1)).sum + d.getD (o - 1) 0 := by
    conv => lhs; rw [e]
    rw [List.sum_append]
    simp
  omega
theorem sav_group {o : Nat} (ho : 0 < o) {d : List Int} (hd : d.Pairwise (· ≥ ·)) (h : ∀ x ∈ d, 0 ≤ x ∧ x ≤ MX) (hl : o ≤ d.length) : sav o d = d.getD (o - 1) 0 + sav o (d.drop o) := by
  have h1 := sav_layers ho hd h
  have h2 := sav_layers ho (hd.sublist (List.drop_sublist o d)) (fun x hx => h x (List.mem_of_mem_drop hx))
  have hlt : o - 1 < d.length := by omega
  have eg : d.getD (o - 1) 0 = d[o - 1] := by
    rw [List.getD_eq_getElem?_getD, List.getElem?_eq_getElem hlt]
    rfl
  have hg := h _ (List.getElem_mem hlt)
  have h3 := tot_one hg.1 hg.2
  rw [eg, h1, h2]
  have e : tot (fun t => cnt d t / o) MX = tot (fun t => (if (t : Int) + 1 ≤ d[o - 1] then 1 else 0) + cnt (d.drop o) t / o) MX := tot_congr fun t _ => by
    have hc : cnt d t = cnt (d.take o) t + cnt (d.drop o) t := by rw [← cnt_append, List.take_append_drop]
    have hj := desc_at hd t (o - 1) hlt
    by_cases c : (t : Int) + 1 ≤ d[o - 1]
    · rw [if_pos c]
      have ct : cnt (d.take o) t = o := by
        have hl' : (d.take o).length = o := by rw [List.length_take]; omega
        have := cnt_le (d.take o) t
        have : (d.take o).countP (fun p => decide ((t : Int) + 1 ≤ p)) = (d.take o).length := by
          rw [List.countP_eq_length]
          intro x hx
          obtain ⟨i, hi, e⟩ := List.mem_take_iff_getElem.mp hx
          rw [decide_eq_true_eq, ← e]
          rcases Nat.lt_or_eq_of_le (show i ≤ o - 1 by omega) with hlt' | heq
          · have := List.pairwise_iff_getElem.mp hd i (o - 1) (by omega) hlt hlt'
            omega
          · subst heq
            exact c
        unfold cnt
        rw [this, hl']
      rw [hc, ct, Nat.add_comm o, Nat.add_div_right _ ho]
      omega
    · rw [if_neg c]
      have hlt' : cnt d t < o := by
        have : ¬ o - 1 < cnt d t := fun q => c (hj.mpr q)
        omega
      have : cnt (d.drop o) t ≤ cnt d t := by omega
      rw [Nat.div_eq_of_lt hlt', Nat.div_eq_of_lt (by omega)]
  rw [e, tot_add, h3]
  omega
theorem groups {o : Nat} (ho : 0 < o) {ps : List Int} (hd : ps.Pairwise (· ≥ ·)) (h : ∀ x ∈ ps, 0 ≤ x ∧ x ≤ MX) : ∀ (k a : Nat), ps.length - a ≤ k → a ≤ ps.length → ∃ cs : List Nat, cs.Pairwise (· < ·) ∧ (∀ c ∈ cs, a < c ∧ c < ps.length) ∧ savF o ps a (cs ++ [ps.length]) = sav o (ps.drop a) := by
  intro k
  induction k with
  | zero =>
    intro a hk ha
    have : a = ps.length := by omega
    subst this
    refine ⟨[], List.Pairwise.nil, (fun c h => by cases h), ?_⟩
    have e : ps.drop ps.length = [] := List.drop_length
    simp only [List.nil_append, savF, seg, e]
    rw [sav_short (by simp; omega)]
    simp [sv_nil]
  | succ k ih =>
    intro a hk ha
    have hd' : (ps.drop a).Pairwise (· ≥ ·) := hd.sublist (List.drop_sublist _ _)
    have h' : ∀ x ∈ ps.drop a, 0 ≤ x ∧ x ≤ MX := fun x hx => h x (List.mem_of_mem_drop hx)
    have hl : (ps.drop a).length = ps.length - a := List.length_drop
    have e : seg ps a ps.length = ps.drop a := by
      unfold seg
      rw [List.take_of_length_le (by omega)]
    rcases Nat.lt_trichotomy (ps.drop a).length o with c | c | c
    · refine ⟨[], List.Pairwise.nil, (fun c h => by cases h), ?_⟩
      simp only [List.nil_append, savF, e]
      rw [sav_short c]
      unfold sv costOf
      rw [dsc_self hd', Nat.div_eq_of_lt c, Nat.sub_zero, List.take_length]
      omega
    · refine ⟨[], List.Pairwise.nil, (fun c h => by cases h), ?_⟩
      simp only [List.nil_append, savF, e]
      rw [sv_group ho hd' c, sav_group ho hd' h' (by omega), sav_short (by rw [List.length_drop]; omega)]
    · obtain ⟨cs, i1, i2, i3⟩ := ih (a + o) (by omega) (by omega)
      refine ⟨(a + o) :: cs, List.pairwise_cons.mpr ⟨fun c hc => (i2 c hc).1, i1⟩, fun c hc => ?_, ?_⟩
      · rcases List.mem_cons.mp hc with rfl | hc
        · omega
        · have := i2 c hc
          omega
      · simp only [List.cons_append, savF]
        rw [i3, sav_group ho hd' h' (by omega), List.drop_drop]
        have es : seg ps a (a + o) = (ps.drop a).take o := by
          unfold seg
          congr 1
          omega
        rw [es, sv_group ho (hd'.sublist (List.take_sublist _ _)) (by rw [List.length_take]; omega)]
        congr 1
        rw [List.getD_eq_getElem?_getD, List.getD_eq_getElem?_getD, List.getElem?_take_of_lt (by omega)]
theorem best_basket {o : Nat} (ho : 0 < o) {ps : List Int} (hd : ps.Pairwise (· ≥ ·)) (h : ∀ x ∈ ps, 0 ≤ x ∧ x ≤ MX) : (bestOf o ps).1 = sav o ps := by
  obtain ⟨cs, h1, h2, h3⟩ := groups ho hd h ps.length 0 (by omega) (by omega)
  rw [List.drop_zero] at h3
  have u := (best_ok o ps).up cs ⟨h1, fun c hc => by have := h2 c hc; omega⟩
  have := best_le ho h
  rw [dsc_self hd] at this
  omega
/-! ### backward -/
theorem seg_rev {l : List Int} {a c : Nat} (h1 : a ≤ c) (h2 : c ≤ l.length) : seg l.reverse (l.length - c) (l.length - a) = (seg l a c).reverse := by
  unfold seg
  rw [List.drop_reverse, show l.length - (l.length - c) = c by omega, show l.length - a - (l.length - c) = c - a by omega, List.take_reverse, List.length_take, Nat.min_eq_left h2, show c - (c - a) = a by omega, List.drop_take]
theorem savF_rev (o : Nat) (l : List Int) : ∀ (cs : List Nat) (a : Nat), cs.Pairwise (· < ·) → (∀ c ∈ cs, a < c ∧ c < l.length) → a ≤ l.length → savF o l a (cs ++ [l.length]) = savF o l.reverse 0 ((cs.map fun c => l.length - c).reverse ++ [l.length - a])
  | [], a, _, _, ha => by
    have := seg_rev (l := l) ha (Nat.le_refl _)
    rw [Nat.sub_self] at this
    simp only [List.nil_append, savF, List.map_nil, List.reverse_nil, this]
    rw [sv_perm (List.reverse_perm _)]
  | c :: cs, a, hp, hr, ha => by
    obtain ⟨h1, h2⟩ := List.pairwise_cons.mp hp
    have hc := hr c List.mem_cons_self
    have ih := savF_rev o l cs c h2 (fun d hd => ⟨h1 d hd, (hr d (List.mem_cons_of_mem _ hd)).2⟩) (by omega)
    have e : ((c :: cs).map fun c => l.length - c).reverse ++ [l.length - a] = (cs.map fun c => l.length - c).reverse ++ [l.length - c] ++ [l.length - a] := by simp
    rw [e, savF_snoc, ← ih, seg_rev (by omega) (by omega), sv_perm (List.reverse_perm _)]
    simp only [List.cons_append, savF]
    omega
theorem best_rev_le (o : Nat) (l : List Int) : (bestOf o l).1 ≤ (bestOf o l.reverse).1 := by
  obtain ⟨⟨cs, e1, e2, e3⟩, _⟩ := best_ok o l
  have h := savF_rev o l cs 0 e2.inc (fun c hc => ⟨(e2.rng c hc).1, (e2.rng c hc).2⟩) (by omega)
  rw [← e3, h]
  have u := (best_ok o l.reverse).up (cs.map fun c => l.length - c).reverse ⟨?_, fun c hc => ?_⟩
  · rw [List.length_reverse] at u
    exact u
  · rw [List.pairwise_reverse, List.pairwise_map]
    refine e2.inc.imp_of_mem fun {a b} ha hb hab => ?_
    have := e2.rng a ha
    have := e2.rng b hb
    omega
  · rw [List.length_reverse]
    rw [List.mem_reverse, List.mem_map] at hc
    obtain ⟨d, hd, rfl⟩ := hc
    have := e2.rng d hd
    omega
theorem best_rev (o : Nat) (l : List Int) : (bestOf o l.reverse).1 = (bestOf o l).1 := by
  have h1 := best_rev_le o l
  have h2 := best_rev_le o l.reverse
  rw [List.reverse_reverse] at h2
  omega
end FT
set_option Elab.async false
set_option linter.all false
/-! Lines: what the functions give. -/
namespace FT
open PySem DL
/-- turns of range(lo, lo + n) -/
theorem Go.forR {src : EI} {t : ETg} {b : SM} {δ δ1 : Sl} {Q : Sl → Prop} (lo : Int) (n : Nat) (P : Nat → Sl → Prop) (hs : src δ = some (intz (span lo n), δ1)) (h0 : P 0 δ1)
    (hb : ∀ i δ, i < n → P i δ → ∃ δ2, t (.int (lo + (i : Nat))) δ = some δ2 ∧ Go b δ2 (P (i + 1))) (k : ∀ δ, P n δ → Q δ) : Go (sFor src t b) δ Q := by
  have e0 : intz (span lo n) = (List.range n).map fun i : Nat => PyData.int (lo + (i : Int)) := by simp [intz, span]
  rw [e0] at hs
  refine Go.forL (List.range n) (fun i : Nat => PyData.int (lo + (i : Int))) (fun pre => P pre.length) hs h0 (fun pre x post δ e h => ?_) fun δ h => k δ (by rw [List.length_range] at h; exact h)
  have hl := congrArg List.length e
  have hx : x = pre.length := by
    have h1 : (List.range n)[pre.length]? = some x := by
      rw [e, List.getElem?_append_right (Nat.le_refl _), Nat.sub_self]
      rfl
    rw [List.getElem?_range] at h1
    · exact (Option.some.inj h1).symm
    · simp at hl
      omega
  have hn : x < n := by
    have : x ∈ List.range n := by rw [e]; simp
    simpa using this
  subst hx
  obtain ⟨δ2, e2, h2⟩ := hb pre.length δ hn h
  exact ⟨δ2, e2, h2.imp fun δ1 h => by rw [List.length_append, List.length_singleton]; exact h⟩
def pcd (p : Int × List Int) : D := .tuple [.int p.1, ti p.2]
abbrev pcs (l : List (Int × List Int)) : List D := l.map pcd
theorem pairsOf_pcs : ∀ l : List (Int × List Int), pairsOf (pcs l) = some l
  | [] => rfl
  | p :: l => by
    have h : pairOf (pcd p) = some p := by
      show (match intsOf (intz p.2) with
        | some ns => some (p.1, ns)
        | none => none) = _
      rw [intsOf_map']
    have := pairsOf_pcs l
    simp only [pcs] at this
    simp only [pcs, List.map_cons, pairsOf, h, this]
theorem gMax_pcs {l : List (Int × List Int)} (h : l ≠ []) : gMax [.list (pcs l)] = some (.fz (pcd (mxc l))) := by
  cases l with
  | nil => exact absurd rfl h
  | cons p r =>
    have e1 : gMaxA [.list (pcs (p :: r))] = none := rfl
    have e2 : gMaxP [.list (pcs (p :: r))] = some (.fz (pcd (mxc (p :: r)))) := by
      show (match pairsOf (pcs (p :: r)) with
        | some (p :: r) => some (DV.fz (.tuple [.int (maxP p r).1, .tuple ((maxP p r).2.map PyData.int)]))
        | _ => none) = _
      rw [pairsOf_pcs]
      rfl
    simp only [gMax, orN, e1, e2]
theorem cut_mid (l : List Int) {a b : Nat} (h1 : a ≤ b) (h2 : b ≤ l.length) : cutD (intz l) (some (a : Int)) (some (b : Int)) = intz (seg l a b) := by
  unfold cutD cutIx seg
  have q1 : ¬ ((a : Int) < 0) := by omega
  have q2 : ¬ ((b : Int) < 0) := by omega
  simp only [q1, q2, if_false, Int.toNat_natCast, ints_len]
  have m1 : min a l.length = a := Nat.min_eq_left (by omega)
  have m2 : min b l.length = b := Nat.min_eq_left h2
  simp only [m1, m2, ints_drop, ints_take]
theorem gIx_pcs {b : List (Int × List Int)} {s : Nat} (h : s < b.length) : gIx (.list (pcs b)) (.int (s : Nat)) = some (.fz (pcd (b.getD s (0, [])))) := by
  refine gIx_list (i := s) ?_
  rw [List.getElem?_map, List.getD_eq_getElem?_getD, List.getElem?_eq_getElem h]
  rfl
theorem best_turn (Φ Ψ : Fn) {o l : D} {zs zt co : Int} {bd : D} {best found : List D} {sav : Int} {cu : List Int} {mo : List Int} {x6 x7 x8 x9 : Option DV} {pt : List Int} (h6 : nb x6 = true) (h7 : nb x7 = true) (h8 : nb x8 = true) (h9 : nb x9 = true)
    (c1 : ∀ δ : Sl, δ[1]? = some (some (.fz l)) → δ[5]? = some (some (.fz (.int zs))) → δ[3]? = some (some (.fz (.int zt))) → dCut (dLate 1) (oSome (dLate 5)) (oSome (dLate 3)) δ = some (.fz bd, δ))
    (f1 : Φ [.fz bd] = some (.ret (.fz (ti pt)) [])) (i1 : gIx (.list best) (.int zs) = some (.fz (.tuple [.int sav, ti cu])))
    (a1 : gAdd (ti cu) (.tuple [.int zs]) = some (.fz (ti (cu ++ [zs])))) (m1 : (if zs = 0 then [] else cu ++ [zs]) = mo) (f2 : Ψ [.fz o, .fz (ti pt)] = some (.ret (.fz (.int co)) []))
    (ma : mAppend found [.tuple [.int (sav + pt.sum - co), ti mo]] = some (.fz .none, found ++ [.tuple [.int (sav + pt.sum - co), ti mo]])) :
    Go (sSeq (sAsg 6 (dCall Φ (aCons (toV (dCut (dLate 1) (oSome (dLate 5)) (oSome (dLate 3)))) aNil))) (sSeq b_best_cuts_2b_2b_2 (sSeq b_best_cuts_2b_2b_3 (sDrop (dMut 4 mAppend (aCons (dTup (aCons (toV (dOp gSubI (toL (toV (dOp gAdd (dLate 7) (toL (toV (dCB gSum (lCons (dLate 6) lNil))))))) (toL (toV (dCall Ψ (aCons (dVar 0) (aCons (dVar 6) aNil))))))) (aCons (dVar 9) aNil))) aNil))))))
      [some (.fz o), some (.fz l), some (.mt best), some (.fz (.int zt)), some (.mt found), some (.fz (.int zs)), x6, x7, x8, x9]
      (fun δ => ∃ x6 x7 x8 x9, δ = [some (.fz o), some (.fz l), some (.mt best), some (.fz (.int zt)), some (.mt (found ++ [.tuple [.int (sav + pt.sum - co), ti mo]])), some (.fz (.int zs)), x6, x7, x8, x9] ∧ nb x6 = true ∧ nb x7 = true ∧ nb x8 = true ∧ nb x9 = true) := by
  have c2 := c1 [some (.fz o), some (.fz l), some (.mt best), some (.fz (.int zt)), some (.mt found), some (.fz (.int zs)), x6, x7, x8, x9] rfl rfl rfl
  refine .seq (by simp [fnOf, DL.start, sSeq, sIf, sAsg_eq, sAsgT, sSet, sRet, sDrop, sRaise, sCallX, sNext, sBreak, sCont, sPar, sPar3, notBr_eq, dTest, dTruthy, toL, toV, ofV, dOp, dUn, dUnE, dC, dLate, dVar, LV.get, slotD, DV.dat, dTup, dLst, aNil, aCons, lNil, lCons, getAll, dCB, dCall, dCallB, dAnd, dOr, dNot, dOfT, dIf, dChain, dMut, isLs, lentOf, tgName_eq, tgNil, tgCons, tgTup, dIter, itemsD, dYes, LIM, c2, f1, h6]; rfl) ?_
  refine .seq (by simp [b_best_cuts_2b_2b_2, DL.start, fnOf, DL.start, sSeq, sIf, sAsg_eq, sAsgT, sSet, sRet, sDrop, sRaise, sCallX, sNext, sBreak, sCont, sPar, sPar3, notBr_eq, dTest, dTruthy, toL, toV, ofV, dOp, dUn, dUnE, dC, dLate, dVar, LV.get, slotD, DV.dat, dTup, dLst, aNil, aCons, lNil, lCons, getAll, dCB, dCall, dCallB, dAnd, dOr, dNot, dOfT, dIf, dChain, dMut, isLs, lentOf, tgName_eq, tgNil, tgCons, tgTup, dIter, itemsD, dYes, LIM, i1, h7, h8] <;> rfl) ?_
  by_cases hz : zs = 0
  · rw [if_pos hz] at m1
    subst m1
    have ma : mAppend found [.tuple [.int (sav + pt.sum - co), .tuple []]] = some (.fz .none, found ++ [.tuple [.int (sav + pt.sum - co), ti []]]) := ma
    have hz' : (zs != 0) = false := by simp [hz]
    refine .seq (by simp [b_best_cuts_2b_2b_3, DL.start, fnOf, DL.start, sSeq, sIf, sAsg_eq, sAsgT, sSet, sRet, sDrop, sRaise, sCallX, sNext, sBreak, sCont, sPar, sPar3, notBr_eq, dTest, dTruthy, toL, toV, ofV, dOp, dUn, dUnE, dC, dLate, dVar, LV.get, slotD, DV.dat, dTup, dLst, aNil, aCons, lNil, lCons, getAll, dCB, dCall, dCallB, dAnd, dOr, dNot, dOfT, dIf, dChain, dMut, isLs, lentOf, tgName_eq, tgNil, tgCons, tgTup, dIter, itemsD, dYes, LIM, hz', h9] <;> rfl) ?_
    refine .one (by simp [fnOf, DL.start, sSeq, sIf, sAsg_eq, sAsgT, sSet, sRet, sDrop, sRaise, sCallX, sNext, sBreak, sCont, sPar, sPar3, notBr_eq, dTest, dTruthy, toL, toV, ofV, dOp, dUn, dUnE, dC, dLate, dVar, LV.get, slotD, DV.dat, dTup, dLst, aNil, aCons, lNil, lCons, getAll, dCB, dCall, dCallB, dAnd, dOr, dNot, dOfT, dIf, dChain, dMut, isLs, lentOf, tgName_eq, tgNil, tgCons, tgTup, dIter, itemsD, dYes, LIM, f2, ma]; rfl) ?_
    exact ⟨_, _, _, _, by rw [hz], rfl, rfl, rfl, rfl⟩
  · rw [if_neg hz] at m1
    subst m1
    have hz' : (zs != 0) = true := by simp [hz]
    refine .seq (by simp [b_best_cuts_2b_2b_3, DL.start, fnOf, DL.start, sSeq, sIf, sAsg_eq, sAsgT, sSet, sRet, sDrop, sRaise, sCallX, sNext, sBreak, sCont, sPar, sPar3, notBr_eq, dTest, dTruthy, toL, toV, ofV, dOp, dUn, dUnE, dC, dLate, dVar, LV.get, slotD, DV.dat, dTup, dLst, aNil, aCons, lNil, lCons, getAll, dCB, dCall, dCallB, dAnd, dOr, dNot, dOfT, dIf, dChain, dMut, isLs, lentOf, tgName_eq, tgNil, tgCons, tgTup, dIter, itemsD, dYes, LIM, hz', a1, h9] <;> rfl) ?_
    refine .one (by simp [fnOf, DL.start, sSeq, sIf, sAsg_eq, sAsgT, sSet, sRet, sDrop, sRaise, sCallX, sNext, sBreak, sCont, sPar, sPar3, notBr_eq, dTest, dTruthy, toL, toV, ofV, dOp, dUn, dUnE, dC, dLate, dVar, LV.get, slotD, DV.dat, dTup, dLst, aNil, aCons, lNil, lCons, getAll, dCB, dCall, dCallB, dAnd, dOr, dNot, dOfT, dIf, dChain, dMut, isLs, lentOf, tgName_eq, tgNil, tgCons, tgTup, dIter, itemsD, dYes, LIM, f2, ma]; rfl) ?_
    exact ⟨_, _, _, _, rfl, rfl, rfl, rfl, rfl⟩
theorem pcs_append (a b : List (Int × List Int)) : pcs (a ++ b) = pcs a ++ pcs b := List.map_append
theorem valid_len {n : Nat} {cs : List Nat} (h : Valid n cs) : cs.length ≤ n := by
  have := inc_len (is := natI cs) (a := 0) (n := n) (fun i hi => by
    obtain ⟨c, hc, rfl⟩ := List.mem_map.mp hi
    have := h.rng c hc
    omega) (by
    unfold natI
    rw [List.pairwise_map]
    exact h.inc.imp fun h => by omega) (by omega)
  unfold natI at this
  rw [List.length_map] at this
  omega
theorem best_len {o : Nat} {l : List Int} {j i : Nat} (h : i ≤ j) (hj : j ≤ 30) : ((bestL o l j).getD i (0, [])).2.length ≤ 30 := by
  obtain ⟨cs, e1, e2, _⟩ := (bestL_ok o l j i h).ex
  rw [e1]
  have := valid_len e2
  unfold natI
  rw [List.length_map]
  omega
theorem best_cuts_spec {o : Nat} (h1 : 2 ≤ o) (h2 : o ≤ 9) {l : List Int} (l1 : 1 ≤ l.length) (l2 : l.length ≤ 30) : F_best_cuts [.fz (.int o), .fz (ti l)] = some (.ret (.fz (pcd (bestOf o l))) []) := by
  have hb := bestL_len o l
  refine fn_gives ?_
  refine .seq (by simp [b_best_cuts_1, DL.start, fnOf, DL.start, sSeq, sIf, sAsg_eq, sAsgT, sSet, sRet, sDrop, sRaise, sCallX, sNext, sBreak, sCont, sPar, sPar3, notBr_eq, dTest, dTruthy, toL, toV, ofV, dOp, dUn, dUnE, dC, dLate, dVar, LV.get, slotD, DV.dat, dTup, dLst, aNil, aCons, lNil, lCons, getAll, dCB, dCall, dCallB, dAnd, dOr, dNot, dOfT, dIf, dChain, dMut, isLs, lentOf, tgName_eq, tgNil, tgCons, tgTup, dIter, itemsD, dYes, LIM] <;> rfl) ?_
  have src : dRange2 (lCons (toL (dC (.int 1))) (lCons (toL (toV (dOp gAdd (toL (toV (dCB gLen (lCons (dLate 1) lNil)))) (toL (dC (.int 1)))))) lNil)) [some (.fz (.int o)), some (.fz (ti l)), some (.mt [.tuple [.int 0, .tuple []]]), none, none, none, none, none, none, none] =
      some (intz (span 1 l.length), [some (.fz (.int o)), some (.fz (ti l)), some (.mt [.tuple [.int 0, .tuple []]]), none, none, none, none, none, none, none]) :=
    range2_gen (f := toL (dC (.int 1))) (x := .val (.int 1)) (y := .val (.int (1 + (l.length : Int)))) rfl (by simp [fnOf, DL.start, sSeq, sIf, sAsg_eq, sAsgT, sSet, sRet, sDrop, sRaise, sCallX, sNext, sBreak, sCont, sPar, sPar3, notBr_eq, dTest, dTruthy, toL, toV, ofV, dOp, dUn, dUnE, dC, dLate, dVar, LV.get, slotD, DV.dat, dTup, dLst, aNil, aCons, lNil, lCons, getAll, dCB, dCall, dCallB, dAnd, dOr, dNot, dOfT, dIf, dChain, dMut, isLs, lentOf, tgName_eq, tgNil, tgCons, tgTup, dIter, itemsD, dYes, LIM, Int.add_comm]) rfl rfl (by decide) rfl (by omega)
  have cs : ∀ s t : Nat, s < t → t ≤ l.length → ∀ δ : Sl, δ[1]? = some (some (.fz (ti l))) → δ[5]? = some (some (.fz (.int (s : Nat)))) → δ[3]? = some (some (.fz (.int (t : Nat)))) → dCut (dLate 1) (oSome (dLate 5)) (oSome (dLate 3)) δ = some (.fz (ti (seg l s t)), δ) := fun s t hst htl δ e1 e5 e3 => by
    have c := cut_mid l (show s ≤ t by omega) htl
    simp [fnOf, DL.start, sSeq, sIf, sAsg_eq, sAsgT, sSet, sRet, sDrop, sRaise, sCallX, sNext, sBreak, sCont, sPar, sPar3, notBr_eq, dTest, dTruthy, toL, toV, ofV, dOp, dUn, dUnE, dC, dLate, dVar, LV.get, slotD, DV.dat, dTup, dLst, aNil, aCons, lNil, lCons, getAll, dCB, dCall, dCallB, dAnd, dOr, dNot, dOfT, dIf, dChain, dMut, isLs, lentOf, tgName_eq, tgNil, tgCons, tgTup, dIter, itemsD, dYes, LIM, dCut, oSome, e1, e5, e3, c]
  refine .sq (P := fun δ => ∃ x3 x4 x5 x6 x7 x8 x9, δ = [some (.fz (.int o)), some (.fz (ti l)), some (.mt (pcs (bestL o l l.length))), x3, x4, x5, x6, x7, x8, x9]) (Go.forR 1 l.length (fun i δ => ∃ x3 x4 x5 x6 x7 x8 x9, δ = [some (.fz (.int o)), some (.fz (ti l)), some (.mt (pcs (bestL o l i))), x3, x4, x5, x6, x7, x8, x9] ∧ nb x3 = true ∧ nb x4 = true ∧ nb x5 = true ∧ nb x6 = true ∧ nb x7 = true ∧ nb x8 = true ∧ nb x9 = true) src ⟨none, none, none, none, none, none, none, rfl, rfl, rfl, rfl, rfl, rfl, rfl, rfl⟩ (fun i δ hi ⟨x3, x4, x5, x6, x7, x8, x9, e, h3, h4, h5, h6, h7, h8, h9⟩ => ?_) fun δ ⟨x3, x4, x5, x6, x7, x8, x9, e, _⟩ => ⟨x3, x4, x5, x6, x7, x8, x9, e⟩) fun δ ⟨x3, x4, x5, x6, x7, x8, x9, e⟩ => ?_
  · subst e
    have hbi := hb i
    have bln := fun s (hs : s ≤ i) => best_len (o := o) (l := l) (j := i) (i := s) hs (by omega)
    refine ⟨_, by simp only [tgName_eq, List.getElem?_cons_succ, List.getElem?_cons_zero, if_true, List.set_cons_succ, List.set_cons_zero, Int.zero_add, h3]; rfl, ?_⟩
    have ei : (1 : Int) + (i : Nat) = ((i + 1 : Nat) : Int) := by omega
    rw [ei]
    refine .seq (by simp [b_best_cuts_2b_1, DL.start, fnOf, DL.start, sSeq, sIf, sAsg_eq, sAsgT, sSet, sRet, sDrop, sRaise, sCallX, sNext, sBreak, sCont, sPar, sPar3, notBr_eq, dTest, dTruthy, toL, toV, ofV, dOp, dUn, dUnE, dC, dLate, dVar, LV.get, slotD, DV.dat, dTup, dLst, aNil, aCons, lNil, lCons, getAll, dCB, dCall, dCallB, dAnd, dOr, dNot, dOfT, dIf, dChain, dMut, isLs, lentOf, tgName_eq, tgNil, tgCons, tgTup, dIter, itemsD, dYes, LIM, h4] <;> rfl) ?_
    refine .sq (P := fun δ => ∃ x5 x6 x7 x8 x9, δ = [some (.fz (.int o)), some (.fz (ti l)), some (.mt (pcs (bestL o l i))), some (.fz (.int ((i + 1 : Nat) : Int))), some (.mt (pcs ((List.range (i + 1)).map (cand o l (bestL o l i) (i + 1))))), x5, x6, x7, x8, x9] ∧ nb x5 = true ∧ nb x6 = true ∧ nb x7 = true ∧ nb x8 = true ∧ nb x9 = true) (Go.forN (i + 1) (fun s δ => ∃ x5 x6 x7 x8 x9, δ = [some (.fz (.int o)), some (.fz (ti l)), some (.mt (pcs (bestL o l i))), some (.fz (.int ((i + 1 : Nat) : Int))), some (.mt (pcs ((List.range s).map (cand o l (bestL o l i) (i + 1))))), x5, x6, x7, x8, x9] ∧ nb x5 = true ∧ nb x6 = true ∧ nb x7 = true ∧ nb x8 = true ∧ nb x9 = true) (range1_gen (x := .slot 3) rfl rfl (by omega)) ⟨_, _, _, _, _, rfl, h5, h6, h7, h8, h9⟩ (fun s δ hs ⟨x5, x6, x7, x8, x9, e, h5, h6, h7, h8, h9⟩ => ?_) fun _ h => h) fun δ ⟨x5, x6, x7, x8, x9, e, h5, h6, h7, h8, h9⟩ => ?_
    · subst e
      generalize bestL o l i = bl at *
      refine ⟨_, by simp only [tgName_eq, List.getElem?_cons_succ, List.getElem?_cons_zero, if_true, List.set_cons_succ, List.set_cons_zero, Int.zero_add, h5]; rfl, ?_⟩
      have rs : (List.range (s + 1)).map (cand o l bl (i + 1)) = (List.range s).map (cand o l bl (i + 1)) ++ [cand o l bl (i + 1) s] := by rw [List.range_succ, List.map_append]; rfl
      rw [rs, pcs_append]
      have fl : (pcs ((List.range s).map (cand o l bl (i + 1)))).length < LIM := by
        rw [List.length_map, List.length_map, List.length_range]
        unfold LIM
        omega
      generalize pcs ((List.range s).map (cand o l bl (i + 1))) = found at *
      have i1 := gIx_pcs (b := bl) (s := s) (by omega)
      have ss : (dsc (seg l s (i + 1))).sum = (seg l s (i + 1)).sum := perm_sum (dsc_perm _)
      have f1 := descending_spec (seg l s (i + 1))
      have f2 := cost_of_spec (o := o) (by omega) (by omega) (dsc (seg l s (i + 1)))
      have a1 := cost_of_dsc (o := 1) (by decide) (by decide) (bl.getD s (0, [])).2 ((s : Nat) : Int) (by have := bln s (by omega); omega)
      have pe : pcd (cand o l bl (i + 1) s) = .tuple [.int ((bl.getD s (0, [])).1 + (dsc (seg l s (i + 1))).sum - costOf o (dsc (seg l s (i + 1)))), ti (if ((s : Nat) : Int) = 0 then [] else (bl.getD s (0, [])).2 ++ [((s : Nat) : Int)])] := by
        have z0 : ((s : Nat) : Int) = 0 ↔ s = 0 := by omega
        simp only [cand, pcd, sv, ss]
        by_cases h0 : s = 0
        · rw [if_pos h0, if_pos (z0.mpr h0)]
          rw [Int.add_sub_assoc]
        · rw [if_neg h0, if_neg (fun q => h0 (z0.mp q))]
          rw [Int.add_sub_assoc]
      rw [show pcs [cand o l bl (i + 1) s] = [pcd (cand o l bl (i + 1) s)] from rfl, pe]
      have i2 : gIx (.list (pcs bl)) (.int ((s : Nat) : Int)) = some (.fz (.tuple [.int (bl.getD s (0, [])).1, ti (bl.getD s (0, [])).2])) := i1
      exact (best_turn F_descending F_cost_of h6 h7 h8 h9 (cs s (i + 1) (by omega) (by omega)) f1 i2 a1 rfl f2 (mAppend_ok fl)).imp fun δ ⟨x6, x7, x8, x9, e, g⟩ => ⟨_, x6, x7, x8, x9, e, rfl, g⟩
    · subst e
      have hne : (List.range (i + 1)).map (cand o l (bestL o l i) (i + 1)) ≠ [] := by simp
      have gm := gMax_pcs hne
      have ma : mAppend (pcs (bestL o l i)) [pcd (mxc ((List.range (i + 1)).map (cand o l (bestL o l i) (i + 1))))] = some (.fz .none, pcs (bestL o l (i + 1))) := by
        rw [mAppend_ok (by rw [List.length_map, hbi]; unfold LIM; omega), bestL, pcs_append]
        rfl
      generalize pcs ((List.range (i + 1)).map (cand o l (bestL o l i) (i + 1))) = found at *
      generalize pcd (mxc ((List.range (i + 1)).map (cand o l (bestL o l i) (i + 1)))) = m at *
      generalize pcs (bestL o l i) = old at *
      generalize pcs (bestL o l (i + 1)) = new at *
      refine .one (by simp [b_best_cuts_2b_3, fnOf, DL.start, sSeq, sIf, sAsg_eq, sAsgT, sSet, sRet, sDrop, sRaise, sCallX, sNext, sBreak, sCont, sPar, sPar3, notBr_eq, dTest, dTruthy, toL, toV, ofV, dOp, dUn, dUnE, dC, dLate, dVar, LV.get, slotD, DV.dat, dTup, dLst, aNil, aCons, lNil, lCons, getAll, dCB, dCall, dCallB, dAnd, dOr, dNot, dOfT, dIf, dChain, dMut, isLs, lentOf, tgName_eq, tgNil, tgCons, tgTup, dIter, itemsD, dYes, LIM, gm, ma]; rfl) ?_
      exact ⟨_, _, _, _, _, _, _, rfl, rfl, rfl, h5, h6, h7, h8, h9⟩
  · subst e
    have hbl := hb l.length
    have gl : gIx (.list (pcs (bestL o l l.length))) (.int (-1)) = some (.fz (pcd (bestOf o l))) := by
      have q1 : (pcs (bestL o l l.length))[l.length]? = some (pcd (bestOf o l)) := by
        unfold bestOf
        rw [List.getElem?_map, List.getD_eq_getElem?_getD, List.getElem?_eq_getElem (by omega)]
        rfl
      have q2 : (-1 + ((pcs (bestL o l l.length)).length : Int)).toNat = l.length := by rw [List.length_map, hbl]; omega
      have q3 : -((pcs (bestL o l l.length)).length : Int) ≤ -1 := by rw [List.length_map, hbl]; omega
      simp only [gIx, atD, show ¬ (0 : Int) ≤ -1 by decide, if_false, if_pos q3, q2, q1]
    generalize pcs (bestL o l l.length) = b at *
    generalize pcd (bestOf o l) = r at *
    exact .one (by simp [b_best_cuts_3, DL.start, fnOf, DL.start, sSeq, sIf, sAsg_eq, sAsgT, sSet, sRet, sDrop, sRaise, sCallX, sNext, sBreak, sCont, sPar, sPar3, notBr_eq, dTest, dTruthy, toL, toV, ofV, dOp, dUn, dUnE, dC, dLate, dVar, LV.get, slotD, DV.dat, dTup, dLst, aNil, aCons, lNil, lCons, getAll, dCB, dCall, dCallB, dAnd, dOr, dNot, dOfT, dIf, dChain, dMut, isLs, lentOf, tgName_eq, tgNil, tgCons, tgTup, dIter, itemsD, dYes, LIM, gl] <;> first | rfl | exact ⟨rfl, rfl⟩) (by exact ⟨rfl, rfl⟩)
theorem require_line_ok {l : List Int} (l1 : 1 ≤ l.length) (l2 : l.length ≤ 30) (h : ∀ p ∈ l, 1 ≤ p ∧ p ≤ 1000000) : F_require_line [.fz (ti l)] = some (.ret (.fz .none) []) := by
  have a := are_prices_spec (clean_ti l)
  rw [arePrices_iff.mpr ⟨l, rfl, l1, l2, h⟩] at a
  simp [F_require_line, b_require_line, b_require_line_1, fnOf, DL.start, sSeq, sIf, sAsg_eq, sAsgT, sSet, sRet, sDrop, sRaise, sCallX, sNext, sBreak, sCont, sPar, sPar3, notBr_eq, dTest, dTruthy, toL, toV, ofV, dOp, dUn, dUnE, dC, dLate, dVar, LV.get, slotD, DV.dat, dTup, dLst, aNil, aCons, lNil, lCons, getAll, dCB, dCall, dCallB, dAnd, dOr, dNot, dOfT, dIf, dChain, dMut, isLs, lentOf, tgName_eq, tgNil, tgCons, tgTup, dIter, itemsD, dYes, LIM, a]
theorem require_line_err {d : D} (h : Clean d) (he : arePricesD d = false) : F_require_line [.fz d] = some (.ex "InvalidLine") := by
  have a := are_prices_spec h
  rw [he] at a
  simp [F_require_line, b_require_line, b_require_line_1, fnOf, DL.start, sSeq, sIf, sAsg_eq, sAsgT, sSet, sRet, sDrop, sRaise, sCallX, sNext, sBreak, sCont, sPar, sPar3, notBr_eq, dTest, dTruthy, toL, toV, ofV, dOp, dUn, dUnE, dC, dLate, dVar, LV.get, slotD, DV.dat, dTup, dLst, aNil, aCons, lNil, lCons, getAll, dCB, dCall, dCallB, dAnd, dOr, dNot, dOfT, dIf, dChain, dMut, isLs, lentOf, tgName_eq, tgNil, tgCons, tgTup, dIter, itemsD, dYes, LIM, a]
theorem ix_call (Φ : Fn) {a : EA} {δ δ1 : Sl} {ds : List D} {d r : D} {k : Int} {l : List D} (ha : a δ = some (ds, δ1)) (hf : Φ (ds.map .fz) = some (.ret (.fz d) l)) (hi : gIx d (.int k) = some (.fz r)) : dOp gIx (toL (toV (dCall Φ a))) (toL (dC (.int k))) δ = some (.fz r, δ1) := by
  have h1 := toL_run (toV_fz (dCall_run ha hf))
  unfold dOp
  rw [h1]
  simp only [toL, dC, LV.get, hi]
theorem line_saving_spec {o : Nat} (h1 : 2 ≤ o) (h2 : o ≤ 9) {l : List Int} (l1 : 1 ≤ l.length) (l2 : l.length ≤ 30) (h : ∀ p ∈ l, 1 ≤ p ∧ p ≤ 1000000) : F_line_saving [.fz (.int o), .fz (ti l)] = some (.ret (.fz (.int (bestOf o l).1)) []) := by
  have a1 := require_offer_ok (o := (o : Int)) (by omega) (by omega)
  have a2 := require_line_ok l1 l2 h
  have a3 := best_cuts_spec h1 h2 l1 l2
  have i0 : gIx (pcd (bestOf o l)) (.int 0) = some (.fz (.int (bestOf o l).1)) := rfl
  refine fn_gives ?_
  refine .seq (by simp [b_line_saving_1, DL.start, fnOf, DL.start, sSeq, sIf, sAsg_eq, sAsgT, sSet, sRet, sDrop, sRaise, sCallX, sNext, sBreak, sCont, sPar, sPar3, notBr_eq, dTest, dTruthy, toL, toV, ofV, dOp, dUn, dUnE, dC, dLate, dVar, LV.get, slotD, DV.dat, dTup, dLst, aNil, aCons, lNil, lCons, getAll, dCB, dCall, dCallB, dAnd, dOr, dNot, dOfT, dIf, dChain, dMut, isLs, lentOf, tgName_eq, tgNil, tgCons, tgTup, dIter, itemsD, dYes, LIM, a1] <;> rfl) ?_
  refine .seq (by simp [b_line_saving_2, DL.start, fnOf, DL.start, sSeq, sIf, sAsg_eq, sAsgT, sSet, sRet, sDrop, sRaise, sCallX, sNext, sBreak, sCont, sPar, sPar3, notBr_eq, dTest, dTruthy, toL, toV, ofV, dOp, dUn, dUnE, dC, dLate, dVar, LV.get, slotD, DV.dat, dTup, dLst, aNil, aCons, lNil, lCons, getAll, dCB, dCall, dCallB, dAnd, dOr, dNot, dOfT, dIf, dChain, dMut, isLs, lentOf, tgName_eq, tgNil, tgCons, tgTup, dIter, itemsD, dYes, LIM, a2] <;> rfl) ?_
  exact .one (sRet_run (ix_call F_best_cuts (aCons_run (dVar_fz rfl) (aCons_run (dVar_fz rfl) (aNil_run _))) a3 i0)) ⟨rfl, rfl⟩
theorem line_cuts_spec {o : Nat} (h1 : 2 ≤ o) (h2 : o ≤ 9) {l : List Int} (l1 : 1 ≤ l.length) (l2 : l.length ≤ 30) (h : ∀ p ∈ l, 1 ≤ p ∧ p ≤ 1000000) : F_line_cuts [.fz (.int o), .fz (ti l)] = some (.ret (.fz (ti (bestOf o l).2)) []) := by
  have a1 := require_offer_ok (o := (o : Int)) (by omega) (by omega)
  have a2 := require_line_ok l1 l2 h
  have a3 := best_cuts_spec h1 h2 l1 l2
  have i0 : gIx (pcd (bestOf o l)) (.int 1) = some (.fz (ti (bestOf o l).2)) := rfl
  refine fn_gives ?_
  refine .seq (by simp [b_line_cuts_1, DL.start, fnOf, DL.start, sSeq, sIf, sAsg_eq, sAsgT, sSet, sRet, sDrop, sRaise, sCallX, sNext, sBreak, sCont, sPar, sPar3, notBr_eq, dTest, dTruthy, toL, toV, ofV, dOp, dUn, dUnE, dC, dLate, dVar, LV.get, slotD, DV.dat, dTup, dLst, aNil, aCons, lNil, lCons, getAll, dCB, dCall, dCallB, dAnd, dOr, dNot, dOfT, dIf, dChain, dMut, isLs, lentOf, tgName_eq, tgNil, tgCons, tgTup, dIter, itemsD, dYes, LIM, a1] <;> rfl) ?_
  refine .seq (by simp [b_line_cuts_2, DL.start, fnOf, DL.start, sSeq, sIf, sAsg_eq, sAsgT, sSet, sRet, sDrop, sRaise, sCallX, sNext, sBreak, sCont, sPar, sPar3, notBr_eq, dTest, dTruthy, toL, toV, ofV, dOp, dUn, dUnE, dC, dLate, dVar, LV.get, slotD, DV.dat, dTup, dLst, aNil, aCons, lNil, lCons, getAll, dCB, dCall, dCallB, dAnd, dOr, dNot, dOfT, dIf, dChain, dMut, isLs, lentOf, tgName_eq, tgNil, tgCons, tgTup, dIter, itemsD, dYes, LIM, a2] <;> rfl) ?_
  exact .one (sRet_run (ix_call F_best_cuts (aCons_run (dVar_fz rfl) (aCons_run (dVar_fz rfl) (aNil_run _))) a3 i0)) ⟨rfl, rfl⟩
/-- picked by drawing: the bag is in slot k -/
theorem dComp_dpick {α : Type} {src : EI} {c : ET} {e : EV} {i k : Nat} {δ δ1 : Sl} (w : List D → DV) (B : List D → Prop) (g f : α → D) (xs : List α) {a : Option DV} {b : List D} (hik : i ≠ k) (hs : src δ = some (xs.map g, δ1)) (hi : δ1[i]? = some a) (ha : calmB a = true) (hk : δ1[k]? = some (some (w b))) (hb : B b) (hl : xs.length ≤ LIM)
    (hc : ∀ x ∈ xs, ∀ b, B b → ∃ bo b', c ((δ1.set k (some (w b))).set i (some (.fz (g x)))) = some (bo, (δ1.set k (some (w b'))).set i (some (.fz (g x)))) ∧ B b') (he : ∀ x ∈ xs, ∀ b, B b → e ((δ1.set k (some (w b))).set i (some (.fz (g x)))) = some (f x, (δ1.set k (some (w b))).set i (some (.fz (g x))))) :
    ∃ ys b', List.Sublist ys xs ∧ dComp src (tgName i) c e [i] δ = some (.mt (ys.map f), δ1.set k (some (w b'))) ∧ B b' := by
  have hlen : i < δ1.length := (List.getElem?_eq_some_iff.mp hi).1
  have H : ∀ (xs : List α) (acc : List D) (b : List D) (y : Option DV), B b → (∀ x ∈ xs, ∀ b, B b → ∃ bo b', c ((δ1.set k (some (w b))).set i (some (.fz (g x)))) = some (bo, (δ1.set k (some (w b'))).set i (some (.fz (g x)))) ∧ B b') → (∀ x ∈ xs, ∀ b, B b → e ((δ1.set k (some (w b))).set i (some (.fz (g x)))) = some (f x, (δ1.set k (some (w b))).set i (some (.fz (g x))))) →
      ∃ ys b' y', List.Sublist ys xs ∧ compTurns (tgName i) c e [i] (xs.map g) acc ((δ1.set k (some (w b))).set i y) = some (acc ++ ys.map f, (δ1.set k (some (w b'))).set i y') ∧ B b' := by
    intro xs
    induction xs with
    | nil => exact fun acc b y hb _ _ => ⟨[], b, y, List.Sublist.slnil, by simp [compTurns], hb⟩
    | cons x xs ih =>
      intro acc b y hb hc he
      obtain ⟨bo, b1, e1, hb1⟩ := hc x List.mem_cons_self b hb
      have e2 := he x List.mem_cons_self b1 hb1
      have tc := fun z (hz : z ∈ xs) => hc z (List.mem_cons_of_mem _ hz)
      have te := fun z (hz : z ∈ xs) => he z (List.mem_cons_of_mem _ hz)
      rw [List.map_cons]
      cases bo with
      | false =>
        obtain ⟨ys, b2, y2, q1, q2, q3⟩ := ih acc b1 (some (.fz (g x))) hb1 tc te
        refine ⟨ys, b2, y2, q1.cons x, ?_, q3⟩
        unfold compTurns
        rw [wipe1, List.set_set, tg_at (by rw [List.length_set]; exact hlen) rfl]
        dsimp only
        rw [e1]
        exact q2
      | true =>
        obtain ⟨ys, b2, y2, q1, q2, q3⟩ := ih (acc ++ [f x]) b1 (some (.fz (g x))) hb1 tc te
        refine ⟨x :: ys, b2, y2, q1.cons₂ x, ?_, q3⟩
        unfold compTurns
        rw [wipe1, List.set_set, tg_at (by rw [List.length_set]; exact hlen) rfl]
        dsimp only
        rw [e1]
        dsimp only
        rw [e2]
        dsimp only
        rw [q2]
        simp
  have e0 : wipeD δ1 [i] = (δ1.set k (some (w b))).set i none := by
    rw [wipe1]
    congr 1
    apply List.ext_getElem?
    intro j
    rw [List.getElem?_set]
    split
    · rename_i e
      subst e
      obtain ⟨h1, h2⟩ := List.getElem?_eq_some_iff.mp hk
      simp [h1, h2]
    · rfl
  obtain ⟨ys, b', y', r, e1, hb'⟩ := H xs [] b none hb hc he
  rw [← e0, List.nil_append] at e1
  refine ⟨ys, b', r, ?_, hb'⟩
  have er : restore δ1 [i] ((δ1.set k (some (w b'))).set i y') = δ1.set k (some (w b')) := by
    rw [restore1]
    have : (δ1[i]?).getD none = ((δ1.set k (some (w b')))[i]?).getD none := by rw [List.getElem?_set_ne (Ne.symm hik)]
    rw [this]
    exact set_back (a := a) (by rw [List.getElem?_set_ne (Ne.symm hik)]; exact hi)
  rw [dComp_run hs (by simp [calmAt_eq, hi, ha]) (by rw [List.length_map]; exact hl) e1, er]
end FT
set_option Elab.async false
set_option linter.all false
/-! Free sets counted: binomials, the table item by item. -/
namespace FT
open PySem DL
/-! ### binomials -/
def ch : Nat → Nat → Nat
  | _, 0 => 1
  | 0, _ + 1 => 0
  | n + 1, k + 1 => ch n k + ch n (k + 1)
theorem ch_zero (n : Nat) : ch n 0 = 1 := by cases n <;> rfl
theorem ch_over : ∀ {n k : Nat}, n < k → ch n k = 0
  | 0, k + 1, _ => rfl
  | n + 1, k + 1, h => by
    rw [ch, ch_over (show n < k by omega), ch_over (show n < k + 1 by omega)]
theorem ch_mul : ∀ (n k : Nat), (k + 1) * ch n (k + 1) = ch n k * (n - k)
  | 0, k => by
    rw [Nat.zero_sub, Nat.mul_zero]
    show (k + 1) * 0 = 0
    exact Nat.mul_zero _
  | n + 1, 0 => by
    have ih : (0 + 1) * ch n 1 = ch n 0 * (n - 0) := ch_mul n 0
    rw [ch_zero] at ih
    show (0 + 1) * (ch n 0 + ch n 1) = ch (n + 1) 0 * (n + 1 - 0)
    rw [ch_zero, ch_zero]
    omega
  | n + 1, k + 1 => by
    have i1 := ch_mul n k
    have i2 := ch_mul n (k + 1)
    rw [ch, ch]
    rcases Nat.lt_or_ge n (k + 1) with h | h
    · rw [ch_over (show n < k + 1 by omega), ch_over (show n < k + 1 + 1 by omega), show n + 1 - (k + 1) = 0 by omega]
      simp
    · obtain ⟨d, rfl⟩ : ∃ d, n = k + 1 + d := ⟨n - (k + 1), by omega⟩
      rw [show k + 1 + d - k = d + 1 by omega] at i1
      rw [show k + 1 + d - (k + 1) = d by omega] at i2
      rw [show k + 1 + d + 1 - (k + 1) = d + 1 by omega]
      generalize ch (k + 1 + d) k = a at *
      generalize ch (k + 1 + d) (k + 1) = b at *
      generalize ch (k + 1 + d) (k + 1 + 1) = c at *
      have e1 : (k + 1 + 1) * (b + c) = (k + 1) * b + b + (k + 1 + 1) * c := by
        rw [Nat.mul_add, Nat.add_mul (k + 1) 1 b, Nat.one_mul]
      rw [e1, i1, i2, Nat.add_mul, Nat.mul_succ b d]
      omega
theorem ch_step (n k : Nat) : ch n k * (n - k) / (k + 1) = ch n (k + 1) := by
  rw [← ch_mul, Nat.mul_div_cancel_left _ (Nat.succ_pos k)]
/-! ### sums -/
theorem tot_shift (f : Nat → Nat) : ∀ n, tot f (n + 1) = f 0 + tot (fun k => f (k + 1)) n
  | 0 => by simp [tot]
  | n + 1 => by
    rw [tot, tot_shift f n, tot]
    omega
theorem tot_rev (f : Nat → Nat) : ∀ n, tot f (n + 1) = tot (fun k => f (n - k)) (n + 1)
  | 0 => by simp [tot]
  | n + 1 => by
    rw [tot_shift (fun k => f (n + 1 - k)), tot, tot_rev f n]
    have : tot (fun k => f (n - k)) (n + 1) = tot (fun k => f (n + 1 - (k + 1))) (n + 1) := tot_congr fun t _ => by
      show f (n - t) = f (n + 1 - (t + 1))
      rw [Nat.add_sub_add_right]
    rw [this, Nat.sub_zero]
    omega
theorem tot_ext {f : Nat → Nat} {n : Nat} : ∀ {m : Nat}, n ≤ m → (∀ t, n ≤ t → t < m → f t = 0) → tot f m = tot f n
  | 0, h, _ => by
    have : n = 0 := by omega
    rw [this]
  | m + 1, h, hz => by
    rcases Nat.lt_or_eq_of_le h with hlt | heq
    · rw [tot, hz m (by omega) (by omega), tot_ext (by omega) fun t h1 h2 => hz t h1 (by omega)]
      omega
    · rw [heq]
/-- the numbers f, after j more items -/
def U (f : Nat → Nat) : Nat → Nat → Nat
  | 0, s => f s
  | j + 1, 0 => U f j 0
  | j + 1, s + 1 => U f j (s + 1) + U f j s
theorem U_sum (f : Nat → Nat) : ∀ j s, U f j s = tot (fun k => ch j k * f (s - k)) (s + 1)
  | 0, s => by
    rw [tot_shift]
    have : tot (fun k => ch 0 (k + 1) * f (s - (k + 1))) s = tot (fun _ => 0) s := tot_congr fun t _ => by
      show 0 * _ = 0
      exact Nat.zero_mul _
    rw [this, tot_zero, ch_zero, Nat.one_mul]
    rfl
  | j + 1, 0 => by
    rw [U, U_sum f j 0]
    simp [tot, ch_zero]
  | j + 1, s + 1 => by
    rw [U, U_sum f j (s + 1), U_sum f j s, tot_shift (fun k => ch (j + 1) k * f (s + 1 - k)), tot_shift (fun k => ch j k * f (s + 1 - k)), ch_zero, ch_zero]
    have : tot (fun k => ch (j + 1) (k + 1) * f (s + 1 - (k + 1))) (s + 1) = tot (fun k => ch j (k + 1) * f (s + 1 - (k + 1)) + ch j k * f (s - k)) (s + 1) := tot_congr fun t _ => by
      show (ch j t + ch j (t + 1)) * f (s + 1 - (t + 1)) = _
      rw [Nat.add_sub_add_right, Nat.add_mul]
      omega
    rw [this, tot_add]
    omega
/-! ### the table -/
/-- a price ends behind j items -/
def isEnd (ps : List Int) (j : Nat) : Bool := decide (j = ps.length) || decide (ps[j]? ≠ ps[j - 1]?)
def tab (o : Nat) (ps : List Int) : Nat → Nat → Nat
  | 0, s => if s = 0 then 1 else 0
  | j + 1, s => if isEnd ps (j + 1) = true ∧ j + 1 < s * o then 0 else tab o ps j s + (if s = 0 then 0 else tab o ps j (s - 1))
/-- the items below e -/
def below (r : List Int) (e : Nat) : Nat := r.countP fun i => decide (i < (e : Int))
def okE (o : Nat) (ps : List Int) (j : Nat) (r : List Int) : Bool := (List.range j).all fun e => !isEnd ps (e + 1) || decide (below r (e + 1) * o ≤ e + 1)
theorem below_all {j : Nat} {r : List Int} (h : It j r) : below r j = r.length := by
  unfold below
  rw [List.countP_eq_length]
  intro i hi
  have := h.rng i hi
  simp
  omega
theorem below_snoc {j e : Nat} (r : List Int) (h : e ≤ j) : below (r ++ [((j : Nat) : Int)]) e = below r e := by
  unfold below
  rw [List.countP_append, List.countP_singleton, if_neg (by simp; omega)]
  rfl
theorem okE_succ (o : Nat) (ps : List Int) (j : Nat) (r : List Int) : okE o ps (j + 1) r = (okE o ps j r && (!isEnd ps (j + 1) || decide (below r (j + 1) * o ≤ j + 1))) := by
  unfold okE
  rw [List.range_succ, List.all_append]
  simp
theorem okE_snoc (o : Nat) (ps : List Int) (j : Nat) (r : List Int) : okE o ps j (r ++ [((j : Nat) : Int)]) = okE o ps j r := by
  unfold okE
  rw [Bool.eq_iff_iff, List.all_eq_true, List.all_eq_true]
  constructor
  · intro h e he
    have := h e he
    rwa [below_snoc r (by rw [List.mem_range] at he; omega)] at this
  · intro h e he
    rw [below_snoc r (by rw [List.mem_range] at he; omega)]
    exact h e he
theorem tab_count (o : Nat) (ps : List Int) : ∀ j s, tab o ps j s = (subsL j).countP fun r => okE o ps j r && decide (r.length = s)
  | 0, s => by
    by_cases h : s = 0
    · subst h
      simp [tab, subsL, okE]
    · have : ¬ 0 = s := fun e => h e.symm
      simp [tab, subsL, okE, h, this]
  | j + 1, s => by
    rw [tab, subsL, List.countP_append, List.countP_map]
    have hl : ∀ r ∈ subsL j, below r (j + 1) = r.length := fun r hr => below_all ⟨fun i hi => by have := (mem_subsL.mp hr).rng i hi; omega, (mem_subsL.mp hr).inc⟩
    have hl2 : ∀ r ∈ subsL j, below (r ++ [((j : Nat) : Int)]) (j + 1) = r.length + 1 := fun r hr => by
      have := hl r hr
      unfold below at *
      rw [List.countP_append, this, List.countP_singleton, if_pos (by simp; omega)]
    have e1 : (subsL j).countP (fun r => okE o ps (j + 1) r && decide (r.length = s)) = if isEnd ps (j + 1) = true ∧ j + 1 < s * o then 0 else tab o ps j s := by
      rw [tab_count o ps j s]
      by_cases hc : isEnd ps (j + 1) = true ∧ j + 1 < s * o
      · rw [if_pos hc, List.countP_eq_zero]
        intro r hr
        rw [okE_succ, hl r hr, hc.1]
        intro q
        simp at q
        obtain ⟨⟨_, q1⟩, q2⟩ := q
        rw [q2] at q1
        omega
      · rw [if_neg hc]
        refine List.countP_congr fun r hr => ?_
        rw [okE_succ, hl r hr]
        simp only [Bool.and_eq_true, Bool.or_eq_true, Bool.not_eq_true', decide_eq_true_eq]
        constructor
        · rintro ⟨⟨q1, _⟩, q2⟩
          exact ⟨q1, q2⟩
        · rintro ⟨q1, q2⟩
          refine ⟨⟨q1, ?_⟩, q2⟩
          cases he : isEnd ps (j + 1) with
          | false => exact .inl rfl
          | true =>
            refine .inr ?_
            rw [q2]
            have h5 : ¬ j + 1 < s * o := fun z => hc ⟨he, z⟩
            omega
    have e2 : (subsL j).countP ((fun r => okE o ps (j + 1) r && decide (r.length = s)) ∘ fun r => r ++ [((j : Nat) : Int)]) = if isEnd ps (j + 1) = true ∧ j + 1 < s * o then 0 else (if s = 0 then 0 else tab o ps j (s - 1)) := by
      by_cases h0 : s = 0
      · have : (if isEnd ps (j + 1) = true ∧ j + 1 < s * o then 0 else (if s = 0 then 0 else tab o ps j (s - 1))) = 0 := by
          rw [if_pos h0]
          split <;> rfl
        rw [this, List.countP_eq_zero]
        intro r hr
        simp [h0]
      · rw [if_neg h0, tab_count o ps j (s - 1)]
        by_cases hc : isEnd ps (j + 1) = true ∧ j + 1 < s * o
        · rw [if_pos hc, List.countP_eq_zero]
          intro r hr
          simp only [Function.comp]
          rw [okE_succ, hl2 r hr, hc.1, List.length_append, List.length_singleton]
          intro q
          simp at q
          obtain ⟨⟨_, q1⟩, q2⟩ := q
          rw [q2] at q1
          omega
        · rw [if_neg hc]
          refine List.countP_congr fun r hr => ?_
          simp only [Function.comp]
          rw [okE_succ, okE_snoc, hl2 r hr, List.length_append, List.length_singleton]
          simp only [Bool.and_eq_true, Bool.or_eq_true, Bool.not_eq_true', decide_eq_true_eq]
          constructor
          · rintro ⟨⟨q1, _⟩, q2⟩
            exact ⟨q1, by omega⟩
          · rintro ⟨q1, q2⟩
            have q3 : r.length + 1 = s := by omega
            refine ⟨⟨q1, ?_⟩, q3⟩
            cases he : isEnd ps (j + 1) with
            | false => exact .inl rfl
            | true =>
              refine .inr ?_
              rw [q3]
              have h5 : ¬ j + 1 < s * o := fun z => hc ⟨he, z⟩
              omega
    rw [e1, e2]
    split <;> omega
/-! ### the table and free sets -/
theorem end_of {ps : List Int} (hd : ps.Pairwise (· ≥ ·)) (hp : ∀ p ∈ ps, 1 ≤ p) {p : Int} (h : p ∈ ps) : 1 ≤ ps.countP (fun q => decide (p ≤ q)) ∧ ps.countP (fun q => decide (p ≤ q)) ≤ ps.length ∧ isEnd ps (ps.countP fun q => decide (p ≤ q)) = true := by
  have c1 : 0 < ps.countP fun q => decide (p ≤ q) := List.countP_pos_iff.mpr ⟨p, h, by simp⟩
  have c2 : ps.countP (fun q => decide (p ≤ q)) ≤ ps.length := List.countP_le_length
  refine ⟨c1, c2, ?_⟩
  have ai := fun j (hj : j < ps.length) => at_iff hd (hp p h) hj
  generalize (ps.countP fun q => decide (p ≤ q)) = c at *
  unfold isEnd
  rcases Nat.lt_or_eq_of_le c2 with hlt | heq
  · have h1 := (ai (c - 1) (by omega)).mpr (by omega)
    have h2 : ¬ p ≤ pr ps ((c : Nat) : Int) := fun z => by
      have := (ai c hlt).mp z
      omega
    rw [pr_get (by omega)] at h1 h2
    rw [List.getElem?_eq_getElem hlt, List.getElem?_eq_getElem (show c - 1 < ps.length by omega)]
    simp
    right
    intro z
    rw [z] at h2
    exact h2 h1
  · simp [heq]
theorem okE_fits {o : Nat} (ho : 1 ≤ o) {ps : List Int} (hd : ps.Pairwise (· ≥ ·)) (hp : ∀ p ∈ ps, 1 ≤ p) {r : List Int} (hr : It ps.length r) : okE o ps ps.length r = fitsB o ps r := by
  have bl : ∀ p ∈ ps, r.countP (fun i => decide (p ≤ pr ps i)) = below r (ps.countP fun q => decide (p ≤ q)) := fun p h => by
    unfold below
    refine List.countP_congr fun i hi => ?_
    have hri := hr.rng i hi
    obtain ⟨j, rfl⟩ := Int.eq_ofNat_of_zero_le hri.1
    rw [decide_eq_true_eq, decide_eq_true_eq, at_iff hd (hp p h) (by omega)]
    omega
  rw [Bool.eq_iff_iff, fits_iff]
  unfold okE
  rw [List.all_eq_true]
  constructor
  · intro h p hpm
    obtain ⟨c1, c2, c3⟩ := end_of hd hp hpm
    rw [bl p hpm]
    have := h (ps.countP (fun q => decide (p ≤ q)) - 1) (by rw [List.mem_range]; omega)
    generalize (ps.countP fun q => decide (p ≤ q)) = c at *
    rw [show c - 1 + 1 = c by omega, c3] at this
    simp at this
    rw [Nat.le_div_iff_mul_le (by omega)]
    exact this
  · intro h e he
    rw [List.mem_range] at he
    cases hE : isEnd ps (e + 1) with
    | false => rfl
    | true =>
      have hpm : ps[e] ∈ ps := List.getElem_mem he
      have h1 := h _ hpm
      rw [bl _ hpm] at h1
      have ai := fun j (hj : j < ps.length) => at_iff hd (hp _ hpm) hj
      have c2 : ps.countP (fun q => decide (ps[e] ≤ q)) ≤ ps.length := List.countP_le_length
      have hc : ps.countP (fun q => decide (ps[e] ≤ q)) = e + 1 := by
        generalize (ps.countP fun q => decide (ps[e] ≤ q)) = c at *
        have a1 := (ai e he).mp (by rw [pr_get he]; exact Int.le_refl _)
        rcases Nat.lt_or_ge (e + 1) c with hlt | hge
        · exfalso
          have hel : e + 1 < ps.length := by omega
          have a2 := (ai (e + 1) hel).mpr hlt
          rw [pr_get hel] at a2
          have a3 : ps[e] ≥ ps[e + 1] := List.pairwise_iff_getElem.mp hd e (e + 1) he hel (by omega)
          have a4 : ps[e + 1] = ps[e] := by omega
          unfold isEnd at hE
          rw [List.getElem?_eq_getElem hel, show e + 1 - 1 = e by omega, List.getElem?_eq_getElem he, a4] at hE
          simp at hE
          omega
        · omega
      rw [hc, Nat.le_div_iff_mul_le (by omega)] at h1
      simp [h1]
/-- how many free sets of size s -/
def nSet (o : Nat) (ps : List Int) (s : Nat) : Nat := (subsL ps.length).countP fun r => fitsB o ps r && decide (r.length = s)
def nAll (o : Nat) (ps : List Int) : Nat := (subsL ps.length).countP fun r => fitsB o ps r
theorem tab_nSet {o : Nat} (ho : 1 ≤ o) {ps : List Int} (hd : ps.Pairwise (· ≥ ·)) (hp : ∀ p ∈ ps, 1 ≤ p) (s : Nat) : tab o ps ps.length s = nSet o ps s := by
  rw [tab_count]
  refine List.countP_congr fun r hr => ?_
  rw [okE_fits ho hd hp (mem_subsL.mp hr)]
theorem count_len (l : List (List Int)) (P : List Int → Bool) (L : Nat) (h : ∀ r ∈ l, P r = true → r.length ≤ L) : tot (fun s => l.countP fun r => P r && decide (r.length = s)) (L + 1) = l.countP P := by
  induction l with
  | nil => simp [tot_zero]
  | cons r l ih =>
    have ih := ih fun q hq => h q (List.mem_cons_of_mem _ hq)
    have e : tot (fun s => (r :: l).countP fun r => P r && decide (r.length = s)) (L + 1) = tot (fun s => (l.countP fun r => P r && decide (r.length = s)) + (if P r = true ∧ r.length = s then 1 else 0)) (L + 1) := tot_congr fun s _ => by
      rw [List.countP_cons]
      congr 1
      by_cases h1 : P r = true <;> by_cases h2 : r.length = s <;> simp [h1, h2]
    rw [e, tot_add, ih, List.countP_cons]
    congr 1
    by_cases h1 : P r = true
    · have hl := h r List.mem_cons_self h1
      rw [if_pos h1]
      have one : ∀ n, r.length < n → tot (fun s => if P r = true ∧ r.length = s then 1 else 0) n = 1 := by
        intro n
        induction n with
        | zero => intro z; omega
        | succ n ih =>
          intro z
          rw [tot]
          by_cases hn : r.length = n
          · rw [if_pos ⟨h1, hn⟩]
            have : tot (fun s => if P r = true ∧ r.length = s then 1 else 0) n = tot (fun _ => 0) n := tot_congr fun t ht => by
              rw [if_neg]
              omega
            rw [this, tot_zero]
          · rw [ih (by omega), if_neg (fun q => hn q.2)]
      exact one _ (by omega)
    · rw [if_neg h1]
      have : tot (fun s => if P r = true ∧ r.length = s then 1 else 0) (L + 1) = tot (fun _ => 0) (L + 1) := tot_congr fun t ht => if_neg fun q => h1 q.1
      rw [this, tot_zero]
theorem tot_nSet {o : Nat} {ps : List Int} (h1 : 1 ≤ ps.length) : tot (nSet o ps) (ps.length / o + 1) = nAll o ps :=
  count_len _ _ _ fun r hr hf => fits_len h1 (mem_subsL.mp hr).rng hf
theorem nAll_mono {o o' : Nat} (h0 : 0 < o) (h : o ≤ o') (ps : List Int) : nAll o' ps ≤ nAll o ps := by
  unfold nAll
  exact List.countP_mono_left fun r _ hf => fits_mono h0 h hf
/-! ### a whole price at once -/
theorem tab_block {o : Nat} {ps : List Int} {e m : Nat} (hin : ∀ j, e < j → j < e + m → isEnd ps j = false) : ∀ j, j < m → ∀ s, tab o ps (e + j) s = U (tab o ps e) j s
  | 0, _, s => rfl
  | j + 1, h, s => by
    have he := hin (e + (j + 1)) (by omega) (by omega)
    rw [show e + (j + 1) = e + j + 1 by omega] at he ⊢
    rw [tab, if_neg (by rw [he]; simp)]
    cases s with
    | zero =>
      rw [if_pos rfl, tab_block hin j (by omega) 0]
      rfl
    | succ s =>
      rw [if_neg (by omega), tab_block hin j (by omega) (s + 1), show s + 1 - 1 = s by omega, tab_block hin j (by omega) s]
      rfl
theorem tab_class {o : Nat} {ps : List Int} {e m : Nat} (hm : 1 ≤ m) (hin : ∀ j, e < j → j < e + m → isEnd ps j = false) (hend : isEnd ps (e + m) = true) (s : Nat) : tab o ps (e + m) s = if e + m < s * o then 0 else U (tab o ps e) m s := by
  obtain ⟨k, rfl⟩ : ∃ k, m = k + 1 := ⟨m - 1, by omega⟩
  have b := tab_block (o := o) hin k (by omega)
  rw [show e + (k + 1) = e + k + 1 by omega] at hend ⊢
  rw [tab]
  by_cases c : e + k + 1 < s * o
  · rw [if_pos ⟨hend, c⟩, if_pos c]
  · rw [if_neg (fun q => c q.2), if_neg c]
    cases s with
    | zero =>
      rw [if_pos rfl, b 0]
      rfl
    | succ s =>
      rw [if_neg (by omega), b (s + 1), show s + 1 - 1 = s by omega, b s]
      rfl
end FT
set_option Elab.async false
set_option linter.all false
/-! Free sets counted: the walk. -/
namespace FT
open PySem DL
/-! ### lists of numbers by place -/
def nts (h : Nat → Nat) (n : Nat) : List D := (List.range n).map fun s => PyData.int ((h s : Nat) : Int)
theorem nts_len (h : Nat → Nat) (n : Nat) : (nts h n).length = n := by simp [nts]
theorem nts_get {h : Nat → Nat} {n s : Nat} (hs : s < n) : (nts h n)[s]? = some (.int ((h s : Nat) : Int)) := by
  simp [nts, hs]
theorem nts_congr {h g : Nat → Nat} {n : Nat} (e : ∀ s, s < n → h s = g s) : nts h n = nts g n := by
  unfold nts
  refine List.map_congr_left fun s hs => ?_
  rw [e s (List.mem_range.mp hs)]
theorem nts_set (h : Nat → Nat) (n k v : Nat) : (nts h n).set k (.int ((v : Nat) : Int)) = nts (fun s => if s = k then v else h s) n := by
  refine List.ext_getElem? fun i => ?_
  rw [List.getElem?_set, nts_len]
  by_cases hn : i < n
  · rw [nts_get hn, nts_get hn]
    by_cases hk : k = i
    · subst hk
      rw [if_pos rfl, if_pos hn, if_pos rfl]
    · rw [if_neg hk, if_neg (fun e => hk e.symm)]
  · rw [List.getElem?_eq_none (by rw [nts_len]; omega), List.getElem?_eq_none (by rw [nts_len]; omega)]
    by_cases hk : k = i
    · rw [if_pos hk, if_neg (by omega)]
    · rw [if_neg hk]
theorem nts_ints (h : Nat → Nat) (n : Nat) : nts h n = intz ((List.range n).map fun s => ((h s : Nat) : Int)) := by
  simp [nts, intz]
theorem sum_nts (h : Nat → Nat) : ∀ n, ((List.range n).map fun s => ((h s : Nat) : Int)).sum = ((tot h n : Nat) : Int)
  | 0 => rfl
  | n + 1 => by
    rw [List.range_succ, List.map_append, List.sum_append, sum_nts h n, tot]
    simp
theorem enum_from (f : Nat → D) : ∀ n k, enumD k ((List.range' k n).map f) = (List.range' k n).map fun s => pairD (.int (s : Nat)) (f s)
  | 0, _ => rfl
  | n + 1, k => by
    rw [List.range'_succ, List.map_cons, enumD, enum_from f n (k + 1), List.map_cons]
theorem enum_nts (h : Nat → Nat) (n : Nat) : enumD 0 (nts h n) = (List.range n).map fun s => pairD (.int (s : Nat)) (.int ((h s : Nat) : Int)) := by
  unfold nts
  rw [List.range_eq_range', enum_from]
theorem zeros (k : Nat) : rep (k : Nat) [PyData.int 0] = nts (fun _ => 0) k := by
  unfold rep nts
  rw [Int.toNat_natCast]
  induction k with
  | zero => rfl
  | succ k ih =>
    rw [List.replicate_succ, List.flatten_cons, ih, List.range_succ_eq_map, List.map_cons, List.map_map]
    rfl
theorem one_zeros (k : Nat) : PyData.int 1 :: nts (fun _ => 0) k = nts (fun s => if s = 0 then 1 else 0) (k + 1) := by
  unfold nts
  rw [List.range_succ_eq_map, List.map_cons, List.map_map]
  rfl
theorem range_at {n x : Nat} {pre post : List Nat} (h : List.range n = pre ++ x :: post) : x = pre.length ∧ x < n := by
  have h1 : (List.range n)[pre.length]? = some x := by
    rw [h, List.getElem?_append_right (Nat.le_refl _), Nat.sub_self]
    rfl
  have h2 : x ∈ List.range n := by rw [h]; simp
  rw [List.mem_range] at h2
  have h3 : pre.length < n := by
    have := congrArg List.length h
    simp at this
    omega
  rw [List.getElem?_range h3] at h1
  cases h1
  exact ⟨rfl, h2⟩
theorem ch_le : ∀ n k, ch n k ≤ 2 ^ n
  | 0, 0 => by decide
  | 0, k + 1 => Nat.zero_le _
  | n + 1, 0 => by rw [ch_zero]; exact Nat.one_le_two_pow
  | n + 1, k + 1 => by
    have := ch_le n k
    have := ch_le n (k + 1)
    rw [ch, Nat.pow_succ]
    omega
theorem binom_turn {zn zk a b c zi : Int} {x3 : Option DV} (h3 : nb x3 = true) (m1 : gMul (.int a) (.int (zn - zi)) = some (.fz (.int b))) (m2 : gDivI (.int b) (.int (zi + 1)) = some (.fz (.int c))) :
    b_binomial_2b [some (.fz (.int zn)), some (.fz (.int zk)), some (.fz (.int a)), some (.fz (.int zi))] = some (.nx [some (.fz (.int zn)), some (.fz (.int zk)), some (.fz (.int c)), some (.fz (.int zi))]) := by
  simp [b_binomial_2b, b_binomial_2b_1, fnOf, DL.start, sSeq, sIf, sAsg_eq, sAsgT, sSet, sRet, sDrop, sRaise, sCallX, sNext, sBreak, sCont, sPar, sPar3, notBr_eq, dTest, dTruthy, toL, toV, ofV, dOp, dUn, dUnE, dC, dLate, dVar, LV.get, slotD, DV.dat, dTup, dLst, aNil, aCons, lNil, lCons, getAll, dCB, dCall, dCallB, dAnd, dOr, dNot, dOfT, dIf, dChain, dMut, isLs, lentOf, tgName_eq, tgNil, tgCons, tgTup, dIter, itemsD, dYes, LIM, m1, m2]
theorem binomial_spec {n k : Nat} (hn : n ≤ 1000) (hk : k ≤ n) : F_binomial [.fz (.int (n : Nat)), .fz (.int (k : Nat))] = some (.ret (.fz (.int ((ch n k : Nat) : Int))) []) := by
  obtain ⟨zn, en⟩ : ∃ z : Int, z = (n : Int) := ⟨_, rfl⟩
  obtain ⟨zk, ek⟩ : ∃ z : Int, z = (k : Int) := ⟨_, rfl⟩
  obtain ⟨zc, ec⟩ : ∃ z : Int, z = ((ch n k : Nat) : Int) := ⟨_, rfl⟩
  rw [← en, ← ek, ← ec]
  refine fn_gives ?_
  refine .seq (by simp [b_binomial_1, DL.start, fnOf, DL.start, sSeq, sIf, sAsg_eq, sAsgT, sSet, sRet, sDrop, sRaise, sCallX, sNext, sBreak, sCont, sPar, sPar3, notBr_eq, dTest, dTruthy, toL, toV, ofV, dOp, dUn, dUnE, dC, dLate, dVar, LV.get, slotD, DV.dat, dTup, dLst, aNil, aCons, lNil, lCons, getAll, dCB, dCall, dCallB, dAnd, dOr, dNot, dOfT, dIf, dChain, dMut, isLs, lentOf, tgName_eq, tgNil, tgCons, tgTup, dIter, itemsD, dYes, LIM] <;> rfl) ?_
  refine .sq (P := fun δ => ∃ x3, δ = [some (.fz (.int zn)), some (.fz (.int zk)), some (.fz (.int zc)), x3]) (Go.forN k (fun i δ => ∃ x3 a, δ = [some (.fz (.int zn)), some (.fz (.int zk)), some (.fz (.int a)), x3] ∧ a = ((ch n i : Nat) : Int) ∧ nb x3 = true) (range1_gen rfl (by rw [← ek]; rfl) (by omega)) ⟨none, 1, rfl, by rw [ch_zero]; rfl, rfl⟩ (fun i δ hi ⟨x3, a, e, ea, h3⟩ => ?_) fun δ ⟨x3, a, e, ea, _⟩ => ⟨x3, by rw [e, ea, ec]⟩) fun δ ⟨x3, e⟩ => ?_
  · subst e
    generalize ez : ((i : Nat) : Int) = zi at *
    refine ⟨_, by simp only [tgName_eq, List.getElem?_cons_succ, List.getElem?_cons_zero, if_true, List.set_cons_succ, List.set_cons_zero, Int.zero_add, h3]; rfl, ?_⟩
    have m1 : gMul (.int a) (.int (zn - zi)) = some (.fz (.int (a * (zn - zi)))) := gMul_int (okMul_r (by unfold p64; omega) (by unfold p64; omega))
    have m2 : gDivI (.int (a * (zn - zi))) (.int (zi + 1)) = some (.fz (.int ((ch n (i + 1) : Nat) : Int))) := by
      rw [gDivI_int (by omega) (by omega), ← ch_step, Int.natCast_ediv, Int.natCast_mul, Int.ofNat_sub (by omega), ea, ← en, ez]
      congr 5
      rw [Int.natCast_add, ez]
      rfl
    exact .one (binom_turn h3 m1 m2) ⟨_, _, rfl, rfl, rfl⟩
  · subst e
    exact .one (by simp [b_binomial_3, DL.start, fnOf, DL.start, sSeq, sIf, sAsg_eq, sAsgT, sSet, sRet, sDrop, sRaise, sCallX, sNext, sBreak, sCont, sPar, sPar3, notBr_eq, dTest, dTruthy, toL, toV, ofV, dOp, dUn, dUnE, dC, dLate, dVar, LV.get, slotD, DV.dat, dTup, dLst, aNil, aCons, lNil, lCons, getAll, dCB, dCall, dCallB, dAnd, dOr, dNot, dOfT, dIf, dChain, dMut, isLs, lentOf, tgName_eq, tgNil, tgCons, tgTup, dIter, itemsD, dYes, LIM] <;> first | rfl | exact ⟨rfl, rfl⟩) (by exact ⟨rfl, rfl⟩)
/-! ### the classes of prices -/
def Cls (o : Nat) (ps : List Int) : Nat → List (Int × Nat × Nat) → Prop
  | e, [] => e = ps.length
  | e, c :: r => (1 ≤ c.2.1 ∧ e + c.2.1 ≤ ps.length ∧ (∀ j, e ≤ j → j < e + c.2.1 → ps[j]? = some c.1) ∧ (e + c.2.1 = ps.length ∨ ps[e + c.2.1]? ≠ some c.1)) ∧ c.2.2 = (e + c.2.1) / o ∧ Cls o ps (e + c.2.1) r
def clD (c : Int × Nat × Nat) : D := .tuple [.int c.1, .int ((c.2.1 : Nat) : Int), .int ((c.2.2 : Nat) : Int)]
theorem cls_len {o : Nat} {ps : List Int} : ∀ {L : List (Int × Nat × Nat)} {e : Nat}, Cls o ps e L → e + L.length ≤ ps.length
  | [], e, h => by
    have h : e = ps.length := h
    simp [h]
  | c :: r, e, h => by
    have := cls_len h.2.2
    have := h.1.1
    rw [List.length_cons]
    omega
theorem count_up (ps : List Int) (p : Int) : ps.countP (fun q => decide (p ≤ q)) = ps.countP (fun q => decide (p + 1 ≤ q)) + ps.count p := by
  induction ps with
  | nil => rfl
  | cons x ps ih =>
    rw [List.countP_cons, List.countP_cons, List.count_cons, ih]
    by_cases h1 : p + 1 ≤ x
    · have h2 : p ≤ x := by omega
      have h3 : ¬ x = p := by omega
      simp [h1, h2, h3]
      omega
    · by_cases h3 : x = p
      · subst h3
        simp [h1]
        omega
      · have h2 : ¬ p ≤ x := by omega
        simp [h1, h2, h3]
theorem block {ps : List Int} (hd : ps.Pairwise (· ≥ ·)) (hp : ∀ p ∈ ps, 1 ≤ p) {s : Nat} {p : Int} (h : ps[s]? = some p) (st : ps.countP (fun q => decide (p + 1 ≤ q)) = s) :
    (1 ≤ ps.count p ∧ s + ps.count p ≤ ps.length ∧ (∀ j, s ≤ j → j < s + ps.count p → ps[j]? = some p) ∧ (s + ps.count p = ps.length ∨ ps[s + ps.count p]? ≠ some p)) ∧ ∀ q, ps[s + ps.count p]? = some q → ps.countP (fun r => decide (q + 1 ≤ r)) = s + ps.count p := by
  have hm : p ∈ ps := List.mem_of_getElem? h
  have p1 := hp p hm
  have hc := count_up ps p
  rw [st] at hc
  have c1 : 1 ≤ ps.count p := List.count_pos_iff.mpr hm
  have c2 : ps.countP (fun q => decide (p ≤ q)) ≤ ps.length := List.countP_le_length
  have ai := fun j (hj : j < ps.length) => at_iff hd p1 hj
  have bi := fun j (hj : j < ps.length) => at_iff hd (show 1 ≤ p + 1 by omega) hj
  rw [st] at bi
  rw [hc] at ai c2
  generalize ps.count p = k at *
  have inb : ∀ j, s ≤ j → j < s + k → ps[j]? = some p := fun j h1 h2 => by
    have hj : j < ps.length := by omega
    have a := (ai j hj).mpr h2
    have b : ¬ p + 1 ≤ pr ps (j : Int) := fun z => by
      have := (bi j hj).mp z
      omega
    rw [pr_get hj] at a b
    rw [List.getElem?_eq_getElem hj]
    congr 1
    omega
  have nxt : ∀ q, ps[s + k]? = some q → q < p := fun q hq => by
    obtain ⟨hj, e⟩ := List.getElem?_eq_some_iff.mp hq
    rcases Int.lt_or_le q p with hlt | hge
    · exact hlt
    · have := (ai (s + k) hj).mp (by rw [pr_get hj, e]; exact hge)
      omega
  refine ⟨⟨c1, c2, inb, ?_⟩, fun q hq => ?_⟩
  · right
    intro hq
    have := nxt p hq
    omega
  · obtain ⟨hj, e⟩ := List.getElem?_eq_some_iff.mp hq
    have hlt := nxt q hq
    have q1 := hp q (List.mem_of_getElem? hq)
    have di := fun j (hj : j < ps.length) => at_iff hd (show 1 ≤ q + 1 by omega) hj
    have d1 := di (s + k) hj
    rw [pr_get hj, e] at d1
    have d2 := di (s + k - 1) (by omega)
    have e2 := inb (s + k - 1) (by omega) (by omega)
    rw [List.getElem?_eq_getElem (show s + k - 1 < ps.length by omega)] at e2
    rw [pr_get (show s + k - 1 < ps.length by omega), Option.some.inj e2] at d2
    generalize ps.countP (fun r => decide (q + 1 ≤ r)) = d at *
    have : ¬ s + k < d := fun z => by
      have := d1.mpr z
      omega
    have := d2.mp (by omega)
    omega
theorem price_classes_spec {o : Nat} (h1 : 1 ≤ o) (h2 : o ≤ 9) {ps : List Int} (hd : ps.Pairwise (· ≥ ·)) (hp : ∀ p ∈ ps, 1 ≤ p) (hl : ps.length ≤ 30) :
    ∃ L, Cls o ps 0 L ∧ F_price_classes [.fz (.int (o : Nat)), .fz (ti ps)] = some (.ret (.fz (.list (L.map clD))) []) := by
  have ⟨r, l, e, L, hL, e1, e2⟩ := fn_gives' (n := 6) (b := b_price_classes) (args := [.fz (.int (o : Nat)), .fz (ti ps)]) (R := fun r l => ∃ L, Cls o ps 0 L ∧ r = .fz (.list (L.map clD)) ∧ l = []) (by
    refine .seq (by simp [b_price_classes_1, DL.start, fnOf, DL.start, sSeq, sIf, sAsg_eq, sAsgT, sSet, sRet, sDrop, sRaise, sCallX, sNext, sBreak, sCont, sPar, sPar3, notBr_eq, dTest, dTruthy, toL, toV, ofV, dOp, dUn, dUnE, dC, dLate, dVar, LV.get, slotD, DV.dat, dTup, dLst, aNil, aCons, lNil, lCons, getAll, dCB, dCall, dCallB, dAnd, dOr, dNot, dOfT, dIf, dChain, dMut, isLs, lentOf, tgName_eq, tgNil, tgCons, tgTup, dIter, itemsD, dYes, LIM] <;> rfl) ?_
    refine .sq (P := fun δ => ∃ L x4 x5, δ = [some (.fz (.int (o : Nat))), some (.fz (ti ps)), some (.mt (L.map clD)), some (.fz (.int ps.length)), x4, x5] ∧ Cls o ps 0 L) (whileGo (c := dTest (toL (toV (dOp gLt (dLate 3) (toL (toV (dCB gLen (lCons (dLate 1) lNil)))))))) (b := b_price_classes_2b)
      (fun n δ => ∃ (acc : List (Int × Nat × Nat)) (s : Nat) (x4 x5 : Option DV), δ = [some (.fz (.int (o : Nat))), some (.fz (ti ps)), some (.mt (acc.map clD)), some (.fz (.int (s : Nat))), x4, x5] ∧ s ≤ ps.length ∧ n = ps.length - s ∧ acc.length ≤ s ∧ (∀ p, ps[s]? = some p → ps.countP (fun q => decide (p + 1 ≤ q)) = s) ∧ (∀ rest, Cls o ps s rest → Cls o ps 0 (acc ++ rest)) ∧ nb x4 = true ∧ nb x5 = true)
      ps.length W_price_classes _ ⟨[], 0, none, none, rfl, Nat.zero_le _, rfl, Nat.le_refl _, fun p hq => ?_, fun rest h => h, rfl, rfl⟩ (by show ps.length < 40; omega) fun n δ ⟨acc, s, x4, x5, e, hs, hn, ha, st, hC, g4, g5⟩ => ?_) fun δ ⟨L, x4, x5, e, hL⟩ => ?_
    · obtain ⟨hj, e⟩ := List.getElem?_eq_some_iff.mp hq
      have q1 := hp p (List.mem_of_getElem? hq)
      have d1 := at_iff hd (show 1 ≤ p + 1 by omega) hj
      rw [pr_get hj, e] at d1
      generalize ps.countP (fun r => decide (p + 1 ≤ r)) = d at *
      rcases Nat.eq_zero_or_pos d with h0 | h0
      · exact h0
      · have := d1.mpr h0
        omega
    · subst e
      by_cases hlt : s < ps.length
      · refine ⟨true, _, by simp [fnOf, DL.start, sSeq, sIf, sAsg_eq, sAsgT, sSet, sRet, sDrop, sRaise, sCallX, sNext, sBreak, sCont, sPar, sPar3, notBr_eq, dTest, dTruthy, toL, toV, ofV, dOp, dUn, dUnE, dC, dLate, dVar, LV.get, slotD, DV.dat, dTup, dLst, aNil, aCons, lNil, lCons, getAll, dCB, dCall, dCallB, dAnd, dOr, dNot, dOfT, dIf, dChain, dMut, isLs, lentOf, tgName_eq, tgNil, tgCons, tgTup, dIter, itemsD, dYes, LIM, hlt]; rfl, fun h => (by cases h), fun _ => ?_⟩
        obtain ⟨⟨b1, b2, b3, b4⟩, bn⟩ := block hd hp (List.getElem?_eq_getElem hlt) (st _ (List.getElem?_eq_getElem hlt))
        have gi : gIx (ti ps) (.int (s : Nat)) = some (.fz (.int ps[s])) := by
          rw [gIx_pr (by omega) (by omega), pr_get hlt]
        generalize ps[s] = p at *
        have tc : ∀ (x5 : Option DV), dTCount 1 (dVar 4) [some (.fz (.int (o : Nat))), some (.fz (ti ps)), some (.mt (acc.map clD)), some (.fz (.int (s : Nat))), some (.fz (.int p)), x5] = some (.int ((ps.count p : Nat) : Int), [some (.fz (.int (o : Nat))), some (.fz (ti ps)), some (.mt (acc.map clD)), some (.fz (.int (s : Nat))), some (.fz (.int p)), x5]) := fun x5 => by
          simp only [dTCount, dVar, List.getElem?_cons_succ, List.getElem?_cons_zero, intsOf_map']
        generalize ps.count p = k at *
        have dv : gDivI (.int ((s : Int) + (k : Int))) (.int (o : Nat)) = some (.fz (.int (((s + k) / o : Nat) : Int))) := by
          rw [gDivI_int (by omega) (by omega), Int.natCast_ediv, Int.natCast_add]
        have ma : mAppend (acc.map clD) [.tuple [.int p, .int (k : Nat), .int (((s + k) / o : Nat) : Int)]] = some (.fz .none, (acc ++ [(p, k, (s + k) / o)]).map clD) := by
          rw [mAppend_ok (by rw [List.length_map]; unfold LIM; omega), List.map_append]
          rfl
        generalize hM : (s + k) / o = M at *
        refine ⟨ps.length - (s + k), by omega, ?_⟩
        refine .seq (a := b_price_classes_2b_1) (by simp [b_price_classes_2b_1, fnOf, DL.start, sSeq, sIf, sAsg_eq, sAsgT, sSet, sRet, sDrop, sRaise, sCallX, sNext, sBreak, sCont, sPar, sPar3, notBr_eq, dTest, dTruthy, toL, toV, ofV, dOp, dUn, dUnE, dC, dLate, dVar, LV.get, slotD, DV.dat, dTup, dLst, aNil, aCons, lNil, lCons, getAll, dCB, dCall, dCallB, dAnd, dOr, dNot, dOfT, dIf, dChain, dMut, isLs, lentOf, tgName_eq, tgNil, tgCons, tgTup, dIter, itemsD, dYes, LIM, gi, g4]; rfl) ?_
        refine .seq (a := b_price_classes_2b_2) (by simp [b_price_classes_2b_2, fnOf, DL.start, sSeq, sIf, sAsg_eq, sAsgT, sSet, sRet, sDrop, sRaise, sCallX, sNext, sBreak, sCont, sPar, sPar3, notBr_eq, dTest, dTruthy, toL, toV, ofV, dOp, dUn, dUnE, dC, dLate, dVar, LV.get, slotD, DV.dat, dTup, dLst, aNil, aCons, lNil, lCons, getAll, dCB, dCall, dCallB, dAnd, dOr, dNot, dOfT, dIf, dChain, dMut, isLs, lentOf, tgName_eq, tgNil, tgCons, tgTup, dIter, itemsD, dYes, LIM, tc, g5]; rfl) ?_
        refine .seq (a := b_price_classes_2b_3) (by simp [b_price_classes_2b_3, fnOf, DL.start, sSeq, sIf, sAsg_eq, sAsgT, sSet, sRet, sDrop, sRaise, sCallX, sNext, sBreak, sCont, sPar, sPar3, notBr_eq, dTest, dTruthy, toL, toV, ofV, dOp, dUn, dUnE, dC, dLate, dVar, LV.get, slotD, DV.dat, dTup, dLst, aNil, aCons, lNil, lCons, getAll, dCB, dCall, dCallB, dAnd, dOr, dNot, dOfT, dIf, dChain, dMut, isLs, lentOf, tgName_eq, tgNil, tgCons, tgTup, dIter, itemsD, dYes, LIM]; rfl) ?_
        refine .one (a := b_price_classes_2b_4) (by simp [b_price_classes_2b_4, fnOf, DL.start, sSeq, sIf, sAsg_eq, sAsgT, sSet, sRet, sDrop, sRaise, sCallX, sNext, sBreak, sCont, sPar, sPar3, notBr_eq, dTest, dTruthy, toL, toV, ofV, dOp, dUn, dUnE, dC, dLate, dVar, LV.get, slotD, DV.dat, dTup, dLst, aNil, aCons, lNil, lCons, getAll, dCB, dCall, dCallB, dAnd, dOr, dNot, dOfT, dIf, dChain, dMut, isLs, lentOf, tgName_eq, tgNil, tgCons, tgTup, dIter, itemsD, dYes, LIM, dv, ma]; rfl) ?_
        refine ⟨acc ++ [(p, k, M)], s + k, some (.fz (.int p)), some (.fz (.int (k : Nat))), by rw [Int.natCast_add, List.map_append]; rfl, b2, rfl, by rw [List.length_append, List.length_singleton]; omega, bn, fun rest hr => ?_, rfl, rfl⟩
        rw [List.append_assoc]
        exact hC _ ⟨⟨b1, b2, b3, b4⟩, hM.symm, hr⟩
      · refine ⟨false, _, by simp [fnOf, DL.start, sSeq, sIf, sAsg_eq, sAsgT, sSet, sRet, sDrop, sRaise, sCallX, sNext, sBreak, sCont, sPar, sPar3, notBr_eq, dTest, dTruthy, toL, toV, ofV, dOp, dUn, dUnE, dC, dLate, dVar, LV.get, slotD, DV.dat, dTup, dLst, aNil, aCons, lNil, lCons, getAll, dCB, dCall, dCallB, dAnd, dOr, dNot, dOfT, dIf, dChain, dMut, isLs, lentOf, tgName_eq, tgNil, tgCons, tgTup, dIter, itemsD, dYes, LIM, hlt]; rfl, fun _ => ?_, fun h => by cases h⟩
        have es : s = ps.length := by omega
        subst es
        have := hC [] rfl
        rw [List.append_nil] at this
        exact ⟨acc, x4, x5, rfl, this⟩
    · subst e
      refine .one (by simp [b_price_classes_3, DL.start, fnOf, DL.start, sSeq, sIf, sAsg_eq, sAsgT, sSet, sRet, sDrop, sRaise, sCallX, sNext, sBreak, sCont, sPar, sPar3, notBr_eq, dTest, dTruthy, toL, toV, ofV, dOp, dUn, dUnE, dC, dLate, dVar, LV.get, slotD, DV.dat, dTup, dLst, aNil, aCons, lNil, lCons, getAll, dCB, dCall, dCallB, dAnd, dOr, dNot, dOfT, dIf, dChain, dMut, isLs, lentOf, tgName_eq, tgNil, tgCons, tgTup, dIter, itemsD, dYes, LIM] <;> first | rfl | exact ⟨rfl, rfl⟩) ?_
      exact ⟨L, hL, rfl, rfl⟩)
  subst e1 e2
  exact ⟨L, hL, e⟩
/-! ### the counts -/
def gl (f : Nat → Nat) (m t q : Nat) : Nat := if t ≤ q then f t * ch m (q - t) else 0
def lat (f : Nat → Nat) (m M s q : Nat) : Nat := if q ≤ M then tot (fun t => gl f m t q) s else 0
def lat2 (f : Nat → Nat) (m M s j q : Nat) : Nat := lat f m M s q + (if s ≤ q ∧ q - s < j then f s * ch m (q - s) else 0)
theorem lat2_zero (f : Nat → Nat) (m M s : Nat) : lat2 f m M s 0 = lat f m M s := by
  funext q
  unfold lat2
  rw [if_neg (by omega)]
  rfl
theorem lat2_succ (f : Nat → Nat) (m M s j : Nat) : (fun q => if q = s + j then lat2 f m M s j (s + j) + f s * ch m j else lat2 f m M s j q) = lat2 f m M s (j + 1) := by
  funext q
  by_cases h : q = s + j
  · subst h
    rw [if_pos rfl]
    unfold lat2
    rw [if_neg (by omega), if_pos (by omega), show s + j - s = j by omega]
    rfl
  · rw [if_neg h]
    unfold lat2
    congr 1
    by_cases c : s ≤ q ∧ q - s < j
    · rw [if_pos c, if_pos (by omega)]
    · rw [if_neg c, if_neg (by omega)]
theorem lat2_full {f : Nat → Nat} {m M s J : Nat} (hJ : J = if s ≤ M then min m (M - s) + 1 else 0) : lat2 f m M s J = lat f m M (s + 1) := by
  funext q
  unfold lat2 lat
  by_cases hq : q ≤ M
  · rw [if_pos hq, if_pos hq, tot]
    congr 1
    unfold gl
    by_cases hs : s ≤ q
    · rw [if_pos hs]
      rw [if_pos (by omega)] at hJ
      by_cases hj : q - s < J
      · rw [if_pos ⟨hs, hj⟩]
      · rw [if_neg (fun c => hj c.2), ch_over (by omega), Nat.mul_zero]
    · rw [if_neg hs, if_neg (fun c => hs c.1)]
  · rw [if_neg hq, if_neg hq, if_neg]
    split at hJ <;> omega
theorem lat_full {f : Nat → Nat} {m M K q : Nat} (hq : q ≤ K) : lat f m M (K + 1) q = if q ≤ M then U f m q else 0 := by
  unfold lat
  by_cases h : q ≤ M
  · rw [if_pos h, if_pos h, tot_ext (n := q + 1) (by omega) (fun t h1 h2 => by unfold gl; rw [if_neg (by omega)]), U_sum, tot_rev]
    refine tot_congr fun k hk => ?_
    unfold gl
    rw [if_pos (by omega), Nat.mul_comm, show q - (q - k) = k by omega]
  · rw [if_neg h, if_neg h]
theorem lat_class {o : Nat} (ho : 1 ≤ o) {ps : List Int} {e K : Nat} {p : Int} {m M : Nat} (hb : 1 ≤ m ∧ e + m ≤ ps.length ∧ (∀ j, e ≤ j → j < e + m → ps[j]? = some p) ∧ (e + m = ps.length ∨ ps[e + m]? ≠ some p)) (hM : M = (e + m) / o) {q : Nat} (hq : q ≤ K) :
    lat (tab o ps e) m M (K + 1) q = tab o ps (e + m) q := by
  obtain ⟨b1, b2, b3, b4⟩ := hb
  rw [lat_full hq, tab_class b1 (fun j h1 h2 => ?_) ?_, hM]
  · by_cases c : e + m < q * o
    · rw [if_pos c, if_neg (by rw [Nat.le_div_iff_mul_le (by omega)]; omega)]
    · rw [if_neg c, if_pos (by rw [Nat.le_div_iff_mul_le (by omega)]; omega)]
  · unfold isEnd
    rcases b4 with z | z
    · simp [z]
    · rw [b3 (e + m - 1) (by omega) (by omega)]
      simp [z]
  · unfold isEnd
    rw [b3 j (by omega) h2, b3 (j - 1) (by omega) (by omega)]
    have : ¬ j = ps.length := by omega
    simp [this]
theorem src_enum {i : Nat} {v : DV} {δ : Sl} {h : Nat → Nat} {n : Nat} (e : δ[i]? = some (some v)) (hv : v = .mt (nts h n) ∨ v = .fz (.list (nts h n))) : dEnum (aCons (dVar i) aNil) δ = some ((List.range n).map fun s => pairD (.int (s : Nat)) (.int ((h s : Nat) : Int)), δ.set i (some (.fz (.list (nts h n))))) := by
  rw [← enum_nts]
  rcases hv with rfl | rfl
  · simp only [dEnum, aCons, aNil, dVar, e]
  · have : δ.set i (some (.fz (.list (nts h n)))) = δ := by
      refine List.ext_getElem? fun k => ?_
      rw [List.getElem?_set]
      split
      · rename_i hk
        subst hk
        obtain ⟨h1, h2⟩ := List.getElem?_eq_some_iff.mp e
        rw [if_pos h1, e]
      · rfl
    rw [this]
    simp only [dEnum, aCons, aNil, dVar, e]
theorem augIx_nts {i : Nat} {e v : EV} {δ : Sl} {h : Nat → Nat} {n k y : Nat} {zk zy : Int} (hδ : δ[i]? = some (some (.mt (nts h n)))) (he : e δ = some (.int zk, δ)) (hv : v δ = some (.int zy, δ)) (ek : zk = (k : Nat)) (ey : zy = (y : Nat)) (hk : k < n) : sAugIx i e v δ = some (.nx (δ.set i (some (.mt (nts (fun s => if s = k then h k + y else h s) n))))) := by
  subst ek ey
  have h1 : isLs δ i = true := by simp only [isLs, hδ]
  have h2 : slotD δ i = some (.list (nts h n)) := by simp only [slotD, hδ]; rfl
  have h3 : atD (nts h n) ((k : Nat) : Int) = some (.int ((h k : Nat) : Int)) := by rw [atD_nat, nts_get hk]
  have h4 : (0 : Int) ≤ ((k : Nat) : Int) ∧ ((k : Nat) : Int) < ((nts h n).length : Int) := by rw [nts_len]; omega
  unfold sAugIx
  simp only [h1, he, h2, h3, hv, hδ, h4, Int.toNat_natCast]
  rw [← Int.natCast_add, nts_set]
  simp
theorem aug_binom (Φ : Fn) {x0 x1 x2 x3 x5 x6 x7 : Option DV} {a b c m j : Int} (hΦ : Φ [.fz (.int m), .fz (.int j)] = some (.ret (.fz (.int b)) [])) (hm : gMul (.int a) (.int b) = some (.fz (.int c))) :
    toV (dOp gMul (dLate 8) (toL (toV (dCall Φ (aCons (dVar 4) (aCons (dVar 9) aNil)))))) [x0, x1, x2, x3, some (.fz (.int m)), x5, x6, x7, some (.fz (.int a)), some (.fz (.int j))] = some (.int c, [x0, x1, x2, x3, some (.fz (.int m)), x5, x6, x7, some (.fz (.int a)), some (.fz (.int j))]) := by
  simp [fnOf, DL.start, sSeq, sIf, sAsg_eq, sAsgT, sSet, sRet, sDrop, sRaise, sCallX, sNext, sBreak, sCont, sPar, sPar3, notBr_eq, dTest, dTruthy, toL, toV, ofV, dOp, dUn, dUnE, dC, dLate, dVar, LV.get, slotD, DV.dat, dTup, dLst, aNil, aCons, lNil, lCons, getAll, dCB, dCall, dCallB, dAnd, dOr, dNot, dOfT, dIf, dChain, dMut, isLs, lentOf, tgName_eq, tgNil, tgCons, tgTup, dIter, itemsD, dYes, LIM, hΦ, hm]
theorem aug_place {x0 x1 x2 x3 x4 x5 x6 x8 : Option DV} {s j : Int} :
    toV (dOp gAdd (dLate 7) (dLate 9)) [x0, x1, x2, x3, x4, x5, x6, some (.fz (.int s)), x8, some (.fz (.int j))] = some (.int (s + j), [x0, x1, x2, x3, x4, x5, x6, some (.fz (.int s)), x8, some (.fz (.int j))]) := by
  simp [fnOf, DL.start, sSeq, sIf, sAsg_eq, sAsgT, sSet, sRet, sDrop, sRaise, sCallX, sNext, sBreak, sCont, sPar, sPar3, notBr_eq, dTest, dTruthy, toL, toV, ofV, dOp, dUn, dUnE, dC, dLate, dVar, LV.get, slotD, DV.dat, dTup, dLst, aNil, aCons, lNil, lCons, getAll, dCB, dCall, dCallB, dAnd, dOr, dNot, dOfT, dIf, dChain, dMut, isLs, lentOf, tgName_eq, tgNil, tgCons, tgTup, dIter, itemsD, dYes, LIM]
theorem counts_src {x0 x1 x2 x3 x6 x8 x9 : Option DV} {m M s z : Int} {J : Nat} (hz : (if M - s < m then M - s else m) + 1 = z) (h1 : -two62 ≤ z ∧ z < two62) (hJ : z.toNat = J) :
    dRange1 (lCons (toL (toV (dOp gAdd (toL (toV (dCB gMin (lCons (dLate 4) (lCons (toL (toV (dOp gSubI (dLate 5) (dLate 7)))) lNil))))) (toL (dC (.int 1)))))) lNil) [x0, x1, x2, x3, some (.fz (.int m)), some (.fz (.int M)), x6, some (.fz (.int s)), x8, x9] = some (intz (upto J), [x0, x1, x2, x3, some (.fz (.int m)), some (.fz (.int M)), x6, some (.fz (.int s)), x8, x9]) := by
  have g : gMin [.int m, .int (M - s)] = some (.fz (.int (if M - s < m then M - s else m))) := rfl
  simp [fnOf, DL.start, sSeq, sIf, sAsg_eq, sAsgT, sSet, sRet, sDrop, sRaise, sCallX, sNext, sBreak, sCont, sPar, sPar3, notBr_eq, dTest, dTruthy, toL, toV, ofV, dOp, dUn, dUnE, dC, dLate, dVar, LV.get, slotD, DV.dat, dTup, dLst, aNil, aCons, lNil, lCons, getAll, dCB, dCall, dCallB, dAnd, dOr, dNot, dOfT, dIf, dChain, dMut, isLs, lentOf, tgName_eq, tgNil, tgCons, tgTup, dIter, itemsD, dYes, LIM, g, dRange1]
  rw [hz]
  simp [h1, hJ, rangeD_upto]
theorem src_call2 (Φ : Fn) {a b : D} {ds : List D} {rest : Sl} (h : Φ [.fz a, .fz b] = some (.ret (.fz (.list ds)) [])) : dIter (toV (dCall Φ (aCons (dVar 0) (aCons (dVar 1) aNil)))) (some (.fz a) :: some (.fz b) :: rest) = some (ds, some (.fz a) :: some (.fz b) :: rest) := by
  simp [fnOf, DL.start, sSeq, sIf, sAsg_eq, sAsgT, sSet, sRet, sDrop, sRaise, sCallX, sNext, sBreak, sCont, sPar, sPar3, notBr_eq, dTest, dTruthy, toL, toV, ofV, dOp, dUn, dUnE, dC, dLate, dVar, LV.get, slotD, DV.dat, dTup, dLst, aNil, aCons, lNil, lCons, getAll, dCB, dCall, dCallB, dAnd, dOr, dNot, dOfT, dIf, dChain, dMut, isLs, lentOf, tgName_eq, tgNil, tgCons, tgTup, dIter, itemsD, dYes, LIM, h]
theorem mul_zeros {z : Int} {k : Nat} (h : z = (k : Nat)) (hk : k ≤ 1000) : gMul (.list [.int 0]) (.int z) = some (.mt (nts (fun _ => 0) k)) := by
  rw [← zeros, ← h]
  have h2 : z.toNat ≤ LIM := by unfold LIM; omega
  have h3 : -1000000 ≤ z ∧ z ≤ 1000000 := by omega
  simp [gMul, orG, gMulI, gI, gMulL, h2, h3]
theorem one_add {k : Nat} (hk : k ≤ 1000) : gAdd (.list [.int 1]) (.list (nts (fun _ => 0) k)) = some (.mt (nts (fun s => if s = 0 then 1 else 0) (k + 1))) := by
  rw [← one_zeros]
  have := nts_len (fun _ => 0) k
  generalize nts (fun _ => 0) k = l at *
  have : 1 + l.length ≤ LIM := by unfold LIM; omega
  simp [gAdd, orG, gAddI, gI, gAddT, gAddL, this]
theorem counts_later {x0 x1 x3 x4 x5 x6 x7 x8 x9 : Option DV} {v : DV} {l r : List D} {z : Int} (hv : v = .mt l ∨ v = .fz (.list l)) (hl : (l.length : Int) = z) (g3 : gMul (.list [.int 0]) (.int z) = some (.mt r)) (h6 : nb x6 = true) :
    b_counts_2b_1 [x0, x1, some v, x3, x4, x5, x6, x7, x8, x9] = some (.nx [x0, x1, some v, x3, x4, x5, some (.mt r), x7, x8, x9]) := by
  rcases hv with rfl | rfl <;> simp [b_counts_2b_1, fnOf, DL.start, sSeq, sIf, sAsg_eq, sAsgT, sSet, sRet, sDrop, sRaise, sCallX, sNext, sBreak, sCont, sPar, sPar3, notBr_eq, dTest, dTruthy, toL, toV, ofV, dOp, dUn, dUnE, dC, dLate, dVar, LV.get, slotD, DV.dat, dTup, dLst, aNil, aCons, lNil, lCons, getAll, dCB, dCall, dCallB, dAnd, dOr, dNot, dOfT, dIf, dChain, dMut, isLs, lentOf, tgName_eq, tgNil, tgCons, tgTup, dIter, itemsD, dYes, LIM, hl, g3, h6]
theorem counts_spec {o : Nat} (h1 : 1 ≤ o) (h2 : o ≤ 9) {ps : List Int} (hd : ps.Pairwise (· ≥ ·)) (hp : ∀ p ∈ ps, 1 ≤ p) (hl : ps.length ≤ 30) :
    F_counts [.fz (.int (o : Nat)), .fz (ti ps)] = some (.ret (.fz (.list (nts (nSet o ps) (ps.length / o + 1)))) []) := by
  obtain ⟨L, hL, eL⟩ := price_classes_spec h1 h2 hd hp hl
  have hK : ps.length / o ≤ ps.length := Nat.div_le_self _ _
  have hdiv : gDivI (.int ps.length) (.int (o : Nat)) = some (.fz (.int ((ps.length / o : Nat) : Int))) := by
    rw [gDivI_int (by omega) (by omega), Int.natCast_ediv]
  have hNS : nts (tab o ps ps.length) (ps.length / o + 1) = nts (nSet o ps) (ps.length / o + 1) := nts_congr fun s _ => tab_nSet h1 hd hp s
  have mono : ∀ k, k ≤ ps.length → k / o ≤ ps.length / o := fun k hk => Nat.div_le_div_right hk
  generalize hKe : ps.length / o = K at *
  generalize ezo : ((o : Nat) : Int) = zo at *
  have g1 : ∀ z : Int, z = (K : Nat) → gMul (.list [.int 0]) (.int z) = some (.mt (nts (fun _ => 0) K)) := fun z e => mul_zeros e (by omega)
  have g3 : ∀ z : Int, z = (K + 1 : Nat) → gMul (.list [.int 0]) (.int z) = some (.mt (nts (fun _ => 0) (K + 1))) := fun z e => mul_zeros e (by omega)
  have g2 : gAdd (.list [.int 1]) (.list (nts (fun _ => 0) K)) = some (.mt (nts (tab o ps 0) (K + 1))) := one_add (by omega)
  generalize ez1 : ((K + 1 : Nat) : Int) = z1 at *
  generalize ezK : ((K : Nat) : Int) = zK at *
  have g1 := g1 zK rfl
  have g3 := g3 z1 rfl
  refine fn_gives ?_
  refine .seq (a := b_counts_1) (δ1 := [some (.fz (.int zo)), some (.fz (ti ps)), some (.mt (nts (tab o ps 0) (K + 1))), none, none, none, none, none, none, none]) (by simp [b_counts_1, DL.start, fnOf, DL.start, sSeq, sIf, sAsg_eq, sAsgT, sSet, sRet, sDrop, sRaise, sCallX, sNext, sBreak, sCont, sPar, sPar3, notBr_eq, dTest, dTruthy, toL, toV, ofV, dOp, dUn, dUnE, dC, dLate, dVar, LV.get, slotD, DV.dat, dTup, dLst, aNil, aCons, lNil, lCons, getAll, dCB, dCall, dCallB, dAnd, dOr, dNot, dOfT, dIf, dChain, dMut, isLs, lentOf, tgName_eq, tgNil, tgCons, tgTup, dIter, itemsD, dYes, LIM, hdiv, g1, g2]) ?_
  refine .sq (P := fun δ => ∃ v x3 x4 x5 x6 x7 x8 x9, δ = [some (.fz (.int zo)), some (.fz (ti ps)), some v, x3, x4, x5, x6, x7, x8, x9] ∧ (v = .mt (nts (tab o ps ps.length) (K + 1)) ∨ v = .fz (.list (nts (tab o ps ps.length) (K + 1)))))
    (Go.forL (δ1 := [some (.fz (.int zo)), some (.fz (ti ps)), some (.mt (nts (tab o ps 0) (K + 1))), none, none, none, none, none, none, none]) L clD (fun pre δ => ∃ e v x3 x4 x5 x6 x7 x8 x9, δ = [some (.fz (.int zo)), some (.fz (ti ps)), some v, x3, x4, x5, x6, x7, x8, x9] ∧ (v = .mt (nts (tab o ps e) (K + 1)) ∨ v = .fz (.list (nts (tab o ps e) (K + 1)))) ∧ (∀ post, L = pre ++ post → Cls o ps e post) ∧ nb x3 = true ∧ nb x4 = true ∧ nb x5 = true ∧ nb x6 = true ∧ nb x7 = true ∧ nb x8 = true ∧ nb x9 = true)
      (src_call2 F_price_classes eL) ⟨0, _, none, none, none, none, none, none, none, rfl, .inl rfl, fun post e => by rw [← show L = post from e]; exact hL, rfl, rfl, rfl, rfl, rfl, rfl, rfl⟩ (fun pre c post δ eL' ⟨e, v, x3, x4, x5, x6, x7, x8, x9, eδ, hv, hC, h3, h4, h5, h6, h7, h8, h9⟩ => ?_) fun δ ⟨e, v, x3, x4, x5, x6, x7, x8, x9, eδ, hv, hC, _⟩ => ?_) fun δ ⟨v, x3, x4, x5, x6, x7, x8, x9, eδ, hv⟩ => ?_
  · subst eδ
    obtain ⟨p, m, M⟩ := c
    obtain ⟨cb, cM, cr⟩ := hC _ eL'
    simp only at cb cM cr
    have cls : ∀ q, q ≤ K → lat (tab o ps e) m M (K + 1) q = tab o ps (e + m) q := fun q hq => lat_class h1 cb cM hq
    have mle : m ≤ 30 := by omega
    have MK : M ≤ K := by rw [cM]; exact mono _ cb.2.1
    generalize ezm : ((m : Nat) : Int) = zm at *
    generalize ezM : ((M : Nat) : Int) = zM at *
    have ec : clD (p, m, M) = .tuple [.int p, .int zm, .int zM] := by rw [← ezm, ← ezM]; rfl
    rw [ec]
    refine ⟨[some (.fz (.int zo)), some (.fz (ti ps)), some v, some (.fz (.int p)), some (.fz (.int zm)), some (.fz (.int zM)), x6, x7, x8, x9], by simp [tgTup, tgCons, tgNil, tgName_eq, itemsD, h3, h4, h5], ?_⟩
    refine .seq (a := b_counts_2b_1) (δ1 := [some (.fz (.int zo)), some (.fz (ti ps)), some v, some (.fz (.int p)), some (.fz (.int zm)), some (.fz (.int zM)), some (.mt (nts (fun _ => 0) (K + 1))), x7, x8, x9]) (counts_later hv (by rw [nts_len, ez1]) g3 h6) ?_
    refine .sq (P := fun δ => ∃ x7 x8 x9, δ = [some (.fz (.int zo)), some (.fz (ti ps)), some (.fz (.list (nts (tab o ps e) (K + 1)))), some (.fz (.int p)), some (.fz (.int zm)), some (.fz (.int zM)), some (.mt (nts (lat (tab o ps e) m M (K + 1)) (K + 1))), x7, x8, x9] ∧ nb x7 = true ∧ nb x8 = true ∧ nb x9 = true)
      (Go.forL (List.range (K + 1)) (fun s => pairD (.int (s : Nat)) (.int ((tab o ps e s : Nat) : Int))) (fun pre δ => ∃ x7 x8 x9, δ = [some (.fz (.int zo)), some (.fz (ti ps)), some (.fz (.list (nts (tab o ps e) (K + 1)))), some (.fz (.int p)), some (.fz (.int zm)), some (.fz (.int zM)), some (.mt (nts (lat (tab o ps e) m M pre.length) (K + 1))), x7, x8, x9] ∧ nb x7 = true ∧ nb x8 = true ∧ nb x9 = true)
        (src_enum rfl hv) ⟨x7, x8, x9, ?_, h7, h8, h9⟩ (fun pre' s post' δ es ⟨x7, x8, x9, e', h7, h8, h9⟩ => ?_) fun δ h => ?_) fun δ ⟨x7, x8, x9, e', h7, h8, h9⟩ => ?_
    · have : (fun _ => 0 : Nat → Nat) = lat (tab o ps e) m M ([] : List Nat).length := by
        funext q
        unfold lat
        split <;> rfl
      rw [← this]
      rfl
    · subst e'
      obtain ⟨rs, ls⟩ := range_at es
      have el : (pre' ++ [s]).length = s + 1 := by simp [rs]
      rw [el, ← rs]
      generalize ezs : ((s : Nat) : Int) = zs at *
      generalize ezw : ((tab o ps e s : Nat) : Int) = zw at *
      refine ⟨[some (.fz (.int zo)), some (.fz (ti ps)), some (.fz (.list (nts (tab o ps e) (K + 1)))), some (.fz (.int p)), some (.fz (.int zm)), some (.fz (.int zM)), some (.mt (nts (lat (tab o ps e) m M s) (K + 1))), some (.fz (.int zs)), some (.fz (.int zw)), x9], by simp [tgTup, tgCons, tgNil, tgName_eq, itemsD, pairD, h7, h8], ?_⟩
      obtain ⟨z, ez⟩ : ∃ z, (if zM - zs < zm then zM - zs else zm) + 1 = z := ⟨_, rfl⟩
      obtain ⟨J, eJ⟩ : ∃ J, z.toNat = J := ⟨_, rfl⟩
      have zb : -1000 ≤ z ∧ z ≤ 31 := by
        rw [← ez]
        split <;> omega
      have hJ : J = if s ≤ M then min m (M - s) + 1 else 0 := by
        rw [← eJ, ← ez]
        split <;> split <;> omega
      refine Go.forN J (fun j δ => ∃ x9, δ = [some (.fz (.int zo)), some (.fz (ti ps)), some (.fz (.list (nts (tab o ps e) (K + 1)))), some (.fz (.int p)), some (.fz (.int zm)), some (.fz (.int zM)), some (.mt (nts (lat2 (tab o ps e) m M s j) (K + 1))), some (.fz (.int zs)), some (.fz (.int zw)), x9] ∧ nb x9 = true) (counts_src ez (by unfold two62; omega) eJ) ⟨x9, by rw [lat2_zero], h9⟩ (fun j δ hj ⟨x9, e', h9⟩ => ?_) fun δ ⟨x9, e', h9⟩ => ?_
      · subst e'
        have hj2 : j ≤ m ∧ s + j ≤ M := by
          split at hJ <;> omega
        have hb := binomial_spec (n := m) (k := j) (by omega) hj2.1
        rw [ezm] at hb
        have hcl := ch_le m j
        have hpw : 2 ^ m ≤ 2 ^ 30 := Nat.pow_le_pow_right (by decide) mle
        generalize ezj : ((j : Nat) : Int) = zj at *
        generalize ech : ch m j = cc at *
        refine ⟨_, by simp only [tgName_eq, List.getElem?_cons_succ, List.getElem?_cons_zero, if_true, List.set_cons_succ, List.set_cons_zero, Int.zero_add, h9]; rfl, ?_⟩
        have gm : gMul (.int zw) (.int ((cc : Nat) : Int)) = some (.fz (.int (zw * (cc : Nat)))) := gMul_int (okMul_r (by unfold p64; omega) (by unfold p64; omega))
        have st := augIx_nts (i := 6) (e := toV (dOp gAdd (dLate 7) (dLate 9))) (v := toV (dOp gMul (dLate 8) (toL (toV (dCall F_binomial (aCons (dVar 4) (aCons (dVar 9) aNil)))))))
          (δ := [some (.fz (.int zo)), some (.fz (ti ps)), some (.fz (.list (nts (tab o ps e) (K + 1)))), some (.fz (.int p)), some (.fz (.int zm)), some (.fz (.int zM)), some (.mt (nts (lat2 (tab o ps e) m M s j) (K + 1))), some (.fz (.int zs)), some (.fz (.int zw)), some (.fz (.int zj))])
          (n := K + 1) (k := s + j) (y := tab o ps e s * cc) rfl aug_place (aug_binom F_binomial hb gm) (by omega) (by rw [← ezw, Int.natCast_mul]) (by omega)
        refine .one (a := b_counts_2b_2b_1b) st ⟨some (.fz (.int zj)), ?_, rfl⟩
        have := lat2_succ (tab o ps e) m M s j
        rw [ech] at this
        rw [← this]
        rfl
      · exact ⟨_, _, x9, by rw [e', lat2_full hJ], rfl, rfl, h9⟩
    · rw [List.length_range] at h
      exact h
    · subst e'
      have en : nts (lat (tab o ps e) m M (K + 1)) (K + 1) = nts (tab o ps (e + m)) (K + 1) := nts_congr fun q hq => cls q (by omega)
      rw [en]
      refine .one (a := b_counts_2b_3) (by simp [b_counts_2b_3, fnOf, DL.start, sSeq, sIf, sAsg_eq, sAsgT, sSet, sRet, sDrop, sRaise, sCallX, sNext, sBreak, sCont, sPar, sPar3, notBr_eq, dTest, dTruthy, toL, toV, ofV, dOp, dUn, dUnE, dC, dLate, dVar, LV.get, slotD, DV.dat, dTup, dLst, aNil, aCons, lNil, lCons, getAll, dCB, dCall, dCallB, dAnd, dOr, dNot, dOfT, dIf, dChain, dMut, isLs, lentOf, tgName_eq, tgNil, tgCons, tgTup, dIter, itemsD, dYes, LIM] <;> rfl) ⟨e + m, .fz (.list (nts (tab o ps (e + m)) (K + 1))), some (.fz (.int p)), some (.fz (.int zm)), some (.fz (.int zM)), some (.fz (.list (nts (tab o ps (e + m)) (K + 1)))), x7, x8, x9, rfl, .inr rfl, fun post' e2 => ?_, rfl, rfl, rfl, rfl, h7, h8, h9⟩
      have : post' = post := by
        rw [eL', List.append_assoc] at e2
        have := List.append_cancel_left e2
        simp at this
        exact this.symm
      rw [this]
      exact cr
  · have := hC [] (by simp)
    have : e = ps.length := this
    subst this
    exact ⟨v, x3, x4, x5, x6, x7, x8, x9, eδ, hv⟩
  · subst eδ
    rw [hNS] at hv
    rcases hv with rfl | rfl
    · exact .one (by simp [b_counts_3, DL.start, fnOf, DL.start, sSeq, sIf, sAsg_eq, sAsgT, sSet, sRet, sDrop, sRaise, sCallX, sNext, sBreak, sCont, sPar, sPar3, notBr_eq, dTest, dTruthy, toL, toV, ofV, dOp, dUn, dUnE, dC, dLate, dVar, LV.get, slotD, DV.dat, dTup, dLst, aNil, aCons, lNil, lCons, getAll, dCB, dCall, dCallB, dAnd, dOr, dNot, dOfT, dIf, dChain, dMut, isLs, lentOf, tgName_eq, tgNil, tgCons, tgTup, dIter, itemsD, dYes, LIM] <;> first | rfl | exact ⟨rfl, rfl⟩) (by exact ⟨rfl, rfl⟩)
    · exact .one (by simp [b_counts_3, DL.start, fnOf, DL.start, sSeq, sIf, sAsg_eq, sAsgT, sSet, sRet, sDrop, sRaise, sCallX, sNext, sBreak, sCont, sPar, sPar3, notBr_eq, dTest, dTruthy, toL, toV, ofV, dOp, dUn, dUnE, dC, dLate, dVar, LV.get, slotD, DV.dat, dTup, dLst, aNil, aCons, lNil, lCons, getAll, dCB, dCall, dCallB, dAnd, dOr, dNot, dOfT, dIf, dChain, dMut, isLs, lentOf, tgName_eq, tgNil, tgCons, tgTup, dIter, itemsD, dYes, LIM] <;> first | rfl | exact ⟨rfl, rfl⟩) (by exact ⟨rfl, rfl⟩)
end FT
set_option Elab.async false
set_option linter.all false
/-! Counts of all and of full sets, items that can be free, shares. -/
namespace FT
open PySem DL
theorem sum_call (Φ : Fn) {a b : D} {ns : List Int} {l : List D} (h : Φ [.fz a, .fz b] = some (.ret (.fz (li ns)) l)) : sRet (dCB gSum (lCons (toL (toV (dCall Φ (aCons (dVar 0) (aCons (dVar 1) aNil))))) lNil)) [some (.fz a), some (.fz b)] = some (.rt (.fz (.int ns.sum)) [some (.fz a), some (.fz b)]) := by
  simp [fnOf, DL.start, sSeq, sIf, sAsg_eq, sAsgT, sSet, sRet, sDrop, sRaise, sCallX, sNext, sBreak, sCont, sPar, sPar3, notBr_eq, dTest, dTruthy, toL, toV, ofV, dOp, dUn, dUnE, dC, dLate, dVar, LV.get, slotD, DV.dat, dTup, dLst, aNil, aCons, lNil, lCons, getAll, dCB, dCall, dCallB, dAnd, dOr, dNot, dOfT, dIf, dChain, dMut, isLs, lentOf, tgName_eq, tgNil, tgCons, tgTup, dIter, itemsD, dYes, LIM, h]
theorem last_call (Φ : Fn) {a b d r : D} {l : List D} (h : Φ [.fz a, .fz b] = some (.ret (.fz d) l)) (hi : gIx d (.int (-1)) = some (.fz r)) : sRet (dOp gIx (toL (toV (dCall Φ (aCons (dVar 0) (aCons (dVar 1) aNil))))) (toL (dUn gNeg (toL (dC (.int 1)))))) [some (.fz a), some (.fz b)] = some (.rt (.fz r) [some (.fz a), some (.fz b)]) := by
  simp [fnOf, DL.start, sSeq, sIf, sAsg_eq, sAsgT, sSet, sRet, sDrop, sRaise, sCallX, sNext, sBreak, sCont, sPar, sPar3, notBr_eq, dTest, dTruthy, toL, toV, ofV, dOp, dUn, dUnE, dC, dLate, dVar, LV.get, slotD, DV.dat, dTup, dLst, aNil, aCons, lNil, lCons, getAll, dCB, dCall, dCallB, dAnd, dOr, dNot, dOfT, dIf, dChain, dMut, isLs, lentOf, tgName_eq, tgNil, tgCons, tgTup, dIter, itemsD, dYes, LIM, h, gNeg, hi]
theorem count_sets_spec {o : Nat} (h1 : 2 ≤ o) (h2 : o ≤ 9) {ps : List Int} (h : Bk 1000000 ps) (hl : ps.length ≤ 30) : F_count_sets [.fz (.int (o : Nat)), .fz (ti ps)] = some (.ret (.fz (.int ((nAll o ps : Nat) : Int))) []) := by
  have a1 := require_offer_ok (o := (o : Int)) (by omega) (by omega)
  have a2 := require_basket_ok h hl
  have a3 := counts_spec (show 1 ≤ o by omega) h2 h.dec (fun p hp => (h.rng p hp).1) hl
  rw [nts_ints] at a3
  have e : ((nAll o ps : Nat) : Int) = ((List.range (ps.length / o + 1)).map fun s => ((nSet o ps s : Nat) : Int)).sum := by
    rw [sum_nts, tot_nSet h.pos]
  rw [e]
  generalize (List.range (ps.length / o + 1)).map (fun s => ((nSet o ps s : Nat) : Int)) = ns at *
  generalize (o : Int) = z at *
  refine fn_gives ?_
  refine .seq (by simp [b_count_sets_1, DL.start, fnOf, DL.start, sSeq, sIf, sAsg_eq, sAsgT, sSet, sRet, sDrop, sRaise, sCallX, sNext, sBreak, sCont, sPar, sPar3, notBr_eq, dTest, dTruthy, toL, toV, ofV, dOp, dUn, dUnE, dC, dLate, dVar, LV.get, slotD, DV.dat, dTup, dLst, aNil, aCons, lNil, lCons, getAll, dCB, dCall, dCallB, dAnd, dOr, dNot, dOfT, dIf, dChain, dMut, isLs, lentOf, tgName_eq, tgNil, tgCons, tgTup, dIter, itemsD, dYes, LIM, a1] <;> rfl) ?_
  refine .seq (by simp [b_count_sets_2, DL.start, fnOf, DL.start, sSeq, sIf, sAsg_eq, sAsgT, sSet, sRet, sDrop, sRaise, sCallX, sNext, sBreak, sCont, sPar, sPar3, notBr_eq, dTest, dTruthy, toL, toV, ofV, dOp, dUn, dUnE, dC, dLate, dVar, LV.get, slotD, DV.dat, dTup, dLst, aNil, aCons, lNil, lCons, getAll, dCB, dCall, dCallB, dAnd, dOr, dNot, dOfT, dIf, dChain, dMut, isLs, lentOf, tgName_eq, tgNil, tgCons, tgTup, dIter, itemsD, dYes, LIM, a2] <;> rfl) ?_
  exact .one (sum_call F_counts a3) ⟨rfl, rfl⟩
theorem count_full_spec {o : Nat} (h1 : 2 ≤ o) (h2 : o ≤ 9) {ps : List Int} (h : Bk 1000000 ps) (hl : ps.length ≤ 30) : F_count_full [.fz (.int (o : Nat)), .fz (ti ps)] = some (.ret (.fz (.int ((nSet o ps (ps.length / o) : Nat) : Int))) []) := by
  have a1 := require_offer_ok (o := (o : Int)) (by omega) (by omega)
  have a2 := require_basket_ok h hl
  have a3 := counts_spec (show 1 ≤ o by omega) h2 h.dec (fun p hp => (h.rng p hp).1) hl
  have hi : gIx (.list (nts (nSet o ps) (ps.length / o + 1))) (.int (-1)) = some (.fz (.int ((nSet o ps (ps.length / o) : Nat) : Int))) := by
    generalize ps.length / o = K at *
    have hlen := nts_len (nSet o ps) (K + 1)
    have hget := nts_get (h := nSet o ps) (n := K + 1) (s := K) (by omega)
    generalize nts (nSet o ps) (K + 1) = l at *
    have e : (-1 + (l.length : Int)).toNat = K := by omega
    have e2 : -(l.length : Int) ≤ -1 := by omega
    simp [gIx, atD, e, e2, hget]
  generalize (o : Int) = z at *
  generalize ((nSet o ps (ps.length / o) : Nat) : Int) = r at *
  generalize nts (nSet o ps) (ps.length / o + 1) = l at *
  refine fn_gives ?_
  refine .seq (by simp [b_count_full_1, DL.start, fnOf, DL.start, sSeq, sIf, sAsg_eq, sAsgT, sSet, sRet, sDrop, sRaise, sCallX, sNext, sBreak, sCont, sPar, sPar3, notBr_eq, dTest, dTruthy, toL, toV, ofV, dOp, dUn, dUnE, dC, dLate, dVar, LV.get, slotD, DV.dat, dTup, dLst, aNil, aCons, lNil, lCons, getAll, dCB, dCall, dCallB, dAnd, dOr, dNot, dOfT, dIf, dChain, dMut, isLs, lentOf, tgName_eq, tgNil, tgCons, tgTup, dIter, itemsD, dYes, LIM, a1] <;> rfl) ?_
  refine .seq (by simp [b_count_full_2, DL.start, fnOf, DL.start, sSeq, sIf, sAsg_eq, sAsgT, sSet, sRet, sDrop, sRaise, sCallX, sNext, sBreak, sCont, sPar, sPar3, notBr_eq, dTest, dTruthy, toL, toV, ofV, dOp, dUn, dUnE, dC, dLate, dVar, LV.get, slotD, DV.dat, dTup, dLst, aNil, aCons, lNil, lCons, getAll, dCB, dCall, dCallB, dAnd, dOr, dNot, dOfT, dIf, dChain, dMut, isLs, lentOf, tgName_eq, tgNil, tgCons, tgTup, dIter, itemsD, dYes, LIM, a2] <;> rfl) ?_
  exact .one (last_call F_counts a3 hi) ⟨rfl, rfl⟩
/-! ### items that can be free -/
def freeI (o : Nat) (ps : List Int) : List Int := (upto ps.length).filter fun i => fitsB o ps [i]
theorem can_be_free_spec {o : Nat} (h1 : 2 ≤ o) (h2 : o ≤ 9) {ps : List Int} (h : Bk 1000000 ps) (hl : ps.length ≤ 30) : F_can_be_free [.fz (.int (o : Nat)), .fz (ti ps)] = some (.ret (.mt (intz (freeI o ps))) []) := by
  have a1 := require_offer_ok (o := (o : Int)) (by omega) (by omega)
  have a2 := require_basket_ok h hl
  have a4 : ∀ i ∈ upto ps.length, F_fits [.fz (.int o), .fz (ti ps), .fz (.tuple [.int i])] = some (.ret (.fz (.bool (fitsB o ps [i]))) []) := fun i hi => fits_spec (is := [i]) (by omega) h2 (by omega) (by simp) (fun j hj => by rw [List.mem_singleton.mp hj]; exact mem_upto.mp hi)
  refine fn_gives ?_
  refine .seq (by simp [b_can_be_free_1, DL.start, fnOf, DL.start, sSeq, sIf, sAsg_eq, sAsgT, sSet, sRet, sDrop, sRaise, sCallX, sNext, sBreak, sCont, sPar, sPar3, notBr_eq, dTest, dTruthy, toL, toV, ofV, dOp, dUn, dUnE, dC, dLate, dVar, LV.get, slotD, DV.dat, dTup, dLst, aNil, aCons, lNil, lCons, getAll, dCB, dCall, dCallB, dAnd, dOr, dNot, dOfT, dIf, dChain, dMut, isLs, lentOf, tgName_eq, tgNil, tgCons, tgTup, dIter, itemsD, dYes, LIM, a1] <;> rfl) ?_
  refine .seq (by simp [b_can_be_free_2, DL.start, fnOf, DL.start, sSeq, sIf, sAsg_eq, sAsgT, sSet, sRet, sDrop, sRaise, sCallX, sNext, sBreak, sCont, sPar, sPar3, notBr_eq, dTest, dTruthy, toL, toV, ofV, dOp, dUn, dUnE, dC, dLate, dVar, LV.get, slotD, DV.dat, dTup, dLst, aNil, aCons, lNil, lCons, getAll, dCB, dCall, dCallB, dAnd, dOr, dNot, dOfT, dIf, dChain, dMut, isLs, lentOf, tgName_eq, tgNil, tgCons, tgTup, dIter, itemsD, dYes, LIM, a2] <;> rfl) ?_
  exact .one (sRet_run (dComp_pick PyData.int PyData.int (fun i => fitsB o ps [i]) (upto ps.length) (a := none) (src_lenT rfl (by omega)) rfl rfl (lim_of (by rw [upto_len]; omega)) (fun i hi => by simp [fnOf, DL.start, sSeq, sIf, sAsg_eq, sAsgT, sSet, sRet, sDrop, sRaise, sCallX, sNext, sBreak, sCont, sPar, sPar3, notBr_eq, dTest, dTruthy, toL, toV, ofV, dOp, dUn, dUnE, dC, dLate, dVar, LV.get, slotD, DV.dat, dTup, dLst, aNil, aCons, lNil, lCons, getAll, dCB, dCall, dCallB, dAnd, dOr, dNot, dOfT, dIf, dChain, dMut, isLs, lentOf, tgName_eq, tgNil, tgCons, tgTup, dIter, itemsD, dYes, LIM, a4 i hi]) (fun i hi _ => by simp [fnOf, DL.start, sSeq, sIf, sAsg_eq, sAsgT, sSet, sRet, sDrop, sRaise, sCallX, sNext, sBreak, sCont, sPar, sPar3, notBr_eq, dTest, dTruthy, toL, toV, ofV, dOp, dUn, dUnE, dC, dLate, dVar, LV.get, slotD, DV.dat, dTup, dLst, aNil, aCons, lNil, lCons, getAll, dCB, dCall, dCallB, dAnd, dOr, dNot, dOfT, dIf, dChain, dMut, isLs, lentOf, tgName_eq, tgNil, tgCons, tgTup, dIter, itemsD, dYes, LIM]))) ⟨rfl, rfl⟩
/-! ### shares -/
theorem common_divisor_spec {a b : Nat} (ha : a < 2 ^ 25) (hb : b < 2 ^ 25) : F_common_divisor [.fz (.int (a : Nat)), .fz (.int (b : Nat))] = some (.ret (.fz (.int ((Nat.gcd a b : Nat) : Int))) []) := by
  have hP : ∀ x y : Nat, x < 2 ^ 25 → y < 2 ^ 25 → x * y < 2 ^ 50 := fun x y hx hy => by
    have : x * y < 2 ^ 25 * 2 ^ 25 := Nat.mul_lt_mul'' hx hy
    exact this
  refine fn_gives ?_
  refine .sq (P := fun δ => ∃ x1, δ = [some (.fz (.int ((Nat.gcd a b : Nat) : Int))), x1]) (whileGo (c := dTruthy (dLate 1)) (b := b_common_divisor_1b) (fun n δ => ∃ x y : Nat, δ = [some (.fz (.int (x : Nat))), some (.fz (.int (y : Nat)))] ∧ Nat.gcd x y = Nat.gcd a b ∧ ((y ≤ x ∧ x * y < 2 ^ n) ∨ (n = 51 ∧ x < y ∧ x * y < 2 ^ 50)))
    51 W_common_divisor _ ⟨a, b, rfl, rfl, ?_⟩ (by decide) fun n δ ⟨x, y, e, hg, hm⟩ => ?_) fun δ ⟨x1, e⟩ => ?_
  · have := hP a b ha hb
    rcases Nat.lt_or_ge a b with h | h
    · exact .inr ⟨rfl, h, this⟩
    · exact .inl ⟨h, by omega⟩
  · subst e
    have md : 0 < y → gModI (.int ((x : Nat) : Int)) (.int ((y : Nat) : Int)) = some (.fz (.int ((x % y : Nat) : Int))) := fun hy => by
      rw [gModI_int (by omega), Int.natCast_emod]
    have nx : 0 < y → Nat.gcd y (x % y) = Nat.gcd a b := fun hy => by
      rw [← hg, Nat.gcd_comm x y, Nat.gcd_rec y x, Nat.gcd_comm]
    have hdec : 0 < y → ∃ n', n' < n ∧ ((x % y ≤ y ∧ y * (x % y) < 2 ^ n') ∨ (n' = 51 ∧ y < x % y ∧ y * (x % y) < 2 ^ 50)) := fun hy => by
      have hlt := Nat.mod_lt x hy
      rcases hm with ⟨h1, h2⟩ | ⟨h1, h2, h3⟩
      · cases n with
        | zero =>
          have := Nat.mul_pos (show 0 < x by omega) hy
          omega
        | succ n =>
          refine ⟨n, by omega, .inl ⟨by omega, ?_⟩⟩
          have hd := Nat.div_add_mod x y
          have hq : 1 ≤ x / y := (Nat.le_div_iff_mul_le hy).mpr (by omega)
          have : y * 1 ≤ y * (x / y) := Nat.mul_le_mul_left y hq
          have h5 : 2 * (x % y) ≤ x := by omega
          have h6 : y * (2 * (x % y)) ≤ y * x := Nat.mul_le_mul_left y h5
          rw [Nat.mul_left_comm, Nat.mul_comm y x] at h6
          rw [Nat.pow_succ] at h2
          omega
      · refine ⟨50, by omega, .inl ⟨by omega, ?_⟩⟩
        rw [Nat.mod_eq_of_lt h2, Nat.mul_comm]
        exact h3
    by_cases hy : 0 < y
    · have md := md hy
      have nx := nx hy
      obtain ⟨n', hn, hd⟩ := hdec hy
      generalize ew : x % y = w at *
      have yz : ((y : Nat) : Int) ≠ 0 := by omega
      generalize ezx : ((x : Nat) : Int) = zx at *
      generalize ezy : ((y : Nat) : Int) = zy at *
      refine ⟨true, _, by simp [fnOf, DL.start, sSeq, sIf, sAsg_eq, sAsgT, sSet, sRet, sDrop, sRaise, sCallX, sNext, sBreak, sCont, sPar, sPar3, notBr_eq, dTest, dTruthy, toL, toV, ofV, dOp, dUn, dUnE, dC, dLate, dVar, LV.get, slotD, DV.dat, dTup, dLst, aNil, aCons, lNil, lCons, getAll, dCB, dCall, dCallB, dAnd, dOr, dNot, dOfT, dIf, dChain, dMut, isLs, lentOf, tgName_eq, tgNil, tgCons, tgTup, dIter, itemsD, dYes, LIM, yz]; rfl, fun h => (by cases h), fun _ => ⟨n', hn, .one (a := b_common_divisor_1b) (δ1 := [some (.fz (.int zy)), some (.fz (.int ((w : Nat) : Int)))]) (by simp [b_common_divisor_1b, b_common_divisor_1b_1, fnOf, DL.start, sSeq, sIf, sAsg_eq, sAsgT, sSet, sRet, sDrop, sRaise, sCallX, sNext, sBreak, sCont, sPar, sPar3, notBr_eq, dTest, dTruthy, toL, toV, ofV, dOp, dUn, dUnE, dC, dLate, dVar, LV.get, slotD, DV.dat, dTup, dLst, aNil, aCons, lNil, lCons, getAll, dCB, dCall, dCallB, dAnd, dOr, dNot, dOfT, dIf, dChain, dMut, isLs, lentOf, tgName_eq, tgNil, tgCons, tgTup, dIter, itemsD, dYes, LIM, md]) ⟨y, w, by rw [ezy], nx, hd⟩⟩⟩
    · have y0 : y = 0 := by omega
      subst y0
      rw [Nat.gcd_zero_right] at hg
      rw [← hg]
      generalize ((x : Nat) : Int) = zx at *
      exact ⟨false, _, by simp [fnOf, DL.start, sSeq, sIf, sAsg_eq, sAsgT, sSet, sRet, sDrop, sRaise, sCallX, sNext, sBreak, sCont, sPar, sPar3, notBr_eq, dTest, dTruthy, toL, toV, ofV, dOp, dUn, dUnE, dC, dLate, dVar, LV.get, slotD, DV.dat, dTup, dLst, aNil, aCons, lNil, lCons, getAll, dCB, dCall, dCallB, dAnd, dOr, dNot, dOfT, dIf, dChain, dMut, isLs, lentOf, tgName_eq, tgNil, tgCons, tgTup, dIter, itemsD, dYes, LIM]; rfl, fun _ => ⟨_, rfl⟩, fun h => by cases h⟩
  · subst e
    generalize ((Nat.gcd a b : Nat) : Int) = g
    exact .one (by simp [b_common_divisor_2, DL.start, fnOf, DL.start, sSeq, sIf, sAsg_eq, sAsgT, sSet, sRet, sDrop, sRaise, sCallX, sNext, sBreak, sCont, sPar, sPar3, notBr_eq, dTest, dTruthy, toL, toV, ofV, dOp, dUn, dUnE, dC, dLate, dVar, LV.get, slotD, DV.dat, dTup, dLst, aNil, aCons, lNil, lCons, getAll, dCB, dCall, dCallB, dAnd, dOr, dNot, dOfT, dIf, dChain, dMut, isLs, lentOf, tgName_eq, tgNil, tgCons, tgTup, dIter, itemsD, dYes, LIM] <;> first | rfl | exact ⟨rfl, rfl⟩) (by exact ⟨rfl, rfl⟩)
def shG (o : Nat) (ps : List Int) : Nat := Nat.gcd (sav o ps).toNat ps.sum.toNat
def shT (o : Nat) (ps : List Int) : Int := (((sav o ps).toNat / shG o ps : Nat) : Int)
def shB (o : Nat) (ps : List Int) : Int := ((ps.sum.toNat / shG o ps : Nat) : Int)
theorem sav_rng {o : Nat} (ho : 0 < o) {ps : List Int} (hd : ps.Pairwise (· ≥ ·)) (h : ∀ p ∈ ps, 0 ≤ p ∧ p ≤ MX) : 0 ≤ sav o ps ∧ sav o ps ≤ ps.sum := by
  have h1 := sav_layers ho hd h
  have h2 := sum_layers h
  have h3 : tot (fun t => cnt ps t / o) MX ≤ tot (cnt ps) MX := tot_le fun t _ => Nat.div_le_self _ _
  omega
theorem sum_le {ps : List Int} {M : Int} (h : ∀ p ∈ ps, p ≤ M) : ps.sum ≤ ps.length * M := by
  induction ps with
  | nil => simp
  | cons x ps ih =>
    have h1 := ih fun p hp => h p (List.mem_cons_of_mem _ hp)
    have h2 := h x List.mem_cons_self
    rw [List.sum_cons, List.length_cons, Int.natCast_add, Int.add_mul]
    omega
theorem sum_ge {ps : List Int} (h : ∀ p ∈ ps, 1 ≤ p) : (ps.length : Int) ≤ ps.sum := by
  induction ps with
  | nil => simp
  | cons x ps ih =>
    have h1 := ih fun p hp => h p (List.mem_cons_of_mem _ hp)
    have h2 := h x List.mem_cons_self
    rw [List.sum_cons, List.length_cons, Int.natCast_add]
    omega
theorem share_spec {o : Nat} (h1 : 2 ≤ o) (h2 : o ≤ 9) {ps : List Int} (h : Bk 1000000 ps) (hl : ps.length ≤ 30) : F_share [.fz (.int (o : Nat)), .fz (ti ps)] = some (.ret (.fz (.tuple [.int (shT o ps), .int (shB o ps)])) []) := by
  have a1 := require_offer_ok (o := (o : Int)) (by omega) (by omega)
  have a2 := require_basket_ok h hl
  have a3 := best_prices_spec h1 h2 ps
  have sr := sav_rng (show 0 < o by omega) h.dec (bk_rng h (by decide))
  have sl := sum_le fun p hp => (h.rng p hp).2
  have sg := sum_ge fun p hp => (h.rng p hp).1
  have hpos := h.pos
  have hsum : ps.sum ≤ 30000000 := by omega
  have a4 := common_divisor_spec (a := (sav o ps).toNat) (b := ps.sum.toNat) (by omega) (by omega)
  have gpos : 0 < shG o ps := Nat.gcd_pos_of_pos_right _ (by omega)
  have gle : shG o ps ≤ ps.sum.toNat := Nat.gcd_le_right _ (by omega)
  have e1 : (((sav o ps).toNat : Nat) : Int) = sav o ps := by omega
  have e2 : ((ps.sum.toNat : Nat) : Int) = ps.sum := by omega
  have d1 : gDivI (.int (sav o ps)) (.int ((shG o ps : Nat) : Int)) = some (.fz (.int (shT o ps))) := by
    rw [gDivI_int (by omega) (by omega)]
    unfold shT
    rw [Int.natCast_ediv, e1]
  have d2 : gDivI (.int ps.sum) (.int ((shG o ps : Nat) : Int)) = some (.fz (.int (shB o ps))) := by
    rw [gDivI_int (by omega) (by omega)]
    unfold shB
    rw [Int.natCast_ediv, e2]
  rw [e1, e2] at a4
  have eg : Nat.gcd (sav o ps).toNat ps.sum.toNat = shG o ps := rfl
  rw [eg] at a4
  have es : (pick (o - 1) o ps).sum = sav o ps := rfl
  generalize ((shG o ps : Nat) : Int) = g at *
  generalize shT o ps = T at *
  generalize shB o ps = B at *
  generalize sav o ps = S at *
  generalize (o : Int) = z at *
  generalize pick (o - 1) o ps = pk at *
  refine fn_gives ?_
  refine .seq (by simp [b_share_1, DL.start, fnOf, DL.start, sSeq, sIf, sAsg_eq, sAsgT, sSet, sRet, sDrop, sRaise, sCallX, sNext, sBreak, sCont, sPar, sPar3, notBr_eq, dTest, dTruthy, toL, toV, ofV, dOp, dUn, dUnE, dC, dLate, dVar, LV.get, slotD, DV.dat, dTup, dLst, aNil, aCons, lNil, lCons, getAll, dCB, dCall, dCallB, dAnd, dOr, dNot, dOfT, dIf, dChain, dMut, isLs, lentOf, tgName_eq, tgNil, tgCons, tgTup, dIter, itemsD, dYes, LIM, a1] <;> rfl) ?_
  refine .seq (by simp [b_share_2, DL.start, fnOf, DL.start, sSeq, sIf, sAsg_eq, sAsgT, sSet, sRet, sDrop, sRaise, sCallX, sNext, sBreak, sCont, sPar, sPar3, notBr_eq, dTest, dTruthy, toL, toV, ofV, dOp, dUn, dUnE, dC, dLate, dVar, LV.get, slotD, DV.dat, dTup, dLst, aNil, aCons, lNil, lCons, getAll, dCB, dCall, dCallB, dAnd, dOr, dNot, dOfT, dIf, dChain, dMut, isLs, lentOf, tgName_eq, tgNil, tgCons, tgTup, dIter, itemsD, dYes, LIM, a2] <;> rfl) ?_
  refine .seq (by simp [b_share_3, DL.start, fnOf, DL.start, sSeq, sIf, sAsg_eq, sAsgT, sSet, sRet, sDrop, sRaise, sCallX, sNext, sBreak, sCont, sPar, sPar3, notBr_eq, dTest, dTruthy, toL, toV, ofV, dOp, dUn, dUnE, dC, dLate, dVar, LV.get, slotD, DV.dat, dTup, dLst, aNil, aCons, lNil, lCons, getAll, dCB, dCall, dCallB, dAnd, dOr, dNot, dOfT, dIf, dChain, dMut, isLs, lentOf, tgName_eq, tgNil, tgCons, tgTup, dIter, itemsD, dYes, LIM, a3, es] <;> rfl) ?_
  refine .seq (by simp [b_share_4, DL.start, fnOf, DL.start, sSeq, sIf, sAsg_eq, sAsgT, sSet, sRet, sDrop, sRaise, sCallX, sNext, sBreak, sCont, sPar, sPar3, notBr_eq, dTest, dTruthy, toL, toV, ofV, dOp, dUn, dUnE, dC, dLate, dVar, LV.get, slotD, DV.dat, dTup, dLst, aNil, aCons, lNil, lCons, getAll, dCB, dCall, dCallB, dAnd, dOr, dNot, dOfT, dIf, dChain, dMut, isLs, lentOf, tgName_eq, tgNil, tgCons, tgTup, dIter, itemsD, dYes, LIM, a4] <;> rfl) ?_
  exact .one (by simp [b_share_5, DL.start, fnOf, DL.start, sSeq, sIf, sAsg_eq, sAsgT, sSet, sRet, sDrop, sRaise, sCallX, sNext, sBreak, sCont, sPar, sPar3, notBr_eq, dTest, dTruthy, toL, toV, ofV, dOp, dUn, dUnE, dC, dLate, dVar, LV.get, slotD, DV.dat, dTup, dLst, aNil, aCons, lNil, lCons, getAll, dCB, dCall, dCallB, dAnd, dOr, dNot, dOfT, dIf, dChain, dMut, isLs, lentOf, tgName_eq, tgNil, tgCons, tgTup, dIter, itemsD, dYes, LIM, d1, d2] <;> first | rfl | exact ⟨rfl, rfl⟩) (by exact ⟨rfl, rfl⟩)
/-! ### a smaller offer -/
theorem sav_anti {o o' : Nat} (h0 : 0 < o) (h : o ≤ o') {ps : List Int} (hd : ps.Pairwise (· ≥ ·)) (hr : ∀ p ∈ ps, 0 ≤ p ∧ p ≤ MX) : sav o' ps ≤ sav o ps := by
  rw [sav_layers h0 hd hr, sav_layers (show 0 < o' by omega) hd hr]
  have : tot (fun t => cnt ps t / o') MX ≤ tot (fun t => cnt ps t / o) MX := tot_le fun t _ => Nat.div_le_div_left h h0
  omega
theorem free_anti {o o' : Nat} (h0 : 0 < o) (h : o ≤ o') {ps : List Int} {i : Int} (hi : i ∈ freeI o' ps) : i ∈ freeI o ps := by
  unfold freeI at *
  rw [List.mem_filter] at *
  exact ⟨hi.1, fits_mono h0 h hi.2⟩
/-! ### multiplied prices -/
def mulP (k : Int) (ps : List Int) : List Int := ps.map fun p => k * p
theorem bk_mul {high k : Int} {ps : List Int} (h : Bk high ps) (hk : 1 ≤ k) (hm : k * high ≤ 1000000) : Bk 1000000 (mulP k ps) := by
  refine ⟨by unfold mulP; rw [List.length_map]; exact h.pos, fun p hp => ?_, ?_⟩
  · obtain ⟨q, hq, rfl⟩ := List.mem_map.mp hp
    obtain ⟨r1, r2⟩ := h.rng q hq
    have := Int.mul_le_mul_of_nonneg_left r2 (show 0 ≤ k by omega)
    have := Int.mul_le_mul_of_nonneg_left r1 (show 0 ≤ k by omega)
    omega
  · unfold mulP
    rw [List.pairwise_map]
    exact h.dec.imp fun h => Int.mul_le_mul_of_nonneg_left h (show 0 ≤ k by omega)
theorem sum_mul (k : Int) (ps : List Int) : (mulP k ps).sum = k * ps.sum := by
  induction ps with
  | nil => simp [mulP]
  | cons x ps ih =>
    show k * x + (mulP k ps).sum = _
    rw [ih, List.sum_cons, Int.mul_add]
theorem pick_mul (a o : Nat) (k : Int) (ps : List Int) : pick a o (mulP k ps) = mulP k (pick a o ps) := by
  unfold pick mulP
  rw [List.length_map, List.map_filterMap]
  congr 1
  funext m
  rw [List.getElem?_map]
theorem sav_mul (o : Nat) (k : Int) (ps : List Int) : sav o (mulP k ps) = k * sav o ps := by
  unfold sav
  rw [pick_mul, sum_mul]
theorem share_mul {o : Nat} (ho : 0 < o) {k : Int} (hk : 1 ≤ k) {ps : List Int} (hd : ps.Pairwise (· ≥ ·)) (hr : ∀ p ∈ ps, 0 ≤ p ∧ p ≤ MX) : shT o (mulP k ps) = shT o ps ∧ shB o (mulP k ps) = shB o ps := by
  obtain ⟨r1, r2⟩ := sav_rng ho hd hr
  obtain ⟨m, rfl⟩ : ∃ m : Nat, k = m := ⟨k.toNat, by omega⟩
  have hm : 0 < m := by omega
  unfold shT shB shG
  rw [sav_mul, sum_mul]
  obtain ⟨S, hS⟩ := Int.eq_ofNat_of_zero_le r1
  obtain ⟨T, hT⟩ := Int.eq_ofNat_of_zero_le (show 0 ≤ ps.sum by omega)
  rw [hS, hT, ← Int.natCast_mul, ← Int.natCast_mul, Int.toNat_natCast, Int.toNat_natCast, Int.toNat_natCast, Int.toNat_natCast, Nat.gcd_mul_left, Nat.mul_div_mul_left _ _ hm, Nat.mul_div_mul_left _ _ hm]
  exact ⟨rfl, rfl⟩
theorem fits_mul {o : Nat} {k : Int} (hk : 1 ≤ k) {ps is : List Int} (hi : ∀ i ∈ is, 0 ≤ i ∧ i < ps.length) : fitsB o (mulP k ps) is = fitsB o ps is := by
  have le : ∀ p q : Int, k * p ≤ k * q ↔ p ≤ q := fun p q => ⟨fun h => Int.le_of_mul_le_mul_left h (by omega), fun h => Int.mul_le_mul_of_nonneg_left h (by omega)⟩
  rw [Bool.eq_iff_iff, fits_iff, fits_iff]
  have e1 : ∀ p, is.countP (fun i => decide (k * p ≤ pr (mulP k ps) i)) = is.countP fun i => decide (p ≤ pr ps i) := fun p => List.countP_congr fun i h => by
    obtain ⟨j, rfl⟩ := Int.eq_ofNat_of_zero_le (hi i h).1
    have hj : j < ps.length := by have := (hi _ h).2; omega
    have hj' : j < (mulP k ps).length := by unfold mulP; rw [List.length_map]; exact hj
    rw [pr_get hj, pr_get hj']
    simp [mulP, le]
  have e2 : ∀ p, (mulP k ps).countP (fun q => decide (k * p ≤ q)) = ps.countP fun q => decide (p ≤ q) := fun p => by
    unfold mulP
    rw [List.countP_map]
    exact List.countP_congr fun q _ => by simp [le]
  constructor
  · intro h p hp
    have := h (k * p) (List.mem_map.mpr ⟨p, hp, rfl⟩)
    rw [e1, e2] at this
    exact this
  · intro h q hq
    obtain ⟨p, hp, rfl⟩ := List.mem_map.mp hq
    rw [e1, e2]
    exact h p hp
theorem nSet_mul (o s : Nat) {k : Int} (hk : 1 ≤ k) (ps : List Int) : nSet o (mulP k ps) s = nSet o ps s := by
  unfold nSet
  have : (mulP k ps).length = ps.length := by unfold mulP; rw [List.length_map]
  rw [this]
  refine List.countP_congr fun r hr => ?_
  rw [fits_mul hk (mem_subsL.mp hr).rng]
/-! ### groups of equal prices -/
theorem pick_any (a : Nat) {k : Nat} (hk : 0 < k) (ps : List Int) {L : Nat} (h : ps.length ≤ L) : (List.range L).filterMap (fun m => ps[a + m * k]?) = pick a k ps := by
  induction L with
  | zero =>
    have : ps = [] := List.eq_nil_of_length_eq_zero (by omega)
    subst this
    rfl
  | succ L ih =>
    rcases Nat.lt_or_ge L ps.length with hlt | hge
    · have : ps.length = L + 1 := by omega
      unfold pick
      rw [this]
    · rw [List.range_succ, List.filterMap_append, ih hge]
      have : a + L * k ≥ ps.length := by
        have : L * 1 ≤ L * k := Nat.mul_le_mul_left L hk
        omega
      simp [List.getElem?_eq_none this]
theorem pick_next (a : Nat) {k : Nat} (hk : 0 < k) {ps : List Int} (h : a < ps.length) : pick a k ps = ps[a] :: pick a k (ps.drop k) := by
  rw [← pick_any a hk (ps.drop k) (L := ps.length - 1) (by rw [List.length_drop]; omega)]
  unfold pick
  obtain ⟨n, hn⟩ : ∃ n, ps.length = n + 1 := ⟨ps.length - 1, by omega⟩
  rw [hn, List.range_succ_eq_map, List.filterMap_cons, Nat.zero_mul, Nat.add_zero, List.getElem?_eq_getElem h, List.filterMap_map]
  simp only [Function.comp]
  congr 1
  congr 1
  funext m
  rw [List.getElem?_drop]
  show ps[a + (m + 1) * k]? = _
  rw [Nat.add_mul]
  congr 1
  omega
theorem pick_short {a k : Nat} (hk : 0 < k) {ps : List Int} (h : ps.length ≤ a) : pick a k ps = [] := by
  unfold pick
  rw [List.filterMap_eq_nil_iff]
  intro m _
  exact List.getElem?_eq_none (by omega)
theorem sum_take_ge {p : Int} : ∀ {l : List Int}, (∀ x ∈ l, p ≤ x) → l.length * p ≤ l.sum
  | [], _ => by simp
  | x :: l, h => by
    have h1 := sum_take_ge fun y hy => h y (List.mem_cons_of_mem _ hy)
    have h2 := h x List.mem_cons_self
    rw [List.sum_cons, List.length_cons, Int.natCast_add, Int.add_mul]
    omega
theorem sum_take_eq {p : Int} : ∀ {l : List Int}, (∀ x ∈ l, x = p) → l.sum = l.length * p
  | [], _ => by simp
  | x :: l, h => by
    have h1 := sum_take_eq fun y hy => h y (List.mem_cons_of_mem _ hy)
    have h2 := h x List.mem_cons_self
    rw [List.sum_cons, List.length_cons, Int.natCast_add, Int.add_mul]
    omega
theorem even_iff {o : Nat} (ho : 1 ≤ o) : ∀ (n : Nat) (ps : List Int), ps.length ≤ n → ps.Pairwise (· ≥ ·) → (∀ p ∈ ps, 1 ≤ p ∧ p ≤ MX) →
    sav o ps * o ≤ ps.sum ∧ (sav o ps * o = ps.sum ↔ ps.length % o = 0 ∧ pick 0 o ps = pick (o - 1) o ps)
  | n, ps, hn, hd, hr => by
    have hr0 : ∀ p ∈ ps, 0 ≤ p ∧ p ≤ MX := fun p hp => by have := hr p hp; omega
    rcases Nat.lt_or_ge ps.length o with hlt | hge
    · have s0 := sav_short hlt
      have sg := sum_ge fun p hp => (hr p hp).1
      rw [s0, pick_short (by omega) (show ps.length ≤ o - 1 by omega), Nat.mod_eq_of_lt hlt, Int.zero_mul]
      refine ⟨by omega, fun h => ?_, fun ⟨h, _⟩ => ?_⟩
      · have : ps = [] := List.eq_nil_of_length_eq_zero (by omega)
        subst this
        exact ⟨rfl, rfl⟩
      · have : ps = [] := List.eq_nil_of_length_eq_zero h
        subst this
        rfl
    · cases n with
      | zero => omega
      | succ n =>
        obtain ⟨i1, i2⟩ := even_iff ho n (ps.drop o) (by rw [List.length_drop]; omega) (hd.sublist (List.drop_sublist o ps)) fun p hp => hr p (List.mem_of_mem_drop hp)
        have hg := sav_group (show 0 < o by omega) hd hr0 hge
        have hlt : o - 1 < ps.length := by omega
        have eg : ps.getD (o - 1) 0 = ps[o - 1] := by
          rw [List.getD_eq_getElem?_getD, List.getElem?_eq_getElem hlt]
          rfl
        rw [eg] at hg
        have hs : ps.sum = (ps.take o).sum + (ps.drop o).sum := by rw [← List.sum_append, List.take_append_drop]
        have tl : (ps.take o).length = o := by rw [List.length_take]; omega
        have tm : ∀ x ∈ ps.take o, ps[o - 1] ≤ x ∧ x ≤ ps[0] := fun x hx => by
          obtain ⟨i, hi, e⟩ := List.mem_take_iff_getElem.mp hx
          rw [← e]
          constructor
          · rcases Nat.lt_or_eq_of_le (show i ≤ o - 1 by omega) with h | h
            · exact List.pairwise_iff_getElem.mp hd i (o - 1) (by omega) hlt h
            · subst h
              exact Int.le_refl _
          · rcases Nat.eq_zero_or_pos i with h | h
            · subst h
              exact Int.le_refl _
            · exact List.pairwise_iff_getElem.mp hd 0 i (by omega) (by omega) h
        have g1 := sum_take_ge fun x hx => (tm x hx).1
        rw [tl] at g1
        have hm : (ps.drop o).length % o = ps.length % o := by
          rw [List.length_drop, Nat.mod_eq_sub_mod hge]
        rw [hm] at i2
        have f1 := pick_next 0 (show 0 < o by omega) (show 0 < ps.length by omega)
        have f2 := pick_next (o - 1) (show 0 < o by omega) hlt
        rw [hg, Int.add_mul, hs, f1, f2]
        have c1 : ps[o - 1] * (o : Int) = (o : Int) * ps[o - 1] := Int.mul_comm _ _
        refine ⟨by omega, fun h => ?_, fun ⟨m1, m2⟩ => ?_⟩
        · have h1 : sav o (ps.drop o) * o = (ps.drop o).sum := by omega
          obtain ⟨m1, m2⟩ := i2.mp h1
          refine ⟨m1, ?_⟩
          rw [m2]
          congr 1
          have h2 : (ps.take o).sum = (o : Int) * ps[o - 1] := by omega
          have ht : ps.take o = ps[0] :: (ps.take o).tail := by
            cases ps with
            | nil => simp at hlt
            | cons x ps =>
              obtain ⟨k, rfl⟩ : ∃ k, o = k + 1 := ⟨o - 1, by omega⟩
              simp
          have h3 := sum_take_ge (p := ps[o - 1]) (l := (ps.take o).tail) fun x hx => (tm x (List.mem_of_mem_tail hx)).1
          rw [List.length_tail, tl] at h3
          rw [ht, List.sum_cons] at h2
          have h4 := (tm ps[0] (by rw [ht]; exact List.mem_cons_self)).1
          have h5 : ((o - 1 : Nat) : Int) * ps[o - 1] = (o : Int) * ps[o - 1] - ps[o - 1] := by
            rw [Int.ofNat_sub ho, Int.sub_mul]
            simp
          omega
        · obtain ⟨q1, q2⟩ := List.cons.inj m2
          have h1 := i2.mpr ⟨m1, q2⟩
          have h2 := sum_take_eq (p := ps[o - 1]) fun x hx => by have := tm x hx; omega
          rw [tl] at h2
          omega
theorem share_even {o : Nat} (ho : 0 < o) {ps : List Int} (hd : ps.Pairwise (· ≥ ·)) (hr : ∀ p ∈ ps, 0 ≤ p ∧ p ≤ MX) (h1 : 0 < ps.sum) : (shT o ps * o = shB o ps) ↔ sav o ps * o = ps.sum := by
  obtain ⟨r1, r2⟩ := sav_rng ho hd hr
  obtain ⟨S, hS⟩ := Int.eq_ofNat_of_zero_le r1
  obtain ⟨T, hT⟩ := Int.eq_ofNat_of_zero_le (show 0 ≤ ps.sum by omega)
  unfold shT shB shG
  rw [hS, hT, Int.toNat_natCast, Int.toNat_natCast]
  have g0 : 0 < Nat.gcd S T := Nat.gcd_pos_of_pos_right _ (by omega)
  obtain ⟨a, ha⟩ := Nat.gcd_dvd_left S T
  obtain ⟨b, hb⟩ := Nat.gcd_dvd_right S T
  have e1 : S / Nat.gcd S T = a := by
    rw [Nat.div_eq_iff_eq_mul_right g0 (Nat.gcd_dvd_left S T)]
    exact ha
  have e2 : T / Nat.gcd S T = b := by
    rw [Nat.div_eq_iff_eq_mul_right g0 (Nat.gcd_dvd_right S T)]
    exact hb
  rw [e1, e2, ← Int.natCast_mul, ← Int.natCast_mul, Int.natCast_inj, Int.natCast_inj]
  generalize Nat.gcd S T = g at *
  rw [ha, hb, Nat.mul_assoc]
  constructor
  · intro h
    rw [h]
  · intro h
    exact Nat.eq_of_mul_eq_mul_left g0 h
def grp (o : Nat) (l : List Int) : List Int := l.flatMap fun p => List.replicate o p
theorem grp_len (o : Nat) (l : List Int) : (grp o l).length = l.length * o := by
  induction l with
  | nil => simp [grp]
  | cons x l ih =>
    show (List.replicate o x ++ grp o l).length = _
    rw [List.length_append, ih, List.length_replicate, List.length_cons, Nat.add_mul]
    omega
theorem grp_mem {o : Nat} {l : List Int} {p : Int} (h : p ∈ grp o l) : p ∈ l := by
  obtain ⟨q, h1, h2⟩ := List.mem_flatMap.mp h
  rw [(List.mem_replicate.mp h2).2]
  exact h1
theorem grp_dec {o : Nat} : ∀ {l : List Int}, l.Pairwise (· ≥ ·) → (grp o l).Pairwise (· ≥ ·)
  | [], _ => List.Pairwise.nil
  | x :: l, h => by
    obtain ⟨h1, h2⟩ := List.pairwise_cons.mp h
    show (List.replicate o x ++ grp o l).Pairwise (· ≥ ·)
    rw [List.pairwise_append]
    refine ⟨List.pairwise_replicate.mpr (.inr (Int.le_refl x)), grp_dec h2, fun a ha b hb => ?_⟩
    rw [(List.mem_replicate.mp ha).2]
    exact h1 b (grp_mem hb)
theorem grp_sum (o : Nat) (l : List Int) : (grp o l).sum = o * l.sum := by
  induction l with
  | nil => simp [grp]
  | cons x l ih =>
    show (List.replicate o x ++ grp o l).sum = _
    rw [List.sum_append, ih, List.sum_cons, Int.mul_add, sum_take_eq (p := x) fun y hy => (List.mem_replicate.mp hy).2, List.length_replicate]
theorem grp_sav {o : Nat} (ho : 0 < o) : ∀ {l : List Int}, l.Pairwise (· ≥ ·) → (∀ p ∈ l, 0 ≤ p ∧ p ≤ MX) → sav o (grp o l) = l.sum
  | [], _, _ => rfl
  | x :: l, h, hr => by
    have hg := sav_group ho (grp_dec (o := o) h) (fun p hp => hr p (grp_mem hp)) (by rw [grp_len, List.length_cons, Nat.add_mul]; omega)
    have e1 : (grp o (x :: l)).getD (o - 1) 0 = x := by
      show (List.replicate o x ++ grp o l).getD (o - 1) 0 = x
      rw [List.getD_eq_getElem?_getD, List.getElem?_append_left (by rw [List.length_replicate]; omega), List.getElem?_replicate, if_pos (by omega)]
      rfl
    have e2 : (grp o (x :: l)).drop o = grp o l := by
      show (List.replicate o x ++ grp o l).drop o = grp o l
      rw [List.drop_append_of_le_length (by simp), List.drop_of_length_le (by simp)]
      rfl
    rw [hg, e1, e2, grp_sav ho (List.pairwise_cons.mp h).2 fun p hp => hr p (List.mem_cons_of_mem _ hp), List.sum_cons]
theorem grp_share {o : Nat} (ho : 0 < o) {l : List Int} (hd : l.Pairwise (· ≥ ·)) (hr : ∀ p ∈ l, 1 ≤ p ∧ p ≤ MX) (hl : l ≠ []) : shT o (grp o l) = 1 ∧ shB o (grp o l) = o := by
  have sg := sum_ge fun p hp => (hr p hp).1
  have hp : 0 < l.length := List.length_pos_iff.mpr hl
  unfold shT shB shG
  rw [grp_sav ho hd (fun p hp => by have := hr p hp; omega), grp_sum]
  obtain ⟨S, hS⟩ := Int.eq_ofNat_of_zero_le (show 0 ≤ l.sum by omega)
  rw [hS, ← Int.natCast_mul, Int.toNat_natCast, Int.toNat_natCast, Nat.gcd_mul_left_right, Nat.div_self (by omega), Nat.mul_div_cancel _ (by omega)]
  exact ⟨rfl, rfl⟩
end FT
set_option Elab.async false
set_option linter.all false
/-! Dicts of ints to ints. -/
namespace FT
open PySem DL
abbrev Dct := List (Int × Int)
def keysI (l : Dct) : List Int := l.map (·.1)
theorem getI_nil (k : Int) : getI [] k = none := rfl
theorem getI_cons (p : Int × Int) (l : Dct) (k : Int) : getI (p :: l) k = if p.1 = k then some p.2 else getI l k := by
  unfold getI
  rw [List.find?_cons]
  by_cases h : p.1 = k
  · simp [h]
  · simp [h]
theorem getI_none {l : Dct} {k : Int} : getI l k = none ↔ k ∉ keysI l := by
  induction l with
  | nil => simp [getI_nil, keysI]
  | cons p l ih =>
    rw [getI_cons]
    by_cases h : p.1 = k
    · simp [h, keysI]
    · rw [if_neg h, ih]
      simp only [keysI, List.map_cons, List.mem_cons]
      constructor
      · rintro h1 (h2 | h2)
        · exact h h2.symm
        · exact h1 h2
      · exact fun h1 h2 => h1 (.inr h2)
theorem getI_app (a b : Dct) (k : Int) : getI (a ++ b) k = (getI a k).or (getI b k) := by
  induction a with
  | nil => rfl
  | cons p a ih =>
    rw [List.cons_append, getI_cons, getI_cons, ih]
    split <;> rfl
theorem any_key (l : Dct) (k : Int) : (l.any fun p => decide (p.1 = k)) = decide (k ∈ keysI l) := by
  rw [Bool.eq_iff_iff, List.any_eq_true]
  simp only [decide_eq_true_eq, keysI, List.mem_map]
theorem getI_put (l : Dct) (k v x : Int) : getI (putI l k v) x = if k = x then some v else getI l x := by
  unfold putI
  rw [any_key]
  by_cases hk : k ∈ keysI l
  · rw [if_pos (decide_eq_true hk)]
    induction l with
    | nil => cases hk
    | cons p l ih =>
      rw [List.map_cons, getI_cons, getI_cons]
      by_cases hp : p.1 = k
      · rw [if_pos hp]
        subst hp
        by_cases hx : p.1 = x
        · simp [hx]
        · rw [if_neg hx, if_neg hx, if_neg hx]
          clear ih hk
          induction l with
          | nil => rfl
          | cons q l ih2 =>
            rw [List.map_cons, getI_cons, getI_cons, ih2]
            by_cases hq : q.1 = p.1
            · rw [if_pos hq]
              have : ¬ q.1 = x := fun z => hx (hq.symm.trans z)
              simp [this]
            · rw [if_neg hq]
      · rw [if_neg hp]
        have hk2 : k ∈ keysI l := by
          rcases List.mem_cons.mp hk with h | h
          · exact absurd h.symm hp
          · exact h
        rw [ih hk2]
        by_cases hx : p.1 = x
        · have : ¬ k = x := fun z => hp (hx.trans z.symm)
          simp [hx, this]
        · simp [hx]
  · rw [if_neg (by simpa using hk), getI_app, getI_cons, getI_nil]
    by_cases hx : k = x
    · subst hx
      rw [if_pos rfl, if_pos rfl, getI_none.mpr hk]
      rfl
    · rw [if_neg hx, if_neg hx]
      cases getI l x <;> rfl
theorem keys_put (l : Dct) (k v : Int) : keysI (putI l k v) = if k ∈ keysI l then keysI l else keysI l ++ [k] := by
  unfold putI
  rw [any_key]
  by_cases hk : k ∈ keysI l
  · rw [if_pos (decide_eq_true hk), if_pos hk]
    unfold keysI
    rw [List.map_map]
    refine List.map_congr_left fun p _ => ?_
    simp only [Function.comp]
    split <;> rfl
  · rw [if_neg (by simpa using hk), if_neg hk]
    simp [keysI]
theorem mem_put {l : Dct} {k v x : Int} : x ∈ keysI (putI l k v) ↔ x = k ∨ x ∈ keysI l := by
  rw [keys_put]
  by_cases hk : k ∈ keysI l
  · rw [if_pos hk]
    constructor
    · exact .inr
    · rintro (rfl | h)
      · exact hk
      · exact h
  · rw [if_neg hk, List.mem_append, List.mem_singleton]
    exact Or.comm
theorem nodup_put {l : Dct} (h : (keysI l).Nodup) (k v : Int) : (keysI (putI l k v)).Nodup := by
  rw [keys_put]
  by_cases hk : k ∈ keysI l
  · rw [if_pos hk]
    exact h
  · rw [if_neg hk, List.nodup_append]
    refine ⟨h, by simp, fun a ha b hb => ?_⟩
    rw [List.mem_singleton.mp hb]
    exact fun e => hk (e ▸ ha)
theorem len_keys (l : Dct) : (keysI l).length = l.length := List.length_map _
theorem keys_del (l : Dct) (k : Int) : keysI (delI l k) = (keysI l).filter fun x => decide (x ≠ k) := by
  unfold keysI delI
  rw [List.filter_map]
  rfl
theorem getI_del (l : Dct) (k x : Int) : getI (delI l k) x = if k = x then none else getI l x := by
  induction l with
  | nil => simp [delI, getI_nil]
  | cons p l ih =>
    by_cases hp : p.1 = k
    · have e : delI (p :: l) k = delI l k := by simp [delI, hp]
      rw [e, ih, getI_cons]
      by_cases hx : k = x
      · rw [if_pos hx, if_pos hx]
      · rw [if_neg hx, if_neg hx, if_neg (fun z => hx (hp.symm.trans z))]
    · have e : delI (p :: l) k = p :: delI l k := by simp [delI, hp]
      rw [e, getI_cons, ih, getI_cons]
      by_cases hx : k = x
      · rw [if_pos hx, if_neg (fun z => hp (z.trans hx.symm)), if_pos hx]
      · rw [if_neg hx, if_neg hx]
theorem getI_mem : ∀ {l : Dct}, (keysI l).Nodup → ∀ p ∈ l, getI l p.1 = some p.2
  | [], _, p, hp => by cases hp
  | q :: l, h, p, hp => by
    rw [getI_cons]
    have h2 : (q.1 :: keysI l).Nodup := h
    rw [List.nodup_cons] at h2
    rcases List.mem_cons.mp hp with rfl | hq
    · rw [if_pos rfl]
    · have hne : ¬ q.1 = p.1 := fun z => h2.1 (z ▸ List.mem_map.mpr ⟨p, hq, rfl⟩)
      rw [if_neg hne]
      exact getI_mem h2.2 p hq
theorem getI_map {l : Dct} (h : (keysI l).Nodup) : (keysI l).map (fun k => (getI l k).getD 0) = l.map (·.2) := by
  unfold keysI
  rw [List.map_map]
  refine List.map_congr_left fun p hp => ?_
  show (getI l p.1).getD 0 = p.2
  rw [getI_mem h p hp]
  rfl
/-! ### equal prices -/
theorem nSet_same {o n : Nat} (ho : 1 ≤ o) {p : Int} (hp : 1 ≤ p) (hn : 1 ≤ n) {s : Nat} (hs : s * o ≤ n) : nSet o (List.replicate n p) s = ch n s := by
  have hd : (List.replicate n p).Pairwise (· ≥ ·) := List.pairwise_replicate.mpr (.inr (Int.le_refl p))
  have hm : ∀ q ∈ List.replicate n p, 1 ≤ q := fun q hq => by rw [(List.mem_replicate.mp hq).2]; exact hp
  have hl : (List.replicate n p).length = n := List.length_replicate
  have at_ : ∀ j, j < n → (List.replicate n p)[j]? = some p := fun j hj => by rw [List.getElem?_replicate, if_pos hj]
  have c := tab_class (o := o) (ps := List.replicate n p) (e := 0) (m := n) hn (fun j h1 h2 => by
    unfold isEnd
    rw [hl, at_ j (by omega), at_ (j - 1) (by omega)]
    have : ¬ j = n := by omega
    simp [this]) (by
    unfold isEnd
    rw [hl]
    simp) s
  rw [Nat.zero_add] at c
  have t := tab_nSet ho hd hm s
  rw [hl] at t
  rw [← t, c, if_neg (by omega), U_sum, tot]
  have z : tot (fun k => ch n k * tab o (List.replicate n p) 0 (s - k)) s = tot (fun _ => 0) s := tot_congr fun k hk => by
    have : ¬ s - k = 0 := by omega
    simp [tab, this]
  rw [z, tot_zero, Nat.sub_self]
  simp [tab]
/-- the values of a dict without doubles, as a sum over all places -/
theorem sum_keys (f : Nat → Nat) (n : Nat) : ∀ {K : List Nat}, K.Nodup → (∀ k ∈ K, k < n) → tot (fun s => if s ∈ K then f s else 0) n = (K.map f).sum
  | [], _, _ => by simp [tot_zero]
  | k :: K, h, hr => by
    rw [List.nodup_cons] at h
    have ih := sum_keys f n h.2 fun x hx => hr x (List.mem_cons_of_mem _ hx)
    have e : tot (fun s => if s ∈ k :: K then f s else 0) n = tot (fun s => (if s = k then f k else 0) + (if s ∈ K then f s else 0)) n := tot_congr fun s _ => by
      by_cases h1 : s = k
      · subst h1
        simp [h.1]
      · simp [h1]
    have one : ∀ m, k < m → tot (fun s => if s = k then f k else 0) m = f k := by
      intro m
      induction m with
      | zero => intro z; omega
      | succ m ihm =>
        intro z
        rw [tot]
        by_cases hm : m = k
        · subst hm
          rw [if_pos rfl]
          have : tot (fun s => if s = m then f m else 0) m = tot (fun _ => 0) m := tot_congr fun t ht => if_neg (by omega)
          rw [this, tot_zero]
          omega
        · rw [if_neg hm, ihm (by omega)]
          exact Nat.add_zero _
    rw [e, tot_add, ih, one n (hr k List.mem_cons_self), List.map_cons, List.sum_cons]
theorem gMul_any {p : Int} {k : Nat} (h1 : 1 ≤ k) (h2 : k ≤ 1000) : gMul (.tuple [.int p]) (.int (k : Nat)) = some (.fz (ti (List.replicate k p))) := by
  rcases Nat.lt_or_eq_of_le h1 with h | h
  · exact gMul_one h h2
  · subst h
    simp [gMul, orG, gMulI, gI, gMulL, gMulT, intz]
end FT
set_option Elab.async false
set_option linter.all false
namespace LawK08
open PySem DL FT
def b__law_choose_1 : SM := (sAsg 2 (ofV (dC (.int 1))))
def b__law_choose_2b_1 : SM := (sAsg 2 (dOp gDivI (toL (toV (dOp gMul (dLate 2) (toL (toV (dOp gSubI (dLate 0) (dLate 3))))))) (toL (toV (dOp gAdd (dLate 3) (toL (dC (.int 1))))))))
def b__law_choose_2b : SM := b__law_choose_2b_1
def b__law_choose_2 : SM := (sFor (dRange1 (lCons (dLate 1) lNil)) (tgName 3)
  b__law_choose_2b)
def b__law_choose_3 : SM := (sRet (ofV (dVar 2)))
def b__law_choose : SM := (sSeq b__law_choose_1 (sSeq b__law_choose_2 b__law_choose_3))
def F__law_choose : Fn := fnOf 4 b__law_choose
def b__law_table_1 : SM := (sAsg 2 (dD1 0 1))
def b__law_table_2b_1 : SM := (sAsg 5 dD0)
def b__law_table_2b_2b_1 : SM := (sDPutI 5 (dVar 6) (toV (dOp gAdd (toL (dDGet 5 (dVar 6) (dC (.int 0)))) (toL (dDIx 2 (dVar 6))))))
def b__law_table_2b_2b_2 : SM := (sDPutI 5 (toV (dOp gAdd (dLate 6) (toL (dC (.int 1))))) (toV (dOp gAdd (toL (dDGet 5 (toV (dOp gAdd (dLate 6) (toL (dC (.int 1))))) (dC (.int 0)))) (toL (dDIx 2 (dVar 6))))))
def b__law_table_2b_2b : SM := (sSeq b__law_table_2b_2b_1 b__law_table_2b_2b_2)
def b__law_table_2b_2 : SM := (sFor (dDKeys 2) (tgName 6)
  b__law_table_2b_2b)
def b__law_table_2b_3 : SM := (sMove 2 5)
def b__law_table_2b_4 : SM := (sIf (dOr (dTest (toL (toV (dOp gEq (toL (toV (dOp gAdd (dLate 3) (toL (dC (.int 1)))))) (toL (toV (dCB gLen (lCons (dLate 1) lNil)))))))) (dTest (toL (toV (dOp gNe (toL (toV (dOp gIx (dLate 1) (toL (toV (dOp gAdd (dLate 3) (toL (dC (.int 1))))))))) (dLate 4)))))) (sFor (dIter (toV (dDSort 2))) (tgName 6)
  (sIf (dTest (toL (toV (dOp gGt (toL (toV (dOp gMul (dLate 6) (dLate 0)))) (toL (toV (dOp gAdd (dLate 3) (toL (dC (.int 1)))))))))) (sDrop (ofV (dDPop 2 (dVar 6)))) sNext)) sNext)
def b__law_table_2b : SM := (sSeq b__law_table_2b_1 (sSeq b__law_table_2b_2 (sSeq b__law_table_2b_3 b__law_table_2b_4)))
def b__law_table_2 : SM := (sFor (dEnum (aCons (dVar 1) aNil)) (tgTup (tgCons (tgName 3) (tgCons (tgName 4) tgNil)))
  b__law_table_2b)
def b__law_table_3 : SM := (sRet (ofV (dVar 2)))
def b__law_table : SM := (sSeq b__law_table_1 (sSeq b__law_table_2 b__law_table_3))
def F__law_table : Fn := fnOf 7 b__law_table
def b_law_1b_1 : SM := (sAsg 2 (dCall F__law_bag (aCons (dVar 0) (aCons (dVar 1) aNil))))
def b_law_1b_2b_1 : SM := (sPar 4 5 (dCallB F__law_basket 2 (aCons (dC (.int 30)) (aCons (toV (dCallB F__law_of 2 (aCons (toV (dLst (aCons (dC (.int 3)) (aCons (dC (.int 30)) (aCons (toV (dOp gPowI (toL (dC (.int 10))) (toL (dC (.int 6))))) aNil))))) aNil))) aNil))) (dCallB F__law_offer 2 aNil))
def b_law_1b_2b_2 : SM := (sAsg 6 (dCall F__law_table (aCons (dVar 5) (aCons (dVar 4) aNil))))
def b_law_1b_2b_3 : SM := (sIf (dTest (toL (toV (dOp gNe (toL (toV (dCall F_count_sets (aCons (dVar 5) (aCons (dVar 4) aNil))))) (toL (toV (dCB gSum (lCons (toL (toV (dComp (dIter (toV (dDSort 6))) (tgName 7) dYes (dDIx 6 (dVar 7)) [7]))) lNil)))))))) (sRet (ofV (dC (.bool false)))) sNext)
def b_law_1b_2b_4 : SM := (sIf (dTest (toL (toV (dOp gNe (toL (toV (dCall F_count_full (aCons (dVar 5) (aCons (dVar 4) aNil))))) (toL (dDIx 6 (toV (dOp gDivI (toL (toV (dCB gLen (lCons (dLate 4) lNil)))) (dLate 5))))))))) (sRet (ofV (dC (.bool false)))) sNext)
def b_law_1b_2b : SM := (sSeq b_law_1b_2b_1 (sSeq b_law_1b_2b_2 (sSeq b_law_1b_2b_3 b_law_1b_2b_4)))
def b_law_1b_2 : SM := (sFor (dRange1 (lCons (toL (dC (.int 3))) lNil)) (tgName 3)
  b_law_1b_2b)
def b_law_1b_3 : SM := (sAsg 7 (dOp gAdd (toL (dC (.int 1))) (toL (toV (dCallB F__law_take 2 (aCons (dC (.int 30)) aNil))))))
def b_law_1b_4 : SM := (sAsg 8 (dCB gTuple (lCons (toL (toV (dComp (dRange1 (lCons (dLate 7) lNil)) (tgName 10) dYes (toV (dOp gSubI (toL (dC (.int 1000))) (toL (toV (dOp gMul (toL (dC (.int 3))) (dLate 10)))))) [10]))) lNil)))
def b_law_1b_5 : SM := (sAsg 9 (dCall F__law_table (aCons (dVar 5) (aCons (dVar 8) aNil))))
def b_law_1b_6 : SM := (sIf (dOr (dTest (toL (toV (dOp gNe (toL (toV (dCall F_count_full (aCons (dVar 5) (aCons (dVar 8) aNil))))) (toL (dDIx 9 (toV (dOp gDivI (dLate 7) (dLate 5))))))))) (dTest (toL (toV (dOp gNe (toL (toV (dCall F_count_sets (aCons (dVar 5) (aCons (dVar 8) aNil))))) (toL (toV (dDSum 9)))))))) (sRet (ofV (dC (.bool false)))) sNext)
def b_law_1b_7 : SM := (sIf (dTest (toL (toV (dOp gNe (toL (toV (dCall F_count_full (aCons (dVar 5) (aCons (toV (dOp gMul (toL (dTup (aCons (dC (.int 7)) aNil))) (dLate 7))) aNil))))) (toL (toV (dCall F__law_choose (aCons (dVar 7) (aCons (toV (dOp gDivI (dLate 7) (dLate 5))) aNil))))))))) (sRet (ofV (dC (.bool false)))) sNext)
def b_law_1b : SM := (sSeq b_law_1b_1 (sSeq b_law_1b_2 (sSeq b_law_1b_3 (sSeq b_law_1b_4 (sSeq b_law_1b_5 (sSeq b_law_1b_6 b_law_1b_7))))))
def b_law_1 : SM := (sFor (dRange1 (lCons (toL (toV (dOp gAdd (toL (toV (dCB gMin (lCons (toL (toV (dCB gLen (lCons (dLate 0) lNil)))) (lCons (toL (dC (.int 8))) lNil))))) (toL (dC (.int 2)))))) lNil)) (tgName 1)
  b_law_1b)
def b_law_2 : SM := (sIf (dTest (toL (toV (dOp gNe (toL (toV (dComp (dIter (dTup (aCons (dC (.int 1)) (aCons (dC (.int 2)) (aCons (dC (.int 3)) (aCons (dC (.int 4)) aNil)))))) (tgName 11) dYes (toV (dCall F_count_full (aCons (dC (.int 2)) (aCons (dTupI (dRange3 (lCons (toL (toV (dOp gMul (toL (dC (.int 2))) (dLate 11)))) (lCons (toL (dC (.int 0))) (lCons (toL (dUn gNeg (toL (dC (.int 1))))) lNil))))) aNil)))) [11]))) (toL (toV (dLst (aCons (dC (.int 1)) (aCons (dC (.int 2)) (aCons (dC (.int 5)) (aCons (dC (.int 14)) aNil))))))))))) (sRet (ofV (dC (.bool false)))) sNext)
def b_law_3 : SM := (sRet (dOp gEq (toL (toV (dComp (dIter (dTup (aCons (dC (.int 1)) (aCons (dC (.int 2)) (aCons (dC (.int 3)) (aCons (dC (.int 4)) aNil)))))) (tgName 12) dYes (toV (dCall F_count_full (aCons (dC (.int 3)) (aCons (dTupI (dRange3 (lCons (toL (toV (dOp gMul (toL (dC (.int 3))) (dLate 12)))) (lCons (toL (dC (.int 0))) (lCons (toL (dUn gNeg (toL (dC (.int 1))))) lNil))))) aNil)))) [12]))) (toL (toV (dLst (aCons (dC (.int 1)) (aCons (dC (.int 3)) (aCons (dC (.int 12)) (aCons (dC (.int 55)) aNil)))))))))
def b_law : SM := (sSeq b_law_1 (sSeq b_law_2 b_law_3))
def F_law : Fn := fnOf 13 b_law
end LawK08
set_option Elab.async false
set_option linter.all false
set_option maxHeartbeats 1000000
namespace LawK08
open PySem DL FT
/-- the value at x, 0 if there is none -/
def at0 (l : Dct) (x : Int) : Int := (getI l x).getD 0
theorem at0_put (l : Dct) (k v x : Int) : at0 (putI l k v) x = if k = x then v else at0 l x := by
  unfold at0
  rw [getI_put]
  split <;> rfl
structure Tb (o : Nat) (ps : List Int) (j : Nat) (l : Dct) : Prop where
  nd : (keysI l).Nodup
  rng : ∀ x ∈ keysI l, 0 ≤ x ∧ x ≤ j
  look : ∀ s : Nat, at0 l (s : Int) = ((tab o ps j s : Nat) : Int)
theorem at0_key {l : Dct} {x : Int} (h : x ∉ keysI l) : at0 l x = 0 := by
  unfold at0
  rw [getI_none.mpr h]
  rfl
theorem nodup_rng {l : List Int} (hn : l.Nodup) {a n : Nat} (h : ∀ x ∈ l, 0 ≤ x ∧ x < n) : l.length ≤ n := by
  have := sub_len hn (b := upto n) fun x hx => mem_upto.mpr (h x hx)
  rw [upto_len] at this
  exact this
/-- a dict on the way: what the sizes pre give -/
structure Lt (f : Int → Int) (pre : List Int) (l : Dct) : Prop where
  nd : (keysI l).Nodup
  key : ∀ x, x ∈ keysI l ↔ x ∈ pre ∨ x - 1 ∈ pre
  val : ∀ x, at0 l x = (if x ∈ pre then f x else 0) + (if x - 1 ∈ pre then f (x - 1) else 0)
theorem Lt.step {f : Int → Int} {pre : List Int} {l : Dct} (h : Lt f pre l) {k : Int} (hk : k ∉ pre) :
    Lt f (pre ++ [k]) (putI (putI l k (at0 l k + f k)) (k + 1) (at0 (putI l k (at0 l k + f k)) (k + 1) + f k)) := by
  refine ⟨nodup_put (nodup_put h.nd _ _) _ _, fun x => ?_, fun x => ?_⟩
  · rw [mem_put, mem_put, h.key]
    simp only [List.mem_append, List.mem_singleton]
    constructor
    · rintro (h1 | h1 | h1 | h1)
      · exact .inr (.inr (by omega))
      · exact .inl (.inr h1)
      · exact .inl (.inl h1)
      · exact .inr (.inl h1)
    · rintro ((h1 | h1) | (h1 | h1))
      · exact .inr (.inr (.inl h1))
      · exact .inr (.inl h1)
      · exact .inr (.inr (.inr h1))
      · exact .inl (by omega)
  · rw [at0_put, at0_put, at0_put, h.val]
    simp only [List.mem_append, List.mem_singleton]
    rw [if_neg (show ¬ k = k + 1 by omega), h.val]
    by_cases h1 : k + 1 = x
    · subst h1
      have e1 : k + 1 - 1 = k := by omega
      rw [if_pos rfl, e1, if_neg hk]
      by_cases h2 : k + 1 ∈ pre
      · simp [h2]
      · have : ¬ k + 1 = k := by omega
        simp [h2, this]
    · rw [if_neg h1]
      by_cases h2 : k = x
      · subst h2
        rw [if_pos rfl, if_neg hk]
        have : ¬ k - 1 = k := by omega
        simp [this]
        exact Int.add_comm _ _
      · rw [if_neg h2, h.val]
        have e3 : ¬ x = k := fun z => h2 z.symm
        have e4 : ¬ x - 1 = k := by omega
        simp [e3, e4]
/-- the dict without what is above a bound -/
structure Pr (l : Dct) (big : Int → Prop) (pre : List Int) (r : Dct) : Prop where
  nd : (keysI r).Nodup
  get : ∀ x, (x ∈ pre ∧ big x → getI r x = none) ∧ (¬ (x ∈ pre ∧ big x) → getI r x = getI l x)
theorem Pr.yes {l r : Dct} {big : Int → Prop} {pre : List Int} (h : Pr l big pre r) {k : Int} (hb : big k) : Pr l big (pre ++ [k]) (delI r k) := by
  refine ⟨by rw [keys_del]; exact h.nd.filter _, fun x => ⟨fun ⟨h1, h2⟩ => ?_, fun h1 => ?_⟩⟩
  · rw [getI_del]
    split
    · rfl
    · rename_i hne
      rcases List.mem_append.mp h1 with h3 | h3
      · exact (h.get x).1 ⟨h3, h2⟩
      · exact absurd (List.mem_singleton.mp h3).symm hne
  · rw [getI_del, if_neg]
    · exact (h.get x).2 fun z => h1 ⟨List.mem_append_left _ z.1, z.2⟩
    · intro e
      subst e
      exact h1 ⟨List.mem_append_right _ (List.mem_singleton.mpr rfl), hb⟩
theorem Pr.no {l r : Dct} {big : Int → Prop} {pre : List Int} (h : Pr l big pre r) {k : Int} (hb : ¬ big k) : Pr l big (pre ++ [k]) r := by
  refine ⟨h.nd, fun x => ⟨fun ⟨h1, h2⟩ => ?_, fun h1 => ?_⟩⟩
  · rcases List.mem_append.mp h1 with h3 | h3
    · exact (h.get x).1 ⟨h3, h2⟩
    · rw [List.mem_singleton.mp h3] at h2
      exact absurd h2 hb
  · exact (h.get x).2 fun z => h1 ⟨List.mem_append_left _ z.1, z.2⟩
/-! ### the walk of the table -/
theorem pairsI_map : ∀ l : Dct, pairsI (l.map fun p => PyData.tuple [.int p.1, .int p.2]) = some l
  | [] => rfl
  | p :: l => by
    rw [List.map_cons]
    unfold pairsI
    rw [pairsI_map l]
theorem unDI_ow (l : Dct) : unDI (.dict (Own.dI l).kvs) = some l := pairsI_map l
theorem dct_ow {δ : Sl} {i : Nat} {l : Dct} (h : δ[i]? = some (some (.ow (.dI l)))) : dctI δ i = some l := by
  unfold dctI
  rw [h]
theorem dct_fz {δ : Sl} {i : Nat} {l : Dct} (h : δ[i]? = some (some (.fz (.dict (Own.dI l).kvs)))) : dctI δ i = some l := by
  unfold dctI
  rw [h]
  exact unDI_ow l
theorem ix_run {δ δ1 : Sl} {i : Nat} {e : EV} {k v : Int} {l : Dct} {a : DV} (h0 : δ[i]? = some (some a)) (he : e δ = some (.int k, δ1)) (h : dctI δ1 i = some l) (hv : getI l k = some v) : dDIx i e δ = some (.int v, δ1) := by
  unfold dDIx
  rw [h0]
  dsimp only
  rw [he]
  dsimp only
  rw [h]
  dsimp only
  rw [hv]
theorem get_run {δ δ1 : Sl} {i : Nat} {e : EV} {k z : Int} {l l0 : Dct} (h0 : dctI δ i = some l0) (he : e δ = some (.int k, δ1)) (h : dctI δ1 i = some l) : dDGet i e (dC (.int z)) δ = some (.int ((getI l k).getD z), δ1) := by
  unfold dDGet
  rw [h0]
  dsimp only
  rw [he]
  dsimp only [dC]
  rw [h]
theorem put_run {δ δ1 δ2 : Sl} {i : Nat} {e f : EV} {k z : Int} {l : Dct} {a : DV} (hf : f δ = some (.int z, δ1)) (h0 : δ1[i]? = some (some a)) (he : e δ1 = some (.int k, δ2)) (h : δ2[i]? = some (some (.ow (.dI l)))) (hl : l.length < LIM) : sDPutI i e f δ = some (.nx (δ2.set i (some (.ow (.dI (putI l k z)))))) := by
  unfold sDPutI
  rw [hf]
  dsimp only
  rw [h0]
  dsimp only
  rw [he]
  dsimp only
  rw [h]
  dsimp only
  rw [if_pos hl]
theorem pop_run {δ δ1 : Sl} {i : Nat} {e : EV} {k v : Int} {l l0 : Dct} (h0 : dctI δ i = some l0) (he : e δ = some (.int k, δ1)) (h : δ1[i]? = some (some (.ow (.dI l)))) (hv : getI l k = some v) : dDPop i e δ = some (.int v, δ1.set i (some (.ow (.dI (delI l k))))) := by
  unfold dDPop
  rw [h0]
  dsimp only
  rw [he]
  dsimp only
  rw [h]
  dsimp only
  rw [hv]
theorem var_int {δ : Sl} {i : Nat} {k : Int} (h : δ[i]? = some (some (.fz (.int k)))) : dVar i δ = some (.int k, δ) := by
  unfold dVar
  rw [h]
theorem plus_one {δ : Sl} {i : Nat} {k : Int} (h : δ[i]? = some (some (.fz (.int k)))) : toV (dOp gAdd (dLate i) (toL (dC (.int 1)))) δ = some (.int (k + 1), δ) := by
  simp [toV, dOp, dLate, h, toL, dC, LV.get, slotD, DV.dat]
theorem add_run {δ δ1 δ2 : Sl} {e f : EV} {a b : Int} (he : e δ = some (.int a, δ1)) (hf : f δ1 = some (.int b, δ2)) : toV (dOp gAdd (toL e) (toL f)) δ = some (.int (a + b), δ2) := by
  simp [toV, dOp, toL, he, hf, LV.get]
theorem inner_turn {x0 x1 x3 x4 : Option DV} {kn l : Dct} {k v : Int} (hk : getI kn k = some v) (hl : l.length < 1000) :
    b__law_table_2b_2b [x0, x1, some (.fz (.dict (Own.dI kn).kvs)), x3, x4, some (.ow (.dI l)), some (.fz (.int k))] =
      some (.nx [x0, x1, some (.fz (.dict (Own.dI kn).kvs)), x3, x4, some (.ow (.dI (putI (putI l k (at0 l k + v)) (k + 1) (at0 (putI l k (at0 l k + v)) (k + 1) + v)))), some (.fz (.int k))]) := by
  have h1 : (putI l k (at0 l k + v)).length < LIM := by
    have := keys_put l k (at0 l k + v)
    have e := congrArg List.length this
    rw [len_keys] at e
    rw [e]
    split
    · rw [len_keys]; unfold LIM; omega
    · rw [List.length_append, len_keys]; unfold LIM; simp; omega
  unfold b__law_table_2b_2b
  have s1 : b__law_table_2b_2b_1 [x0, x1, some (.fz (.dict (Own.dI kn).kvs)), x3, x4, some (.ow (.dI l)), some (.fz (.int k))] = some (.nx [x0, x1, some (.fz (.dict (Own.dI kn).kvs)), x3, x4, some (.ow (.dI (putI l k (at0 l k + v)))), some (.fz (.int k))]) := by
    unfold b__law_table_2b_2b_1
    exact put_run (add_run (get_run (dct_ow rfl) (var_int rfl) (dct_ow rfl)) (ix_run rfl (var_int rfl) (dct_fz rfl) hk)) rfl (var_int rfl) rfl (by unfold LIM; omega)
  rw [sSeq_nx s1]
  unfold b__law_table_2b_2b_2
  exact put_run (add_run (get_run (dct_ow rfl) (plus_one rfl) (dct_ow rfl)) (ix_run rfl (var_int rfl) (dct_fz rfl) hk)) rfl (plus_one rfl) rfl h1
theorem Lt.nil (f : Int → Int) : Lt f [] [] := ⟨List.nodup_nil, fun x => by simp [keysI], fun x => by simp [at0, getI_nil]⟩
theorem Lt.room {f : Int → Int} {pre : List Int} {m : Dct} (h : Lt f pre m) {j : Nat} (hp : ∀ x ∈ pre, 0 ≤ x ∧ x ≤ j) : m.length ≤ j + 2 := by
  rw [← len_keys]
  refine nodup_rng h.nd (a := 0) fun x hx => ?_
  rcases (h.key x).mp hx with h1 | h1
  · have := hp _ h1
    omega
  · have := hp _ h1
    omega
theorem Tb.getI {o : Nat} {ps : List Int} {j : Nat} {l : Dct} (h : Tb o ps j l) {x : Int} (hx : x ∈ keysI l) : ∃ v, DL.getI l x = some v ∧ at0 l x = v := by
  cases e : DL.getI l x with
  | none => exact absurd hx (getI_none.mp e)
  | some v => exact ⟨v, rfl, by unfold at0; rw [e]; rfl⟩
theorem inner_loop {o : Nat} {ps : List Int} {j : Nat} {l : Dct} (h : Tb o ps j l) (hj : j ≤ 100) {x0 x1 x3 x4 x6 : Option DV} (h6 : nb x6 = true) :
    Go b__law_table_2b_2 [x0, x1, some (.ow (.dI l)), x3, x4, some (.ow (.dI [])), x6] (fun δ => ∃ m y6, δ = [x0, x1, some (.fz (.dict (Own.dI l).kvs)), x3, x4, some (.ow (.dI m)), y6] ∧ nb y6 = true ∧ Lt (at0 l) (keysI l) m) := by
  unfold b__law_table_2b_2
  refine Go.forL (keysI l) PyData.int (fun pre δ => ∃ m y6, δ = [x0, x1, some (.fz (.dict (Own.dI l).kvs)), x3, x4, some (.ow (.dI m)), y6] ∧ nb y6 = true ∧ Lt (at0 l) pre m) (δ1 := [x0, x1, some (.fz (.dict (Own.dI l).kvs)), x3, x4, some (.ow (.dI [])), x6]) ?_ ⟨[], x6, rfl, h6, Lt.nil _⟩ (fun pre k post δ e ⟨m, y6, e1, n6, lt⟩ => ?_) fun _ h => h
  · show dDKeys 2 _ = _
    simp [dDKeys, keysI]
  · subst e1
    refine ⟨_, by simp only [tgName_eq, List.getElem?_cons_succ, List.getElem?_cons_zero, if_true, List.set_cons_succ, List.set_cons_zero, Int.zero_add, n6]; rfl, ?_⟩
    have hk : k ∈ keysI l := by rw [e]; simp
    have nd := h.nd
    rw [e, List.nodup_append] at nd
    have hkp : k ∉ pre := fun z => nd.2.2 k z k List.mem_cons_self rfl
    obtain ⟨v, ev, ea⟩ := h.getI hk
    have hlen := lt.room (j := j) fun x hx => h.rng x (by rw [e]; simp [hx])
    have st := lt.step hkp
    rw [ea] at st
    exact .one (inner_turn ev (by omega)) ⟨_, _, rfl, rfl, st⟩
theorem Pr.nil {l : Dct} (h : (keysI l).Nodup) (big : Int → Prop) : Pr l big [] l := ⟨h, fun x => ⟨fun z => (by cases z.1), fun _ => rfl⟩⟩
theorem big_test {x1 x2 x4 x5 : Option DV} {zo zj k : Int} (hz : 0 ≤ zo ∧ zo ≤ 9) : (dTest (toL (toV (dOp gGt (toL (toV (dOp gMul (dLate 6) (dLate 0)))) (toL (toV (dOp gAdd (dLate 3) (toL (dC (.int 1)))))))))) [some (.fz (.int zo)), x1, x2, some (.fz (.int zj)), x4, x5, some (.fz (.int k))] =
    some (decide (zj + 1 < k * zo), [some (.fz (.int zo)), x1, x2, some (.fz (.int zj)), x4, x5, some (.fz (.int k))]) := by
  have m : gMul (.int k) (.int zo) = some (.fz (.int (k * zo))) := gMul_int (okMul_rs (by omega) (by omega))
  simp [dTest, toL, toV, dOp, dLate, dC, LV.get, slotD, DV.dat, m]
theorem mem_srt' {ns : List Int} {k : Int} : k ∈ sortI ns ↔ k ∈ ns := (srt_perm ns).mem_iff
theorem pop_loop {l : Dct} (hn : (keysI l).Nodup) (hlen : l.length ≤ 1000) {zo zj : Int} (hz : 0 ≤ zo ∧ zo ≤ 9) {x1 x4 x6 : Option DV} (h6 : nb x6 = true) :
    Go (sFor (dIter (toV (dDSort 2))) (tgName 6) (sIf (dTest (toL (toV (dOp gGt (toL (toV (dOp gMul (dLate 6) (dLate 0)))) (toL (toV (dOp gAdd (dLate 3) (toL (dC (.int 1)))))))))) (sDrop (ofV (dDPop 2 (dVar 6)))) sNext)) [some (.fz (.int zo)), x1, some (.ow (.dI l)), some (.fz (.int zj)), x4, none, x6]
      (fun δ => ∃ r y6, δ = [some (.fz (.int zo)), x1, some (.ow (.dI r)), some (.fz (.int zj)), x4, none, y6] ∧ nb y6 = true ∧ Pr l (fun k => zj + 1 < k * zo) (sortI (keysI l)) r) := by
  have nd2 : (sortI (keysI l)).Nodup := (srt_perm _).nodup_iff.mpr hn
  refine Go.forL (sortI (keysI l)) PyData.int (fun pre δ => ∃ r y6, δ = [some (.fz (.int zo)), x1, some (.ow (.dI r)), some (.fz (.int zj)), x4, none, y6] ∧ nb y6 = true ∧ Pr l (fun k => zj + 1 < k * zo) pre r)
    (δ1 := [some (.fz (.int zo)), x1, some (.ow (.dI l)), some (.fz (.int zj)), x4, none, x6]) ?_ ⟨l, x6, rfl, h6, Pr.nil hn _⟩ (fun pre k post δ e ⟨r, y6, e1, n6, pr⟩ => ?_) fun _ h => h
  · have e : dDSort 2 [some (.fz (.int zo)), x1, some (.ow (.dI l)), some (.fz (.int zj)), x4, none, x6] = some (.mt ((sortI (keysI l)).map PyData.int), [some (.fz (.int zo)), x1, some (.ow (.dI l)), some (.fz (.int zj)), x4, none, x6]) := by
      unfold dDSort
      rw [dct_ow rfl]
      dsimp only
      rw [if_pos (show l.length ≤ LIM by unfold LIM; omega)]
      rfl
    simp [dIter, toV, e, itemsD]
  · subst e1
    refine ⟨_, by simp only [tgName_eq, List.getElem?_cons_succ, List.getElem?_cons_zero, if_true, List.set_cons_succ, List.set_cons_zero, Int.zero_add, n6]; rfl, ?_⟩
    have hk : k ∈ keysI l := mem_srt'.mp (by rw [e]; simp)
    rw [e, List.nodup_append] at nd2
    have hkp : k ∉ pre := fun z => nd2.2.2 k z k List.mem_cons_self rfl
    by_cases hb : zj + 1 < k * zo
    · refine .iff_t ((big_test hz).trans (by rw [decide_eq_true hb])) ?_
      obtain ⟨v, ev⟩ : ∃ v, getI r k = some v := by
        rw [(pr.get k).2 fun z => hkp z.1]
        cases e2 : getI l k with
        | none => exact absurd hk (getI_none.mp e2)
        | some v => exact ⟨v, rfl⟩
      refine .one (δ1 := [some (.fz (.int zo)), x1, some (.ow (.dI (delI r k))), some (.fz (.int zj)), x4, none, some (.fz (.int k))]) ?_ ⟨_, _, rfl, rfl, pr.yes hb⟩
      unfold sDrop
      rw [ofV_run (pop_run (dct_ow rfl) (var_int rfl) rfl ev)]
      rfl
    · refine .iff_f ((big_test hz).trans (by rw [decide_eq_false hb])) (.one rfl ⟨_, _, rfl, rfl, pr.no hb⟩)
/-- the table after one item -/
theorem Tb.next {o : Nat} {ps : List Int} {j : Nat} {l m : Dct} (h : Tb o ps j l) (lt : Lt (at0 l) (keysI l) m) : (∀ x ∈ keysI m, 0 ≤ x ∧ x ≤ j + 1) ∧ ∀ s : Nat, at0 m (s : Int) = ((tab o ps j s + (if s = 0 then 0 else tab o ps j (s - 1)) : Nat) : Int) := by
  refine ⟨fun x hx => ?_, fun s => ?_⟩
  · rcases (lt.key x).mp hx with h1 | h1
    · have := h.rng x h1
      omega
    · have := h.rng _ h1
      omega
  · rw [lt.val]
    have e1 : ∀ x : Int, (if x ∈ keysI l then at0 l x else 0) = at0 l x := fun x => by
      split
      · rfl
      · rename_i hx
        rw [at0_key hx]
    rw [e1, e1, h.look]
    by_cases hs : s = 0
    · subst hs
      have : at0 l (((0 : Nat) : Int) - 1) = 0 := at0_key fun z => by have := h.rng _ z; omega
      rw [this]
      simp
    · rw [if_neg hs, show ((s : Nat) : Int) - 1 = ((s - 1 : Nat) : Int) by omega, h.look]
      simp
theorem Tb.keep {o : Nat} {ps : List Int} {j : Nat} {l m : Dct} (h : Tb o ps j l) (lt : Lt (at0 l) (keysI l) m) (he : isEnd ps (j + 1) = false) : Tb o ps (j + 1) m := by
  obtain ⟨h1, h2⟩ := h.next lt
  exact ⟨lt.nd, h1, fun s => by rw [h2, tab, he]; simp⟩
theorem Tb.cut {o : Nat} {ps : List Int} {j : Nat} {l m r : Dct} (h : Tb o ps j l) (lt : Lt (at0 l) (keysI l) m) (he : isEnd ps (j + 1) = true) (pr : Pr m (fun k => (j : Int) + 1 < k * (o : Int)) (sortI (keysI m)) r) : Tb o ps (j + 1) r := by
  obtain ⟨h1, h2⟩ := h.next lt
  have sub : ∀ x ∈ keysI r, x ∈ keysI m := fun x hx => Classical.byContradiction fun hn => by
    have e := (pr.get x).2 fun z => hn (mem_srt'.mp z.1)
    rw [getI_none.mpr hn] at e
    exact getI_none.mp e hx
  refine ⟨pr.nd, fun x hx => h1 x (sub x hx), fun s => ?_⟩
  rw [tab]
  by_cases hb : j + 1 < s * o
  · have hb' : (j : Int) + 1 < ((s : Nat) : Int) * (o : Int) := by rw [← Int.natCast_mul]; omega
    rw [if_pos ⟨he, hb⟩]
    by_cases hk : ((s : Nat) : Int) ∈ keysI m
    · unfold at0
      rw [(pr.get _).1 ⟨mem_srt'.mpr hk, hb'⟩]
      rfl
    · exact at0_key fun z => hk (sub _ z)
  · have hb' : ¬ (j : Int) + 1 < ((s : Nat) : Int) * (o : Int) := by rw [← Int.natCast_mul]; omega
    rw [if_neg fun z => hb z.2, ← h2]
    unfold at0
    rw [(pr.get _).2 fun z => hb' z.2]
theorem gIx_at {ps : List Int} {j : Nat} (h : j < ps.length) : gIx (ti ps) (.int (j : Nat)) = some (.fz (.int ps[j])) := by
  have e : atD (intz ps) ((j : Nat) : Int) = some (.int ps[j]) := by rw [atD_nat, ints_get, List.getElem?_eq_getElem h]; rfl
  simp only [gIx, e]
/-- the test behind an item -/
theorem end_test {ps : List Int} {zj p n : Int} {b : Bool} {x0 x2 x5 x6 : Option DV} (hn : gLen [ti ps] = some (.fz (.int n))) (hb : (zj + 1 = n → b = true) ∧ (zj + 1 ≠ n → ∃ q, gIx (ti ps) (.int (zj + 1)) = some (.fz (.int q)) ∧ b = !decide (q = p))) :
    (dOr (dTest (toL (toV (dOp gEq (toL (toV (dOp gAdd (dLate 3) (toL (dC (.int 1)))))) (toL (toV (dCB gLen (lCons (dLate 1) lNil)))))))) (dTest (toL (toV (dOp gNe (toL (toV (dOp gIx (dLate 1) (toL (toV (dOp gAdd (dLate 3) (toL (dC (.int 1))))))))) (dLate 4))))))
      [x0, some (.fz (ti ps)), x2, some (.fz (.int zj)), some (.fz (.int p)), x5, x6] = some (b, [x0, some (.fz (ti ps)), x2, some (.fz (.int zj)), some (.fz (.int p)), x5, x6]) := by
  by_cases h : zj + 1 = n
  · rw [hb.1 h]
    simp [dOr, fnOf, DL.start, sSeq, sIf, sAsg_eq, sAsgT, sSet, sRet, sDrop, sRaise, sCallX, sNext, sBreak, sCont, sPar, sPar3, notBr_eq, dTest, dTruthy, toL, toV, ofV, dOp, dUn, dUnE, dC, dLate, dVar, LV.get, slotD, DV.dat, dTup, dLst, aNil, aCons, lNil, lCons, getAll, dCB, dCall, dCallB, dAnd, dOr, dNot, dOfT, dIf, dChain, dMut, isLs, lentOf, tgName_eq, tgNil, tgCons, tgTup, dRange1, dRange2, dIter, itemsD, dYes, LIM, two62, p64, hn, h]
  · obtain ⟨q, hq, e⟩ := hb.2 h
    rw [e]
    simp [dOr, fnOf, DL.start, sSeq, sIf, sAsg_eq, sAsgT, sSet, sRet, sDrop, sRaise, sCallX, sNext, sBreak, sCont, sPar, sPar3, notBr_eq, dTest, dTruthy, toL, toV, ofV, dOp, dUn, dUnE, dC, dLate, dVar, LV.get, slotD, DV.dat, dTup, dLst, aNil, aCons, lNil, lCons, getAll, dCB, dCall, dCallB, dAnd, dOr, dNot, dOfT, dIf, dChain, dMut, isLs, lentOf, tgName_eq, tgNil, tgCons, tgTup, dRange1, dRange2, dIter, itemsD, dYes, LIM, two62, p64, hn, h, hq]
theorem isEnd_val {ps : List Int} {j : Nat} (h : j < ps.length) : (((j : Nat) : Int) + 1 = (ps.length : Int) → isEnd ps (j + 1) = true) ∧ (((j : Nat) : Int) + 1 ≠ (ps.length : Int) → ∃ q, gIx (ti ps) (.int (((j : Nat) : Int) + 1)) = some (.fz (.int q)) ∧ isEnd ps (j + 1) = !decide (q = ps[j])) := by
  refine ⟨fun e => ?_, fun e => ?_⟩
  · have e : j + 1 = ps.length := by omega
    unfold isEnd
    simp [e]
  · have h1 : j + 1 < ps.length := by omega
    refine ⟨ps[j + 1], gIx_at h1, ?_⟩
    unfold isEnd
    rw [Nat.add_sub_cancel, List.getElem?_eq_getElem h1, List.getElem?_eq_getElem h]
    have e2 : ¬ j + 1 = ps.length := by omega
    by_cases e3 : ps[j + 1] = ps[j]
    · simp [e2, e3]
    · simp [e2, e3]
theorem table_turn {o : Nat} (ho : o ≤ 9) {ps : List Int} {j : Nat} (hj : j < ps.length) (hl : ps.length ≤ 30) {l : Dct} (h : Tb o ps j l) {x6 : Option DV} (h6 : nb x6 = true) :
    Go b__law_table_2b [some (.fz (.int o)), some (.fz (ti ps)), some (.ow (.dI l)), some (.fz (.int j)), some (.fz (.int ps[j])), none, x6]
      (fun δ => ∃ r y6, δ = [some (.fz (.int o)), some (.fz (ti ps)), some (.ow (.dI r)), some (.fz (.int j)), some (.fz (.int ps[j])), none, y6] ∧ nb y6 = true ∧ Tb o ps (j + 1) r) := by
  have iv := isEnd_val hj
  have hn : gLen [ti ps] = some (.fz (.int ps.length)) := by rw [gLen_tuple, ints_len]
  generalize hp : ps[j] = p at *
  obtain ⟨zo, ezo⟩ : ∃ z : Int, z = (o : Int) := ⟨_, rfl⟩
  obtain ⟨zj, ezj⟩ : ∃ z : Int, z = (j : Int) := ⟨_, rfl⟩
  rw [← ezo, ← ezj]
  rw [← ezj] at iv
  refine .seq (a := b__law_table_2b_1) (δ1 := [some (.fz (.int zo)), some (.fz (ti ps)), some (.ow (.dI l)), some (.fz (.int zj)), some (.fz (.int p)), some (.ow (.dI [])), x6]) (sAsg_run (e := dD0) rfl rfl rfl) ?_
  refine .sq (a := b__law_table_2b_2) (inner_loop h (by omega) h6) fun δ ⟨m, y6, e, n6, lt⟩ => ?_
  subst e
  refine .seq (a := b__law_table_2b_3) (δ1 := [some (.fz (.int zo)), some (.fz (ti ps)), some (.ow (.dI m)), some (.fz (.int zj)), some (.fz (.int p)), none, y6]) rfl ?_
  cases he : isEnd ps (j + 1) with
  | true =>
    rw [he] at iv
    refine .iff_t (end_test hn iv) ?_
    have hm := lt.room (j := j) h.rng
    refine (pop_loop lt.nd (by omega) (by omega) n6).imp fun δ ⟨r, z6, e, m6, pr⟩ => ⟨r, z6, e, m6, ?_⟩
    rw [ezo, ezj] at pr
    exact h.cut lt he pr
  | false =>
    rw [he] at iv
    exact .iff_f (end_test hn iv) (.one rfl ⟨m, y6, rfl, n6, h.keep lt he⟩)
theorem enum_pairs (ps : List Int) : enumD 0 (intz ps) = (List.range ps.length).map fun j => pairD (.int (j : Nat)) (.int (ps.getD j 0)) := by
  refine List.ext_getElem? fun i => ?_
  rw [List.getElem?_map]
  have H : ∀ (l : List Int) (k i : Nat), (enumD k (intz l))[i]? = (if i < l.length then some (pairD (.int ((k + i : Nat) : Int)) (.int (l.getD i 0))) else none) := by
    intro l
    induction l with
    | nil => intro k i; simp [enumD, ints_nil]
    | cons a l ih =>
      intro k i
      rw [ints_cons]
      unfold enumD
      cases i with
      | zero => simp
      | succ i =>
        rw [List.getElem?_cons_succ, ih]
        simp only [List.length_cons, List.getD_cons_succ]
        have e : k + 1 + i = k + (i + 1) := by omega
        rw [e]
        by_cases hi : i < l.length
        · rw [if_pos hi, if_pos (by omega)]
        · rw [if_neg hi, if_neg (by omega)]
  rw [H, Nat.zero_add]
  by_cases hi : i < ps.length
  · rw [if_pos hi, List.getElem?_range hi]
    rfl
  · rw [if_neg hi, List.getElem?_eq_none (by simpa using hi)]
    rfl
theorem table_spec {o : Nat} (ho : o ≤ 9) {ps : List Int} (hl : ps.length ≤ 30) : ∃ l, F__law_table [.fz (.int o), .fz (ti ps)] = some (.ret (.fz (.dict (Own.dI l).kvs)) []) ∧ Tb o ps ps.length l := by
  obtain ⟨r, b, e, l, er, eb, ht⟩ := fn_gives' (n := 7) (b := b__law_table) (args := [.fz (.int o), .fz (ti ps)]) (R := fun r b => ∃ l, r = .fz (.dict (Own.dI l).kvs) ∧ b = [] ∧ Tb o ps ps.length l) (by
    refine .seq (a := b__law_table_1) (δ1 := [some (.fz (.int o)), some (.fz (ti ps)), some (.ow (.dI [(0, 1)])), none, none, none, none]) (sAsg_run (e := dD1 0 1) rfl rfl rfl) ?_
    refine .sq (a := b__law_table_2) (P := fun δ => ∃ l x3 x4 x6, δ = [some (.fz (.int o)), some (.fz (ti ps)), some (.ow (.dI l)), x3, x4, none, x6] ∧ nb x3 = true ∧ nb x4 = true ∧ nb x6 = true ∧ Tb o ps ps.length l) ?_ fun δ ⟨l, x3, x4, x6, e, _, _, _, ht⟩ => ?_
    · unfold b__law_table_2
      refine Go.forL (List.range ps.length) (fun j => pairD (.int (j : Nat)) (.int (ps.getD j 0))) (fun pre δ => ∃ l x3 x4 x6, δ = [some (.fz (.int o)), some (.fz (ti ps)), some (.ow (.dI l)), x3, x4, none, x6] ∧ nb x3 = true ∧ nb x4 = true ∧ nb x6 = true ∧ Tb o ps pre.length l)
        (δ1 := [some (.fz (.int o)), some (.fz (ti ps)), some (.ow (.dI [(0, 1)])), none, none, none, none]) ?_ ⟨[(0, 1)], none, none, none, rfl, rfl, rfl, rfl, ?_⟩ (fun pre j post δ e ⟨l, x3, x4, x6, e1, n3, n4, n6, ht⟩ => ?_) fun δ ⟨l, x3, x4, x6, e1, n3, n4, n6, ht⟩ => ⟨l, x3, x4, x6, e1, n3, n4, n6, by rw [List.length_range] at ht; exact ht⟩
      · rw [← enum_pairs]
        rfl
      · refine ⟨by simp [keysI], fun x hx => ?_, fun s => ?_⟩
        · simp [keysI] at hx
          subst hx
          simp
        · unfold at0
          rw [getI_cons, getI_nil]
          show _ = ((if s = 0 then 1 else 0 : Nat) : Int)
          by_cases hs : s = 0
          · simp [hs]
          · have : ¬ (0 : Int) = (s : Int) := by omega
            simp [hs, this]
      · subst e1
        obtain ⟨ej, hj⟩ := range_at e
        rw [← ej] at ht
        refine ⟨[some (.fz (.int o)), some (.fz (ti ps)), some (.ow (.dI l)), some (.fz (.int j)), some (.fz (.int ps[j])), none, x6], ?_, ?_⟩
        · have : ps.getD j 0 = ps[j] := by rw [List.getD_eq_getElem?_getD, List.getElem?_eq_getElem hj]; rfl
          rw [this]
          simp [pairD, tgTup, tgCons, tgNil, tgName_eq, n3, n4]
        · refine (table_turn ho hj hl ht n6).imp fun δ ⟨r, y6, e2, m6, tb⟩ => ⟨r, _, _, y6, e2, rfl, rfl, m6, ?_⟩
          rw [List.length_append, List.length_singleton, ← ej]
          exact tb
    · subst e
      exact .one (a := b__law_table_3) (sRet_run (ofV_run rfl)) ⟨l, rfl, rfl, ht⟩)
  subst er eb
  exact ⟨l, e, ht⟩
/-! ### what the table tells -/
theorem nSet_pos {o : Nat} (ho : 2 ≤ o) {ps : List Int} (hB : Bk 1000000 ps) : 1 ≤ nSet o ps (ps.length / o) := by
  have H : ∀ s, s ≤ ps.length / o → ∃ r, It ps.length r ∧ fitsB o ps r = true ∧ r.length = s := by
    intro s
    induction s with
    | zero => exact fun _ => ⟨[], ⟨by simp, List.Pairwise.nil⟩, by unfold fitsB; simp, rfl⟩
    | succ s ih =>
      intro hs
      obtain ⟨r, h1, h2, h3⟩ := ih (by omega)
      have hj : joinI o ps r ≠ [] := fun e => by
        have := (join_full ho hB h1 h2).mp e
        omega
      obtain ⟨i, hi⟩ := List.exists_mem_of_ne_nil _ hj
      obtain ⟨⟨hr, hn⟩, hf⟩ := mem_join.mp hi
      exact ⟨withItem r i, it_with h1 hr hn, hf, by rw [with_len, h3]⟩
  obtain ⟨r, h1, h2, h3⟩ := H _ (Nat.le_refl _)
  unfold nSet
  rw [Nat.one_le_iff_ne_zero, ne_eq, List.countP_eq_zero]
  intro h
  exact h r (mem_subsL.mpr h1) (by simp [h2, h3])
theorem sum_nat {l : List Int} {g : Int → Int} {f : Nat → Nat} (h : ∀ x ∈ l, 0 ≤ x ∧ g x = ((f x.toNat : Nat) : Int)) : (l.map g).sum = ((((l.map Int.toNat).map f).sum : Nat) : Int) := by
  induction l with
  | nil => rfl
  | cons a l ih =>
    rw [List.map_cons, List.sum_cons, List.map_cons, List.map_cons, List.sum_cons, Int.natCast_add, ih fun x hx => h x (List.mem_cons_of_mem _ hx), (h a List.mem_cons_self).2]
theorem toNat_nodup : ∀ {l : List Int}, (∀ x ∈ l, 0 ≤ x) → l.Nodup → (l.map Int.toNat).Nodup
  | [], _, _ => List.nodup_nil
  | a :: l, h, hn => by
    rw [List.nodup_cons] at hn
    rw [List.map_cons, List.nodup_cons]
    refine ⟨fun hm => ?_, toNat_nodup (fun x hx => h x (List.mem_cons_of_mem _ hx)) hn.2⟩
    obtain ⟨b, hb, e⟩ := List.mem_map.mp hm
    have h1 := h a List.mem_cons_self
    have h2 := h b (List.mem_cons_of_mem _ hb)
    exact hn.1 ((show b = a by omega) ▸ hb)
theorem nSet_over {o : Nat} (ho : 1 ≤ o) {ps : List Int} (hB : Bk 1000000 ps) {s : Nat} (h : ps.length < s * o) : nSet o ps s = 0 := by
  rw [← tab_nSet ho hB.dec (fun p hp => (hB.rng p hp).1)]
  have hp := hB.pos
  obtain ⟨j, ej⟩ : ∃ j, ps.length = j + 1 := ⟨ps.length - 1, by omega⟩
  have he : isEnd ps (j + 1) = true := by unfold isEnd; simp [ej]
  rw [ej, tab, if_pos ⟨he, by omega⟩]
theorem tb_at {o : Nat} (ho : 1 ≤ o) {ps : List Int} (hB : Bk 1000000 ps) {l : Dct} (h : Tb o ps ps.length l) (s : Nat) : at0 l (s : Int) = ((nSet o ps s : Nat) : Int) := by
  rw [h.look, tab_nSet ho hB.dec fun p hp => (hB.rng p hp).1]
theorem tb_sum {o : Nat} (ho : 2 ≤ o) {ps : List Int} (hB : Bk 1000000 ps) {l : Dct} (h : Tb o ps ps.length l) : ((keysI l).map (at0 l)).sum = ((nAll o ps : Nat) : Int) := by
  have hr := h.rng
  rw [sum_nat (f := nSet o ps) fun x hx => ⟨(hr x hx).1, by
    rw [← tb_at (by omega) hB h, Int.toNat_of_nonneg (hr x hx).1]⟩, ← sum_keys (nSet o ps) (ps.length + 1) (toNat_nodup (fun x hx => (hr x hx).1) h.nd) fun k hk => by
      obtain ⟨x, hx, e⟩ := List.mem_map.mp hk
      have := hr x hx
      omega]
  have e1 : tot (fun s => if s ∈ (keysI l).map Int.toNat then nSet o ps s else 0) (ps.length + 1) = tot (nSet o ps) (ps.length + 1) := tot_congr fun s _ => by
    split
    · rfl
    · rename_i hs
      have : ((s : Nat) : Int) ∉ keysI l := fun z => hs (List.mem_map.mpr ⟨_, z, by simp⟩)
      have h0 := at0_key this
      rw [tb_at (by omega) hB h] at h0
      omega
  rw [e1, ← tot_nSet hB.pos, tot_ext (n := ps.length / o + 1) (by have := Nat.div_le_self ps.length o; omega) fun t h1 _ => nSet_over (by omega) hB ?_]
  have := (Nat.div_lt_iff_lt_mul (show 0 < o by omega)).mp (show ps.length / o < t by omega)
  exact this
theorem tb_full {o : Nat} (ho : 2 ≤ o) {ps : List Int} (hB : Bk 1000000 ps) {l : Dct} (h : Tb o ps ps.length l) : getI l ((ps.length / o : Nat) : Int) = some ((nSet o ps (ps.length / o) : Nat) : Int) := by
  have h1 := tb_at (by omega) hB h (ps.length / o)
  have h2 := nSet_pos ho hB
  unfold at0 at h1
  cases e : getI l ((ps.length / o : Nat) : Int) with
  | none =>
    rw [e] at h1
    simp at h1
    omega
  | some v =>
    rw [e] at h1
    simp at h1
    rw [h1]
theorem choose_spec {n k : Nat} (hn : n ≤ 1000) (hk : k ≤ n) : F__law_choose [.fz (.int (n : Nat)), .fz (.int (k : Nat))] = some (.ret (.fz (.int ((ch n k : Nat) : Int))) []) := by
  have e : F__law_choose = F_binomial := rfl
  rw [e]
  exact binomial_spec hn hk
/-! ### the law -/
theorem if_no {c : ET} {a : SM} {δ : Sl} (h : c δ = some (false, δ)) : sIf c a sNext δ = some (.nx δ) := by simp only [sIf, h, sNext]
theorem sets_ne (Φ : Fn) {C : EE} {xs : Sl} {a b : D} {c : Int} {ns : List Int} (h4 : xs[4]? = some (some (.fz a))) (h5 : xs[5]? = some (some (.fz b))) (f : Φ [.fz b, .fz a] = some (.ret (.fz (.int c)) [])) (hC : C xs = some (.mt (intz ns), xs)) (hs : ns.sum = c) :
    dTest (toL (toV (dOp gNe (toL (toV (dCall Φ (aCons (dVar 5) (aCons (dVar 4) aNil))))) (toL (toV (dCB gSum (lCons (toL (toV C)) lNil))))))) xs = some (false, xs) := by
  subst hs
  simp [fnOf, DL.start, sSeq, sIf, sAsg_eq, sAsgT, sSet, sRet, sDrop, sRaise, sCallX, sNext, sBreak, sCont, sPar, sPar3, notBr_eq, dTest, dTruthy, toL, toV, ofV, dOp, dUn, dUnE, dC, dLate, dVar, LV.get, slotD, DV.dat, dTup, dLst, aNil, aCons, lNil, lCons, getAll, dCB, dCall, dCallB, dAnd, dOr, dNot, dOfT, dIf, dChain, dMut, isLs, lentOf, tgName_eq, tgNil, tgCons, tgTup, dIter, itemsD, dYes, LIM, h4, h5, f, hC]
theorem full_ne (Φ : Fn) {C : EV} {xs : Sl} {a b : D} {c : Int} (h4 : xs[4]? = some (some (.fz a))) (h5 : xs[5]? = some (some (.fz b))) (f : Φ [.fz b, .fz a] = some (.ret (.fz (.int c)) [])) (hC : C xs = some (.int c, xs)) :
    dTest (toL (toV (dOp gNe (toL (toV (dCall Φ (aCons (dVar 5) (aCons (dVar 4) aNil))))) (toL C)))) xs = some (false, xs) := by
  simp [fnOf, DL.start, sSeq, sIf, sAsg_eq, sAsgT, sSet, sRet, sDrop, sRaise, sCallX, sNext, sBreak, sCont, sPar, sPar3, notBr_eq, dTest, dTruthy, toL, toV, ofV, dOp, dUn, dUnE, dC, dLate, dVar, LV.get, slotD, DV.dat, dTup, dLst, aNil, aCons, lNil, lCons, getAll, dCB, dCall, dCallB, dAnd, dOr, dNot, dOfT, dIf, dChain, dMut, isLs, lentOf, tgName_eq, tgNil, tgCons, tgTup, dIter, itemsD, dYes, LIM, h4, h5, f, hC]
theorem part_run {xs : Sl} {ps : List Int} {zo q : Int} (h4 : xs[4]? = some (some (.fz (ti ps)))) (h5 : xs[5]? = some (some (.fz (.int zo)))) (hd : gDivI (.int ps.length) (.int zo) = some (.fz (.int q))) : toV (dOp gDivI (toL (toV (dCB gLen (lCons (dLate 4) lNil)))) (dLate 5)) xs = some (.int q, xs) := by
  simp [fnOf, DL.start, sSeq, sIf, sAsg_eq, sAsgT, sSet, sRet, sDrop, sRaise, sCallX, sNext, sBreak, sCont, sPar, sPar3, notBr_eq, dTest, dTruthy, toL, toV, ofV, dOp, dUn, dUnE, dC, dLate, dVar, LV.get, slotD, DV.dat, dTup, dLst, aNil, aCons, lNil, lCons, getAll, dCB, dCall, dCallB, dAnd, dOr, dNot, dOfT, dIf, dChain, dMut, isLs, lentOf, tgName_eq, tgNil, tgCons, tgTup, dIter, itemsD, dYes, LIM, h4, h5, hd]
theorem div_nat {o n : Nat} (h1 : 1 ≤ o) (h2 : o ≤ 9) : gDivI (.int (n : Nat)) (.int (o : Nat)) = some (.fz (.int ((n / o : Nat) : Int))) := by
  rw [gDivI_int (by omega) (by omega), Int.natCast_ediv]
theorem turn_body {ns : List Int} {k j : Nat} {b : List D} {xs : List (Option DV)} (hb : Bag b) (hl : xs.length = 9) (ha : xs.all nb = true) (hc : calms [4, 7, 8, 9] (some (.fz (.int (j : Nat))) :: xs) = true) :
    Go b_law_1b_2b (some (.fz (scrD ns)) :: some (.fz (.int (k : Nat))) :: some (.mt b) :: some (.fz (.int (j : Nat))) :: xs) (fun δ => InvB 10 [4, 7, 8, 9] ns k δ ∧ ∃ o : Nat, δ[5]? = some (some (.fz (.int (o : Nat)))) ∧ 2 ≤ o ∧ o ≤ 9) := by
  obtain ⟨x4, tt4, rfl, qq4⟩ := open1 hl; obtain ⟨x5, tt5, rfl, qq5⟩ := open1 qq4; obtain ⟨x6, tt6, rfl, qq6⟩ := open1 qq5; obtain ⟨x7, tt7, rfl, qq7⟩ := open1 qq6; obtain ⟨x8, tt8, rfl, qq8⟩ := open1 qq7; obtain ⟨x9, tt9, rfl, qq9⟩ := open1 qq8; obtain ⟨x10, tt10, rfl, qq10⟩ := open1 qq9; obtain ⟨x11, tt11, rfl, qq11⟩ := open1 qq10; obtain ⟨x12, tt12, rfl, qq12⟩ := open1 qq11; obtain rfl := List.eq_nil_of_length_eq_zero qq12; clear qq4 qq5 qq6 qq7 qq8 qq9 qq10 qq11 qq12
  simp [calms] at ha hc
  obtain ⟨h4, h5, h6, h7, h8, h9, h10, h11, h12⟩ := ha
  obtain ⟨c7, c10, c11, c12⟩ := hc
  generalize ezk : ((k : Nat) : Int) = zk at *
  generalize ezj : ((j : Nat) : Int) = zj at *
  obtain ⟨d, b1, e1, hd, hb1⟩ := of_spec hb (ds := intz [3, 30, 1000000]) (ints_ne (by simp)) (by simp)
  obtain ⟨hi, hh, rfl⟩ := mem_ints hd
  have hok : okB hi ∧ 1 ≤ hi ∧ hi ≤ 1000000 := by
    simp at hh
    unfold okB
    omega
  obtain ⟨ps, b2, e2, hb2, hB', lB⟩ := basket_spec hb1 (most := 30) ⟨by decide, by decide⟩ (by decide) hok.1
  have hB : Bk 1000000 ps := bk_mono hB' hok.2.2
  have l30 : ps.length ≤ 30 := by omega
  obtain ⟨zo, b3, e3, hb3, o1, o2⟩ := offer_spec hb2
  simp only [ints_cons, ints_nil] at e1
  refine .seq (by simp [b_law_1b_2b_1, DL.start, fnOf, DL.start, sSeq, sIf, sAsg_eq, sAsgT, sSet, sRet, sDrop, sRaise, sCallX, sNext, sBreak, sCont, sPar, sPar3, notBr_eq, dTest, dTruthy, toL, toV, ofV, dOp, dUn, dUnE, dC, dLate, dVar, LV.get, slotD, DV.dat, dTup, dLst, aNil, aCons, lNil, lCons, getAll, dCB, dCall, dCallB, dAnd, dOr, dNot, dOfT, dIf, dChain, dMut, isLs, lentOf, tgName_eq, tgNil, tgCons, tgTup, dIter, itemsD, dYes, LIM, e1, e2, e3, h4, h5, pow_6] <;> rfl) ?_
  obtain ⟨o, eo⟩ := Int.eq_ofNat_of_zero_le (show 0 ≤ zo by omega)
  have o1' : 2 ≤ o := by omega
  have o2' : o ≤ 9 := by omega
  obtain ⟨l, et, tb⟩ := table_spec o2' l30
  have f1 := count_sets_spec o1' o2' hB l30
  have f2 := count_full_spec o1' o2' hB l30
  have sm := tb_sum o1' hB tb
  have fu := tb_full o1' hB tb
  have dv := div_nat (n := ps.length) (show 1 ≤ o by omega) o2'
  have hrng := tb.rng
  have hnd := tb.nd
  have hlen : l.length ≤ 1000 := by
    have := nodup_rng hnd (a := 0) (n := ps.length + 1) fun x hx => by have := hrng x hx; omega
    rw [len_keys] at this
    omega
  rw [← eo] at et f1 f2 dv
  generalize ((nAll o ps : Nat) : Int) = NA at *
  generalize ((nSet o ps (ps.length / o) : Nat) : Int) = NF at *
  generalize ((ps.length / o : Nat) : Int) = Q at *
  refine .seq (by simp [b_law_1b_2b_2, DL.start, fnOf, DL.start, sSeq, sIf, sAsg_eq, sAsgT, sSet, sRet, sDrop, sRaise, sCallX, sNext, sBreak, sCont, sPar, sPar3, notBr_eq, dTest, dTruthy, toL, toV, ofV, dOp, dUn, dUnE, dC, dLate, dVar, LV.get, slotD, DV.dat, dTup, dLst, aNil, aCons, lNil, lCons, getAll, dCB, dCall, dCallB, dAnd, dOr, dNot, dOfT, dIf, dChain, dMut, isLs, lentOf, tgName_eq, tgNil, tgCons, tgTup, dIter, itemsD, dYes, LIM, et, h6] <;> rfl) ?_
  refine .seq (a := b_law_1b_2b_3) (if_no (sets_ne F_count_sets (ns := (sortI (keysI l)).map (at0 l)) rfl rfl f1 ?_ ?_)) ?_
  · have e : (intz ((sortI (keysI l)).map (at0 l))) = (sortI (keysI l)).map fun x => PyData.int (at0 l x) := by simp [intz]
    rw [e]
    refine dComp_map PyData.int (fun x => .int (at0 l x)) (sortI (keysI l)) ?_ rfl c7 (lim_of ?_) fun x hx => ?_
    · have e : dDSort 6 [some (.fz (scrD ns)), some (.fz (.int zk)), some (.mt b3), some (.fz (.int zj)), some (.fz (ti ps)), some (.fz (.int zo)), some (.fz (.dict (Own.dI l).kvs)), x7, x8, x9, x10, x11, x12] = some (.mt ((sortI (keysI l)).map PyData.int), [some (.fz (scrD ns)), some (.fz (.int zk)), some (.mt b3), some (.fz (.int zj)), some (.fz (ti ps)), some (.fz (.int zo)), some (.fz (.dict (Own.dI l).kvs)), x7, x8, x9, x10, x11, x12]) := by
        unfold dDSort
        rw [dct_fz rfl]
        dsimp only
        rw [if_pos (show l.length ≤ LIM by unfold LIM; omega)]
        rfl
      simp [dIter, toV, e, itemsD]
    · rw [(srt_perm _).length_eq, len_keys]
      exact hlen
    · obtain ⟨v, e1, e2⟩ := tb.getI (mem_srt'.mp hx)
      rw [e2]
      exact ix_run rfl (var_int rfl) (dct_fz rfl) e1
  · rw [perm_sum ((srt_perm (keysI l)).map _), sm]
  refine .one (a := b_law_1b_2b_4) (if_no (full_ne F_count_full rfl rfl f2 (ix_run rfl (part_run rfl rfl dv) (dct_fz rfl) fu))) ?_
  rw [← ezk]
  exact ⟨⟨_, _, rfl, hb3, rfl, by simp [h7, h8, h9, h10, h11, h12], by simp [calms, c7, c10, c11, c12]⟩, o, by rw [eo]; rfl, o1', o2'⟩
def unl (n : Nat) : List Int := (upto n).map fun a => 1000 - 3 * a
theorem unl_len (n : Nat) : (unl n).length = n := by unfold unl; rw [List.length_map, upto_len]
theorem bk_unl {n : Nat} (h1 : 1 ≤ n) (h2 : n ≤ 30) : Bk 1000000 (unl n) := by
  refine ⟨by rw [unl_len]; exact h1, fun p hp => ?_, ?_⟩
  · obtain ⟨a, ha, rfl⟩ := List.mem_map.mp hp
    have := mem_upto.mp ha
    omega
  · unfold unl upto
    rw [List.map_map, List.pairwise_map]
    refine List.pairwise_lt_range.imp fun {a b} h => ?_
    simp only [Function.comp]
    omega
theorem either_ne (Φ Ψ : Fn) {xs : Sl} {a : D} {zo n q c e : Int} {l : Dct} (h7 : xs[7]? = some (some (.fz (.int n)))) (h8 : xs[8]? = some (some (.fz a))) (h5 : xs[5]? = some (some (.fz (.int zo)))) (h9 : xs[9]? = some (some (.fz (.dict (Own.dI l).kvs))))
    (f : Φ [.fz (.int zo), .fz a] = some (.ret (.fz (.int c)) [])) (g : Ψ [.fz (.int zo), .fz a] = some (.ret (.fz (.int e)) [])) (hd : gDivI (.int n) (.int zo) = some (.fz (.int q))) (hq : getI l q = some c) (hs : (l.map (·.2)).sum = e) :
    (dOr (dTest (toL (toV (dOp gNe (toL (toV (dCall Φ (aCons (dVar 5) (aCons (dVar 8) aNil))))) (toL (dDIx 9 (toV (dOp gDivI (dLate 7) (dLate 5))))))))) (dTest (toL (toV (dOp gNe (toL (toV (dCall Ψ (aCons (dVar 5) (aCons (dVar 8) aNil))))) (toL (toV (dDSum 9)))))))) xs = some (false, xs) := by
  have e1 : toV (dOp gDivI (dLate 7) (dLate 5)) xs = some (.int q, xs) := by simp [fnOf, DL.start, sSeq, sIf, sAsg_eq, sAsgT, sSet, sRet, sDrop, sRaise, sCallX, sNext, sBreak, sCont, sPar, sPar3, notBr_eq, dTest, dTruthy, toL, toV, ofV, dOp, dUn, dUnE, dC, dLate, dVar, LV.get, slotD, DV.dat, dTup, dLst, aNil, aCons, lNil, lCons, getAll, dCB, dCall, dCallB, dAnd, dOr, dNot, dOfT, dIf, dChain, dMut, isLs, lentOf, tgName_eq, tgNil, tgCons, tgTup, dIter, itemsD, dYes, LIM, h7, h5, hd]
  have e2 := ix_run h9 e1 (dct_fz h9) hq
  have e3 : dDSum 9 xs = some (.fz (.int e), xs) := by
    unfold dDSum
    rw [dct_fz h9]
    dsimp only
    rw [hs]
  simp [fnOf, DL.start, sSeq, sIf, sAsg_eq, sAsgT, sSet, sRet, sDrop, sRaise, sCallX, sNext, sBreak, sCont, sPar, sPar3, notBr_eq, dTest, dTruthy, toL, toV, ofV, dOp, dUn, dUnE, dC, dLate, dVar, LV.get, slotD, DV.dat, dTup, dLst, aNil, aCons, lNil, lCons, getAll, dCB, dCall, dCallB, dAnd, dOr, dNot, dOfT, dIf, dChain, dMut, isLs, lentOf, tgName_eq, tgNil, tgCons, tgTup, dIter, itemsD, dYes, LIM, h5, h8, f, g, e2, e3]
theorem same_ne (Φ Ψ : Fn) {xs : Sl} {a : D} {zo n q c : Int} (h7 : xs[7]? = some (some (.fz (.int n)))) (h5 : xs[5]? = some (some (.fz (.int zo)))) (hm : gMul (.tuple [.int 7]) (.int n) = some (.fz a))
    (f : Φ [.fz (.int zo), .fz a] = some (.ret (.fz (.int c)) [])) (hd : gDivI (.int n) (.int zo) = some (.fz (.int q))) (g : Ψ [.fz (.int n), .fz (.int q)] = some (.ret (.fz (.int c)) [])) :
    (dTest (toL (toV (dOp gNe (toL (toV (dCall Φ (aCons (dVar 5) (aCons (toV (dOp gMul (toL (dTup (aCons (dC (.int 7)) aNil))) (dLate 7))) aNil))))) (toL (toV (dCall Ψ (aCons (dVar 7) (aCons (toV (dOp gDivI (dLate 7) (dLate 5))) aNil))))))))) xs = some (false, xs) := by
  simp [fnOf, DL.start, sSeq, sIf, sAsg_eq, sAsgT, sSet, sRet, sDrop, sRaise, sCallX, sNext, sBreak, sCont, sPar, sPar3, notBr_eq, dTest, dTruthy, toL, toV, ofV, dOp, dUn, dUnE, dC, dLate, dVar, LV.get, slotD, DV.dat, dTup, dLst, aNil, aCons, lNil, lCons, getAll, dCB, dCall, dCallB, dAnd, dOr, dNot, dOfT, dIf, dChain, dMut, isLs, lentOf, tgName_eq, tgNil, tgCons, tgTup, dIter, itemsD, dYes, LIM, h7, h5, hm, f, hd, g]
theorem k_body {ns : List Int} {k : Nat} {δ : Sl} (h : InvB 10 [4, 7, 8, 9] ns k δ) : Go (sSeq b_law_1b_2 (sSeq b_law_1b_3 (sSeq b_law_1b_4 (sSeq b_law_1b_5 (sSeq b_law_1b_6 b_law_1b_7))))) δ (Inv1 10 [4, 7, 8, 9] ns) := by
  refine .sq (turn_loop2 (m := 3) (by decide) (by decide) (fun δ => ∃ o : Nat, δ[5]? = some (some (.fz (.int (o : Nat)))) ∧ 2 ≤ o ∧ o ≤ 9) h (by decide) fun j b xs hb hl h1 h2 => turn_body hb hl h1 h2) fun δ ⟨⟨b, xs, e, hb, hl, ha, hc⟩, o, e5, o1, o2⟩ => ?_
  subst e
  obtain ⟨x3, tt3, rfl, qq3⟩ := open1 hl; obtain ⟨x4, tt4, rfl, qq4⟩ := open1 qq3; obtain ⟨x5, tt5, rfl, qq5⟩ := open1 qq4; obtain ⟨x6, tt6, rfl, qq6⟩ := open1 qq5; obtain ⟨x7, tt7, rfl, qq7⟩ := open1 qq6; obtain ⟨x8, tt8, rfl, qq8⟩ := open1 qq7; obtain ⟨x9, tt9, rfl, qq9⟩ := open1 qq8; obtain ⟨x10, tt10, rfl, qq10⟩ := open1 qq9; obtain ⟨x11, tt11, rfl, qq11⟩ := open1 qq10; obtain ⟨x12, tt12, rfl, qq12⟩ := open1 qq11; obtain rfl := List.eq_nil_of_length_eq_zero qq12; clear qq3 qq4 qq5 qq6 qq7 qq8 qq9 qq10 qq11 qq12
  simp [calms] at ha hc e5
  subst e5
  obtain ⟨h3, h4, h5, h6, h7, h8, h9, h10, h11, h12⟩ := ha
  obtain ⟨c7, c10, c11, c12⟩ := hc
  generalize ezk : ((k : Nat) : Int) = zk at *
  obtain ⟨r, b1, e1, r0, r1, hb1⟩ := take_spec hb (c := 30) (by decide) (by decide)
  obtain ⟨n, en⟩ : ∃ n : Nat, 1 + r = (n : Int) := ⟨(1 + r).toNat, by omega⟩
  have n1 : 1 ≤ n := by omega
  have n2 : n ≤ 30 := by omega
  refine .seq (by simp [b_law_1b_3, DL.start, fnOf, DL.start, sSeq, sIf, sAsg_eq, sAsgT, sSet, sRet, sDrop, sRaise, sCallX, sNext, sBreak, sCont, sPar, sPar3, notBr_eq, dTest, dTruthy, toL, toV, ofV, dOp, dUn, dUnE, dC, dLate, dVar, LV.get, slotD, DV.dat, dTup, dLst, aNil, aCons, lNil, lCons, getAll, dCB, dCall, dCallB, dAnd, dOr, dNot, dOfT, dIf, dChain, dMut, isLs, lentOf, tgName_eq, tgNil, tgCons, tgTup, dIter, itemsD, dYes, LIM, e1, h7, en] <;> rfl) ?_
  have hU := bk_unl n1 n2
  have lU : (unl n).length = n := unl_len n
  have cm : dComp (dRange1 (lCons (dLate 7) lNil)) (tgName 10) dYes (toV (dOp gSubI (toL (dC (.int 1000))) (toL (toV (dOp gMul (toL (dC (.int 3))) (dLate 10)))))) [10] [some (.fz (scrD ns)), some (.fz (.int zk)), some (.mt b1), x3, x4, some (.fz (.int (o : Nat))), x6, some (.fz (.int (n : Nat))), x8, x9, x10, x11, x12] =
      some (.mt (intz (unl n)), [some (.fz (scrD ns)), some (.fz (.int zk)), some (.mt b1), x3, x4, some (.fz (.int (o : Nat))), x6, some (.fz (.int (n : Nat))), x8, x9, x10, x11, x12]) := by
    have e : intz (unl n) = (upto n).map fun a => PyData.int (1000 - 3 * a) := by simp [intz, unl]
    rw [e]
    refine dComp_map PyData.int (fun a => .int (1000 - 3 * a)) (upto n) ?_ rfl c10 (lim_of (by rw [upto_len]; omega)) fun a ha => ?_
    · have hn := n_in (n := n) (by omega)
      simp [dRange1, lCons, lNil, dLate, getAll, LV.get, slotD, DV.dat, hn, rangeD_upto]
      rfl
    · have := mem_upto.mp ha
      have m : gMul (.int 3) (.int a) = some (.fz (.int (3 * a))) := gMul_int (okMul_rs (by omega) (by omega))
      simp [fnOf, DL.start, sSeq, sIf, sAsg_eq, sAsgT, sSet, sRet, sDrop, sRaise, sCallX, sNext, sBreak, sCont, sPar, sPar3, notBr_eq, dTest, dTruthy, toL, toV, ofV, dOp, dUn, dUnE, dC, dLate, dVar, LV.get, slotD, DV.dat, dTup, dLst, aNil, aCons, lNil, lCons, getAll, dCB, dCall, dCallB, dAnd, dOr, dNot, dOfT, dIf, dChain, dMut, isLs, lentOf, tgName_eq, tgNil, tgCons, tgTup, dIter, itemsD, dYes, LIM, m]
  refine .seq (a := b_law_1b_4) (sAsg_run (dCB_one (toL_run (toV_mt cm)) rfl (gTuple_list _)) rfl h8) ?_
  obtain ⟨l, et, tb⟩ := table_spec o2 (ps := unl n) (by omega)
  have f1 := count_sets_spec o1 o2 hU (by omega)
  have f2 := count_full_spec o1 o2 hU (by omega)
  have sm := tb_sum o1 hU tb
  have fu := tb_full o1 hU tb
  rw [lU] at f2 fu
  have dv := div_nat (n := n) (show 1 ≤ o by omega) o2
  have gm : gMul (.tuple [.int 7]) (.int (n : Nat)) = some (.fz (ti (List.replicate n 7))) := gMul_any n1 (by omega)
  have g1 := count_full_spec o1 o2 (bk_rep (p := 7) n1 (by decide) (by decide)) (by rw [List.length_replicate]; exact n2)
  rw [List.length_replicate, nSet_same (by omega) (by decide) n1 (Nat.div_mul_le_self n o)] at g1
  have g2 := choose_spec (n := n) (k := n / o) (by omega) (Nat.div_le_self n o)
  have sv : (l.map (·.2)).sum = ((nAll o (unl n) : Nat) : Int) := by
    rw [← sm, ← getI_map tb.nd]
    rfl
  generalize ((nAll o (unl n) : Nat) : Int) = NA at *
  generalize ((nSet o (unl n) (n / o) : Nat) : Int) = NF at *
  generalize ((ch n (n / o) : Nat) : Int) = CH at *
  generalize ((n / o : Nat) : Int) = Q at *
  generalize unl n = us at *
  generalize List.replicate n (7 : Int) = rs at *
  generalize ((n : Nat) : Int) = zn at *
  generalize ((o : Nat) : Int) = zo at *
  refine .seq (by simp [b_law_1b_5, DL.start, fnOf, DL.start, sSeq, sIf, sAsg_eq, sAsgT, sSet, sRet, sDrop, sRaise, sCallX, sNext, sBreak, sCont, sPar, sPar3, notBr_eq, dTest, dTruthy, toL, toV, ofV, dOp, dUn, dUnE, dC, dLate, dVar, LV.get, slotD, DV.dat, dTup, dLst, aNil, aCons, lNil, lCons, getAll, dCB, dCall, dCallB, dAnd, dOr, dNot, dOfT, dIf, dChain, dMut, isLs, lentOf, tgName_eq, tgNil, tgCons, tgTup, dIter, itemsD, dYes, LIM, et, h9] <;> rfl) ?_
  refine .seq (a := b_law_1b_6) (if_no (either_ne F_count_full F_count_sets rfl rfl rfl rfl f2 f1 dv fu sv)) ?_
  refine .one (a := b_law_1b_7) (if_no (same_ne F_count_full F__law_choose rfl rfl gm g1 dv g2)) ?_
  exact ⟨_, _, _, rfl, rfl, rfl, rfl, by simp [h3, h4, h6, h10, h11, h12], by simp [calms, c10, c11, c12]⟩
theorem loops (ns : List Int) (hn : ns.length ≤ 63) : Go b_law_1 (DL.start 13 [.fz (scrD ns)]) (Inv1 10 [4, 7, 8, 9] ns) :=
  main_loop (N := 8) (by decide) [4, 7, 8, 9] hn fun k δ hk h => k_body h
theorem word_e (Φ : Fn) {xs : Sl} {i : Nat} {q x y c : Int} {ds : List Int} (h : xs[i]? = some (some (.fz (.int x)))) (hm : gMul (.int q) (.int x) = some (.fz (.int y))) (hy : 0 ≤ y ∧ y ≤ 1000) (hr : rangeCD y (-1) (rgN y 0 (-1)) = intz ds) (hn : ds.length ≤ 1000)
    (f : Φ [.fz (.int q), .fz (ti ds)] = some (.ret (.fz (.int c)) [])) :
    toV (dCall Φ (aCons (dC (.int q)) (aCons (dTupI (dRange3 (lCons (toL (toV (dOp gMul (toL (dC (.int q))) (dLate i)))) (lCons (toL (dC (.int 0))) (lCons (toL (dUn gNeg (toL (dC (.int 1))))) lNil))))) aNil))) xs = some (.int c, xs) := by
  have e : dRange3 (lCons (toL (toV (dOp gMul (toL (dC (.int q))) (dLate i)))) (lCons (toL (dC (.int 0))) (lCons (toL (dUn gNeg (toL (dC (.int 1))))) lNil))) xs = some (intz ds, xs) := by
    have b : (-1 : Int) ≠ 0 ∧ -RLIM ≤ -1 ∧ -1 ≤ RLIM ∧ -RLIM ≤ y ∧ y ≤ RLIM ∧ -RLIM ≤ 0 ∧ 0 ≤ RLIM := by unfold RLIM; omega
    simp only [dRange3, lCons, lNil, toL, toV, dOp, dC, dLate, h, LV.get, slotD, DV.dat, hm, dUn, gNeg_int, getAll]
    rw [if_pos b, hr]
  simp only [toV, dCall, aCons, aNil, dC, dTupI, e]
  rw [if_pos (show (intz ds).length ≤ LIM by rw [ints_len]; exact lim_of hn)]
  simp [f]
theorem words {q : Nat} (q1 : 2 ≤ q) (q2 : q ≤ 9) {i : Nat} {xs : Sl} {a : Option DV} (hi : xs[i]? = some a) (ha : calmB a = true) (F : Int → List Int) (C : Int → Nat)
    (hF : ∀ x ∈ [1, 2, 3, 4], (Bk 1000000 (F x) ∧ (F x).length ≤ 30) ∧ nSet q (F x) ((F x).length / q) = C x ∧ gMul (.int q) (.int x) = some (.fz (.int (q * x))) ∧ rangeCD (q * x) (-1) (rgN (q * x) 0 (-1)) = intz (F x)) :
    dComp (dIter (dTup (aCons (dC (.int 1)) (aCons (dC (.int 2)) (aCons (dC (.int 3)) (aCons (dC (.int 4)) aNil)))))) (tgName i) dYes (toV (dCall F_count_full (aCons (dC (.int q)) (aCons (dTupI (dRange3 (lCons (toL (toV (dOp gMul (toL (dC (.int q))) (dLate i)))) (lCons (toL (dC (.int 0))) (lCons (toL (dUn gNeg (toL (dC (.int 1))))) lNil))))) aNil)))) [i] xs =
      some (.mt ([1, 2, 3, 4].map fun x => PyData.int ((C x : Nat) : Int)), xs) := by
  have hl := (List.getElem?_eq_some_iff.mp hi).1
  refine dComp_map PyData.int (fun x => .int ((C x : Nat) : Int)) [1, 2, 3, 4] (by simp [dIter, dTup, aCons, aNil, dC, itemsD, LIM]) hi ha (by decide) fun x hx => ?_
  obtain ⟨⟨b1, b2⟩, e1, e2, e3⟩ := hF x hx
  have f := count_full_spec q1 q2 b1 b2
  rw [e1] at f
  have hx' : 1 ≤ x ∧ x ≤ 4 := by simp at hx; omega
  have hy : (0 : Int) ≤ (q : Int) * x ∧ (q : Int) * x ≤ 1000 := by
    have h1 : (q : Int) * x ≤ 9 * 4 := Int.mul_le_mul (by omega) (by omega) (by omega) (by omega)
    have h2 : (0 : Int) ≤ (q : Int) * x := Int.mul_nonneg (by omega) (by omega)
    omega
  exact word_e F_count_full (List.getElem?_set_self hl) e2 hy e3 (by omega) f
def W2 (x : Int) : List Int := if x = 1 then [2, 1] else if x = 2 then [4, 3, 2, 1] else if x = 3 then [6, 5, 4, 3, 2, 1] else [8, 7, 6, 5, 4, 3, 2, 1]
def W3 (x : Int) : List Int := if x = 1 then [3, 2, 1] else if x = 2 then [6, 5, 4, 3, 2, 1] else if x = 3 then [9, 8, 7, 6, 5, 4, 3, 2, 1] else [12, 11, 10, 9, 8, 7, 6, 5, 4, 3, 2, 1]
def C2 (x : Int) : Nat := if x = 1 then 1 else if x = 2 then 2 else if x = 3 then 5 else 14
def C3 (x : Int) : Nat := if x = 1 then 1 else if x = 2 then 3 else if x = 3 then 12 else 55
theorem full_tab {o : Nat} (ho : 1 ≤ o) {ps : List Int} (h : isBasketD (ti ps) = true) {c : Nat} (e : tab o ps ps.length (ps.length / o) = c) : (Bk 1000000 ps ∧ ps.length ≤ 30) ∧ nSet o ps (ps.length / o) = c := by
  obtain ⟨h1, h2⟩ := bk_lit h
  exact ⟨⟨h1, h2⟩, by rw [← tab_nSet ho h1.dec fun p hp => (h1.rng p hp).1]; exact e⟩
theorem w2_ok : ∀ x ∈ [1, 2, 3, 4], (Bk 1000000 (W2 x) ∧ (W2 x).length ≤ 30) ∧ nSet 2 (W2 x) ((W2 x).length / 2) = C2 x ∧ gMul (.int ((2 : Nat) : Int)) (.int x) = some (.fz (.int (((2 : Nat) : Int) * x))) ∧ rangeCD (((2 : Nat) : Int) * x) (-1) (rgN (((2 : Nat) : Int) * x) 0 (-1)) = intz (W2 x) := by
  intro x hx
  simp at hx
  rcases hx with rfl | rfl | rfl | rfl
  · obtain ⟨a, b⟩ := full_tab (o := 2) (by decide) (ps := W2 1) (by decide +kernel) (c := C2 1) (by decide +kernel)
    exact ⟨a, b, gMul_int (by decide), by rfl⟩
  · obtain ⟨a, b⟩ := full_tab (o := 2) (by decide) (ps := W2 2) (by decide +kernel) (c := C2 2) (by decide +kernel)
    exact ⟨a, b, gMul_int (by decide), by rfl⟩
  · obtain ⟨a, b⟩ := full_tab (o := 2) (by decide) (ps := W2 3) (by decide +kernel) (c := C2 3) (by decide +kernel)
    exact ⟨a, b, gMul_int (by decide), by rfl⟩
  · obtain ⟨a, b⟩ := full_tab (o := 2) (by decide) (ps := W2 4) (by decide +kernel) (c := C2 4) (by decide +kernel)
    exact ⟨a, b, gMul_int (by decide), by rfl⟩
theorem w3_ok : ∀ x ∈ [1, 2, 3, 4], (Bk 1000000 (W3 x) ∧ (W3 x).length ≤ 30) ∧ nSet 3 (W3 x) ((W3 x).length / 3) = C3 x ∧ gMul (.int ((3 : Nat) : Int)) (.int x) = some (.fz (.int (((3 : Nat) : Int) * x))) ∧ rangeCD (((3 : Nat) : Int) * x) (-1) (rgN (((3 : Nat) : Int) * x) 0 (-1)) = intz (W3 x) := by
  intro x hx
  simp at hx
  rcases hx with rfl | rfl | rfl | rfl
  · obtain ⟨a, b⟩ := full_tab (o := 3) (by decide) (ps := W3 1) (by decide +kernel) (c := C3 1) (by decide +kernel)
    exact ⟨a, b, gMul_int (by decide), by rfl⟩
  · obtain ⟨a, b⟩ := full_tab (o := 3) (by decide) (ps := W3 2) (by decide +kernel) (c := C3 2) (by decide +kernel)
    exact ⟨a, b, gMul_int (by decide), by rfl⟩
  · obtain ⟨a, b⟩ := full_tab (o := 3) (by decide) (ps := W3 3) (by decide +kernel) (c := C3 3) (by decide +kernel)
    exact ⟨a, b, gMul_int (by decide), by rfl⟩
  · obtain ⟨a, b⟩ := full_tab (o := 3) (by decide) (ps := W3 4) (by decide +kernel) (c := C3 4) (by decide +kernel)
    exact ⟨a, b, gMul_int (by decide), by rfl⟩
theorem eq_of {C : EE} {xs : Sl} {ns : List Int} (hC : C xs = some (.mt (intz ns), xs)) (L : EV) (hL : L xs = some (li ns, xs)) : dTest (toL (toV (dOp gNe (toL (toV C)) (toL L)))) xs = some (false, xs) ∧ dOp gEq (toL (toV C)) (toL L) xs = some (.fz (.bool true), xs) := by
  constructor <;> simp [fnOf, DL.start, sSeq, sIf, sAsg_eq, sAsgT, sSet, sRet, sDrop, sRaise, sCallX, sNext, sBreak, sCont, sPar, sPar3, notBr_eq, dTest, dTruthy, toL, toV, ofV, dOp, dUn, dUnE, dC, dLate, dVar, LV.get, slotD, DV.dat, dTup, dLst, aNil, aCons, lNil, lCons, getAll, dCB, dCall, dCallB, dAnd, dOr, dNot, dOfT, dIf, dChain, dMut, isLs, lentOf, tgName_eq, tgNil, tgCons, tgTup, dIter, itemsD, dYes, LIM, hC, hL, gNe_li, gEq_li]
theorem law_true (ns : List Int) (hn : ns.length ≤ 63) : ∃ l, F_law [.fz (scrD ns)] = some (.ret (.fz (.bool true)) l) := by
  obtain ⟨r, l, e, er⟩ := fn_gives' (n := 13) (b := b_law) (args := [.fz (scrD ns)]) (R := fun r l => r = .fz (.bool true)) (by
    refine .sq (loops ns hn) fun δ ⟨x1, x2, xs, e, h1, h2, hl, ha, hc⟩ => ?_
    subst e
    obtain ⟨x3, tt3, rfl, qq3⟩ := open1 hl; obtain ⟨x4, tt4, rfl, qq4⟩ := open1 qq3; obtain ⟨x5, tt5, rfl, qq5⟩ := open1 qq4; obtain ⟨x6, tt6, rfl, qq6⟩ := open1 qq5; obtain ⟨x7, tt7, rfl, qq7⟩ := open1 qq6; obtain ⟨x8, tt8, rfl, qq8⟩ := open1 qq7; obtain ⟨x9, tt9, rfl, qq9⟩ := open1 qq8; obtain ⟨x10, tt10, rfl, qq10⟩ := open1 qq9; obtain ⟨x11, tt11, rfl, qq11⟩ := open1 qq10; obtain ⟨x12, tt12, rfl, qq12⟩ := open1 qq11; obtain rfl := List.eq_nil_of_length_eq_zero qq12; clear qq3 qq4 qq5 qq6 qq7 qq8 qq9 qq10 qq11 qq12
    simp [calms] at ha hc
    obtain ⟨c7, c10, c11, c12⟩ := hc
    have a1 := words (q := 2) (by decide) (by decide) (i := 11) (xs := [some (.fz (scrD ns)), x1, x2, x3, x4, x5, x6, x7, x8, x9, x10, x11, x12]) rfl c11 W2 C2 w2_ok
    have a2 := words (q := 3) (by decide) (by decide) (i := 12) (xs := [some (.fz (scrD ns)), x1, x2, x3, x4, x5, x6, x7, x8, x9, x10, x11, x12]) rfl c12 W3 C3 w3_ok
    have e1 : ([1, 2, 3, 4].map fun x => PyData.int ((C2 x : Nat) : Int)) = intz [1, 2, 5, 14] := by simp [C2, C3, intz]
    have e2 : ([1, 2, 3, 4].map fun x => PyData.int ((C3 x : Nat) : Int)) = intz [1, 3, 12, 55] := by simp [C2, C3, intz]
    rw [e1] at a1
    rw [e2] at a2
    refine .seq (a := b_law_2) (if_no (eq_of a1 (toV (dLst (aCons (dC (.int 1)) (aCons (dC (.int 2)) (aCons (dC (.int 5)) (aCons (dC (.int 14)) aNil)))))) ?_).1) ?_
    · simp [fnOf, DL.start, sSeq, sIf, sAsg_eq, sAsgT, sSet, sRet, sDrop, sRaise, sCallX, sNext, sBreak, sCont, sPar, sPar3, notBr_eq, dTest, dTruthy, toL, toV, ofV, dOp, dUn, dUnE, dC, dLate, dVar, LV.get, slotD, DV.dat, dTup, dLst, aNil, aCons, lNil, lCons, getAll, dCB, dCall, dCallB, dAnd, dOr, dNot, dOfT, dIf, dChain, dMut, isLs, lentOf, tgName_eq, tgNil, tgCons, tgTup, dIter, itemsD, dYes, LIM, ints_cons, ints_nil]
    · refine .one (a := b_law_3) (sRet_run (eq_of a2 (toV (dLst (aCons (dC (.int 1)) (aCons (dC (.int 3)) (aCons (dC (.int 12)) (aCons (dC (.int 55)) aNil)))))) ?_).2) rfl
      simp [fnOf, DL.start, sSeq, sIf, sAsg_eq, sAsgT, sSet, sRet, sDrop, sRaise, sCallX, sNext, sBreak, sCont, sPar, sPar3, notBr_eq, dTest, dTruthy, toL, toV, ofV, dOp, dUn, dUnE, dC, dLate, dVar, LV.get, slotD, DV.dat, dTup, dLst, aNil, aCons, lNil, lCons, getAll, dCB, dCall, dCallB, dAnd, dOr, dNot, dOfT, dIf, dChain, dMut, isLs, lentOf, tgName_eq, tgNil, tgCons, tgTup, dIter, itemsD, dYes, LIM, ints_cons, ints_nil])
  subst er
  exact ⟨l, e⟩
end LawK08
set_option Elab.async false
set_option linter.all false
set_option maxRecDepth 100000
set_option maxHeartbeats 2000000
/-! enumerate(t), t a tuple. -/
namespace DLE
open PySem PySem.Spec PyProof.Rows L2
theorem meets_enumerate_newT {v : Value} {o : Obj} {H : Heap → Prop} (B : Begins v o H) :
    Meets (Builtin.«enumerate.__new__» ⟨[.type "enumerate", v], []⟩) (fun _ R s => H s.heap ∧
      R (.ok (.ret (.ref (s.heap.push o).objs.size))) { s with heap := (s.heap.push o).push { cls := .type "enumerate", data := .fields #[.none, .bool false, .ref s.heap.objs.size, rawInt 0, .none, .none] } }) :=
  .of_wp fun prog w A R s h => by
    obtain ⟨hp, g, d, tk, os⟩ := s; obtain ⟨h1, h⟩ := h
    have hsub := sub_enumerate
    have q1 : ∀ {A' : Around} {E : Value → Shared → Prop} {Q : Value → Shared → Prop}, Q (.ref hp.objs.size) ⟨hp.push o, g, d, tk, os⟩ → wpAny (model prog w) A' (pyIter v) Q E ⟨hp, g, d, tk, os⟩ :=
      fun q => B.iter prog w _ _ ⟨hp, g, d, tk, os⟩ _ h1 q
    wp_walk using q1
    refine wpAny_stack_any fun st => wpAny_pure ?_
    split
    · rename_i c _ _ _ _ _
      cases (c == Value.type "enumerate")
      · wp_walk using q1
        exact ⟨_, rfl, h⟩
      · wp_walk using q1
        exact ⟨_, rfl, h⟩
    · wp_walk using q1
      exact ⟨_, rfl, h⟩
section
variable {prog : Program} {w : World} {A : Around} {E : Value → Shared → Prop} {s : Shared}
theorem call_enumerate_tup {a : Addr} {items : Array Value} {Q : Value → Shared → Prop} (hT : s.heap.IsTuple a items)
    (h : ∀ h', IsEnum h' (s.heap.objs.size + 1) s.heap.objs.size 0 .none → h'.IsTupleIter s.heap.objs.size a 0 → h'.objs.size = s.heap.objs.size + 2 →
      (∀ b o, s.heap.get? b = some o → h'.get? b = some o) → Q (.ref (s.heap.objs.size + 1)) { s with heap := h' }) :
    wpAny (model prog w) A (call (.type "enumerate") [.ref a]) Q E s := by
  refine callType_new F.called_enumerate (by decide) (F.typeCall_enumerate_1 _) (F.newCall_enumerate_1 _) (fun obj => F.args_object_init_2 obj _) F.entry_enumerate_new
    (meets_enumerate_newT (begins_tuple a items)) ⟨hT, ?_⟩
  have hz : (s.heap.push { cls := .type "tuple_iterator", data := .fields #[.ref a, .int 0 0] }).objs.size = s.heap.objs.size + 1 := Heap.size_push ..
  show _ ∧ _
  rw [hz]
  have he : IsEnum ((s.heap.push { cls := .type "tuple_iterator", data := .fields #[.ref a, .int 0 0] }).push
      { cls := .type "enumerate", data := .fields #[.none, .bool false, .ref s.heap.objs.size, rawInt 0, .none, .none] }) (s.heap.objs.size + 1) s.heap.objs.size 0 .none := by
    have := Heap.get?_push_size (s.heap.push { cls := .type "tuple_iterator", data := .fields #[.ref a, .int 0 0] })
      (o := { cls := .type "enumerate", data := .fields #[.none, .bool false, .ref s.heap.objs.size, rawInt 0, .none, .none] }) rfl
    rw [hz] at this; exact this
  refine ⟨⟨_, he, rfl⟩, h _ he ⟨_, Heap.get?_push_of_some _ (Heap.get?_push_size _ rfl), rfl, rfl⟩ (by rw [Heap.size_push, hz]) fun b o x => Heap.get?_push_of_some _ (Heap.get?_push_of_some _ x)⟩
end
/-- the tuple at a, each item in a new pair -/
def IteT (K : PySem.W.Frag) (a : Addr) : It :=
  ⟨fun i H => ∃ (xs : List V) (x : V), SqT K H a xs ∧ xs[i]? = some x, fun i H v H' => ∃ T x, v = .ref T ∧ H T = none ∧ H' = upd H T (.tup [.int (i : Nat), x]) ∧ ∀ xs, SqT K H a xs → xs[i]? = some x, fun i H => ∃ xs : List V, SqT K H a xs ∧ xs.length ≤ i⟩
theorem turn_enumT {P : Program} {w : World} {K : PySem.W.Frag} {elts : List Expr} {kk : Nat} {tpos : Pos} (a e it : Addr) (hai : a ≠ it) (hae : e ≠ a) :
    Turn P w K (.Tuple elts kk tpos) (IteT K a) [e, it] e (fun i h => (∃ old, IsEnum h e it ((i : Nat) : Int) old) ∧ h.IsTupleIter it a i ∧ e ≠ it) where
  mem := by simp
  obj := fun i h st b hb => by
    obtain ⟨⟨old, he⟩, ⟨o, ho, hc, hd⟩, _⟩ := st
    have e' : b = e ∨ b = it := by simpa using hb
    rcases e' with z | z
    · rw [z]; exact ⟨_, he, fun v q => nomatch q⟩
    · rw [z]; exact ⟨o, ho, fun v q => by rw [hd] at q; cases q⟩
  keep := fun i h h' st k => let ⟨⟨old, he⟩, hi, hne⟩ := st; ⟨⟨old, k e (by simp) _ he⟩, hi.at fun o q => k it (by simp) o q, hne⟩
  item := by
    intro X hP hw hK hc i pins s σ H E I hf st hg
    subst hP hw hK
    obtain ⟨⟨old, he⟩, hit, hne⟩ := st
    obtain ⟨xs, x, hq, hx⟩ := hg
    obtain ⟨its, rv, p, hz⟩ := I.tuple hq
    obtain ⟨u, hu, ru⟩ := rv.get hx
    have hel : e < s.heap.objs.size := Heap.lt_size he
    have hil : it < s.heap.objs.size := by obtain ⟨_, q, _⟩ := hit; exact Heap.lt_size q
    have hh : X.A.in1.handled = none := I.ok.hd hc
    have hi : i < its.toArray.size := by
      have := (List.getElem?_eq_some_iff.mp hu).1
      simpa using this
    refine wpAny_pyNext_enum_itemD (Draws.tuple hh it a hai its.toArray) he ⟨hit, p⟩ hi hne (by simp [hne, hae]) fun y h' tk hP ho hst' hT hsz hk => ?_
    have ey : y = u := by
      have hP : its.toArray[i]? = some y := hP
      rw [List.getElem?_toArray, hu] at hP
      exact (Option.some.inj hP).symm
    subst ey
    obtain ⟨hit', hp'⟩ := hst'
    refine ⟨_, rfl, wpAny_letOwnedTupleGo_enum (s := { s with heap := h', toks := tk + 1 }) ho fun h'' he' sb => ?_⟩
    have hT2 : h''.get? s.heap.objs.size = some { cls := .type "tuple", data := .seq #[.int i tk, y] } := (sb.2 _ (Nat.ne_of_gt hel)).trans hT
    have new : ObjOk X.prog X.w (upd H s.heap.objs.size (.tup [.int (i : Nat), x])) h'' s.heap.objs.size (.tup [.int (i : Nat), x]) :=
      ⟨by show 2 ≤ sizeLine; decide, [.int i tk, y], .cons ⟨_, rfl⟩ (.cons ru .nil), ⟨_, hT2, rfl, _, rfl⟩⟩
    have I1 : Inv X pins σ (upd H s.heap.objs.size (.tup [.int (i : Nat), x])) { s with heap := h'', toks := tk + 1 } :=
      I.turnedNew (ch := [e, it]) (fun b ob hb q => (sb.2 b (fun z => hb (by simp [z]))).trans (hk b ob (fun z => hb (by simp [z])) (fun z => hb (by simp [z])) q)) hf (Nat.le_refl _) new
    refine ⟨.ref s.heap.objs.size, _, I1, rfl, ⟨_, x, rfl, I.hok.fresh (Nat.le_refl _), rfl, fun ys hy => by rw [I.tuple_inj hy hq]; exact hx⟩, ⟨⟨y, ?_⟩, hit'.at fun o q => (sb.2 it (Ne.symm hne)).trans q, hne⟩, fun b hb => ?_⟩
    · have e1 : ((i + 1 : Nat) : Int) = (i : Int) + 1 := by omega
      rw [e1]; exact he'
    · have hb' : b < s.heap.objs.size := by
        have e' : b = e ∨ b = it := by simpa using hb
        rcases e' with z | z
        · rw [z]; exact hel
        · rw [z]; exact hil
      rw [upd_ne (Nat.ne_of_lt hb')]
      exact (hf b hb).1
  done := by
    intro X hP hw hK hc i pins s σ H E I hf st hg
    subst hP hw hK
    obtain ⟨⟨old, he⟩, hit, hne⟩ := st
    obtain ⟨xs, hq, hx⟩ := hg
    obtain ⟨its, rv, p, hz⟩ := I.tuple hq
    obtain ⟨f0, f1, f2, f3, f4, f5⟩ := hf it (by simp)
    have hl := rv.length
    have hh : X.A.in1.handled = none := I.ok.hd hc
    unfold pyNext
    have hTy : s.TypeIs (.ref e) "enumerate" := ⟨_, he, rfl⟩
    refine wpAny_bind (wpAny_attempt (wpAny_callSpecial?_slot (name := Str.ofString "__next__") hTy F.slot_enumerate_next
      (wpAny_call_entry F.slot_enumerate_next hTy F.entry_enumerate_next ?_ (F.args_enumerate_next_1 _))))
    show wpAny _ _ (field (.ref e) 2 >>= _) _ _ _
    refine wpAny_bind (wpAny_field he rfl (x := .ref it) rfl ?_)
    refine wpAny_bind (wpAny_nextOf_tuple_end hh hit p (by simp; omega) fun h' x he' hx' => ?_)
    obtain ⟨o, ho, hc'⟩ := hx'
    refine wpAny_bind (wpAny_isInstance (T := "StopIteration") (b := true) ⟨o, ho, hc'⟩ isSubtype_stop ?_)
    exact wpAny_pure ⟨rfl, I.turned (t' := s.toks) (fun b ob hb q => he' b ob hb q) f0 f1 f3 f4 f5⟩
  self := fun A i s Q E st h => let ⟨⟨_, he⟩, _⟩ := st; wpAny_pyIter_enum he h
def iEnumA (K : PySem.W.Frag) (ta : TA) : TI := fun σ H R => ta σ H fun vs H1 => ∃ a xs, vs = [.ref a] ∧ ((SqL K H1 a xs ∧ R (Ite K a) H1) ∨ (SqT K H1 a xs ∧ R (IteT K a) H1))
theorem pi_enumA {X : Cx} {e : Expr} {ta : TA} {p pos tpos : Pos} {elts : List Expr} {kk : Nat} (hg : Gl X "enumerate") (hm : X.mg "enumerate" = none) (ha : PA X [e] ta) (hs : starEach [e] X.env = [(false, eval e X.env)] := by rfl) :
    PI X (.Tuple elts kk tpos) (.Call (.Name "enumerate" p) [e] [] pos) (iEnumA X.K ta) := by
  refine ⟨fun pins s σ H R I h => ?_⟩
  refine Call_ (ld_blt I hg hm boot_enumerate (PyProof.Rows.callWith_type1 (thn (ha.run pos pins s σ H _ I h) fun us s1 ⟨vs, H1, I1, r1, q1⟩ => ?_) hs rfl))
  obtain ⟨a, xs, ex, q1⟩ := q1
  subst ex
  cases r1 with
  | cons r rr =>
    cases rr
    cases r
    have fresh2 : ∀ b, b ∈ [s1.heap.objs.size + 1, s1.heap.objs.size] → FpOk X pins H1 b := fun b hb => by
      have e' : b = s1.heap.objs.size + 1 ∨ b = s1.heap.objs.size := by simpa using hb
      have hle : s1.heap.objs.size ≤ b := by
        rcases e' with z | z
        · rw [z]; exact Nat.le_add_right _ _
        · rw [z]; exact Nat.le_refl _
      exact I1.fpOk hle (I1.hok.fresh hle)
    rcases q1 with ⟨hq, q⟩ | ⟨hq, q⟩
    · obtain ⟨its, rv, p', hz⟩ := I1.list hq
      refine call_enumerate_list p'.isList fun h' he hit hsz hk => wpAny_pyIter_enum he ?_
      have I2 : Inv X pins σ H1 { s1 with heap := h' } := I1.kept (t' := s1.toks) hk
      exact ⟨s1.heap.objs.size + 1, [s1.heap.objs.size + 1, s1.heap.objs.size], _, _, H1, rfl, I2, turn_enum a (s1.heap.objs.size + 1) s1.heap.objs.size, ⟨⟨.none, he⟩, hit, Nat.succ_ne_self _⟩, fresh2, q⟩
    · obtain ⟨its, rv, p', hz⟩ := I1.tuple hq
      obtain ⟨o1, ho1, _⟩ := id p'
      have hlt : a < s1.heap.objs.size := Heap.lt_size ho1
      refine call_enumerate_tup (show s1.heap.IsTuple a its.toArray from p') fun h' he hit hsz hk => wpAny_pyIter_enum he ?_
      have I2 : Inv X pins σ H1 { s1 with heap := h' } := I1.kept (t' := s1.toks) hk
      exact ⟨s1.heap.objs.size + 1, [s1.heap.objs.size + 1, s1.heap.objs.size], _, _, H1, rfl, I2, turn_enumT a (s1.heap.objs.size + 1) s1.heap.objs.size (Nat.ne_of_lt hlt) (Nat.ne_of_gt (Nat.lt_succ_of_lt hlt)), ⟨⟨.none, he⟩, hit, Nat.succ_ne_self _⟩, fresh2, q⟩
end DLE
set_option Elab.async false
set_option linter.all false
set_option maxRecDepth 100000
set_option maxHeartbeats 1000000
/-! The heap-free reading is sound: the judgements of the hand layer at readings of plain data. -/
namespace DL
open PySem PySem.Spec PyProof.Rows L2
/-! ### data on the heap -/
/-- a tuple that is known to bear no dict -/
def TupO (o : Obj) : Prop := o.cls = .type "tuple" ∧ o.dict = none
def TupF (F : Hp) (a : Addr) (xs : List V) : Prop := ∃ o, TupO o ∧ F a = some (.frz o (.tup xs))
theorem TupF.sqt {K : PySem.W.Frag} {F H : Hp} {a : Addr} {xs : List V} (h : TupF F a xs) (s : Same F H) : SqT K H a xs := by
  obtain ⟨o, _, e⟩ := h
  exact .inl (.inr ⟨o, s _ _ e⟩)
theorem TupF.mono {F H : Hp} {a : Addr} {xs : List V} (h : TupF F a xs) (s : Same F H) : TupF H a xs := by
  obtain ⟨o, h, e⟩ := h
  exact ⟨o, h, s _ _ e⟩
/-- the cell of a dict -/
def Own.ho : Own → HO
  | .dI kvs => .dK (kvs.map fun p => ((Sum.inl p.1 : Key), V.int p.2))
  | .dT ks => .dT (ks.map fun k => (k.map fun i => (Sum.inl i : Key), V.bl true))
def own : DV → Bool
  | .mt _ => true
  | .ow _ => true
  | _ => false
mutual
inductive Dr (K : PySem.W.Frag) (F : Hp) : V → D → Prop
  | non : Dr K F .non .none
  | bl (b : Bool) : Dr K F (.bl b) (.bool b)
  | int (i : Int) : Dr K F (.int i) (.int i)
  | str (x : Str) : Dr K F (.str x) (.str x)
  | lst {a : Addr} {xs : List V} {ds : List D} : F a = some (.lst xs) → xs.length ≤ sizeLine → DrAll K F xs ds → Dr K F (.ref a) (.list ds)
  | tup {a : Addr} {xs : List V} {ds : List D} : TupF F a xs → xs.length ≤ sizeLine → DrAll K F xs ds → Dr K F (.ref a) (.tuple ds)
  /-- a pair that is unpacked at once -/
  | par {a : Addr} {xs : List V} {ds : List D} {kvs : List (D × D)} : F a = some (.tup xs) → xs.length ≤ sizeLine → DrAll K F xs ds → kvs = [(.bool true, .tuple ds)] → Dr K F (.ref a) (.dict kvs)
  /-- the script -/
  | scr {a : Addr} {ns : List Int} {kvs : List (D × D)} : SqL K F a (ns.map V.int) → kvs = [(.none, .list (ns.map PyData.int))] → Dr K F (.ref a) (.dict kvs)
  /-- a def of the text -/
  | fn {x : Str} {kvs : List (D × D)} : kvs = [(.bool false, .str x)] → Dr K F (.ref (He.ga K x)) (.dict kvs)
  /-- a dict -/
  | dct {a : Addr} {c : Own} {kvs : List (D × D)} : Rd F a c.ho → kvs = c.kvs → Dr K F (.ref a) (.dict kvs)
inductive DrAll (K : PySem.W.Frag) (F : Hp) : List V → List D → Prop
  | nil : DrAll K F [] []
  | cons {v : V} {vs : List V} {d : D} {ds : List D} : Dr K F v d → DrAll K F vs ds → DrAll K F (v :: vs) (d :: ds)
end
section
variable {K : PySem.W.Frag} {F F' : Hp}
theorem Same.rd {H H' : Hp} {a : Addr} {u : HO} (e : Same H H') (h : Rd H a u) : Rd H' a u := by
  rcases h with h | ⟨o, h⟩
  · exact Or.inl (e a _ h)
  · exact Or.inr ⟨o, e a _ h⟩
theorem Same.sqt {H H' : Hp} {a : Addr} {xs : List V} (e : Same H H') (h : SqT K H a xs) : SqT K H' a xs := by
  rcases h with h | h
  · exact Or.inl (Same.rd e h)
  · exact Or.inr h
mutual
theorem Dr.mono (e : Same F F') : ∀ (d : D) (v : V), Dr K F v d → Dr K F' v d
  | .none, _, h => by cases h; exact .non
  | .bool b, _, h => by cases h; exact .bl b
  | .int i, _, h => by cases h; exact .int i
  | .str x, _, h => by cases h; exact .str x
  | .list ds, _, h => by
    cases h with
    | lst hs z ha => exact .lst (e _ _ hs) z (DrAll.mono e ds _ ha)
  | .tuple ds, _, h => by
    cases h with
    | tup hs z ha => exact .tup (hs.mono e) z (DrAll.mono e ds _ ha)
  | .dict _, _, h => by
    cases h with
    | par h1 h2 h3 h4 =>
      subst h4
      exact .par (e _ _ h1) h2 (DrAll.mono e _ _ h3) rfl
    | scr h1 h2 => exact .scr (Same.seq e h1) h2
    | fn h => exact .fn h
    | dct h1 h2 => exact .dct (Same.rd e h1) h2
theorem DrAll.mono (e : Same F F') : ∀ (ds : List D) (vs : List V), DrAll K F vs ds → DrAll K F' vs ds
  | [], _, h => by cases h; exact .nil
  | d :: ds, _, h => by
    cases h with
    | cons h1 h2 => exact .cons (Dr.mono e d _ h1) (DrAll.mono e ds _ h2)
end
mutual
theorem Dr.dp : ∀ (d : D) (v : V), d.canLay0 = true → Dr K F v d → Dp K F v d
  | .none, _, _, h => by cases h; exact .non
  | .bool b, _, _, h => by cases h; exact .bl b
  | .int i, _, _, h => by cases h; exact .int i
  | .str x, _, _, h => by cases h; exact .str x
  | .list ds, _, c, h => by
    cases h with
    | lst hs z ha => exact .lst (.inl (.inl hs)) (DrAll.dp ds _ (by simpa [PyData.canLay0] using c) ha)
  | .tuple ds, _, c, h => by
    cases h with
    | tup hs z ha => exact .tup (hs.sqt (Same.refl F)) (DrAll.dp ds _ (by simpa [PyData.canLay0] using c) ha)
  | .dict _, _, c, _ => by simp [PyData.canLay0] at c
theorem DrAll.dp : ∀ (ds : List D) (vs : List V), PyData.canLayAll0 ds = true → DrAll K F vs ds → DpAll K F vs ds
  | [], _, _, h => by cases h; exact .nil
  | d :: ds, _, c, h => by
    have c : (d.canLay0 && PyData.canLayAll0 ds) = true := by simpa [PyData.canLayAll0] using c
    rw [Bool.and_eq_true] at c
    cases h with
    | cons h1 h2 => exact .cons (Dr.dp d _ c.1 h1) (DrAll.dp ds _ c.2 h2)
end
theorem DrAll.length : ∀ {ds : List D} {vs : List V}, DrAll K F vs ds → vs.length = ds.length
  | [], _, h => by cases h; rfl
  | d :: ds, _, h => by
    cases h with
    | cons h1 h2 => rw [List.length_cons, List.length_cons, h2.length]
theorem DrAll.get : ∀ {ds : List D} {vs : List V} {i : Nat} {v : V}, DrAll K F vs ds → vs[i]? = some v → ∃ d, ds[i]? = some d ∧ Dr K F v d
  | [], _, i, v, h, e => by
    cases h
    simp at e
  | d :: ds, _, 0, v, h, e => by
    cases h with
    | cons h1 h2 =>
      simp at e
      subst e
      exact ⟨d, rfl, h1⟩
  | d :: ds, _, i + 1, v, h, e => by
    cases h with
    | cons h1 h2 =>
      obtain ⟨x, e1, e2⟩ := DrAll.get h2 (by simpa using e)
      exact ⟨x, by simpa using e1, e2⟩
theorem DrAll.get' : ∀ {ds : List D} {vs : List V} {i : Nat} {d : D}, DrAll K F vs ds → ds[i]? = some d → ∃ v, vs[i]? = some v ∧ Dr K F v d := fun {ds vs i d} h e => by
  have hl := h.length
  have hi : i < ds.length := (List.getElem?_eq_some_iff.mp e).1
  obtain ⟨d', e1, e2⟩ := h.get (v := vs[i]) (List.getElem?_eq_getElem (by omega))
  rw [e] at e1
  cases e1
  exact ⟨_, List.getElem?_eq_getElem (by omega), e2⟩
theorem DrAll.append : ∀ {ds es : List D} {vs ws : List V}, DrAll K F vs ds → DrAll K F ws es → DrAll K F (vs ++ ws) (ds ++ es)
  | [], _, _, _, h, h' => by cases h; exact h'
  | d :: ds, _, _, _, h, h' => by
    cases h with
    | cons h1 h2 => exact .cons h1 (DrAll.append h2 h')
theorem DrAll.take : ∀ {ds : List D} {vs : List V} (n : Nat), DrAll K F vs ds → DrAll K F (vs.take n) (ds.take n)
  | _, _, 0, h => by simp only [List.take_zero]; exact .nil
  | [], _, n + 1, h => by cases h; exact .nil
  | d :: ds, _, n + 1, h => by
    cases h with
    | cons h1 h2 => exact .cons h1 (DrAll.take n h2)
theorem DrAll.drop : ∀ {ds : List D} {vs : List V} (n : Nat), DrAll K F vs ds → DrAll K F (vs.drop n) (ds.drop n)
  | _, _, 0, h => by simpa using h
  | [], _, n + 1, h => by cases h; exact .nil
  | d :: ds, _, n + 1, h => by
    cases h with
    | cons h1 h2 => simpa using DrAll.drop n h2
theorem DrAll.set : ∀ {ds : List D} {vs : List V} {v : V} {d : D} (n : Nat), DrAll K F vs ds → Dr K F v d → DrAll K F (vs.set n v) (ds.set n d)
  | [], _, _, _, n, h, _ => by cases h; exact .nil
  | d :: ds, _, _, _, 0, h, r => by
    cases h with
    | cons h1 h2 => exact .cons r h2
  | d :: ds, _, _, _, n + 1, h, r => by
    cases h with
    | cons h1 h2 => exact .cons h1 (DrAll.set n h2 r)
theorem DrAll.ints : ∀ ns : List Int, DrAll K F (ns.map V.int) (ns.map PyData.int)
  | [] => .nil
  | n :: ns => .cons (.int n) (DrAll.ints ns)
theorem DrAll.ofInts : ∀ {ns : List Int} {vs : List V}, DrAll K F vs (ns.map PyData.int) → vs = ns.map V.int
  | [], _, h => by cases h; rfl
  | n :: ns, _, h => by
    cases h with
    | cons h1 h2 =>
      cases h1
      rw [DrAll.ofInts h2]
      rfl
theorem DrAll.one {v : V} {d : D} (h : Dr K F v d) : DrAll K F [v] [d] := .cons h .nil
theorem Dr.unint {v : V} {i : Int} (h : Dr K F v (.int i)) : v = .int i := by cases h; rfl
theorem Dr.unbool {v : V} {b : Bool} (h : Dr K F v (.bool b)) : v = .bl b := by cases h; rfl
theorem Dr.unnone {v : V} (h : Dr K F v .none) : v = .non := by cases h; rfl
theorem Dr.unstr {v : V} {x : Str} (h : Dr K F v (.str x)) : v = .str x := by cases h; rfl
theorem Dr.untup {v : V} {ds : List D} (h : Dr K F v (.tuple ds)) : ∃ a xs, v = .ref a ∧ TupF F a xs ∧ xs.length ≤ sizeLine ∧ DrAll K F xs ds := by
  cases h with
  | tup h1 h2 h3 => exact ⟨_, _, rfl, h1, h2, h3⟩
theorem Dr.unlst {v : V} {ds : List D} (h : Dr K F v (.list ds)) : ∃ a xs, v = .ref a ∧ F a = some (.lst xs) ∧ xs.length ≤ sizeLine ∧ DrAll K F xs ds := by
  cases h with
  | lst h1 h2 h3 => exact ⟨_, _, rfl, h1, h2, h3⟩
end
/-! ### the state -/
/-- the entry: the borrowed list's address, the frozen heap, the heap -/
structure Gh where
  B : Option Addr
  F0 : Hp
  H0 : Hp
/-- a new list at l -/
def MtAt (K : PySem.W.Frag) (g : Gh) (F H : Hp) (l : Addr) (ds : List D) : Prop := g.H0 l = none ∧ F l = none ∧ ∃ vs, H l = some (.lst vs) ∧ vs.length ≤ sizeLine ∧ DrAll K F vs ds
def BrAt (K : PySem.W.Frag) (g : Gh) (F H : Hp) (l : Addr) (ds : List D) : Prop := g.B = some l ∧ F l = none ∧ ∃ vs, H l = some (.lst vs) ∧ vs.length ≤ sizeLine ∧ DrAll K F vs ds
def Rep (K : PySem.W.Frag) (g : Gh) (F H : Hp) (v : V) : DV → Prop
  | .fz d => Dr K F v d
  | .mt ds => ∃ l, v = .ref l ∧ MtAt K g F H l ds
  | .br ds => ∃ l, v = .ref l ∧ BrAt K g F H l ds
  | .ow c => ∃ l, v = .ref l ∧ g.H0 l = none ∧ F l = none ∧ H l = some c.ho
structure Ok (K : PySem.W.Frag) (g : Gh) (F H : Hp) (σ : L2.St) (δ : Sl) : Prop where
  sub : Same F H
  ext : Same g.F0 F
  frm : ∀ a o, g.H0 a = some o → g.B ≠ some a → H a = some o
  new : ∀ a o, F a = some o → g.F0 a = some o ∨ g.H0 a = none
  b0 : ∀ l, g.B = some l → F l = none ∧ (∃ o, g.H0 l = some o) ∧ ∃ o, H l = some o
  len : σ.length = δ.length
  rep : ∀ (i : Nat) dv, δ[i]? = some (some dv) → ∃ v, σ[i]? = some (some v) ∧ Rep K g F H v dv
  dis : ∀ (i j : Nat) di dj, δ[i]? = some (some di) → δ[j]? = some (some dj) → own di = true → own dj = true → i ≠ j → σ[i]? ≠ σ[j]?
  br0 : ∀ (i : Nat) ds, δ[i]? = some (some (.br ds)) → i = 0
  brB : ∀ l, g.B = some l → ∃ ds, δ[(0 : Nat)]? = some (some (.br ds))
/-- a value that an expression gives -/
def RepX (K : PySem.W.Frag) (g : Gh) (F H : Hp) (σ : L2.St) (δ : Sl) (v : V) : DV → Prop
  | .fz d => Dr K F v d
  | .mt ds => ∃ l, v = .ref l ∧ MtAt K g F H l ds ∧ ∀ (j : Nat) dj, δ[j]? = some (some dj) → own dj = true → σ[j]? ≠ some (some (.ref l))
  | .br _ => False
  | .ow c => ∃ l, v = .ref l ∧ (g.H0 l = none ∧ F l = none ∧ H l = some c.ho) ∧ ∀ (j : Nat) dj, δ[j]? = some (some dj) → own dj = true → σ[j]? ≠ some (some (.ref l))
def RepL (K : PySem.W.Frag) (F : Hp) (σ : L2.St) (v : V) : LV → Prop
  | .val d => Dr K F v d
  | .slot i => σ[i]? = some (some v)
/-! readings -/
def tL (K : PySem.W.Frag) (f : EL) : TE := fun σ H Q => ∃ g F δ x δ', Ok K g F H σ δ ∧ f δ = some (x, δ') ∧ ∀ v F' H', Ok K g F' H' σ δ' → Same F F' → RepL K F' σ v x → Q v H'
def tE (K : PySem.W.Frag) (f : EE) : TE := fun σ H Q => ∃ g F δ x δ', Ok K g F H σ δ ∧ f δ = some (x, δ') ∧ ∀ v F' H', Ok K g F' H' σ δ' → Same F F' → RepX K g F' H' σ δ' v x → Q v H'
def tV (K : PySem.W.Frag) (f : EV) : TE := fun σ H Q => ∃ g F δ x δ', Ok K g F H σ δ ∧ f δ = some (x, δ') ∧ ∀ v F' H', Ok K g F' H' σ δ' → Same F F' → Dr K F' v x → Q v H'
def tT (K : PySem.W.Frag) (f : ET) : TT := fun σ H Q => ∃ g F δ b δ', Ok K g F H σ δ ∧ f δ = some (b, δ') ∧ ∀ F' H', Ok K g F' H' σ δ' → Same F F' → Q b H'
def tA (K : PySem.W.Frag) (f : EA) : TA := fun σ H Q => ∃ g F δ ds δ', Ok K g F H σ δ ∧ f δ = some (ds, δ') ∧ ∀ vs F' H', Ok K g F' H' σ δ' → Same F F' → DrAll K F' vs ds → Q vs H'
inductive RepLs (K : PySem.W.Frag) (F : Hp) (σ : L2.St) : List V → List LV → Prop
  | nil : RepLs K F σ [] []
  | cons {v : V} {vs : List V} {x : LV} {xs : List LV} : RepL K F σ v x → RepLs K F σ vs xs → RepLs K F σ (v :: vs) (x :: xs)
def tAL (K : PySem.W.Frag) (f : EAL) : TA := fun σ H Q => ∃ g F δ ds δ', Ok K g F H σ δ ∧ f δ = some (ds, δ') ∧ ∀ vs F' H', Ok K g F' H' σ δ' → Same F F' → RepLs K F' σ vs ds → Q vs H'
def tG (K : PySem.W.Frag) (t : ETg) : TG := fun v σ H Q => ∃ g F δ d δ', Ok K g F H σ δ ∧ Dr K F v d ∧ t d δ = some δ' ∧ ∀ σ' F' H', Ok K g F' H' σ' δ' → Same F F' → Q σ' H'
def tGs (K : PySem.W.Frag) (t : List D → Sl → Option Sl) : TGs := fun vs σ H Q => ∃ g F δ ds δ', Ok K g F H σ δ ∧ DrAll K F vs ds ∧ t ds δ = some δ' ∧ ∀ σ' F' H', Ok K g F' H' σ' δ' → Same F F' → Q σ' H'
def Post (K : PySem.W.Frag) (mg : Str → Option Value) (W : WX) (D : Ends) (g : Gh) (F : Hp) : Out → Prop
  | .nx δ' => ∀ σ' F' H', Ok K g F' H' σ' δ' → Same F F' → D.nx σ' H'
  | .bk δ' => ∀ σ' F' H', Ok K g F' H' σ' δ' → Same F F' → D.bk σ' H'
  | .ct δ' => ∀ σ' F' H', Ok K g F' H' σ' δ' → Same F F' → D.ct σ' H'
  | .rt x δ' => ∀ v σ' F' H', Ok K g F' H' σ' δ' → Same F F' → RepX K g F' H' σ' δ' v x → D.rt v H'
  | .ex c δ' => ∀ C σ' F' H', mg c = some (.ref C) → Ok K g F' H' σ' δ' → Same F F' → W (.ref C) none σ' H'
def tS (K : PySem.W.Frag) (mg : Str → Option Value) (W : WX) (f : SM) : TS := fun D σ H => ∃ g F δ o, Ok K g F H σ δ ∧ f δ = some o ∧ Post K mg W D g F o
/-! weaker readings -/
theorem PE.imp {X : Cx} {e : Expr} {t t' : TE} (h : PE X e t) (i : ∀ σ H Q, t' σ H Q → t σ H Q) : PE X e t' := ⟨fun pins s σ H Q I q => h.run pins s σ H Q I (i σ H Q q)⟩
theorem PT.imp {X : Cx} {e : Expr} {t t' : TT} (h : PT X e t) (i : ∀ σ H Q, t' σ H Q → t σ H Q) : PT X e t' := ⟨fun pins s σ H Q I q => h.run pins s σ H Q I (i σ H Q q)⟩
theorem PA.imp {X : Cx} {e : List Expr} {t t' : TA} (h : PA X e t) (i : ∀ σ H Q, t' σ H Q → t σ H Q) : PA X e t' := ⟨fun pos pins s σ H Q I q => h.run pos pins s σ H Q I (i σ H Q q)⟩
theorem PS.imp {X : Cx} {e : Stmt} {t t' : TS} (h : PS X e t) (i : ∀ D σ H, t' D σ H → t D σ H) : PS X e t' := ⟨fun pins s σ H D I q => h.run pins s σ H D I (i D σ H q)⟩
theorem PSs.imp {X : Cx} {e : List Stmt} {t t' : TS} (h : PSs X e t) (i : ∀ D σ H, t' D σ H → t D σ H) : PSs X e t' := ⟨fun pins s σ H D I q => h.run pins s σ H D I (i D σ H q)⟩
theorem PG.imp {X : Cx} {e : Expr} {t t' : TG} (h : PG X e t) (i : ∀ v σ H Q, t' v σ H Q → t v σ H Q) : PG X e t' := ⟨fun pins s σ H v u Q I r q => h.run pins s σ H v u Q I r (i v σ H Q q)⟩
theorem PGs.imp {X : Cx} {e : List Expr} {t t' : TGs} (h : PGs X e t) (i : ∀ v σ H Q, t' v σ H Q → t v σ H Q) : PGs X e t' := ⟨fun pins s σ H v u Q I r q => h.run pins s σ H v u Q I r (i v σ H Q q)⟩
theorem PI.imp {X : Cx} {tg e : Expr} {t t' : TI} (h : PI X tg e t) (i : ∀ σ H Q, t' σ H Q → t σ H Q) : PI X tg e t' := ⟨fun pins s σ H Q I q => h.run pins s σ H Q I (i σ H Q q)⟩
/-! ### moves of the state -/
section
variable {K : PySem.W.Frag} {g : Gh} {F H : Hp} {σ : L2.St} {δ : Sl}
theorem upd_or {H : Hp} {a b : Addr} {o u : HO} (h : upd H a o b = some u) : (b = a ∧ u = o) ∨ (b ≠ a ∧ H b = some u) := by
  by_cases e : b = a
  · subst e
    rw [upd_same] at h
    exact .inl ⟨rfl, (Option.some.inj h).symm⟩
  · rw [upd_ne e] at h
    exact .inr ⟨e, h⟩
theorem same_new {H : Hp} {p : Addr} {o : HO} (h : H p = none) : Same H (upd H p o) := fun b x e => by
  rw [upd_ne (ne_of_none e h)]
  exact e
theorem Ok.none0 (k : Ok K g F H σ δ) {p : Addr} (h : H p = none) : g.H0 p = none := by
  cases e : g.H0 p with
  | none => rfl
  | some o =>
    by_cases hb : g.B = some p
    · obtain ⟨_, _, o', e'⟩ := k.b0 p hb
      rw [h] at e'
      cases e'
    · have := k.frm p o e hb
      rw [h] at this
      cases this
theorem Ok.noneF (k : Ok K g F H σ δ) {p : Addr} (h : H p = none) : F p = none := k.sub.free h
/-- the heap changes, what the slots hold stays -/
theorem Rep.keep {F' H' : Hp} {v : V} {dv : DV} (r : Rep K g F H v dv) (hF : Same F F') (hn : ∀ l, F l = none → (∃ o, H l = some o) → F' l = none)
    (hH : ∀ l vs, (g.H0 l = none ∨ g.B = some l) → F l = none → H l = some vs → H' l = some vs) : Rep K g F' H' v dv := by
  cases dv with
  | ow c =>
    obtain ⟨l, e, h0, hf, hl⟩ := r
    exact ⟨l, e, h0, hn l hf ⟨_, hl⟩, hH l _ (.inl h0) hf hl⟩
  | fz d => exact Dr.mono hF _ _ r
  | mt ds =>
    obtain ⟨l, e, h0, hf, vs, hl, z, ha⟩ := r
    exact ⟨l, e, h0, hn l hf ⟨_, hl⟩, vs, hH l _ (.inl h0) hf hl, z, DrAll.mono hF _ _ ha⟩
  | br ds =>
    obtain ⟨l, e, h0, hf, vs, hl, z, ha⟩ := r
    exact ⟨l, e, h0, hn l hf ⟨_, hl⟩, vs, hH l _ (.inr h0) hf hl, z, DrAll.mono hF _ _ ha⟩
/-- a new object, frozen at once -/
theorem Ok.laid (k : Ok K g F H σ δ) {p : Addr} {o : HO} (h : H p = none) : Ok K g (upd F p o) (upd H p o) σ δ := by
  have hf := k.noneF h
  refine ⟨fun a u e => ?_, fun a u e => ?_, fun a u e hb => ?_, fun a u e => ?_, fun l hl => ?_, k.len, fun i dv e => ?_, k.dis, k.br0, k.brB⟩
  · rcases upd_or e with ⟨rfl, rfl⟩ | ⟨hne, e⟩
    · exact upd_same
    · rw [upd_ne hne]
      exact k.sub a u e
  · have := k.ext a u e
    rw [upd_ne (ne_of_none this hf)]
    exact this
  · have := k.frm a u e hb
    rw [upd_ne (ne_of_none this h)]
    exact this
  · rcases upd_or e with ⟨rfl, rfl⟩ | ⟨hne, e⟩
    · exact .inr (k.none0 h)
    · exact k.new a u e
  · obtain ⟨h1, h2, o', h3⟩ := k.b0 l hl
    have hne : l ≠ p := ne_of_none h3 h
    exact ⟨by rw [upd_ne hne]; exact h1, h2, o', by rw [upd_ne hne]; exact h3⟩
  · obtain ⟨v, e1, r⟩ := k.rep i dv e
    refine ⟨v, e1, r.keep (same_new hf) (fun l hl ⟨o', e'⟩ => by rw [upd_ne (ne_of_none e' h)]; exact hl) fun l vs _ _ e' => ?_⟩
    rw [upd_ne (ne_of_none e' h)]
    exact e'
/-- a new object, not frozen -/
theorem Ok.push (k : Ok K g F H σ δ) {p : Addr} {o : HO} (h : H p = none) : Ok K g F (upd H p o) σ δ := by
  refine ⟨fun a u e => ?_, k.ext, fun a u e hb => ?_, k.new, fun l hl => ?_, k.len, fun i dv e => ?_, k.dis, k.br0, k.brB⟩
  · have := k.sub a u e
    rw [upd_ne (ne_of_none this h)]
    exact this
  · have := k.frm a u e hb
    rw [upd_ne (ne_of_none this h)]
    exact this
  · obtain ⟨h1, h2, o', h3⟩ := k.b0 l hl
    exact ⟨h1, h2, o', by rw [upd_ne (ne_of_none h3 h)]; exact h3⟩
  · obtain ⟨v, e1, r⟩ := k.rep i dv e
    refine ⟨v, e1, r.keep (Same.refl F) (fun l hl _ => hl) fun l vs _ _ e' => ?_⟩
    rw [upd_ne (ne_of_none e' h)]
    exact e'
/-- an owned cell that no slot holds is frozen -/
theorem Ok.freezeO (k : Ok K g F H σ δ) {l : Addr} {o : HO} (h0 : g.H0 l = none) (hf : F l = none) (hl : H l = some o) (hs : ∀ (j : Nat) dj, δ[j]? = some (some dj) → own dj = true → σ[j]? ≠ some (some (.ref l))) :
    Ok K g (upd F l o) H σ δ := by
  have nB : ∀ b, g.B = some b → b ≠ l := fun b hb e => by
    subst e
    obtain ⟨_, ⟨o, e'⟩, _⟩ := k.b0 b hb
    rw [h0] at e'
    cases e'
  refine ⟨fun a u e => ?_, fun a u e => ?_, k.frm, fun a u e => ?_, fun b hb => ?_, k.len, fun i dv e => ?_, k.dis, k.br0, k.brB⟩
  · rcases upd_or e with ⟨rfl, rfl⟩ | ⟨hne, e⟩
    · exact hl
    · exact k.sub a u e
  · have := k.ext a u e
    rw [upd_ne (ne_of_none this hf)]
    exact this
  · rcases upd_or e with ⟨rfl, rfl⟩ | ⟨hne, e⟩
    · exact .inr h0
    · exact k.new a u e
  · obtain ⟨h1, h2, h3⟩ := k.b0 b hb
    exact ⟨by rw [upd_ne (nB b hb)]; exact h1, h2, h3⟩
  · obtain ⟨v, e1, r⟩ := k.rep i dv e
    refine ⟨v, e1, ?_⟩
    cases dv with
    | fz d => exact Dr.mono (same_new hf) _ _ r
    | mt dd =>
      obtain ⟨b, e2, q0, qf, ws, ql, qz, qa⟩ := r
      subst e2
      have hne : b ≠ l := fun e3 => hs i _ e rfl (by rw [e1, e3])
      exact ⟨b, rfl, q0, by rw [upd_ne hne]; exact qf, ws, ql, qz, DrAll.mono (same_new hf) _ _ qa⟩
    | ow c =>
      obtain ⟨b, e2, q0, qf, ql⟩ := r
      subst e2
      have hne : b ≠ l := fun e3 => hs i _ e rfl (by rw [e1, e3])
      exact ⟨b, rfl, q0, by rw [upd_ne hne]; exact qf, ql⟩
    | br dd =>
      obtain ⟨b, e2, q0, qf, ws, ql, qz, qa⟩ := r
      exact ⟨b, e2, q0, by rw [upd_ne (nB b q0)]; exact qf, ws, ql, qz, DrAll.mono (same_new hf) _ _ qa⟩
/-- an owned list that no slot holds is frozen -/
theorem Ok.freeze (k : Ok K g F H σ δ) {l : Addr} {ds : List D} (m : MtAt K g F H l ds) (hs : ∀ (j : Nat) dj, δ[j]? = some (some dj) → own dj = true → σ[j]? ≠ some (some (.ref l))) :
    ∃ F', Ok K g F' H σ δ ∧ Same F F' ∧ Dr K F' (.ref l) (.list ds) := by
  obtain ⟨h0, hf, vs, hl, z, ha⟩ := m
  exact ⟨upd F l (.lst vs), k.freezeO h0 hf hl hs, same_new hf, .lst upd_same z (DrAll.mono (same_new hf) _ _ ha)⟩
/-- what is given, frozen -/
theorem Ok.toV (k : Ok K g F H σ δ) {v : V} {x : DV} (r : RepX K g F H σ δ v x) : ∃ F', Ok K g F' H σ δ ∧ Same F F' ∧ Dr K F' v x.dat := by
  cases x with
  | fz d => exact ⟨F, k, Same.refl F, r⟩
  | mt ds =>
    obtain ⟨l, rfl, m, hs⟩ := r
    exact k.freeze m hs
  | br ds => exact r.elim
  | ow c =>
    obtain ⟨l, rfl, ⟨h0, hf, hl⟩, hs⟩ := r
    exact ⟨upd F l c.ho, k.freezeO h0 hf hl hs, same_new hf, .dct (.inl upd_same) rfl⟩
/-- a slot is stored -/
theorem Ok.store (k : Ok K g F H σ δ) {i : Nat} {v : V} {x : DV} (hb : ∀ ds, δ[i]? ≠ some (some (.br ds))) (r : RepX K g F H σ δ v x) : Ok K g F H (σ.set i (some v)) (δ.set i (some x)) := by
  refine ⟨k.sub, k.ext, k.frm, k.new, k.b0, by rw [List.length_set, List.length_set, k.len], fun j dv e => ?_, fun a b da db ea eb oa ob hne => ?_, fun j ds e => ?_, fun l hl => ?_⟩
  · by_cases hj : i = j
    · subst hj
      by_cases hi : i < δ.length
      · rw [List.getElem?_set_self hi] at e
        cases e
        refine ⟨v, List.getElem?_set_self (by rw [k.len]; exact hi), ?_⟩
        cases x with
        | fz d => exact r
        | mt ds =>
          obtain ⟨l, e1, m, _⟩ := r
          exact ⟨l, e1, m⟩
        | br ds => exact r.elim
        | ow c =>
          obtain ⟨l, e1, m, _⟩ := r
          exact ⟨l, e1, m⟩
      · rw [List.getElem?_eq_none (by simpa using hi)] at e
        cases e
    · rw [List.getElem?_set_ne hj] at e ⊢
      exact k.rep j dv e
  · have free : own x = true → ∃ l, v = .ref l ∧ ∀ (j : Nat) dj, δ[j]? = some (some dj) → own dj = true → σ[j]? ≠ some (some (.ref l)) := fun ho => by
      cases x with
      | fz d => cases ho
      | br d => cases ho
      | mt ds =>
        obtain ⟨l, e1, _, h⟩ := r
        exact ⟨l, e1, h⟩
      | ow ds =>
        obtain ⟨l, e1, _, h⟩ := r
        exact ⟨l, e1, h⟩
    have look : ∀ {c : Nat} {dc : DV}, (δ.set i (some x))[c]? = some (some dc) → (c = i ∧ i < δ.length ∧ x = dc) ∨ (c ≠ i ∧ δ[c]? = some (some dc)) := fun {c dc} e => by
      by_cases hc : i = c
      · subst hc
        by_cases hi : i < δ.length
        · rw [List.getElem?_set_self hi] at e
          exact .inl ⟨rfl, hi, Option.some.inj (Option.some.inj e)⟩
        · rw [List.getElem?_eq_none (by simpa using hi)] at e
          cases e
      · rw [List.getElem?_set_ne hc] at e
        exact .inr ⟨fun z => hc z.symm, e⟩
    rcases look ea with ⟨ha, hi, hx⟩ | ⟨ha, ea1⟩
    · rcases look eb with ⟨hb, _, _⟩ | ⟨hb, eb1⟩
      · exact absurd (ha.trans hb.symm) hne
      · subst hx ha
        obtain ⟨l, rfl, hs⟩ := free oa
        rw [List.getElem?_set_self (by rw [k.len]; exact hi), List.getElem?_set_ne (fun z => hb z.symm)]
        exact fun z => hs b db eb1 ob z.symm
    · rcases look eb with ⟨hb, hi, hx⟩ | ⟨hb, eb1⟩
      · subst hx hb
        obtain ⟨l, rfl, hs⟩ := free ob
        rw [List.getElem?_set_self (by rw [k.len]; exact hi), List.getElem?_set_ne (fun z => ha z.symm)]
        exact hs a da ea1 oa
      · rw [List.getElem?_set_ne (fun z => ha z.symm), List.getElem?_set_ne (fun z => hb z.symm)]
        exact k.dis a b da db ea1 eb1 oa ob hne
  · by_cases hj : i = j
    · subst hj
      by_cases hi : i < δ.length
      · rw [List.getElem?_set_self hi] at e
        cases e
        exact r.elim
      · rw [List.getElem?_eq_none (by simpa using hi)] at e
        cases e
    · rw [List.getElem?_set_ne hj] at e
      exact k.br0 j ds e
  · obtain ⟨ds, e⟩ := k.brB l hl
    have hi : i ≠ 0 := fun z => by
      subst z
      exact hb ds e
    exact ⟨ds, by rw [List.getElem?_set_ne hi]; exact e⟩
/-- slots forgotten -/
theorem wipeD_out {δ : Sl} {i : Nat} : ∀ {vs : List Nat}, i ∉ vs → (wipeD δ vs)[i]? = δ[i]?
  | [], _ => rfl
  | v :: vs, h => by
    have h1 : v ≠ i := fun e => h (by rw [e]; exact List.mem_cons_self)
    have h2 : i ∉ vs := fun m => h (List.mem_cons_of_mem _ m)
    unfold wipeD
    rw [List.getElem?_set_ne h1]
    exact wipeD_out h2
theorem Ok.wipe (k : Ok K g F H σ δ) (vs : List Nat) (hb : ∀ v ∈ vs, ∀ ds, δ[v]? ≠ some (some (.br ds))) : Ok K g F H (L2.wipe σ vs) (wipeD δ vs) := by
  induction vs with
  | nil => exact k
  | cons v vs ih =>
    have ih := ih fun w hw => hb w (List.mem_cons_of_mem _ hw)
    refine ⟨ih.sub, ih.ext, ih.frm, ih.new, ih.b0, ?_, fun j dv e => ?_, fun a b da db ea eb oa ob hne => ?_, fun j ds e => ?_, fun l hl => ?_⟩
    · show ((L2.wipe σ vs).set v none).length = ((wipeD δ vs).set v none).length
      rw [List.length_set, List.length_set, ih.len]
    · have e : ((wipeD δ vs).set v none)[j]? = some (some dv) := e
      show ∃ x, ((L2.wipe σ vs).set v none)[j]? = some (some x) ∧ _
      by_cases hj : v = j
      · subst hj
        by_cases hi : v < (wipeD δ vs).length
        · rw [List.getElem?_set_self hi] at e
          cases e
        · rw [List.getElem?_eq_none (by simpa using hi)] at e
          cases e
      · rw [List.getElem?_set_ne hj] at e ⊢
        exact ih.rep j dv e
    · have ea : ((wipeD δ vs).set v none)[a]? = some (some da) := ea
      have eb : ((wipeD δ vs).set v none)[b]? = some (some db) := eb
      show ((L2.wipe σ vs).set v none)[a]? ≠ ((L2.wipe σ vs).set v none)[b]?
      have look : ∀ {c : Nat} {dc : DV}, ((wipeD δ vs).set v none)[c]? = some (some dc) → c ≠ v ∧ (wipeD δ vs)[c]? = some (some dc) := fun {c dc} e => by
        by_cases hc : v = c
        · subst hc
          by_cases hi : v < (wipeD δ vs).length
          · rw [List.getElem?_set_self hi] at e
            cases e
          · rw [List.getElem?_eq_none (by simpa using hi)] at e
            cases e
        · rw [List.getElem?_set_ne hc] at e
          exact ⟨fun z => hc z.symm, e⟩
      obtain ⟨ha, ea⟩ := look ea
      obtain ⟨hb, eb⟩ := look eb
      rw [List.getElem?_set_ne (fun z => ha z.symm), List.getElem?_set_ne (fun z => hb z.symm)]
      exact ih.dis a b da db ea eb oa ob hne
    · have e : ((wipeD δ vs).set v none)[j]? = some (some (.br ds)) := e
      by_cases hj : v = j
      · subst hj
        by_cases hi : v < (wipeD δ vs).length
        · rw [List.getElem?_set_self hi] at e
          cases e
        · rw [List.getElem?_eq_none (by simpa using hi)] at e
          cases e
      · rw [List.getElem?_set_ne hj] at e
        exact ih.br0 j ds e
    · obtain ⟨ds, e⟩ := k.brB l hl
      refine ⟨ds, (wipeD_out fun z => ?_).trans e⟩
      exact hb 0 z ds e
/-- the list at l, which slot i owns or borrows, is changed -/
theorem Ok.change (k : Ok K g F H σ δ) {i : Nat} {x : DV} {l : Addr} {ds' : List D} {vs' : List V} (e : δ[i]? = some (some x)) (hx : ∀ d, x ≠ .fz d) (hw : ∀ c, x ≠ .ow c) (ev : σ[i]? = some (some (.ref l))) (z : vs'.length ≤ sizeLine) (ha : DrAll K F vs' ds') :
    Ok K g F (upd H l (.lst vs')) σ (δ.set i (some (x.put ds'))) := by
  obtain ⟨v, e1, r⟩ := k.rep i x e
  rw [ev] at e1
  cases e1
  have hi : i < δ.length := (List.getElem?_eq_some_iff.mp e).1
  have fresh : F l = none ∧ (g.H0 l = none ∨ g.B = some l) := by
    cases x with
    | fz d => exact absurd rfl (hx d)
    | ow d => exact absurd rfl (hw d)
    | mt ds =>
      obtain ⟨l', e2, h0, hf, _⟩ := r
      cases e2
      exact ⟨hf, .inl h0⟩
    | br ds =>
      obtain ⟨l', e2, h0, hf, _⟩ := r
      cases e2
      exact ⟨hf, .inr h0⟩
  have there : ∃ o, H l = some o := by
    cases x with
    | fz d => exact absurd rfl (hx d)
    | ow d => exact absurd rfl (hw d)
    | mt ds =>
      obtain ⟨l', e2, h0, hf, vs, hl, _⟩ := r
      cases e2
      exact ⟨_, hl⟩
    | br ds =>
      obtain ⟨l', e2, h0, hf, vs, hl, _⟩ := r
      cases e2
      exact ⟨_, hl⟩
  refine ⟨fun a u q => ?_, k.ext, fun a u q hb => ?_, k.new, fun b hb => ?_, by rw [List.length_set, k.len], fun j dv q => ?_, fun a b da db ea eb oa ob hne => ?_, fun j ds q => ?_, fun b hb => ?_⟩
  · rw [upd_ne (ne_of_none q fresh.1)]
    exact k.sub a u q
  · have hne : a ≠ l := fun z => by
      subst z
      rcases fresh.2 with h | h
      · rw [h] at q
        cases q
      · exact hb h
    rw [upd_ne hne]
    exact k.frm a u q hb
  · obtain ⟨h1, h2, o', h3⟩ := k.b0 b hb
    by_cases hbl : b = l
    · subst hbl
      exact ⟨h1, h2, _, upd_same⟩
    · exact ⟨h1, h2, o', by rw [upd_ne hbl]; exact h3⟩
  · by_cases hj : i = j
    · subst hj
      rw [List.getElem?_set_self hi] at q
      cases q
      refine ⟨_, ev, ?_⟩
      cases x with
      | fz d => exact absurd rfl (hx d)
      | ow d => exact absurd rfl (hw d)
      | mt ds =>
        obtain ⟨l', e2, h0, hf, _⟩ := r
        cases e2
        exact ⟨l, rfl, h0, hf, vs', upd_same, z, ha⟩
      | br ds =>
        obtain ⟨l', e2, h0, hf, _⟩ := r
        cases e2
        exact ⟨l, rfl, h0, hf, vs', upd_same, z, ha⟩
    · rw [List.getElem?_set_ne hj] at q
      obtain ⟨v, e1, r2⟩ := k.rep j dv q
      refine ⟨v, e1, ?_⟩
      cases dv with
      | fz d => exact r2
      | ow dd =>
        obtain ⟨b, e2, q0, qf, ql⟩ := r2
        subst e2
        have hne : b ≠ l := fun z => by
          subst z
          cases x with
          | fz d => exact absurd rfl (hx d)
          | ow d => exact absurd rfl (hw d)
          | mt ds => exact k.dis i j _ _ e q rfl rfl hj (by rw [ev, e1])
          | br ds =>
            obtain ⟨l', e2, h0, hf, _⟩ := r
            cases e2
            obtain ⟨_, ⟨o, q1⟩, _⟩ := k.b0 _ h0
            rw [q0] at q1
            cases q1
        exact ⟨b, rfl, q0, qf, by rw [upd_ne hne]; exact ql⟩
      | mt dd =>
        obtain ⟨b, e2, q0, qf, ws, ql, qz, qa⟩ := r2
        subst e2
        have hne : b ≠ l := fun z => by
          subst z
          cases x with
          | fz d => exact absurd rfl (hx d)
          | ow d => exact absurd rfl (hw d)
          | mt ds => exact k.dis i j _ _ e q rfl rfl hj (by rw [ev, e1])
          | br ds =>
            obtain ⟨l', e2, h0, hf, _⟩ := r
            cases e2
            obtain ⟨_, ⟨o, q1⟩, _⟩ := k.b0 _ h0
            rw [q0] at q1
            cases q1
        exact ⟨b, rfl, q0, qf, ws, by rw [upd_ne hne]; exact ql, qz, qa⟩
      | br dd =>
        obtain ⟨b, e2, q0, qf, ws, ql, qz, qa⟩ := r2
        subst e2
        have hne : b ≠ l := fun z => by
          subst z
          cases x with
          | fz d => exact absurd rfl (hx d)
          | ow d => exact absurd rfl (hw d)
          | mt w =>
            obtain ⟨l', e2, h0, hf, _⟩ := r
            cases e2
            obtain ⟨_, ⟨o, q1⟩, _⟩ := k.b0 _ q0
            rw [h0] at q1
            cases q1
          | br w => exact hj ((k.br0 i w e).trans (k.br0 j dd q).symm)
        exact ⟨b, rfl, q0, qf, ws, by rw [upd_ne hne]; exact ql, qz, qa⟩
  · have look : ∀ {c : Nat} {dc : DV}, (δ.set i (some (x.put ds')))[c]? = some (some dc) → own dc = true → ∃ dc', δ[c]? = some (some dc') ∧ own dc' = true := fun {c dc} q oq => by
      by_cases hc : i = c
      · subst hc
        rw [List.getElem?_set_self hi] at q
        cases x with
        | fz d => exact absurd rfl (hx d)
        | ow d => exact absurd rfl (hw d)
        | mt ds => exact ⟨_, e, rfl⟩
        | br ds =>
          cases q
          cases oq
      · rw [List.getElem?_set_ne hc] at q
        exact ⟨dc, q, oq⟩
    obtain ⟨_, ea1, oa1⟩ := look ea oa
    obtain ⟨_, eb1, ob1⟩ := look eb ob
    exact k.dis a b _ _ ea1 eb1 oa1 ob1 hne
  · by_cases hj : i = j
    · subst hj
      rw [List.getElem?_set_self hi] at q
      cases x with
      | fz d => exact absurd rfl (hx d)
      | ow d => exact absurd rfl (hw d)
      | mt w => cases q
      | br w => exact k.br0 i w e
    · rw [List.getElem?_set_ne hj] at q
      exact k.br0 j ds q
  · obtain ⟨ds, q⟩ := k.brB b hb
    by_cases h0 : i = 0
    · subst h0
      rw [e] at q
      cases q
      exact ⟨ds', List.getElem?_set_self hi⟩
    · exact ⟨ds, by rw [List.getElem?_set_ne h0]; exact q⟩
/-- the dict in slot i, changed -/
theorem Ok.changeO (k : Ok K g F H σ δ) {i : Nat} {c c' : Own} {l : Addr} (e : δ[i]? = some (some (.ow c))) (ev : σ[i]? = some (some (.ref l))) :
    Ok K g F (upd H l c'.ho) σ (δ.set i (some (.ow c'))) := by
  obtain ⟨v, e1, r⟩ := k.rep i _ e
  rw [ev] at e1
  cases e1
  obtain ⟨l', e2, h0, hf, hl⟩ := r
  cases e2
  have hi : i < δ.length := (List.getElem?_eq_some_iff.mp e).1
  have nB : ∀ b, g.B = some b → b ≠ l := fun b hb e => by
    subst e
    obtain ⟨_, ⟨o, e'⟩, _⟩ := k.b0 b hb
    rw [h0] at e'
    cases e'
  refine ⟨fun a u q => ?_, k.ext, fun a u q hb => ?_, k.new, fun b hb => ?_, by rw [List.length_set, k.len], fun j dv q => ?_, fun a b da db ea eb oa ob hne => ?_, fun j ds q => ?_, fun b hb => ?_⟩
  · rw [upd_ne (ne_of_none q hf)]
    exact k.sub a u q
  · have hne : a ≠ l := fun z => by
      subst z
      rw [h0] at q
      cases q
    rw [upd_ne hne]
    exact k.frm a u q hb
  · obtain ⟨h1, h2, o', h3⟩ := k.b0 b hb
    exact ⟨h1, h2, o', by rw [upd_ne (nB b hb)]; exact h3⟩
  · by_cases hj : i = j
    · subst hj
      rw [List.getElem?_set_self hi] at q
      cases q
      exact ⟨_, ev, l, rfl, h0, hf, upd_same⟩
    · rw [List.getElem?_set_ne hj] at q
      obtain ⟨v, e1, r2⟩ := k.rep j dv q
      refine ⟨v, e1, ?_⟩
      cases dv with
      | fz d => exact r2
      | ow dd =>
        obtain ⟨b, e2, q0, qf, ql⟩ := r2
        subst e2
        have hne : b ≠ l := fun z => by
          subst z
          exact k.dis i j _ _ e q rfl rfl hj (by rw [ev, e1])
        exact ⟨b, rfl, q0, qf, by rw [upd_ne hne]; exact ql⟩
      | mt dd =>
        obtain ⟨b, e2, q0, qf, ws, ql, qz, qa⟩ := r2
        subst e2
        have hne : b ≠ l := fun z => by
          subst z
          exact k.dis i j _ _ e q rfl rfl hj (by rw [ev, e1])
        exact ⟨b, rfl, q0, qf, ws, by rw [upd_ne hne]; exact ql, qz, qa⟩
      | br dd =>
        obtain ⟨b, e2, q0, qf, ws, ql, qz, qa⟩ := r2
        subst e2
        exact ⟨b, rfl, q0, qf, ws, by rw [upd_ne (nB b q0)]; exact ql, qz, qa⟩
  · have look : ∀ {c0 : Nat} {dc : DV}, (δ.set i (some (.ow c')))[c0]? = some (some dc) → own dc = true → ∃ dc', δ[c0]? = some (some dc') ∧ own dc' = true := fun {c0 dc} q oq => by
      by_cases hc : i = c0
      · subst hc
        exact ⟨_, e, rfl⟩
      · rw [List.getElem?_set_ne hc] at q
        exact ⟨dc, q, oq⟩
    obtain ⟨_, ea1, oa1⟩ := look ea oa
    obtain ⟨_, eb1, ob1⟩ := look eb ob
    exact k.dis a b _ _ ea1 eb1 oa1 ob1 hne
  · by_cases hj : i = j
    · subst hj
      rw [List.getElem?_set_self hi] at q
      cases q
    · rw [List.getElem?_set_ne hj] at q
      exact k.br0 j ds q
  · obtain ⟨ds, q⟩ := k.brB b hb
    have hi0 : i ≠ 0 := fun z => by
      subst z
      rw [e] at q
      cases q
    exact ⟨ds, by rw [List.getElem?_set_ne hi0]; exact q⟩
/-- a name's content, as it stands now -/
theorem Ok.get (k : Ok K g F H σ δ) {v : V} {x : LV} {d : D} (r : RepL K F σ v x) (h : x.get δ = some d) : Dr K H v d := by
  cases x with
  | val d' =>
    cases h
    exact Dr.mono k.sub _ _ r
  | slot i =>
    have r : σ[i]? = some (some v) := r
    have h : slotD δ i = some d := h
    unfold slotD at h
    split at h
    · cases h
    · rename_i dv _ hdv
      cases h
      obtain ⟨v', e1, r2⟩ := k.rep _ dv hdv
      rw [r] at e1
      cases e1
      cases dv with
      | fz d => exact Dr.mono k.sub _ _ r2
      | mt ds =>
        obtain ⟨l, rfl, h0, hf, vs, hl, z, ha⟩ := r2
        exact .lst hl z (DrAll.mono k.sub _ _ ha)
      | br ds =>
        obtain ⟨l, rfl, h0, hf, vs, hl, z, ha⟩ := r2
        exact .lst hl z (DrAll.mono k.sub _ _ ha)
      | ow c =>
        obtain ⟨l, rfl, h0, hf, hl⟩ := r2
        exact .dct (.inl hl) rfl
    · cases h
/-- the heap grows, beside -/
theorem Ok.later {H' : Hp} (k : Ok K g F H σ δ) (s : Same H H') : Ok K g F H' σ δ :=
  ⟨k.sub.trans s, k.ext, fun a o e hb => s _ _ (k.frm a o e hb), k.new, fun l hl => by
    obtain ⟨h1, h2, o, h3⟩ := k.b0 l hl
    exact ⟨h1, h2, o, s _ _ h3⟩, k.len, fun i dv e => by
    obtain ⟨v, e1, r⟩ := k.rep i dv e
    exact ⟨v, e1, r.keep (Same.refl F) (fun l h _ => h) fun l vs _ _ q => s _ _ q⟩, k.dis, k.br0, k.brB⟩
/-- the cell of an owned slot -/
def OwnedBy (σ : L2.St) (δ : Sl) (a : Addr) : Prop := ∃ (j : Nat) (ds : DV), δ[j]? = some (some ds) ∧ own ds = true ∧ σ[j]? = some (some (.ref a))
open Classical in
/-- the entry moved to the present state -/
noncomputable def rebase (g : Gh) (F H : Hp) (σ : L2.St) (δ : Sl) : Gh := ⟨g.B, F, fun a => if OwnedBy σ δ a then none else H a⟩
theorem rebase_none {a : Addr} (h : OwnedBy σ δ a) : (rebase g F H σ δ).H0 a = none := by
  unfold rebase
  exact if_pos h
theorem rebase_some {a : Addr} (h : ¬ OwnedBy σ δ a) : (rebase g F H σ δ).H0 a = H a := by
  unfold rebase
  exact if_neg h
theorem Ok.ownCell (k : Ok K g F H σ δ) {j : Nat} {dj : DV} {l : Addr} (e : δ[j]? = some (some dj)) (oj : own dj = true) (e2 : σ[j]? = some (some (.ref l))) : g.H0 l = none ∧ F l = none ∧ ∃ o, H l = some o := by
  obtain ⟨v, e1, r⟩ := k.rep j _ e
  rw [e1] at e2
  cases e2
  cases dj with
  | fz d => cases oj
  | br d => cases oj
  | mt ds =>
    obtain ⟨l, q, h0, hf, vs, hl, _⟩ := r
    cases q
    exact ⟨h0, hf, _, hl⟩
  | ow ds =>
    obtain ⟨l, q, h0, hf, hl⟩ := r
    cases q
    exact ⟨h0, hf, _, hl⟩
theorem Ok.owned0 (k : Ok K g F H σ δ) {a : Addr} (h : OwnedBy σ δ a) : g.H0 a = none ∧ F a = none := by
  obtain ⟨j, ds, e, ho, e2⟩ := h
  obtain ⟨v, e1, r⟩ := k.rep j _ e
  rw [e1] at e2
  cases e2
  cases ds with
  | fz d => cases ho
  | br d => cases ho
  | mt ds =>
    obtain ⟨l, q, h0, hf, _⟩ := r
    cases q
    exact ⟨h0, hf⟩
  | ow ds =>
    obtain ⟨l, q, h0, hf, _⟩ := r
    cases q
    exact ⟨h0, hf⟩
theorem Ok.rebase (k : Ok K g F H σ δ) : Ok K (rebase g F H σ δ) F H σ δ := by
  refine ⟨k.sub, Same.refl F, fun a o e hb => ?_, fun a o e => .inl e, fun l hl => ?_, k.len, fun i dv e => ?_, k.dis, k.br0, k.brB⟩
  · by_cases h : OwnedBy σ δ a
    · rw [rebase_none h] at e
      cases e
    · rw [rebase_some h] at e
      exact e
  · obtain ⟨h1, h2, o, h3⟩ := k.b0 l hl
    refine ⟨h1, ⟨o, ?_⟩, o, h3⟩
    rw [rebase_some fun h => ?_]
    · exact h3
    · obtain ⟨q, _⟩ := k.owned0 h
      obtain ⟨o', h2⟩ := h2
      rw [q] at h2
      cases h2
  · obtain ⟨v, e1, r⟩ := k.rep i dv e
    refine ⟨v, e1, ?_⟩
    cases dv with
    | fz d => exact r
    | mt ds =>
      obtain ⟨l, rfl, h0, r⟩ := r
      exact ⟨l, rfl, rebase_none ⟨i, _, e, rfl, e1⟩, r⟩
    | ow c =>
      obtain ⟨l, rfl, h0, r⟩ := r
      exact ⟨l, rfl, rebase_none ⟨i, _, e, rfl, e1⟩, r⟩
    | br ds => exact r
theorem Ok.unbase {F' H' : Hp} {σ' : L2.St} {δ' : Sl} (k : Ok K g F H σ δ) (k' : Ok K (DL.rebase g F H σ δ) F' H' σ' δ') : Ok K g F' H' σ' δ' := by
  have n0 : ∀ a, (DL.rebase g F H σ δ).H0 a = none → g.H0 a = none := fun a e => by
    by_cases h : OwnedBy σ δ a
    · exact (k.owned0 h).1
    · rw [rebase_some h] at e
      exact k.none0 e
  refine ⟨k'.sub, k.ext.trans k'.ext, fun a o e hb => ?_, fun a o e => ?_, fun l hl => ?_, k'.len, fun i dv e => ?_, k'.dis, k'.br0, k'.brB⟩
  · refine k'.frm a o ?_ hb
    rw [rebase_some fun h => ?_]
    · exact k.frm a o e hb
    · rw [(k.owned0 h).1] at e
      cases e
  · rcases k'.new a o e with h | h
    · exact k.new a o h
    · exact .inr (n0 a h)
  · obtain ⟨h1, h2, h3⟩ := k'.b0 l hl
    exact ⟨h1, (k.b0 l hl).2.1, h3⟩
  · obtain ⟨v, e1, r⟩ := k'.rep i dv e
    refine ⟨v, e1, ?_⟩
    cases dv with
    | fz d => exact r
    | mt ds =>
      obtain ⟨l, rfl, h0, r⟩ := r
      exact ⟨l, rfl, n0 l h0, r⟩
    | ow c =>
      obtain ⟨l, rfl, h0, r⟩ := r
      exact ⟨l, rfl, n0 l h0, r⟩
    | br ds => exact r
/-- a cell beside the slots stays through an evaluation from the present state -/
theorem Ok.beside {F' H' : Hp} {σ' : L2.St} {δ' : Sl} {a : Addr} {o : HO} (k' : Ok K (DL.rebase g F H σ δ) F' H' σ' δ') (ha : H a = some o) (hf : F a = none) (ho : ¬ OwnedBy σ δ a) (hb : g.B ≠ some a) :
    H' a = some o ∧ F' a = none ∧ ¬ OwnedBy σ' δ' a := by
  have e0 : (DL.rebase g F H σ δ).H0 a = some o := by rw [rebase_some ho]; exact ha
  refine ⟨k'.frm a o e0 hb, ?_, fun h => ?_⟩
  · cases e : F' a with
    | none => rfl
    | some u =>
      rcases k'.new a u e with h | h
      · have h : F a = some u := h
        rw [hf] at h
        cases h
      · rw [e0] at h
        cases h
  · have := (k'.owned0 h).1
    rw [e0] at this
    cases this
end
end DL
set_option Elab.async false
set_option linter.all false
set_option maxRecDepth 100000
set_option maxHeartbeats 1000000
/-! Rules: expressions. -/
namespace DL
open PySem PySem.Spec PyProof.Rows L2
section
variable {K : PySem.W.Frag} {g : Gh} {F F' H : Hp} {σ : L2.St} {δ : Sl}
/-- a late value as it stands -/
def Dl (K : PySem.W.Frag) (F H : Hp) (v : V) (d : D) : Prop := Dr K F v d ∨ ∃ l vs ds, v = .ref l ∧ d = .list ds ∧ H l = some (.lst vs) ∧ vs.length ≤ sizeLine ∧ DrAll K F vs ds
theorem Ok.late (k : Ok K g F H σ δ) {v : V} {x : LV} {d : D} (r : RepL K F σ v x) (h : x.get δ = some d) : Dl K F H v d := by
  cases x with
  | val d' =>
    cases h
    exact .inl r
  | slot i =>
    have r : σ[i]? = some (some v) := r
    have h : slotD δ i = some d := h
    unfold slotD at h
    split at h
    · cases h
    · rename_i dv hno hdv
      cases h
      obtain ⟨v', e1, r2⟩ := k.rep _ dv hdv
      rw [r] at e1
      cases e1
      cases dv with
      | ow c => exact (hno c rfl).elim
      | fz d => exact .inl r2
      | mt ds =>
        obtain ⟨l, rfl, h0, hf, vs, hl, z, ha⟩ := r2
        exact .inr ⟨l, vs, ds, rfl, rfl, hl, z, ha⟩
      | br ds =>
        obtain ⟨l, rfl, h0, hf, vs, hl, z, ha⟩ := r2
        exact .inr ⟨l, vs, ds, rfl, rfl, hl, z, ha⟩
    · cases h
theorem Dl.dr (e : Same F H) {v : V} {d : D} (h : Dl K F H v d) : Dr K H v d := by
  rcases h with h | ⟨l, vs, ds, rfl, rfl, h1, h2, h3⟩
  · exact Dr.mono e _ _ h
  · exact .lst h1 h2 (DrAll.mono e _ _ h3)
theorem Dl.unint {v : V} {i : Int} (h : Dl K F H v (.int i)) : v = .int i := by
  rcases h with h | ⟨l, vs, ds, _, h, _⟩
  · exact h.unint
  · cases h
theorem Dl.unbool {v : V} {b : Bool} (h : Dl K F H v (.bool b)) : v = .bl b := by
  rcases h with h | ⟨l, vs, ds, _, h, _⟩
  · exact h.unbool
  · cases h
theorem Dl.unstr {v : V} {b : Str} (h : Dl K F H v (.str b)) : v = .str b := by
  rcases h with h | ⟨l, vs, ds, _, h, _⟩
  · exact h.unstr
  · cases h
theorem Dl.untup {v : V} {ds : List D} (h : Dl K F H v (.tuple ds)) : ∃ a xs, v = .ref a ∧ TupF F a xs ∧ xs.length ≤ sizeLine ∧ DrAll K F xs ds := by
  rcases h with h | ⟨l, vs, ds, _, h, _⟩
  · exact h.untup
  · cases h
theorem Dl.unlst (e : Same F H) {v : V} {ds : List D} (h : Dl K F H v (.list ds)) : ∃ a xs, v = .ref a ∧ H a = some (.lst xs) ∧ xs.length ≤ sizeLine ∧ DrAll K F xs ds := by
  rcases h with h | ⟨l, vs, ds, rfl, h, h1, h2, h3⟩
  · obtain ⟨a, xs, rfl, h1, h2, h3⟩ := h.unlst
    exact ⟨a, xs, rfl, e _ _ h1, h2, h3⟩
  · cases h
    exact ⟨l, vs, rfl, h1, h2, h3⟩
theorem Dl.unscr (e : Same F H) {v : V} {kvs : List (D × D)} {ms : List Int} (hu : unScr (.dict kvs) = some ms) (h : Dl K F H v (.dict kvs)) : ∃ (a : Addr) (ns : List Int), v = .ref a ∧ SqL K H a (ns.map V.int) ∧ kvs = [(.none, .list (ns.map PyData.int))] := by
  rcases h with h | ⟨l, vs, ds, _, h, _⟩
  · cases h with
    | par h1 h2 h3 h4 =>
      subst h4
      cases hu
    | scr h1 h2 => exact ⟨_, _, rfl, Same.seq e h1, h2⟩
    | fn h =>
      subst h
      cases hu
    | @dct _ c _ h1 h2 =>
      subst h2
      cases c <;> simp [Own.kvs, unScr] at hu
  · cases h
theorem RepL.mono (e : Same F F') {v : V} {x : LV} (h : RepL K F σ v x) : RepL K F' σ v x := by
  cases x with
  | val d => exact Dr.mono e _ _ h
  | slot i => exact h
/-- what a value given is to reach -/
def Give (K : PySem.W.Frag) (g : Gh) (F H : Hp) (σ : L2.St) (δ : Sl) (r : DV) (Q : VK) : Prop := ∀ v F' H', Ok K g F' H' σ δ → Same F F' → RepX K g F' H' σ δ v r → Q v H'
theorem Give.fz {Q : VK} {d : D} {v : V} (q : Give K g F H σ δ (.fz d) Q) (k : Ok K g F H σ δ) (h : Dr K F v d) : Q v H := q v F H k (Same.refl F) h
theorem Give.tup {Q : VK} {ds : List D} {vs : List V} {p : Addr} {o : Obj} (q : Give K g F H σ δ (.fz (.tuple ds)) Q) (k : Ok K g F H σ δ) (hp : H p = none) (ho : TupO o) (z : vs.length ≤ sizeLine) (h : DrAll K F vs ds) : Q (.ref p) (upd H p (.frz o (.tup vs))) :=
  q _ _ _ (k.laid hp) (same_new (k.noneF hp)) (.tup ⟨o, ho, upd_same⟩ z (DrAll.mono (same_new (k.noneF hp)) _ _ h))
theorem Ok.newMt (k : Ok K g F H σ δ) {p : Addr} {vs : List V} {ds : List D} (hp : H p = none) (z : vs.length ≤ sizeLine) (h : DrAll K F vs ds) :
    RepX K g F (upd H p (.lst vs)) σ δ (.ref p) (.mt ds) := by
  refine ⟨p, rfl, ⟨k.none0 hp, k.noneF hp, vs, upd_same, z, h⟩, fun j dj e ho => ?_⟩
  intro e2
  obtain ⟨v, e1, r⟩ := k.rep j _ e
  rw [e1] at e2
  cases e2
  cases dj with
  | fz d => cases ho
  | br d => cases ho
  | mt d =>
    obtain ⟨l, q, _, _, ws, hl, _⟩ := r
    cases q
    rw [hp] at hl
    cases hl
  | ow d =>
    obtain ⟨l, q, _, _, hl⟩ := r
    cases q
    rw [hp] at hl
    cases hl
theorem Give.lst {Q : VK} {ds : List D} {vs : List V} {p : Addr} (q : Give K g F H σ δ (.mt ds) Q) (k : Ok K g F H σ δ) (hp : H p = none) (z : vs.length ≤ sizeLine) (h : DrAll K F vs ds) : Q (.ref p) (upd H p (.lst vs)) :=
  q _ _ _ (k.push hp) (Same.refl F) (k.newMt hp z h)
end
/-! operations on data -/
def rD (K : PySem.W.Frag) (gd : G2) : R2 := fun x y H Q => ∃ g F σ δ u v r, Ok K g F H σ δ ∧ Dl K F H x u ∧ Dl K F H y v ∧ gd u v = some r ∧ Give K g F H σ δ r Q
def uD (K : PySem.W.Frag) (gd : D → Option D) : V → Hp → VK → Prop := fun x H Q => ∃ g F σ δ u r, Ok K g F H σ δ ∧ Dl K F H x u ∧ gd u = some r ∧ Give K g F H σ δ (.fz r) Q
inductive DlAll (K : PySem.W.Frag) (F H : Hp) : List V → List D → Prop
  | nil : DlAll K F H [] []
  | cons {v : V} {vs : List V} {d : D} {ds : List D} : Dl K F H v d → DlAll K F H vs ds → DlAll K F H (v :: vs) (d :: ds)
def cD (K : PySem.W.Frag) (gd : GN) : List V → Hp → VK → Prop := fun xs H Q => ∃ g F σ δ us r, Ok K g F H σ δ ∧ DlAll K F H xs us ∧ gd us = some r ∧ Give K g F H σ δ r Q
section
variable {X : Cx} {f : Value → Value → Sem Value} {ga gb : G2}
theorem OpR.orD (ha : OpR X f (rD X.K ga)) (hb : OpR X f (rD X.K gb)) : OpR X f (rD X.K (orG ga gb)) := by
  intro pins s σ H x y v u Q I rx ry ⟨g, F, σ', δ, d, e, r, k, hd, he, hr, q⟩
  unfold orG at hr
  split at hr
  · rename_i r' h'
    cases hr
    exact ha pins s σ H x y v u Q I rx ry ⟨g, F, σ', δ, d, e, _, k, hd, he, h', q⟩
  · exact hb pins s σ H x y v u Q I rx ry ⟨g, F, σ', δ, d, e, r, k, hd, he, hr, q⟩
theorem CallR.orD {c : Value} {na nb : GN} (ha : CallR X c (cD X.K na)) (hb : CallR X c (cD X.K nb)) : CallR X c (cD X.K (orN na nb)) := by
  intro pins s σ H xs us Q I rx ⟨g, F, σ', δ, ds, r, k, hd, hr, q⟩
  unfold orN at hr
  split at hr
  · rename_i r' h'
    cases hr
    exact ha pins s σ H xs us Q I rx ⟨g, F, σ', δ, ds, _, k, hd, h', q⟩
  · exact hb pins s σ H xs us Q I rx ⟨g, F, σ', δ, ds, r, k, hd, hr, q⟩
theorem IxR.orD (ha : IxR X (rD X.K ga)) (hb : IxR X (rD X.K gb)) : IxR X (rD X.K (orG ga gb)) := by
  intro value slice pins s σ H x y v u Q I rx ry ⟨g, F, σ', δ, d, e, r, k, hd, he, hr, q⟩ hs
  unfold orG at hr
  split at hr
  · rename_i r' h'
    cases hr
    exact ha value slice pins s σ H x y v u Q I rx ry ⟨g, F, σ', δ, d, e, _, k, hd, he, h', q⟩ hs
  · exact hb value slice pins s σ H x y v u Q I rx ry ⟨g, F, σ', δ, d, e, r, k, hd, he, hr, q⟩ hs
theorem OpR.imp {r r' : R2} (h : OpR X f r) (i : ∀ x y H Q, r' x y H Q → r x y H Q) : OpR X f r' := fun pins s σ H x y v u Q I rx ry q => h pins s σ H x y v u Q I rx ry (i x y H Q q)
theorem IxR.imp {r r' : R2} (h : IxR X r) (i : ∀ x y H Q, r' x y H Q → r x y H Q) : IxR X r' := fun va sl pins s σ H x y v u Q I rx ry q => h va sl pins s σ H x y v u Q I rx ry (i x y H Q q)
theorem CallR.imp {c : Value} {r r' : List V → Hp → VK → Prop} (h : CallR X c r) (i : ∀ x H Q, r' x H Q → r x H Q) : CallR X c r' := fun pins s σ H x u Q I rx q => h pins s σ H x u Q I rx (i x H Q q)
theorem UnR.imp {c : Value → Sem Value} {r r' : V → Hp → VK → Prop} (h : UnR X c r) (i : ∀ x H Q, r' x H Q → r x H Q) : UnR X c r' := fun pins s σ H x u Q I rx q => h pins s σ H x u Q I rx (i x H Q q)
theorem MtR.imp {c : String} {r r' : V → List V → Hp → VK → Prop} (h : MtR X c r) (i : ∀ x xs H Q, r' x xs H Q → r x xs H Q) : MtR X c r' := fun pins s σ H x xs u us Q I rx rs q => h pins s σ H x xs u us Q I rx rs (i x xs H Q q)
end
section
variable {X : Cx}
theorem gI_inv {c : Int → Int → Bool} {f : Int → Int → D} {u v : D} {r : DV} (h : gI c f u v = some r) : ∃ i j, u = .int i ∧ v = .int j ∧ c i j = true ∧ r = .fz (f i j) := by
  unfold gI at h
  split at h
  · rename_i i j
    split at h
    · rename_i hc
      cases h
      exact ⟨i, j, rfl, rfl, hc, rfl⟩
    · cases h
  · cases h
/-- an operation on ints -/
theorem opI_D {fo : Value → Value → Sem Value} {C : Int → Int → Prop} {gv : Int → Int → V} {c : Int → Int → Bool} {f : Int → Int → D} (h : OpR X fo (rI C gv)) (hc : ∀ i j, c i j = true → C i j) (hf : ∀ K F i j, Dr K F (gv i j) (f i j)) : OpR X fo (rD X.K (gI c f)) :=
  OpR.imp h fun x y H Q ⟨g, F, σ, δ, u, v, r, k, hx, hy, hr, q⟩ => by
    obtain ⟨i, j, rfl, rfl, e, rfl⟩ := gI_inv hr
    exact ⟨i, j, hx.unint, hy.unint, hc i j e, q.fz k (hf _ _ i j)⟩
theorem opI0_D {fo : Value → Value → Sem Value} {gv : Int → Int → V} {c : Int → Int → Bool} {f : Int → Int → D} (h : OpR X fo (rI0 gv)) (hf : ∀ K F i j, Dr K F (gv i j) (f i j)) : OpR X fo (rD X.K (gI c f)) :=
  OpR.imp h fun x y H Q ⟨g, F, σ, δ, u, v, r, k, hx, hy, hr, q⟩ => by
    obtain ⟨i, j, rfl, rfl, e, rfl⟩ := gI_inv hr
    exact ⟨i, j, hx.unint, hy.unint, q.fz k (hf _ _ i j)⟩
theorem okMul_ok {i j : Int} (h : okMul i j = true) : CMul i j := by
  unfold okMul p64 at h
  simp only [Bool.or_eq_true, Bool.and_eq_true, decide_eq_true_eq] at h
  unfold CMul
  omega
theorem okDiv_ok {i j : Int} (h : okDiv i j = true) : CDivN i j := by
  unfold okDiv at h
  simp only [Bool.and_eq_true, decide_eq_true_eq] at h
  exact h
theorem okPow_ok {i j : Int} (h : okPow i j = true) : CPow i j := by
  unfold okPow at h
  simp only [Bool.and_eq_true, decide_eq_true_eq] at h
  exact ⟨h.1.1, h.1.2, h.2⟩
theorem od_add : OpR X (binaryOp .Add) (rD X.K gAddI) := opI0_D op_add fun _ _ _ _ => .int _
theorem od_sub : OpR X (binaryOp .Sub) (rD X.K gSubI) := opI0_D op_sub fun _ _ _ _ => .int _
theorem od_mul : OpR X (binaryOp .Mult) (rD X.K gMulI) := opI_D op_mul (fun _ _ h => okMul_ok h) fun _ _ _ _ => .int _
theorem od_div : OpR X (binaryOp .FloorDiv) (rD X.K gDivI) := opI_D op_fdivN (fun _ _ h => okDiv_ok h) fun _ _ _ _ => .int _
theorem od_mod : OpR X (binaryOp .Mod) (rD X.K gModI) := opI_D op_modN (fun _ _ h => of_decide_eq_true h) fun _ _ _ _ => .int _
theorem od_pow : OpR X (binaryOp .Pow) (rD X.K gPowI) := opI_D op_pow (fun _ _ h => okPow_ok h) fun _ _ _ _ => .int _
theorem od_lt : OpR X (compareOp .Lt) (rD X.K gLt) := opI0_D op_lt fun _ _ _ _ => .bl _
theorem od_le : OpR X (compareOp .LtE) (rD X.K gLe) := opI0_D op_le fun _ _ _ _ => .bl _
theorem od_gt : OpR X (compareOp .Gt) (rD X.K gGt) := opI0_D op_gt fun _ _ _ _ => .bl _
theorem od_ge : OpR X (compareOp .GtE) (rD X.K gGe) := opI0_D op_ge fun _ _ _ _ => .bl _
theorem od_iadd : OpR X (inplaceOp .Add) (rD X.K gAddI) := opI0_D iop_add fun _ _ _ _ => .int _
end
theorem len_rep {α : Type} (xs : List α) : ∀ n : Nat, (List.replicate n xs).flatten.length = n * xs.length
  | 0 => by simp
  | n + 1 => by
    rw [List.replicate_succ, List.flatten_cons, List.length_append, len_rep xs n, Nat.succ_mul, Nat.add_comm]
theorem lim_le {n : Nat} (h : n ≤ LIM) : n ≤ sizeLine := Nat.le_trans h (by decide)
theorem DrAll.rep {K : PySem.W.Frag} {F : Hp} {vs : List V} {ds : List D} (h : DrAll K F vs ds) : ∀ n : Nat, DrAll K F (List.replicate n vs).flatten (List.replicate n ds).flatten
  | 0 => .nil
  | n + 1 => by
    rw [List.replicate_succ, List.replicate_succ, List.flatten_cons, List.flatten_cons]
    exact h.append (DrAll.rep h n)
section
variable {X : Cx}
/-- a tuple just laid -/
theorem new_tup {pins : List (Addr × Obj)} {s : Shared} {σ : L2.St} {H : Hp} {h' : Heap} {vs : List V} {its : List Value} {Q : VK} (I : Inv X pins σ H s) (k : ∀ b o, s.heap.get? b = some o → h'.get? b = some o) (r : Vals vs its) (z : vs.length ≤ sizeLine)
    (q : ∀ p o, H p = none → TupO o → Q (.ref p) (upd H p (.frz o (.tup vs)))) : EP X pins σ Q (.ref h'.objs.size) { s with heap := h'.push { cls := .type "tuple", data := .seq its.toArray } } := by
  have I1 : Inv X pins σ H { s with heap := h' } := I.kept (t' := s.toks) k
  have hn := I1.hok.fresh (Nat.le_refl _)
  have ho : TupO { cls := .type "tuple", data := .seq its.toArray } := ⟨rfl, rfl⟩
  exact ⟨.ref h'.objs.size, _, I1.laid (t' := s.toks) (o := .frz { cls := .type "tuple", data := .seq its.toArray } (.tup vs)) (fun b o e => Heap.get?_push_of_some _ e) (Nat.le_refl _) ⟨Heap.get?_push_size _ rfl, z, its, r, IsTup.new _ _⟩, rfl, q _ _ hn ho⟩
def rCatF (K : PySem.W.Frag) : R2 := fun x y H Q => ∃ a b xs ys, x = .ref a ∧ y = .ref b ∧ SqT K H a xs ∧ SqT K H b ys ∧ xs.length + ys.length ≤ sizeLine ∧
  (xs = [] → Q (.ref b) H) ∧ (xs ≠ [] → ys = [] → Q (.ref a) H) ∧ (xs ≠ [] → ys ≠ [] → ∀ p o, H p = none → TupO o → Q (.ref p) (upd H p (.frz o (.tup (xs ++ ys)))))
theorem op_catF : OpR X (binaryOp .Add) (rCatF X.K) := by
  intro pins s σ H x y v u Q I rx ry h
  obtain ⟨a, b, xs, ys, rfl, rfl, ha, hb, hz, q0, q1, q2⟩ := h
  cases rx
  cases ry
  obtain ⟨its, r1, p1, _⟩ := I.tuple ha
  obtain ⟨its2, r2, p2, _⟩ := I.tuple hb
  by_cases hx : xs = []
  · subst hx
    cases r1
    exact cat_tup0 p1 p2 ⟨.ref b, H, I, rfl, q0 rfl⟩
  · refine HT.cat_tup p1 p2 (fun z => hx (r1.nil_iff.mp z)) (fun z => ⟨.ref a, H, I, rfl, q1 hx (r2.nil_iff.mp z)⟩) (fun z => ?_) (by rw [← r1.length, ← r2.length]; exact hz)
    exact new_tup I (fun _ _ e => e) (r1.append r2) (by rw [List.length_append]; exact hz) (q2 hx fun w => z (r2.nil_iff.mpr w))
theorem tuple_mul1 (l : Addr) (items : Array Value) (n : Nat) (dd : Option Addr) (sl : Array (Option Value)) (u : Tok) :
    Meets (Builtin.«tuple.__mul__» { pos := [.ref l, .int 1 u] }) fun _ R s => s.heap.get? l = some { cls := .type "tuple", dict := dd, data := .seq items n, slots := sl } ∧ R (.ok (.ret (.ref l))) s := by
  intro prog w A R s ⟨ho, hR⟩
  show wpAny _ _ (asIndex (.int 1 u) >>= _) _ _ _
  refine wpAny_bind ?_
  show wpAny _ _ (pure (1 : Int)) _ _ _
  refine wpAny_pure ?_
  dsimp only
  rw [if_neg (by decide)]
  refine wpAny_bind (wpAny_tupleItemsOf ho rfl ?_)
  rw [if_pos (by simp)]
  unfold Builtin.Tuple.tupleIsExact
  refine wpAny_bind (wpAny_bind (wpAny_typeOf (T := "tuple") ⟨_, ho, rfl⟩ (wpAny_pure ?_)))
  rw [if_pos (by rfl)]
  refine wpAny_bind (wpAny_rule ?_)
  exact wpAny_pure hR
theorem op_rep1 : OpR X (binaryOp .Mult) (fun x y H Q => ∃ l xs, x = .ref l ∧ y = .int 1 ∧ SqT X.K H l xs ∧ Q x H) := by
  intro pins s σ H x y v u Q I rx ry h
  obtain ⟨l, xs, rfl, rfl, hT, q⟩ := h
  cases rx
  obtain ⟨t, rfl⟩ := ry
  obtain ⟨its, r, ⟨⟨cls, dd, data, sl⟩, ho, hc, n, hd⟩, hs⟩ := I.tuple hT
  simp only at hc hd
  subst hc hd
  exact wpAny_binaryOp_repeat_ref (T := "tuple") (U := "int") (by decide) ⟨_, ho, rfl⟩ (fun s' => typeIs_int s' 1 t) noFill_tuple_mul F.fills_int_mul F.slot_int_rmul repeat_tuple F.slot_int_index.lookup
    (call_meets F.slot_int_rmul (typeIs_int s 1 t) F.entry_int_rmul (F.args_int_rmul_2 _ _) (int_rmul_tuple 1 t l its.toArray n dd sl)
      ⟨ho, rfl, ⟨_, ho, rfl⟩, call_meets F.slot_tuple_mul ⟨_, ho, rfl⟩ F.entry_tuple_mul (F.args_tuple_mul_2 _ _) (tuple_mul1 l its.toArray n dd sl t) ⟨ho, ⟨.ref l, H, I, rfl, q⟩⟩⟩)
def rRepF (K : PySem.W.Frag) : R2 := fun x y H Q => ∃ l k xs, x = .ref l ∧ y = .int k ∧ SqT K H l xs ∧ xs ≠ [] ∧ 2 ≤ k ∧ k ≤ 1000 ∧ xs.length ≤ 1000 ∧ ∀ p o, H p = none → TupO o → Q (.ref p) (upd H p (.frz o (.tup (List.replicate k.toNat xs).flatten)))
theorem op_repF : OpR X (binaryOp .Mult) (rRepF X.K) := by
  intro pins s σ H x y v u Q I rx ry h
  obtain ⟨l, k, xs, rfl, rfl, hT, hne, h1, h2, hz, q⟩ := h
  cases rx
  obtain ⟨t, rfl⟩ := ry
  obtain ⟨its, r, ⟨⟨cls, dd, data, sl⟩, ho, hc, n, hd⟩, hs⟩ := I.tuple hT
  simp only at hc hd
  subst hc hd
  have hle : its.length = xs.length := r.length.symm
  have hn : its ≠ [] := fun e => hne (by
    rw [e] at hle
    exact List.eq_nil_of_length_eq_zero hle.symm)
  have hi : its.toArray.isEmpty = false := by
    cases its with
    | nil => exact absurd rfl hn
    | cons a b => simp
  have hsz : its.toArray.size = xs.length := by rw [List.size_toArray]; exact hle
  have flen : (List.replicate k.toNat its).flatten.length ≤ sizeLine := by
    rw [PyProof.Rows.lm_len_rep_flat, hle, sizeLine_eq]
    have a1 : k.toNat * xs.length ≤ 1000 * 1000 := Nat.mul_le_mul (by omega) hz
    omega
  have a2 : ((its.toArray.size : Nat) : Int) * k ≤ 1000 * 1000 := by
    rw [hsz]
    exact Int.mul_le_mul (by omega) h2 (by omega) (by omega)
  have c0 : (decide (k < -(2 ^ 63)) || decide (k ≥ 2 ^ 63)) = false := by
    rw [decide_eq_false (by omega), decide_eq_false (by omega)] <;> rfl
  have c1 : (its.toArray.isEmpty || k == 1) = false := by
    rw [hi, Bool.false_or]
    exact beq_eq_false_iff_ne.mpr (by omega)
  have c2 : (decide (k ≤ 0) || its.toArray.isEmpty) = false := by
    rw [hi, Bool.or_false]
    exact decide_eq_false (by omega)
  have c4 : Builtin.Tuple.tupleTooMany (((its.toArray.size : Nat) : Int) * k) = false := by
    unfold Builtin.Tuple.tupleTooMany
    rw [sizeLine_eq]
    exact decide_eq_false (by omega)
  refine wpAny_binaryOp_repeat_ref (T := "tuple") (U := "int") (by decide) ⟨_, ho, rfl⟩ (fun s' => typeIs_int s' k t) noFill_tuple_mul F.fills_int_mul F.slot_int_rmul repeat_tuple F.slot_int_index.lookup
    (call_meets F.slot_int_rmul (typeIs_int s k t) F.entry_int_rmul (F.args_int_rmul_2 _ _) (int_rmul_tuple k t l its.toArray n dd sl)
      ⟨ho, rfl, ⟨_, ho, rfl⟩, call_meets F.slot_tuple_mul ⟨_, ho, rfl⟩ F.entry_tuple_mul (F.args_tuple_mul_2 _ _) (tuple_mulW l its.toArray n dd sl k t c0 c1 c2 (by omega) c4 (by rw [size_rep, List.size_toArray]; exact flen)) ⟨ho, ?_⟩⟩)
  rw [size_rep]
  exact new_tup I (fun _ _ e => e) (r.rep k.toNat) (by rw [PyProof.Rows.lm_len_rep_flat, sizeLine_eq]; have a1 : k.toNat * xs.length ≤ 1000 * 1000 := Nat.mul_le_mul (by omega) hz; omega) q
theorem od_addT : OpR X (binaryOp .Add) (rD X.K gAddT) := OpR.imp op_catF fun x y H Q ⟨g, F, σ, δ, u, v, r, k, hx, hy, hr, q⟩ => by
  unfold gAddT at hr
  split at hr
  · rename_i xs ys
    split at hr
    · rename_i hz
      cases hr
      obtain ⟨a, vs, rfl, ha, za, da⟩ := hx.untup
      obtain ⟨b, ws, rfl, hb, zb, db⟩ := hy.untup
      have e1 := da.length
      have e2 := db.length
      refine ⟨a, b, vs, ws, rfl, rfl, ha.sqt k.sub, hb.sqt k.sub, lim_le (by omega), fun e => ?_, fun e e' => ?_, fun e e' p o hp ho => ?_⟩
      · subst e
        have : xs = [] := List.eq_nil_of_length_eq_zero (by simpa using e1.symm)
        subst this
        exact q.fz k (.tup hb zb db)
      · subst e'
        have : ys = [] := List.eq_nil_of_length_eq_zero (by simpa using e2.symm)
        subst this
        rw [List.append_nil] at q
        exact q.fz k (.tup ha za da)
      · exact q.tup k hp ho (lim_le (by rw [List.length_append]; omega)) (da.append db)
    · cases hr
  · cases hr
theorem od_addL : OpR X (binaryOp .Add) (rD X.K gAddL) := OpR.imp op_cat fun x y H Q ⟨g, F, σ, δ, u, v, r, k, hx, hy, hr, q⟩ => by
  unfold gAddL at hr
  split at hr
  · rename_i xs ys
    split at hr
    · rename_i hz
      cases hr
      obtain ⟨a, vs, rfl, ha, za, da⟩ := hx.unlst k.sub
      obtain ⟨b, ws, rfl, hb, zb, db⟩ := hy.unlst k.sub
      have e1 := da.length
      have e2 := db.length
      exact ⟨a, b, vs, ws, rfl, rfl, ha, hb, lim_le (by omega), fun p hp => q.lst k hp (lim_le (by rw [List.length_append]; omega)) (da.append db)⟩
    · cases hr
  · cases hr
theorem od_addS : OpR X (binaryOp .Add) (rD X.K gAddS) := OpR.imp op_add_str fun x y H Q ⟨g, F, σ, δ, u, v, r, k, hx, hy, hr, q⟩ => by
  unfold gAddS at hr
  split at hr
  · rename_i a b
    split at hr
    · rename_i hz
      cases hr
      obtain rfl := hx.unstr
      obtain rfl := hy.unstr
      exact ⟨a, b, rfl, rfl, lim_le hz, q.fz k (.str _)⟩
    · cases hr
  · cases hr
theorem od_addA : OpR X (binaryOp .Add) (rD X.K gAdd) := OpR.orD od_add (OpR.orD od_addT (OpR.orD od_addL od_addS))
theorem od_mulL : OpR X (binaryOp .Mult) (rD X.K gMulL) := OpR.imp op_rep fun x y H Q ⟨g, F, σ, δ, u, v, r, k, hx, hy, hr, q⟩ => by
  unfold gMulL at hr
  split at hr
  · rename_i xs j
    split at hr
    · rename_i hz
      cases hr
      obtain ⟨a, vs, rfl, ha, za, da⟩ := hx.unlst k.sub
      have e1 := da.length
      have e2 := hy.unint
      have e3 : vs.length * j.toNat ≤ LIM := by rw [e1]; exact hz.2.2
      refine ⟨a, j, vs, rfl, e2, ha, by omega, by omega, lim_le e3, fun p hp => ?_⟩
      refine q.lst k hp ?_ (da.rep _)
      refine lim_le ?_
      rw [len_rep, Nat.mul_comm]
      exact e3
    · cases hr
  · cases hr
theorem mulT_2 {K : PySem.W.Frag} {g : Gh} {F H : Hp} {σ : L2.St} {δ : Sl} {x y : V} {xs : List D} {j : Int} {r : DV} {Q : VK} (k : Ok K g F H σ δ) (hx : Dl K F H x (.tuple xs)) (hy : Dl K F H y (.int j))
    (hr : (if xs ≠ [] ∧ 2 ≤ j ∧ j ≤ 1000 ∧ xs.length ≤ 1000 then some (DV.fz (.tuple (rep j xs))) else none) = some r) (q : Give K g F H σ δ r Q) : rRepF K x y H Q := by
  split at hr
  · rename_i hz
    cases hr
    obtain ⟨a, vs, rfl, ha, za, da⟩ := hx.untup
    have e1 := da.length
    have e2 := hy.unint
    have hne : vs ≠ [] := fun e => hz.1 (List.eq_nil_of_length_eq_zero (by rw [← e1, e]; rfl))
    refine ⟨a, j, vs, rfl, e2, ha.sqt k.sub, hne, hz.2.1, hz.2.2.1, by rw [e1]; exact hz.2.2.2, fun p o hp ho => ?_⟩
    refine q.tup k hp ho ?_ (da.rep _)
    rw [len_rep]
    have h1 : j.toNat ≤ 1000 := by omega
    have h2 : vs.length ≤ 1000 := by rw [e1]; exact hz.2.2.2
    have h3 := Nat.mul_le_mul h1 h2
    exact lim_le (Nat.le_trans h3 (by decide))
  · cases hr
theorem od_mulT : OpR X (binaryOp .Mult) (rD X.K gMulT) := fun pins s0 σ0 H0 x0 y0 v0 u0 Q0 I0 rx0 ry0 h0 => by
  by_cases h1 : ∃ j, y0 = .int j ∧ j ≠ 1
  · refine (OpR.imp op_repF fun x y H Q ⟨⟨j1, ey, hne1⟩, g, F, σ, δ, u, v, r, k, hx, hy, hr, q⟩ => ?_ : OpR X (binaryOp .Mult) fun x y H Q => (∃ j, y = .int j ∧ j ≠ 1) ∧ rD X.K gMulT x y H Q) pins s0 σ0 H0 x0 y0 v0 u0 Q0 I0 rx0 ry0 ⟨h1, h0⟩
    unfold gMulT at hr
    split at hr
    · rename_i xs j
      have ej := hy.unint
      rw [ey] at ej
      injection ej with ej
      rw [if_neg (by rw [← ej]; exact hne1)] at hr
      exact mulT_2 k hx hy hr q
    · cases hr
  · refine (OpR.imp op_rep1 fun x y H Q ⟨h1, g, F, σ, δ, u, v, r, k, hx, hy, hr, q⟩ => ?_ : OpR X (binaryOp .Mult) fun x y H Q => (¬ ∃ j, y = .int j ∧ j ≠ 1) ∧ rD X.K gMulT x y H Q) pins s0 σ0 H0 x0 y0 v0 u0 Q0 I0 rx0 ry0 ⟨h1, h0⟩
    unfold gMulT at hr
    split at hr
    · rename_i xs j
      have ej := hy.unint
      have e1 : j = 1 := Classical.byContradiction fun z => h1 ⟨j, ej, z⟩
      subst e1
      rw [if_pos rfl] at hr
      cases hr
      obtain ⟨a, vs, rfl, ha, za, da⟩ := hx.untup
      exact ⟨a, vs, rfl, ej, ha.sqt k.sub, q.fz k (.tup ha za da)⟩
    · cases hr
theorem od_mulS : OpR X (binaryOp .Mult) (rD X.K gMulS) := fun pins s σ H x y v u Q I rx ry ⟨g, F, σ', δ, du, dv, r, k, hx, hy, hr, q⟩ => by
  unfold gMulS at hr
  split at hr
  · rename_i a n
    obtain rfl := hx.unstr
    obtain rfl := hy.unint
    obtain ⟨t, rfl⟩ := rx
    obtain ⟨t', rfl⟩ := ry
    split at hr
    · rename_i hz
      subst hz
      cases hr
      exact PySem.P.mul_str_none (by decide) (by decide) ⟨.str Str.empty, H, I.tok _, ⟨_, rfl⟩, q.fz k (.str _)⟩
    · split at hr
      · rename_i hz
        subst hz
        cases hr
        refine PySem.P.mul_str (by decide) (fun _ h => by cases h) (fun _ h => by cases h) ?_
        exact ⟨.str a, H, I, ⟨_, rfl⟩, q.fz k (.str _)⟩
      · cases hr
  · cases hr
theorem od_mulA : OpR X (binaryOp .Mult) (rD X.K gMul) := OpR.orD od_mul (OpR.orD od_mulL (OpR.orD od_mulT od_mulS))
end
section
variable {X : Cx}
theorem od_eq (hu : X.A.units + 64 < cLine) : OpR X (compareOp .Eq) (rD X.K gEq) := OpR.imp (op_eqD hu) fun x y H Q ⟨g, F, σ, δ, u, v, r, k, hx, hy, hr, q⟩ => by
  unfold gEq at hr
  split at hr
  · rename_i hz
    cases hr
    rw [Bool.and_eq_true] at hz
    exact ⟨u, v, Dr.dp u _ (SeqAt.canLay_of_shaped hz.1) (hx.dr k.sub), Dr.dp v _ (SeqAt.canLay_of_shaped hz.2) (hy.dr k.sub), hz.1, hz.2, q.fz k (.bl _)⟩
  · cases hr
theorem od_ne (hu : X.A.units + 64 < cLine) : OpR X (compareOp .NotEq) (rD X.K gNe) := OpR.imp (op_neD hu) fun x y H Q ⟨g, F, σ, δ, u, v, r, k, hx, hy, hr, q⟩ => by
  unfold gNe at hr
  split at hr
  · rename_i hz
    cases hr
    rw [Bool.and_eq_true] at hz
    exact ⟨u, v, Dr.dp u _ (SeqAt.canLay_of_shaped hz.1) (hx.dr k.sub), Dr.dp v _ (SeqAt.canLay_of_shaped hz.2) (hy.dr k.sub), hz.1, hz.2, q.fz k (.bl _)⟩
  · cases hr
end
section
variable {X : Cx}
theorem room_in_shapedT {A : Around} {d : PyData} {ds : List PyData} (sd : SeqAt.shaped d = true) (hu : A.units + 65 < cLine) : A.units + 1 + min (PyData.depthAll ds) d.depth < cLine := by
  have h1 := SeqAt.depth_of_shaped sd
  have h2 : min (PyData.depthAll ds) d.depth ≤ d.depth := Nat.min_le_right _ _
  omega
theorem od_in (hu : X.A.units + 65 < cLine) : OpR X (compareOp .In) (rD X.K (gIn false)) := by
  intro pins s σ H x y v u Q I rx ry ⟨g, F, σ', δ, du, dv, r, k, hx, hy, hr, q⟩
  unfold gIn at hr
  split at hr
  · rename_i ds
    split at hr
    · rename_i hz
      cases hr
      rw [Bool.and_eq_true] at hz
      obtain ⟨as, r1⟩ := Dp.reads I du x v (Dr.dp du _ (SeqAt.canLay_of_shaped hz.1) (hx.dr k.sub)) rx
      obtain ⟨bs, r2⟩ := Dp.reads I (.list ds) y u (Dr.dp _ _ (SeqAt.canLay_of_shaped hz.2) (hy.dr k.sub)) ry
      refine SeqAt.in_list_reads r2 r1 (SeqAt.canLay_of_shaped hz.2) (SeqAt.canLay_of_shaped hz.1) (room_in_shapedT hz.1 hu) ⟨.bl _, H, I, rfl, ?_⟩
      have := q.fz (v := .bl (inD du ds != false)) k (.bl _)
      rw [Bool.bne_false] at this
      exact this
    · cases hr
  · rename_i ds
    split at hr
    · rename_i hz
      cases hr
      rw [Bool.and_eq_true] at hz
      obtain ⟨as, r1⟩ := Dp.reads I du x v (Dr.dp du _ (SeqAt.canLay_of_shaped hz.1) (hx.dr k.sub)) rx
      obtain ⟨bs, r2⟩ := Dp.reads I (.tuple ds) y u (Dr.dp _ _ (SeqAt.canLay_of_shaped hz.2) (hy.dr k.sub)) ry
      refine SeqAt.in_tuple_reads r2 r1 (SeqAt.canLay_of_shaped hz.2) (SeqAt.canLay_of_shaped hz.1) (room_in_shapedT hz.1 hu) ⟨.bl _, H, I, rfl, ?_⟩
      have := q.fz (v := .bl (inD du ds != false)) k (.bl _)
      rw [Bool.bne_false] at this
      exact this
    · cases hr
  · cases hr
theorem od_notin (hu : X.A.units + 65 < cLine) : OpR X (compareOp .NotIn) (rD X.K (gIn true)) := by
  intro pins s σ H x y v u Q I rx ry ⟨g, F, σ', δ, du, dv, r, k, hx, hy, hr, q⟩
  unfold gIn at hr
  split at hr
  · rename_i ds
    split at hr
    · rename_i hz
      cases hr
      rw [Bool.and_eq_true] at hz
      obtain ⟨as, r1⟩ := Dp.reads I du x v (Dr.dp du _ (SeqAt.canLay_of_shaped hz.1) (hx.dr k.sub)) rx
      obtain ⟨bs, r2⟩ := Dp.reads I (.list ds) y u (Dr.dp _ _ (SeqAt.canLay_of_shaped hz.2) (hy.dr k.sub)) ry
      refine SeqAt.notIn_list_reads r2 r1 (SeqAt.canLay_of_shaped hz.2) (SeqAt.canLay_of_shaped hz.1) (room_in_shapedT hz.1 hu) ⟨.bl _, H, I, rfl, ?_⟩
      have := q.fz (v := .bl (inD du ds != true)) k (.bl _)
      rw [Bool.bne_true] at this
      exact this
    · cases hr
  · rename_i ds
    split at hr
    · rename_i hz
      cases hr
      rw [Bool.and_eq_true] at hz
      obtain ⟨as, r1⟩ := Dp.reads I du x v (Dr.dp du _ (SeqAt.canLay_of_shaped hz.1) (hx.dr k.sub)) rx
      obtain ⟨bs, r2⟩ := Dp.reads I (.tuple ds) y u (Dr.dp _ _ (SeqAt.canLay_of_shaped hz.2) (hy.dr k.sub)) ry
      refine SeqAt.notIn_tuple_reads r2 r1 (SeqAt.canLay_of_shaped hz.2) (SeqAt.canLay_of_shaped hz.1) (room_in_shapedT hz.1 hu) ⟨.bl _, H, I, rfl, ?_⟩
      have := q.fz (v := .bl (inD du ds != true)) k (.bl _)
      rw [Bool.bne_true] at this
      exact this
    · cases hr
  · cases hr
end
section
variable {X : Cx} {K : PySem.W.Frag} {F H : Hp}
theorem Dl.isN {v : V} {d : D} (h : Dl K F H v d) : decide (v = .non) = isNone d := by
  rcases h with h | ⟨l, vs, ds, rfl, rfl, _⟩
  · cases h <;> simp [isNone]
  · simp [isNone]
theorem Dl.unnone {v : V} (h : Dl K F H v .none) : v = .non := by
  rcases h with h | ⟨l, vs, ds, rfl, h, _⟩
  · exact h.unnone
  · cases h
theorem od_isN : OpR X (compareOp .Is) (rD X.K (gIsN false)) := OpR.imp op_isN fun x y H Q ⟨g, F, σ, δ, u, v, r, k, hx, hy, hr, q⟩ => by
  unfold gIsN at hr
  split at hr
  · cases hr
    refine ⟨hy.unnone, ?_⟩
    rw [hx.isN]
    have := q.fz (v := .bl (isNone u != false)) k (.bl _)
    rw [Bool.bne_false] at this
    exact this
  · cases hr
theorem od_notN : OpR X (compareOp .IsNot) (rD X.K (gIsN true)) := OpR.imp op_notN fun x y H Q ⟨g, F, σ, δ, u, v, r, k, hx, hy, hr, q⟩ => by
  unfold gIsN at hr
  split at hr
  · cases hr
    refine ⟨hy.unnone, ?_⟩
    rw [hx.isN]
    have := q.fz (v := .bl (isNone u != true)) k (.bl _)
    rw [Bool.bne_true] at this
    exact this
  · cases hr
end
end DL
set_option Elab.async false
set_option linter.all false
set_option maxRecDepth 100000
set_option maxHeartbeats 1000000
/-! Rules: expressions, tests, arguments, calls. -/
namespace DL
open PySem PySem.Spec PyProof.Rows L2
section
variable {X : Cx} {e a b c : Expr} {es : List Expr} {fe : EE} {fv : EV} {fl fa fb fc : EL} {pos : Pos}
/-! from one kind to another -/
theorem de_V (h : PE X e (tE X.K fe)) : PE X e (tV X.K (toV fe)) := PE.imp h fun σ H Q ⟨g, F, δ, x, δ', k, hf, q⟩ => by
  unfold toV at hf
  split at hf
  · rename_i d δ1 e1
    cases hf
    exact ⟨g, F, δ, _, _, k, e1, fun v F' H' k' s r => q v F' H' k' s r⟩
  · rename_i ds δ1 e1
    cases hf
    refine ⟨g, F, δ, _, _, k, e1, fun v F' H' k' s r => ?_⟩
    obtain ⟨F2, k2, s2, r2⟩ := k'.toV r
    exact q v F2 H' k2 (s.trans s2) r2
  · rename_i ds δ1 e1
    cases hf
    refine ⟨g, F, δ, _, _, k, e1, fun v F' H' k' s r => ?_⟩
    obtain ⟨F2, k2, s2, r2⟩ := k'.toV r
    exact q v F2 H' k2 (s.trans s2) r2
  · cases hf
theorem de_L (h : PE X e (tV X.K fv)) : PE X e (tL X.K (toL fv)) := PE.imp h fun σ H Q ⟨g, F, δ, x, δ', k, hf, q⟩ => by
  unfold toL at hf
  split at hf
  · rename_i d δ1 e1
    cases hf
    exact ⟨g, F, δ, _, _, k, e1, fun v F' H' k' s r => q v F' H' k' s r⟩
  · cases hf
theorem de_E (h : PE X e (tV X.K fv)) : PE X e (tE X.K (ofV fv)) := PE.imp h fun σ H Q ⟨g, F, δ, x, δ', k, hf, q⟩ => by
  unfold ofV at hf
  split at hf
  · rename_i d δ1 e1
    cases hf
    exact ⟨g, F, δ, _, _, k, e1, fun v F' H' k' s r => q v F' H' k' s r⟩
  · cases hf
/-! constants, names -/
theorem de_c {v : V} {d : D} (h : PE X e (tC v)) (hd : ∀ F, Dr X.K F v d) : PE X e (tV X.K (dC d)) := PE.imp h fun σ H Q ⟨g, F, δ, x, δ', k, hf, q⟩ => by
  cases hf
  exact q v F H k (Same.refl F) (hd F)
theorem de_int {i : Int} {j : Nat} : PE X (.Constant (.int i) j pos) (tV X.K (dC (.int i))) := de_c pe_int fun _ => .int i
theorem de_bl {i : Bool} {j : Nat} : PE X (.Constant (.bool i) j pos) (tV X.K (dC (.bool i))) := de_c pe_bl fun _ => .bl i
theorem de_non {j : Nat} : PE X (.Constant .none j pos) (tV X.K (dC .none)) := de_c pe_non fun _ => .non
theorem de_str {x : Str} {j : Nat} : PE X (.Constant (.str x) j pos) (tV X.K (dC (.str x))) := de_c pe_str fun _ => .str x
/-- a constant of the module -/
theorem de_glob {x : Str} {i : Int} {u : Value} (hg : Gl X x) (hm : X.mg x = some u) (r : RelV (.int i) u) (hd : (x == ("__debug__" : Str)) = false := by decide) : PE X (.Name x pos) (tV X.K (dC (.int i))) := de_c (pe_glob hg hm r hd) fun _ => .int i
theorem slot_lt {δ : Sl} {i : Nat} {x : Option DV} (h : δ[i]? = some x) : i < δ.length := (List.getElem?_eq_some_iff.mp h).1
theorem set_same {δ : Sl} {i : Nat} {x : Option DV} (h : δ[i]? = some x) : δ.set i x = δ := by
  obtain ⟨hi, e⟩ := List.getElem?_eq_some_iff.mp h
  rw [← e]
  exact List.set_getElem_self hi
/-- a slot that owns a list or a dict gives it up -/
theorem Ok.giveUp' {K : PySem.W.Frag} {g : Gh} {F H : Hp} {σ : L2.St} {δ : Sl} (k : Ok K g F H σ δ) {i : Nat} {x : DV} (h : δ[i]? = some (some x)) (hx : own x = true) :
    ∃ v F', σ[i]? = some (some v) ∧ Ok K g F' H σ (δ.set i (some (.fz x.dat))) ∧ Same F F' ∧ Dr K F' v x.dat := by
  obtain ⟨v, e1, r⟩ := k.rep i _ h
  -- the slot emptied
  have hi := slot_lt h
  have k0 : Ok K g F H σ (δ.set i none) := by
    refine ⟨k.sub, k.ext, k.frm, k.new, k.b0, by rw [List.length_set, k.len], fun j dv e => ?_, fun a b da db ea eb oa ob hne => ?_, fun j ds' e => ?_, fun l' hl' => ?_⟩
    · by_cases hj : i = j
      · subst hj
        rw [List.getElem?_set_self hi] at e
        cases e
      · rw [List.getElem?_set_ne hj] at e
        exact k.rep j dv e
    · have ha : i ≠ a := fun z => by
        subst z
        rw [List.getElem?_set_self hi] at ea
        cases ea
      have hb : i ≠ b := fun z => by
        subst z
        rw [List.getElem?_set_self hi] at eb
        cases eb
      rw [List.getElem?_set_ne ha] at ea
      rw [List.getElem?_set_ne hb] at eb
      exact k.dis a b da db ea eb oa ob hne
    · by_cases hj : i = j
      · subst hj
        rw [List.getElem?_set_self hi] at e
        cases e
      · rw [List.getElem?_set_ne hj] at e
        exact k.br0 j ds' e
    · obtain ⟨ds', e⟩ := k.brB l' hl'
      have h0 : i ≠ 0 := fun z => by
        subst z
        rw [h] at e
        cases e
        cases hx
      exact ⟨ds', by rw [List.getElem?_set_ne h0]; exact e⟩
  have far : ∀ (j : Nat) dj, (δ.set i none)[j]? = some (some dj) → own dj = true → σ[j]? ≠ some (some v) := fun j dj e oj z => by
    have hj : i ≠ j := fun y => by
      subst y
      rw [List.getElem?_set_self hi] at e
      cases e
    rw [List.getElem?_set_ne hj] at e
    exact k.dis i j _ _ h e hx oj hj (e1.trans z.symm)
  have rx : RepX K g F H σ (δ.set i none) v x := by
    cases x with
    | fz d => cases hx
    | br d => cases hx
    | mt d =>
      obtain ⟨l, rfl, m⟩ := r
      exact ⟨l, rfl, m, far⟩
    | ow d =>
      obtain ⟨l, rfl, m⟩ := r
      exact ⟨l, rfl, m, far⟩
  obtain ⟨F', k1, s1, r1⟩ := k0.toV rx
  have k2 := k1.store (i := i) (x := .fz x.dat) (fun ds' e => by
    rw [List.getElem?_set_self hi] at e
    cases e) r1
  rw [List.set_set] at k2
  have e3 : σ.set i (some v) = σ := by
    obtain ⟨hi', e⟩ := List.getElem?_eq_some_iff.mp e1
    rw [← e]
    exact List.set_getElem_self hi'
  rw [e3] at k2
  exact ⟨_, F', e1, k2, s1, r1⟩
theorem Ok.giveUp {K : PySem.W.Frag} {g : Gh} {F H : Hp} {σ : L2.St} {δ : Sl} (k : Ok K g F H σ δ) {i : Nat} {ds : List D} (h : δ[i]? = some (some (.mt ds))) :
    ∃ v F', σ[i]? = some (some v) ∧ Ok K g F' H σ (δ.set i (some (.fz (.list ds)))) ∧ Same F F' ∧ Dr K F' v (.list ds) := k.giveUp' h rfl
theorem de_var (i : Nat) (h : PE X e (tVar i)) : PE X e (tV X.K (dVar i)) := PE.imp h fun σ H Q ⟨g, F, δ, x, δ', k, hf, q⟩ => by
  unfold dVar at hf
  split at hf
  · rename_i d hd
    cases hf
    obtain ⟨v, e1, r⟩ := k.rep i _ hd
    exact ⟨v, e1, q v F H k (Same.refl F) r⟩
  · rename_i ds hd
    cases hf
    obtain ⟨v, F', e1, k', s, r⟩ := k.giveUp hd
    exact ⟨v, e1, q v F' H k' s r⟩
  · rename_i c hd
    cases hf
    obtain ⟨v, F', e1, k', s, r⟩ := k.giveUp' hd rfl
    exact ⟨v, e1, q v F' H k' s r⟩
  · cases hf
theorem de_late (i : Nat) (h : PE X e (tVar i)) : PE X e (tL X.K (dLate i)) := PE.imp h fun σ H Q ⟨g, F, δ, x, δ', k, hf, q⟩ => by
  unfold dLate at hf
  split at hf
  · rename_i dv hd
    cases hf
    obtain ⟨v, e1, r⟩ := k.rep i _ hd
    exact ⟨v, e1, q v F H k (Same.refl F) e1⟩
  · cases hf
/-! operators -/
theorem bin_get {K : PySem.W.Frag} {g : Gh} {F H : Hp} {σ : L2.St} {δ : Sl} {x y : LV} {v w : V} {du dv : D} (k : Ok K g F H σ δ) (rx : RepL K F σ v x) (ry : RepL K F σ w y) (h1 : x.get δ = some du) (h2 : y.get δ = some dv) : Dl K F H v du ∧ Dl K F H w dv :=
  ⟨k.late rx h1, k.late ry h2⟩
theorem dOp_inv {g : D → D → Option DV} {δ δ' : Sl} {r : DV} (h : dOp g fa fb δ = some (r, δ')) : ∃ x δ1 y u v, fa δ = some (x, δ1) ∧ fb δ1 = some (y, δ') ∧ x.get δ' = some u ∧ y.get δ' = some v ∧ g u v = some r := by
  unfold dOp at h
  split at h
  · cases h
  · rename_i x δ1 e1
    split at h
    · cases h
    · rename_i y δ2 e2
      split at h
      · rename_i u v e3 e4
        split at h
        · rename_i r' e5
          cases h
          exact ⟨x, δ1, y, u, v, e1, e2, e3, e4, e5⟩
        · cases h
      · cases h
theorem op_read {gd : G2} {ta tb : TE} (ia : ∀ σ H Q, tL X.K fa σ H Q → ta σ H Q) (ib : ∀ σ H Q, tL X.K fb σ H Q → tb σ H Q) {σ : L2.St} {H : Hp} {Q : VK} (h : tE X.K (dOp gd fa fb) σ H Q) : tOp (rD X.K gd) ta tb σ H Q := by
  obtain ⟨g, F, δ, r, δ', k, hf, q⟩ := h
  obtain ⟨x, δ1, y, u, v, e1, e2, e3, e4, e5⟩ := dOp_inv hf
  refine ia σ H _ ⟨g, F, δ, x, δ1, k, e1, fun v1 F1 H1 k1 s1 r1 => ib σ H1 _ ⟨g, F1, δ1, y, δ', k1, e2, fun v2 F2 H2 k2 s2 r2 => ?_⟩⟩
  exact ⟨g, F2, σ, δ', u, v, r, k2, k2.late (RepL.mono s2 r1) e3, k2.late r2 e4, e5, fun w F' H' k' s' r' => q w F' H' k' ((s1.trans s2).trans s') r'⟩
theorem de_op {op : Operator} {gd : G2} (ho : OpR X (binaryOp op) (rD X.K gd)) (ha : PE X a (tL X.K fa)) (hb : PE X b (tL X.K fb)) : PE X (.BinOp a op b pos) (tE X.K (dOp gd fa fb)) :=
  PE.imp (pe_op ho ha hb) fun σ H Q h => op_read (fun _ _ _ z => z) (fun _ _ _ z => z) h
theorem de_cmp {op : CmpOp} {gd : G2} (ho : OpR X (compareOp op) (rD X.K gd)) (ha : PE X a (tL X.K fa)) (hb : PE X b (tL X.K fb)) (hm : behindInMarks op b = false) : PE X (.Compare a [op] [b] pos) (tE X.K (dOp gd fa fb)) :=
  PE.imp (pe_cmpR ho ha hb hm) fun σ H Q h => op_read (fun _ _ _ z => z) (fun _ _ _ z => z) h
theorem de_ix {gd : G2} (ho : IxR X (rD X.K gd)) (ha : PE X a (tL X.K fa)) (hb : PE X b (tL X.K fb)) (hs : PlainIx b) : PE X (.Subscript a b pos) (tE X.K (dOp gd fa fb)) :=
  PE.imp (pe_ix ho ha hb hs) fun σ H Q h => op_read (fun _ _ _ z => z) (fun _ _ _ z => z) h
theorem de_un {op : UnaryOp} {gd : D → Option D} (ho : UnR X (unaryOp op) (uD X.K gd)) (ha : PE X a (tL X.K fa)) : PE X (.UnaryOp op a pos) (tV X.K (dUn gd fa)) :=
  PE.imp (pe_un ho ha) fun σ H Q ⟨g, F, δ, r, δ', k, hf, q⟩ => by
    unfold dUn at hf
    split at hf
    · cases hf
    · rename_i x δ1 e1
      split at hf
      · rename_i u e2
        split at hf
        · rename_i r' e3
          cases hf
          exact ⟨g, F, δ, x, _, k, e1, fun v F1 H1 k1 s1 r1 => ⟨g, F1, σ, _, u, _, k1, k1.late r1 e2, e3, fun w F' H' k' s' r' => q w F' H' k' (s1.trans s') r'⟩⟩
        · cases hf
      · cases hf
theorem od_neg : UnR X (unaryOp .USub) (uD X.K gNeg) := UnR.imp un_neg fun x H Q ⟨g, F, σ, δ, u, r, k, hx, hr, q⟩ => by
  unfold gNeg at hr
  split at hr
  · rename_i i
    cases hr
    exact ⟨i, hx.unint, q.fz k (.int _)⟩
  · cases hr
/-! arguments -/
theorem da_nil : PA X [] (tA X.K aNil) := PA.imp pa_nil fun σ H Q ⟨g, F, δ, x, δ', k, hf, q⟩ => by
  cases hf
  exact q [] F H k (Same.refl F) .nil
theorem da_cons {f : EV} {r : EA} (ha : PE X e (tV X.K f)) (hr : PA X es (tA X.K r)) (hs : starEach (e :: es) X.env = (false, eval e X.env) :: starEach es X.env := by rfl) : PA X (e :: es) (tA X.K (aCons f r)) :=
  PA.imp (pa_cons ha hr hs) fun σ H Q ⟨g, F, δ, x, δ', k, hf, q⟩ => by
    unfold aCons at hf
    split at hf
    · cases hf
    · rename_i d δ1 e1
      split at hf
      · cases hf
      · rename_i ds δ2 e2
        cases hf
        exact ⟨g, F, δ, d, δ1, k, e1, fun v1 F1 H1 k1 s1 r1 => ⟨g, F1, δ1, ds, _, k1, e2, fun vs F2 H2 k2 s2 r2 => q (v1 :: vs) F2 H2 k2 (s1.trans s2) (.cons (Dr.mono s2 _ _ r1) r2)⟩⟩
theorem dl_nil : PA X [] (tAL X.K lNil) := PA.imp pa_nil fun σ H Q ⟨g, F, δ, x, δ', k, hf, q⟩ => by
  cases hf
  exact q [] F H k (Same.refl F) .nil
theorem dl_cons {f : EL} {r : EAL} (ha : PE X e (tL X.K f)) (hr : PA X es (tAL X.K r)) (hs : starEach (e :: es) X.env = (false, eval e X.env) :: starEach es X.env := by rfl) : PA X (e :: es) (tAL X.K (lCons f r)) :=
  PA.imp (pa_cons ha hr hs) fun σ H Q ⟨g, F, δ, x, δ', k, hf, q⟩ => by
    unfold lCons at hf
    split at hf
    · cases hf
    · rename_i d δ1 e1
      split at hf
      · cases hf
      · rename_i ds δ2 e2
        cases hf
        exact ⟨g, F, δ, d, δ1, k, e1, fun v1 F1 H1 k1 s1 r1 => ⟨g, F1, δ1, ds, _, k1, e2, fun vs F2 H2 k2 s2 r2 => q (v1 :: vs) F2 H2 k2 (s1.trans s2) (.cons (RepL.mono s2 r1) r2)⟩⟩
def tTupF (t : TA) : TE := fun σ H Q => t σ H fun xs H1 => xs.length ≤ sizeLine ∧ ∀ p o, H1 p = none → TupO o → Q (.ref p) (upd H1 p (.frz o (.tup xs)))
theorem pe_tupF {t : TA} {x1 : Nat} (h : PA X es t) : PE X (.Tuple es x1 pos) (tTupF t) := by
  refine ⟨fun pins s σ H Q I hq => ?_⟩
  refine wpAny_Tuple_spliced (thn (h.run pos pins s σ H _ I hq) fun us s1 ⟨xs, H1, I1, r, z, q⟩ => ⟨by rw [← r.length]; exact z, ?_⟩)
  exact new_tup I1 (fun _ _ e => e) r z q
theorem de_tup {f : EA} {x1 : Nat} (h : PA X es (tA X.K f)) : PE X (.Tuple es x1 pos) (tV X.K (dTup f)) := PE.imp (pe_tupF h) fun σ H Q ⟨g, F, δ, x, δ', k, hf, q⟩ => by
  unfold dTup at hf
  split at hf
  · cases hf
  · rename_i ds δ1 e1
    split at hf
    · rename_i hz
      cases hf
      refine ⟨g, F, δ, ds, _, k, e1, fun vs F1 H1 k1 s1 r1 => ?_⟩
      have z : vs.length ≤ sizeLine := lim_le (by rw [r1.length]; exact hz)
      exact ⟨z, fun p o hp ho => q _ _ _ (k1.laid hp) (s1.trans (same_new (k1.noneF hp))) (.tup ⟨o, ho, upd_same⟩ z (DrAll.mono (same_new (k1.noneF hp)) _ _ r1))⟩
    · cases hf
theorem de_lst {f : EA} (h : PA X es (tA X.K f)) : PE X (.List es pos) (tE X.K (dLst f)) := PE.imp (pe_lst h) fun σ H Q ⟨g, F, δ, x, δ', k, hf, q⟩ => by
  unfold dLst at hf
  split at hf
  · cases hf
  · rename_i ds δ1 e1
    split at hf
    · rename_i hz
      cases hf
      refine ⟨g, F, δ, ds, _, k, e1, fun vs F1 H1 k1 s1 r1 => ?_⟩
      have z : vs.length ≤ sizeLine := lim_le (by rw [r1.length]; exact hz)
      exact ⟨z, fun p hp => q _ _ _ (k1.push hp) s1 (k1.newMt hp z r1)⟩
    · cases hf
/-! built-ins -/
theorem getAll_ok {K : PySem.W.Frag} {g : Gh} {F H : Hp} {σ : L2.St} {δ : Sl} (k : Ok K g F H σ δ) : ∀ {xs : List LV} {vs : List V} {ds : List D}, RepLs K F σ vs xs → getAll δ xs = some ds → DlAll K F H vs ds
  | [], _, _, .nil, h => by
    cases h
    exact .nil
  | x :: xs, _, _, .cons r rs, h => by
    unfold getAll at h
    split at h
    · rename_i d ds e1 e2
      cases h
      exact .cons (k.late r e1) (getAll_ok k rs e2)
    · cases h
theorem cb_read {gd : GN} {f : EAL} {σ : L2.St} {H : Hp} {Q : VK} (h : tE X.K (dCB gd f) σ H Q) : tCB (cD X.K gd) (tAL X.K f) σ H Q := by
  obtain ⟨g, F, δ, r, δ', k, hf, q⟩ := h
  unfold dCB at hf
  split at hf
  · cases hf
  · rename_i xs δ1 e1
    split at hf
    · cases hf
    · rename_i ds e2
      split at hf
      · rename_i r' e3
        cases hf
        exact ⟨g, F, δ, xs, _, k, e1, fun vs F1 H1 k1 s1 r1 => ⟨g, F1, σ, _, ds, _, k1, getAll_ok k1 r1 e2, e3, fun w F' H' k' s' r' => q w F' H' k' (s1.trans s') r'⟩⟩
      · cases hf
variable {x : Str} {p : Pos}
theorem de_cb {id : String} {gd : GN} {f : EAL} (hc : CallR X (.builtin id) (cD X.K gd)) (hg : Gl X x) (hm : X.mg x = none) (hv : bootBuiltins x = some (.builtin id)) (ha : PA X (e :: es) (tAL X.K f)) (hn : x ≠ "__name__" := by decide) (hdb : (x == ("__debug__" : Str)) = false := by decide)
    (he : starEach (e :: es) X.env = (false, eval e X.env) :: starEach es X.env := by rfl) (hpl : (backTo pos (starEach es X.env)).any (·.1) = false := by rfl) : PE X (.Call (.Name x p) (e :: es) [] pos) (tE X.K (dCB gd f)) :=
  PE.imp (pe_callB hc hg hm hv ha hn hdb he hpl) fun _ _ _ h => cb_read h
theorem de_cty {T : String} {gd : GN} {f : EAL} (hc : CallR X (.type T) (cD X.K gd)) (hg : Gl X x) (hm : X.mg x = none) (hv : bootBuiltins x = some (.type T)) (ha : PA X (e :: es) (tAL X.K f)) (hn : x ≠ "__name__" := by decide) (hdb : (x == ("__debug__" : Str)) = false := by decide)
    (he : starEach (e :: es) X.env = (false, eval e X.env) :: starEach es X.env := by rfl) (hpl : (backTo pos (starEach es X.env)).any (·.1) = false := by rfl) : PE X (.Call (.Name x p) (e :: es) [] pos) (tE X.K (dCB gd f)) :=
  PE.imp (pe_callTy hc hg hm hv ha hn hdb he hpl) fun _ _ _ h => cb_read h
/-! tests -/
variable {ft fu : ET}
theorem dTest_inv {δ δ' : Sl} {r : Bool} (h : dTest fl δ = some (r, δ')) : ∃ x, fl δ = some (x, δ') ∧ x.get δ' = some (.bool r) := by
  unfold dTest at h
  split at h
  · cases h
  · rename_i x δ1 e1
    split at h
    · rename_i b e2
      cases h
      exact ⟨x, e1, e2⟩
    · cases h
/-- a comparison as a test -/
theorem dt_cmp {op : CmpOp} {gd : G2} (ho : OpR X (compareOp op) (rD X.K gd)) (ha : PE X a (tL X.K fa)) (hb : PE X b (tL X.K fb)) (hm : behindInMarks op b = false) : PT X (.Compare a [op] [b] pos) (tT X.K (dTest (toL (toV (dOp gd fa fb))))) :=
  PT.imp (pt_cmpR ho ha hb hm) fun σ H Q ⟨g, F, δ, r, δ', k, hf, q⟩ => by
    obtain ⟨y, e1, e2⟩ := dTest_inv hf
    unfold toL at e1
    split at e1
    · rename_i d δ1 e3
      cases e1
      cases e2
      unfold toV at e3
      split at e3
      · rename_i d' δ2 e4
        cases e3
        exact op_read (fun _ _ _ z => z) (fun _ _ _ z => z) ⟨g, F, δ, _, _, k, e4, fun v F' H' k' s' r' => ⟨r, Dr.unbool r', q F' H' k' s'⟩⟩
      · cases e3
      · cases e3
      · cases e3
    · cases e1
/-- a value that is a bool, as a test -/
theorem dt_val (h : PE X e (tL X.K fl)) (he : ∀ whole, isTrue e X.env whole = (do let v ← whole; standAt e.pos; holding [v] (truthy v)) := by intro _; rfl) : PT X e (tT X.K (dTest fl)) :=
  PT.imp (pt_val h he) fun σ H Q ⟨g, F, δ, r, δ', k, hf, q⟩ => by
    obtain ⟨y, e1, e2⟩ := dTest_inv hf
    exact ⟨g, F, δ, y, _, k, e1, fun v F' H' k' s' r' => ⟨r, (k'.late r' e2).unbool, q F' H' k' s'⟩⟩
/-- any value by its truth -/
theorem dt_tru (h : PE X e (tL X.K fl)) (he : ∀ whole, isTrue e X.env whole = (do let v ← whole; standAt e.pos; holding [v] (truthy v)) := by intro _; rfl) : PT X e (tT X.K (dTruthy fl)) :=
  PT.imp (pt_truth h he) fun σ H Q ⟨g, F, δ, r, δ', k, hf, q⟩ => by
    unfold dTruthy at hf
    split at hf
    · cases hf
    · rename_i y δ1 e1
      refine ⟨g, F, δ, y, δ1, k, e1, fun v F' H' k' s' r' => ?_⟩
      split at hf
      · rename_i e2
        cases hf
        obtain rfl := (k'.late r' e2).unnone
        exact ⟨false, rfl, q F' H' k' s'⟩
      · rename_i b e2
        cases hf
        obtain rfl := (k'.late r' e2).unbool
        exact ⟨_, rfl, q F' H' k' s'⟩
      · rename_i i e2
        cases hf
        obtain rfl := (k'.late r' e2).unint
        exact ⟨_, rfl, q F' H' k' s'⟩
      · rename_i ds e2
        cases hf
        obtain ⟨l, vs, rfl, h1, h2, h3⟩ := (k'.late r' e2).unlst k'.sub
        refine ⟨_, .inl ⟨vs, .inl (.inl h1), ?_⟩, q F' H' k' s'⟩
        have := h3.length
        cases vs <;> cases ds <;> simp_all
      · rename_i ds e2
        cases hf
        obtain ⟨l, vs, rfl, h1, h2, h3⟩ := (k'.late r' e2).untup
        refine ⟨_, .inr (.inl ⟨vs, h1.sqt k'.sub, ?_⟩), q F' H' k' s'⟩
        have := h3.length
        cases vs <;> cases ds <;> simp_all
      · cases hf
theorem dt_not (h : PT X e (tT X.K ft)) : PT X (.UnaryOp .Not e pos) (tT X.K (dNot ft)) := PT.imp (pt_not h) fun σ H Q ⟨g, F, δ, r, δ', k, hf, q⟩ => by
  unfold dNot at hf
  split at hf
  · rename_i c δ1 e1
    cases hf
    exact ⟨g, F, δ, c, _, k, e1, fun F' H' k' s' => q F' H' k' s'⟩
  · cases hf
theorem PW.imp {e : Expr} {t t' : TT} (h : PW X e t) (i : ∀ σ H Q, t' σ H Q → t σ H Q) : PW X e t' := ⟨fun w pins s σ H Q I q => h.run w pins s σ H Q I (i σ H Q q)⟩
variable {rest : List Expr}
theorem dw_and1 (h : PT X a (tT X.K ft)) : PW X (.BoolOp .And [a] pos) (tT X.K ft) := pw_and1 h
theorem dw_or1 (h : PT X a (tT X.K ft)) : PW X (.BoolOp .Or [a] pos) (tT X.K ft) := pw_or1 h
theorem dw_and (ha : PT X a (tT X.K ft)) (hb : PW X (.BoolOp .And (b :: rest) pos) (tT X.K fu)) : PW X (.BoolOp .And (a :: b :: rest) pos) (tT X.K (dAnd ft fu)) := PW.imp (pw_and ha hb) fun σ H Q ⟨g, F, δ, r, δ', k, hf, q⟩ => by
  unfold dAnd at hf
  split at hf
  · rename_i δ1 e1
    exact ⟨g, F, δ, true, δ1, k, e1, fun F' H' k' s' => by
      refine iteT ?_
      exact ⟨g, F', δ1, r, δ', k', hf, fun F2 H2 k2 s2 => q F2 H2 k2 (s'.trans s2)⟩⟩
  · rename_i δ1 e1
    cases hf
    exact ⟨g, F, δ, false, _, k, e1, fun F' H' k' s' => by
      refine iteF ?_
      exact q F' H' k' s'⟩
  · cases hf
theorem dw_or (ha : PT X a (tT X.K ft)) (hb : PW X (.BoolOp .Or (b :: rest) pos) (tT X.K fu)) : PW X (.BoolOp .Or (a :: b :: rest) pos) (tT X.K (dOr ft fu)) := PW.imp (pw_or ha hb) fun σ H Q ⟨g, F, δ, r, δ', k, hf, q⟩ => by
  unfold dOr at hf
  split at hf
  · rename_i δ1 e1
    cases hf
    exact ⟨g, F, δ, true, _, k, e1, fun F' H' k' s' => by
      refine iteT ?_
      exact q F' H' k' s'⟩
  · rename_i δ1 e1
    exact ⟨g, F, δ, false, δ1, k, e1, fun F' H' k' s' => by
      refine iteF ?_
      exact ⟨g, F', δ1, r, δ', k', hf, fun F2 H2 k2 s2 => q F2 H2 k2 (s'.trans s2)⟩⟩
  · cases hf
/-! bools as values -/
/-- a value that is known to be a bool -/
theorem de_ofL (h : PE X e (tL X.K fl)) : PE X e (tV X.K (dOfT (dTest fl))) := PE.imp h fun σ H Q ⟨g, F, δ, r, δ', k, hf, q⟩ => by
  unfold dOfT at hf
  split at hf
  · rename_i c δ1 e0
    cases hf
    obtain ⟨y, e1, e2⟩ := dTest_inv e0
    refine ⟨g, F, δ, y, _, k, e1, fun v F' H' k' s' r' => ?_⟩
    obtain rfl := (k'.late r' e2).unbool
    exact q _ F' H' k' s' (.bl _)
  · cases hf
theorem dOfT_inv {δ δ' : Sl} {d : D} (h : dOfT ft δ = some (d, δ')) : ∃ c, ft δ = some (c, δ') ∧ d = .bool c := by
  unfold dOfT at h
  split at h
  · rename_i c δ1 e0
    cases h
    exact ⟨c, e0, rfl⟩
  · cases h
theorem de_one {op : BoolOp} (h : PE X a (tV X.K (dOfT ft))) : PE X (.BoolOp op [a] pos) (tV X.K (dOfT ft)) := pe_one h
theorem de_and (ha : PE X a (tV X.K (dOfT ft))) (hb : PE X (.BoolOp .And (b :: rest) pos) (tV X.K (dOfT fu))) : PE X (.BoolOp .And (a :: b :: rest) pos) (tV X.K (dOfT (dAnd ft fu))) := PE.imp (pe_and ha hb) fun σ H Q ⟨g, F, δ, r, δ', k, hf, q⟩ => by
  obtain ⟨c, e0, rfl⟩ := dOfT_inv hf
  unfold dAnd at e0
  split at e0
  · rename_i δ1 e1
    refine ⟨g, F, δ, .bool true, δ1, k, by unfold dOfT; rw [e1], fun v F' H' k' s' r' => ⟨true, r'.unbool, ?_⟩⟩
    refine iteT ?_
    exact ⟨g, F', δ1, .bool c, δ', k', by unfold dOfT; rw [e0], fun w F2 H2 k2 s2 r2 => q w F2 H2 k2 (s'.trans s2) r2⟩
  · rename_i δ1 e1
    cases e0
    refine ⟨g, F, δ, .bool false, _, k, by unfold dOfT; rw [e1], fun v F' H' k' s' r' => ⟨false, r'.unbool, ?_⟩⟩
    refine iteF ?_
    exact q _ F' H' k' s' (.bl _)
  · cases e0
theorem de_or (ha : PE X a (tV X.K (dOfT ft))) (hb : PE X (.BoolOp .Or (b :: rest) pos) (tV X.K (dOfT fu))) : PE X (.BoolOp .Or (a :: b :: rest) pos) (tV X.K (dOfT (dOr ft fu))) := PE.imp (pe_or ha hb) fun σ H Q ⟨g, F, δ, r, δ', k, hf, q⟩ => by
  obtain ⟨c, e0, rfl⟩ := dOfT_inv hf
  unfold dOr at e0
  split at e0
  · rename_i δ1 e1
    cases e0
    refine ⟨g, F, δ, .bool true, _, k, by unfold dOfT; rw [e1], fun v F' H' k' s' r' => ⟨true, r'.unbool, ?_⟩⟩
    refine iteT ?_
    exact q _ F' H' k' s' (.bl _)
  · rename_i δ1 e1
    refine ⟨g, F, δ, .bool false, δ1, k, by unfold dOfT; rw [e1], fun v F' H' k' s' r' => ⟨false, r'.unbool, ?_⟩⟩
    refine iteF ?_
    exact ⟨g, F', δ1, .bool c, δ', k', by unfold dOfT; rw [e0], fun w F2 H2 k2 s2 r2 => q w F2 H2 k2 (s'.trans s2) r2⟩
  · cases e0
theorem de_not (ha : PE X a (tV X.K (dOfT ft))) : PE X (.UnaryOp .Not a pos) (tV X.K (dOfT (dNot ft))) := PE.imp (pe_not ha) fun σ H Q ⟨g, F, δ, r, δ', k, hf, q⟩ => by
  obtain ⟨c, e0, rfl⟩ := dOfT_inv hf
  unfold dNot at e0
  split at e0
  · rename_i c' δ1 e1
    cases e0
    exact ⟨g, F, δ, .bool c', _, k, by unfold dOfT; rw [e1], fun v F' H' k' s' r' => ⟨c', r'.unbool, q _ F' H' k' s' (.bl _)⟩⟩
  · cases e0
theorem de_if {fa' fb' : EE} (hc : PT X c (tT X.K ft)) (ha : PE X a (tE X.K fa')) (hb : PE X b (tE X.K fb')) : PE X (.IfExp c a b pos) (tE X.K (dIf ft fa' fb')) := PE.imp (pe_ifExp hc ha hb) fun σ H Q ⟨g, F, δ, r, δ', k, hf, q⟩ => by
  unfold dIf at hf
  split at hf
  · rename_i δ1 e1
    refine ⟨g, F, δ, true, δ1, k, e1, fun F' H' k' s' => ?_⟩
    refine iteT ?_
    exact ⟨g, F', δ1, r, δ', k', hf, fun w F2 H2 k2 s2 r2 => q w F2 H2 k2 (s'.trans s2) r2⟩
  · rename_i δ1 e1
    refine ⟨g, F, δ, false, δ1, k, e1, fun F' H' k' s' => ?_⟩
    refine iteF ?_
    exact ⟨g, F', δ1, r, δ', k', hf, fun w F2 H2 k2 s2 r2 => q w F2 H2 k2 (s'.trans s2) r2⟩
  · cases hf
end
end DL
set_option Elab.async false
set_option linter.all false
set_option maxRecDepth 100000
set_option maxHeartbeats 1000000
/-! Rules: statements, loops, comprehensions, calls of defs, a def's body. -/
namespace DL
open PySem PySem.Spec PyProof.Rows L2
section
variable {K : PySem.W.Frag} {mg : Str → Option Value} {W : WX} {D : Ends} {g : Gh} {F F' : Hp} {o : Out}
theorem Post.mono (h : Post K mg W D g F o) (s : Same F F') : Post K mg W D g F' o := by
  cases o with
  | nx δ => exact fun σ' F2 H2 k s2 => h σ' F2 H2 k (s.trans s2)
  | bk δ => exact fun σ' F2 H2 k s2 => h σ' F2 H2 k (s.trans s2)
  | ct δ => exact fun σ' F2 H2 k s2 => h σ' F2 H2 k (s.trans s2)
  | rt x δ => exact fun v σ' F2 H2 k s2 r => h v σ' F2 H2 k (s.trans s2) r
  | ex c δ => exact fun C σ' F2 H2 m k s2 => h C σ' F2 H2 m k (s.trans s2)
end
section
variable {X : Cx} {mg : Str → Option Value} {W : WX} {st : Stmt} {rest body : List Stmt} {e a b c tg iter : Expr} {es : List Expr} {fs fu : SM} {fe : EE} {fv : EV} {fl : EL} {ft : ET} {pos : Pos}
theorem ds_nil : PSs X [] (tS X.K mg W sNext) := PSs.imp pss_nil fun D σ H ⟨g, F, δ, o, k, hf, q⟩ => by
  cases hf
  exact q σ F H k (Same.refl F)
theorem ds_one (h : PS X st (tS X.K mg W fs)) : PSs X [st] (tS X.K mg W fs) := pss_one h
theorem ds_cons (h1 : PS X st (tS X.K mg W fs)) (h2 : PSs X rest (tS X.K mg W fu)) : PSs X (st :: rest) (tS X.K mg W (sSeq fs fu)) := PSs.imp (pss_cons h1 h2) fun D σ H ⟨g, F, δ, o, k, hf, q⟩ => by
  unfold sSeq at hf
  split at hf
  · rename_i δ1 e1
    exact ⟨g, F, δ, .nx δ1, k, e1, fun σ' F' H' k' s' => ⟨g, F', δ1, o, k', hf, q.mono s'⟩⟩
  · rename_i hne
    refine ⟨g, F, δ, o, k, hf, ?_⟩
    cases o with
    | nx δ1 => exact absurd hf (fun z => hne δ1 z)
    | bk δ => exact q
    | ct δ => exact q
    | rt x δ => exact q
    | ex c δ => exact q
theorem ds_pass : PS X (.Pass pos) (tS X.K mg W sNext) := PS.imp ps_pass fun D σ H ⟨g, F, δ, o, k, hf, q⟩ => by
  cases hf
  exact q σ F H k (Same.refl F)
theorem ds_break : PS X (.Break pos) (tS X.K mg W sBreak) := PS.imp ps_break fun D σ H ⟨g, F, δ, o, k, hf, q⟩ => by
  cases hf
  exact q σ F H k (Same.refl F)
theorem ds_continue : PS X (.Continue pos) (tS X.K mg W sCont) := PS.imp ps_continue fun D σ H ⟨g, F, δ, o, k, hf, q⟩ => by
  cases hf
  exact q σ F H k (Same.refl F)
theorem ds_drop (he : PE X e (tE X.K fe)) (hs : swapsWith e none pos.line X.env = pure false := by rfl) : PS X (.Expr e pos) (tS X.K mg W (sDrop fe)) := PS.imp (ps_expr he hs) fun D σ H ⟨g, F, δ, o, k, hf, q⟩ => by
  unfold sDrop at hf
  split at hf
  · cases hf
  · rename_i r δ1 e1
    cases hf
    exact ⟨g, F, δ, r, δ1, k, e1, fun v F' H' k' s' r' => q σ F' H' k' s'⟩
theorem ds_ret (he : PE X e (tE X.K fe)) : PS X (.Return (some e) pos) (tS X.K mg W (sRet fe)) := PS.imp (ps_ret he) fun D σ H ⟨g, F, δ, o, k, hf, q⟩ => by
  unfold sRet at hf
  split at hf
  · cases hf
  · rename_i r δ1 e1
    cases hf
    exact ⟨g, F, δ, r, δ1, k, e1, fun v F' H' k' s' r' => q v σ F' H' k' s' r'⟩
theorem ds_retN : PS X (.Return none pos) (tS X.K mg W (sRet (ofV (dC .none)))) := PS.imp ps_retN fun D σ H ⟨g, F, δ, o, k, hf, q⟩ => by
  cases hf
  exact q .non σ F H k (Same.refl F) .non
theorem ds_if (hc : PT X c (tT X.K ft)) (ha : PSs X body (tS X.K mg W fs)) (hb : PSs X rest (tS X.K mg W fu)) : PS X (.If c body rest pos) (tS X.K mg W (sIf ft fs fu)) := PS.imp (ps_if hc ha hb) fun D σ H ⟨g, F, δ, o, k, hf, q⟩ => by
  unfold sIf at hf
  split at hf
  · rename_i δ1 e1
    refine ⟨g, F, δ, true, δ1, k, e1, fun F' H' k' s' => ?_⟩
    refine iteT ?_
    exact ⟨g, F', δ1, o, k', hf, q.mono s'⟩
  · rename_i δ1 e1
    refine ⟨g, F, δ, false, δ1, k, e1, fun F' H' k' s' => ?_⟩
    refine iteF ?_
    exact ⟨g, F', δ1, o, k', hf, q.mono s'⟩
  · cases hf
theorem sAsg_inv {i : Nat} {δ : Sl} {o : Out} (h : sAsg i fe δ = some o) : ∃ r δ1, fe δ = some (r, δ1) ∧ (∀ ds, δ1[i]? ≠ some (some (.br ds))) ∧ o = .nx (δ1.set i (some r)) := by
  unfold sAsg at h
  split at h
  · cases h
  · rename_i r δ1 e1
    split at h
    · cases h
    · rename_i x hne e2
      cases h
      refine ⟨r, δ1, e1, fun ds z => ?_, rfl⟩
      rw [z] at e2
      exact hne ds (Option.some.inj e2).symm
    · cases h
/-- name = e -/
theorem ds_asg {i : Nat} {x : Str} {pos' : Pos} (hN : X.N.Nodup) (hi : X.N[i]? = some x) (hx : Loc X.env.scope x) (he : PE X e (tE X.K fe)) (hs : swapsWith e (some (.Name x pos')) pos.line X.env = pure false := by rfl)
    (hf : X.fn x = true ∨ X.env.scope.names.lookup x = some .local := by first | exact .inl rfl | exact .inr rfl | assumption) : PS X (.Assign [.Name x pos'] e pos) (tS X.K mg W (sAsg i fe)) := PS.imp (ps_set hN hi hx he hs hf) fun D σ H ⟨g, F, δ, o, k, hf, q⟩ => by
  obtain ⟨r, δ1, e1, hb, rfl⟩ := sAsg_inv hf
  exact ⟨g, F, δ, r, δ1, k, e1, fun v F' H' k' s' r' => q _ F' H' (k'.store hb r') s'⟩
/-- name op= e -/
theorem ds_aug {i : Nat} {x : Str} {pos' : Pos} {op : Operator} {gd : G2} (hN : X.N.Nodup) (hi : X.N[i]? = some x) (hx : Loc X.env.scope x) (he : PE X e (tL X.K fl)) (ho : OpR X (inplaceOp op) (rD X.K gd))
    (hf : X.fn x = true ∨ X.env.scope.names.lookup x = some .local := by first | exact .inl rfl | exact .inr rfl | assumption) : PS X (.AugAssign (.Name x pos') op e pos) (tS X.K mg W (sAsg i (dOp gd (dLate i) fl))) := PS.imp (ps_aug hN hi hx he ho hf) fun D σ H ⟨g, F, δ, o, k, hf, q⟩ => by
  obtain ⟨r, δ1, e1, hb, rfl⟩ := sAsg_inv hf
  obtain ⟨x, δ2, y, u, v, e2, e3, e4, e5, e6⟩ := dOp_inv e1
  unfold dLate at e2
  split at e2
  · rename_i dv hd
    cases e2
    obtain ⟨w, ew, rw'⟩ := k.rep i _ hd
    refine ⟨w, ew, g, F, _, y, δ1, k, e3, fun v2 F2 H2 k2 s2 r2 => ?_⟩
    exact ⟨g, F2, σ, δ1, u, v, r, k2, k2.late (show RepL X.K F2 σ w (.slot i) from ew) e4, k2.late r2 e5, e6, fun z F' H' k' s' r' => q _ F' H' (k'.store hb r') (s2.trans s')⟩
  · cases e2
/-! targets -/
/-- a target; ts: the slots that it stores -/
def tGx (K : PySem.W.Frag) (ts : List Nat) (t : ETg) : TG := fun v σ H Q => ∃ g F δ d δ', Ok K g F H σ δ ∧ Dr K F v d ∧ t d δ = some δ' ∧ ∀ σ' F' H', Ok K g F' H' σ' δ' → Same F F' → (∀ vs : List Nat, (∀ i ∈ ts, i ∈ vs) → L2.wipe σ' vs = L2.wipe σ vs) → Q σ' H'
def tGsx (K : PySem.W.Frag) (ts : List Nat) (t : List D → Sl → Option Sl) : TGs := fun us σ H Q => ∃ g F δ ds δ', Ok K g F H σ δ ∧ DrAll K F us ds ∧ t ds δ = some δ' ∧ ∀ σ' F' H', Ok K g F' H' σ' δ' → Same F F' → (∀ vs : List Nat, (∀ i ∈ ts, i ∈ vs) → L2.wipe σ' vs = L2.wipe σ vs) → Q σ' H'
theorem wipe_get {σ : L2.St} {j : Nat} : ∀ {vs : List Nat}, (L2.wipe σ vs)[j]? = if j ∈ vs ∧ j < σ.length then some none else σ[j]?
  | [] => by simp [L2.wipe]
  | v :: vs => by
    unfold L2.wipe
    by_cases h : v = j
    · subst h
      by_cases hl : v < σ.length
      · rw [List.getElem?_set_self (by rw [L2.wipe_length]; exact hl), if_pos ⟨List.mem_cons_self, hl⟩]
      · rw [List.getElem?_eq_none (by rw [List.length_set, L2.wipe_length]; omega), if_neg (fun z => hl z.2), List.getElem?_eq_none (by omega)]
    · rw [List.getElem?_set_ne h, wipe_get]
      have : (j ∈ v :: vs ∧ j < σ.length) ↔ (j ∈ vs ∧ j < σ.length) := by
        constructor
        · rintro ⟨h1, h2⟩
          rcases List.mem_cons.mp h1 with h1 | h1
          · exact absurd h1.symm h
          · exact ⟨h1, h2⟩
        · rintro ⟨h1, h2⟩
          exact ⟨List.mem_cons_of_mem _ h1, h2⟩
      by_cases hc : j ∈ vs ∧ j < σ.length
      · rw [if_pos hc, if_pos (this.mpr hc)]
      · rw [if_neg hc, if_neg (fun z => hc (this.mp z))]
theorem wipe_eq {σ σ' : L2.St} {vs : List Nat} (hl : σ'.length = σ.length) (h : ∀ j, j ∉ vs → σ'[j]? = σ[j]?) : L2.wipe σ' vs = L2.wipe σ vs := by
  apply List.ext_getElem?
  intro j
  rw [wipe_get, wipe_get, hl]
  by_cases hj : j ∈ vs
  · by_cases h2 : j < σ.length
    · rw [if_pos ⟨hj, h2⟩, if_pos ⟨hj, h2⟩]
    · rw [if_neg fun z => h2 z.2, if_neg fun z => h2 z.2, List.getElem?_eq_none (by omega), List.getElem?_eq_none (by omega)]
  · rw [if_neg fun z => hj z.1, if_neg fun z => hj z.1]
    exact h j hj
theorem wipe_set {σ : L2.St} {i : Nat} {x : Option V} {vs : List Nat} (h : i ∈ vs) : L2.wipe (σ.set i x) vs = L2.wipe σ vs :=
  wipe_eq (by rw [List.length_set]) fun j hj => List.getElem?_set_ne fun z => hj (by rw [← z]; exact h)
theorem dg_name {i : Nat} {x : Str} (hN : X.N.Nodup) (hi : X.N[i]? = some x) (hx : Loc X.env.scope x) (hf : X.fn x = true ∨ X.env.scope.names.lookup x = some .local := by first | exact .inl rfl | exact .inr rfl | assumption) : PG X (.Name x pos) (tGx X.K [i] (tgName i)) :=
  PG.imp (pg_name hN hi hx hf) fun v σ H Q ⟨g, F, δ, d, δ', k, r, hf, q⟩ => by
    unfold tgName at hf
    split at hf
    · cases hf
    · rename_i y hne e2
      cases hf
      refine q _ F H (k.store (x := .fz d) (fun ds z => ?_) r) (Same.refl F) fun vs hvs => wipe_set (hvs i List.mem_cons_self)
      rw [z] at e2
      exact hne ds (Option.some.inj e2).symm
    · cases hf
theorem dgs_nil : PGs X [] (tGsx X.K [] tgNil) := PGs.imp pgs_nil fun us σ H Q ⟨g, F, δ, ds, δ', k, r, hf, q⟩ => by
  unfold tgNil at hf
  split at hf
  · cases hf
    cases r
    exact ⟨rfl, q σ F H k (Same.refl F) fun vs _ => rfl⟩
  · cases hf
theorem dgs_cons {t : ETg} {u : List D → Sl → Option Sl} {ts us : List Nat} (h1 : PG X e (tGx X.K ts t)) (h2 : PGs X es (tGsx X.K us u)) (hs : (assignEach (e :: es) X.env).map (·.2) = assign e X.env :: (assignEach es X.env).map (·.2) := by rfl) : PGs X (e :: es) (tGsx X.K (ts ++ us) (tgCons t u)) :=
  PGs.imp (pgs_cons h1 h2 hs) fun ws σ H Q ⟨g, F, δ, ds, δ', k, r, hf, q⟩ => by
    unfold tgCons at hf
    split at hf
    · cases hf
    · rename_i d dr
      split at hf
      · rename_i δ1 e1
        cases r with
        | cons r1 r2 =>
          refine ⟨_, _, rfl, g, F, δ, d, δ1, k, r1, e1, fun σ1 F1 H1 k1 s1 w1 => ?_⟩
          refine ⟨g, F1, δ1, dr, δ', k1, DrAll.mono s1 _ _ r2, hf, fun σ2 F2 H2 k2 s2 w2 => q σ2 F2 H2 k2 (s1.trans s2) fun vs hvs => ?_⟩
          rw [w2 vs fun i hi => hvs i (List.mem_append_right _ hi), w1 vs fun i hi => hvs i (List.mem_append_left _ hi)]
      · cases hf
theorem dg_tup {t : List D → Sl → Option Sl} {ts : List Nat} {n : Nat} {kk : Nat} (hc : X.calm = true) (h : PGs X es (tGsx X.K ts t)) (hlen : ∀ ds δ δ', t ds δ = some δ' → ds.length = n)
    (hn : (assignEach es X.env).length = n := by rfl) (hst : (assignEach es X.env).findIdx? (·.1) = none := by rfl) : PG X (.Tuple es kk pos) (tGx X.K ts (tgTup t)) :=
  PG.imp (pg_tup hc h hn hst) fun v σ H Q ⟨g, F, δ, d, δ', k, r, hf, q⟩ => by
    unfold tgTup at hf
    split at hf
    · rename_i ds
      obtain ⟨a, xs, rfl, h1, h2, h3⟩ := r.untup
      exact ⟨a, xs, rfl, h1.sqt k.sub, by rw [h3.length, hlen ds δ δ' hf], g, F, δ, ds, δ', k, h3, hf, q⟩
    · rename_i ds
      cases r with
      | par h1 h2 h3 h4 =>
        cases h4
        exact ⟨_, _, rfl, .inl (.inl (k.sub _ _ h1)), by rw [h3.length, hlen ds δ δ' hf], g, F, δ, ds, δ', k, h3, hf, q⟩
      | scr h1 h2 => cases h2
      | fn h => cases h
      | @dct _ c _ h1 h2 => cases c <;> cases h2
    · cases hf
theorem tgNil_len (ds : List D) (δ δ' : Sl) (h : tgNil ds δ = some δ') : ds.length = 0 := by
  unfold tgNil at h
  split at h
  · rfl
  · cases h
theorem tgCons_len {t : ETg} {u : List D → Sl → Option Sl} {n : Nat} (hu : ∀ ds δ δ', u ds δ = some δ' → ds.length = n) (ds : List D) (δ δ' : Sl) (h : tgCons t u ds δ = some δ') : ds.length = n + 1 := by
  unfold tgCons at h
  split at h
  · cases h
  · rename_i d dr
    split at h
    · rw [List.length_cons, hu _ _ _ h]
    · cases h
/-- target = e, the target a tuple -/
theorem ds_asgT {t : ETg} {ts : List Nat} (he : PE X e (tV X.K fv)) (hg : PG X tg (tGx X.K ts t)) (hs : swapsWithSole [tg] e pos.line X.env = pure false := by rfl) (hw : swappedStores [tg] e X.env = pure none := by rfl)
    (h1 : (assignEach [tg] X.env).map (·.2) = [assign tg X.env] := by rfl) : PS X (.Assign [tg] e pos) (tS X.K mg W (sAsgT t fv)) := PS.imp (ps_asg he hg hs hw h1) fun D σ H ⟨g, F, δ, o, k, hf, q⟩ => by
  unfold sAsgT at hf
  split at hf
  · cases hf
  · rename_i d δ1 e1
    split at hf
    · rename_i δ2 e2
      cases hf
      exact ⟨g, F, δ, d, δ1, k, e1, fun v F1 H1 k1 s1 r1 => ⟨g, F1, δ1, d, δ2, k1, r1, e2, fun σ2 F2 H2 k2 s2 _ => q σ2 F2 H2 k2 (s1.trans s2)⟩⟩
    · cases hf
/-! a, b = x, y -/
theorem RepX.through {K : PySem.W.Frag} {g : Gh} {F F' H H' : Hp} {σ : L2.St} {δ δ' : Sl} {v : V} {x : DV} (k : Ok K g F H σ δ) (r : RepX K g F H σ δ v x) (k' : Ok K (rebase g F H σ δ) F' H' σ δ') (s : Same F F') : RepX K g F' H' σ δ' v x := by
  cases x with
  | fz d => exact Dr.mono s _ _ r
  | br ds => exact r
  | mt ds =>
    obtain ⟨l, rfl, ⟨h0, hf, vs, hl, z, ha⟩, hs⟩ := r
    have no : ¬ OwnedBy σ δ l := fun ⟨j, dj, e, oj, e2⟩ => hs j dj e oj e2
    have nb : g.B ≠ some l := fun e => by
      obtain ⟨_, ⟨o, q⟩, _⟩ := k.b0 l e
      rw [h0] at q
      cases q
    obtain ⟨q1, q2, q3⟩ := k'.beside hl hf no nb
    exact ⟨l, rfl, ⟨h0, q2, vs, q1, z, DrAll.mono s _ _ ha⟩, fun j dj e oj e2 => q3 ⟨j, dj, e, oj, e2⟩⟩
  | ow c =>
    obtain ⟨l, rfl, ⟨h0, hf, hl⟩, hs⟩ := r
    have no : ¬ OwnedBy σ δ l := fun ⟨j, dj, e, oj, e2⟩ => hs j dj e oj e2
    have nb : g.B ≠ some l := fun e => by
      obtain ⟨_, ⟨o, q⟩, _⟩ := k.b0 l e
      rw [h0] at q
      cases q
    obtain ⟨q1, q2, q3⟩ := k'.beside hl hf no nb
    exact ⟨l, rfl, ⟨h0, q2, q1⟩, fun j dj e oj e2 => q3 ⟨j, dj, e, oj, e2⟩⟩
theorem RepX.unbase {K : PySem.W.Frag} {g : Gh} {F F' H H' : Hp} {σ : L2.St} {δ δ' : Sl} {v : V} {x : DV} (k : Ok K g F H σ δ) (r : RepX K (rebase g F H σ δ) F' H' σ δ' v x) : RepX K g F' H' σ δ' v x := by
  cases x with
  | fz d => exact r
  | br ds => exact r
  | mt ds =>
    obtain ⟨l, rfl, ⟨h0, m⟩, hs⟩ := r
    refine ⟨l, rfl, ⟨?_, m⟩, hs⟩
    by_cases h : OwnedBy σ δ l
    · exact (k.owned0 h).1
    · rw [rebase_some h] at h0
      exact k.none0 h0
  | ow c =>
    obtain ⟨l, rfl, ⟨h0, m⟩, hs⟩ := r
    refine ⟨l, rfl, ⟨?_, m⟩, hs⟩
    by_cases h : OwnedBy σ δ l
    · exact (k.owned0 h).1
    · rw [rebase_some h] at h0
      exact k.none0 h0
theorem notBr_ne {δ : Sl} {i : Nat} (h : notBr δ i = true) (ds : List D) : δ[i]? ≠ some (some (.br ds)) := fun e => by
  unfold notBr at h
  rw [e] at h
  cases h
theorem sPar_inv {i j : Nat} {fa fb : EE} {δ : Sl} {o : Out} (h : sPar i j fa fb δ = some o) : ∃ x δ1 y δ2, fa δ = some (x, δ1) ∧ fb δ1 = some (y, δ2) ∧ notBr δ2 i = true ∧ notBr δ2 j = true ∧ o = .nx ((δ2.set i (some x)).set j (some y)) := by
  unfold sPar at h
  split at h
  · cases h
  · rename_i x δ1 e1
    split at h
    · cases h
    · rename_i y δ2 e2
      split at h
      · rename_i hc
        cases h
        rw [Bool.and_eq_true] at hc
        exact ⟨x, δ1, y, δ2, e1, e2, hc.1, hc.2, rfl⟩
      · cases h
theorem Ok.store2 {K : PySem.W.Frag} {g : Gh} {F H : Hp} {σ : L2.St} {δ : Sl} {i j : Nat} (hij : i ≠ j) {v w : V} {x y : DV} (k : Ok K g F H σ δ) (hi : notBr δ i = true) (hj : notBr δ j = true) (rx : RepX K g F H σ δ v x) (ry : RepX K g F H σ δ w y)
    (hd : own x = true → own y = true → v ≠ w) : Ok K g F H ((σ.set i (some v)).set j (some w)) ((δ.set i (some x)).set j (some y)) := by
  refine (k.store (notBr_ne hi) rx).store (fun ds e => ?_) ?_
  · rw [List.getElem?_set_ne hij] at e
    exact notBr_ne hj ds e
  · have far : ∀ {l : Addr}, w = .ref l → own y = true → (∀ (j : Nat) dj, δ[j]? = some (some dj) → own dj = true → σ[j]? ≠ some (some (.ref l))) → ∀ (c : Nat) dc, (δ.set i (some x))[c]? = some (some dc) → own dc = true → (σ.set i (some v))[c]? ≠ some (some (.ref l)) := fun {l} ew oy hs c dc e oc e2 => by
      by_cases hc : i = c
      · subst hc
        have hl := slot_lt e
        rw [List.length_set] at hl
        rw [List.getElem?_set_self hl] at e
        rw [List.getElem?_set_self (by rw [k.len]; exact hl)] at e2
        cases e
        cases e2
        exact hd oc oy ew.symm
      · rw [List.getElem?_set_ne hc] at e e2
        exact hs c dc e oc e2
    cases y with
    | fz d => exact ry
    | br ds => exact ry
    | mt ds =>
      obtain ⟨l, rfl, m, hs⟩ := ry
      exact ⟨l, rfl, m, far rfl rfl hs⟩
    | ow ds =>
      obtain ⟨l, rfl, m, hs⟩ := ry
      exact ⟨l, rfl, m, far rfl rfl hs⟩
theorem ds_par {i j : Nat} {x y : Str} {fa fb : EE} {px py pt : Pos} {kt k2 pt2} (hc : X.calm = true) (hN : X.N.Nodup) (hi : X.N[i]? = some x) (hj : X.N[j]? = some y) (hij : i ≠ j)
    (hx : X.env.scope.names.lookup x = some .local) (hy : X.env.scope.names.lookup y = some .local) (ha : PE X a (tE X.K fa)) (hb : PE X b (tE X.K fb))
    (hw : swappedStores [.Tuple [.Name x px, .Name y py] kt pt] (.Tuple [a, b] k2 pt2) X.env = pure (some [x, y]))
    (hs : swapsWithSole [.Tuple [.Name x px, .Name y py] kt pt] (.Tuple [a, b] k2 pt2) pos.line X.env = pure false := by rfl)
    (s1 : starEach [a, b] X.env = (false, eval a X.env) :: starEach [b] X.env := by rfl) (s2 : starEach [b] X.env = (false, eval b X.env) :: starEach [] X.env := by rfl) :
    PS X (.Assign [.Tuple [.Name x px, .Name y py] kt pt] (.Tuple [a, b] k2 pt2) pos) (tS X.K mg W (sPar i j fa fb)) :=
  PS.imp (ps_par hc hN hi hj hij hx hy (pa_cons ha (pa_cons hb pa_nil s2) s1) hw hs) fun D σ H ⟨g, F, δ, o, k, hf, q⟩ => by
    obtain ⟨u, δ1, w, δ2, e1, e2, n1, n2, rfl⟩ := sPar_inv hf
    refine ⟨g, F, δ, u, δ1, k, e1, fun v F1 H1 k1 s1 r1 => ⟨rebase g F1 H1 σ δ1, F1, δ1, w, δ2, k1.rebase, e2, fun v2 F2 H2 k2 s2 r2 => ⟨v, v2, rfl, ?_⟩⟩⟩
    have kk := k1.unbase k2
    refine q _ F2 H2 (kk.store2 hij n1 n2 (r1.through k1 k2 s2) (r2.unbase k1) fun ox oy z => ?_) (s1.trans s2)
    subst z
    have q1 : ∃ l o, v = .ref l ∧ H1 l = some o ∧ ∀ (j : Nat) dj, δ1[j]? = some (some dj) → own dj = true → σ[j]? ≠ some (some (.ref l)) := by
      cases u with
      | fz d => cases ox
      | br d => cases ox
      | mt d =>
        obtain ⟨l, rfl, ⟨h0, hf, vs, hl, _⟩, hs⟩ := r1
        exact ⟨l, _, rfl, hl, hs⟩
      | ow d =>
        obtain ⟨l, rfl, ⟨h0, hf, hl⟩, hs⟩ := r1
        exact ⟨l, _, rfl, hl, hs⟩
    have q2 : ∃ l, v = .ref l ∧ (rebase g F1 H1 σ δ1).H0 l = none := by
      cases w with
      | fz d => cases oy
      | br d => cases oy
      | mt d =>
        obtain ⟨l, e, ⟨h0, _⟩, _⟩ := r2
        exact ⟨l, e, h0⟩
      | ow d =>
        obtain ⟨l, e, ⟨h0, _⟩, _⟩ := r2
        exact ⟨l, e, h0⟩
    obtain ⟨l, o, rfl, hl, hs⟩ := q1
    obtain ⟨l2, e3, h02⟩ := q2
    cases e3
    rw [rebase_some fun ⟨j, dj, e, oj, e2⟩ => hs j dj e oj e2, hl] at h02
    cases h02
/-! a def's promise -/
def ArgOk (K : PySem.W.Frag) (B : Option Addr) (F H : Hp) (v : V) : DV → Prop
  | .fz d => Dr K F v d
  | .br ds => ∃ l, v = .ref l ∧ B = some l ∧ F l = none ∧ ∃ vs, H l = some (.lst vs) ∧ vs.length ≤ sizeLine ∧ DrAll K F vs ds
  | .mt _ => False
  | .ow _ => False
def RetOk (K : PySem.W.Frag) (H F' H' : Hp) (v : V) : DV → Prop
  | .fz d => Dr K F' v d
  | .mt ds => ∃ l, v = .ref l ∧ H l = none ∧ F' l = none ∧ ∃ vs, H' l = some (.lst vs) ∧ vs.length ≤ sizeLine ∧ DrAll K F' vs ds
  | .br _ => False
  | .ow c => ∃ l, v = .ref l ∧ H l = none ∧ F' l = none ∧ H' l = some c.ho
inductive ArgsOk (K : PySem.W.Frag) (B : Option Addr) (F H : Hp) : List V → List DV → Prop
  | nil : ArgsOk K B F H [] []
  | cons {v : V} {vs : List V} {x : DV} {xs : List DV} : ArgOk K B F H v x → ArgsOk K B F H vs xs → ArgsOk K B F H (v :: vs) (x :: xs)
theorem ArgsOk.length {K : PySem.W.Frag} {B : Option Addr} {F H : Hp} : ∀ {vs : List V} {xs : List DV}, ArgsOk K B F H vs xs → vs.length = xs.length
  | _, _, .nil => rfl
  | _, _, .cons _ t => by rw [List.length_cons, List.length_cons, t.length]
theorem ArgsOk.get {K : PySem.W.Frag} {B : Option Addr} {F H : Hp} : ∀ {vs : List V} {xs : List DV} {i : Nat} {x : DV}, ArgsOk K B F H vs xs → xs[i]? = some x → ∃ v, vs[i]? = some v ∧ ArgOk K B F H v x
  | _, _, _, _, .nil, e => by simp at e
  | _, _, 0, _, .cons r _, e => by simp at e; subst e; exact ⟨_, rfl, r⟩
  | _, _, i + 1, x, .cons _ t, e => by
    obtain ⟨u, h1, h2⟩ := ArgsOk.get (i := i) (x := x) t (by simpa using e)
    exact ⟨u, by simpa using h1, h2⟩
theorem ArgsOk.all {K : PySem.W.Frag} {F H : Hp} {B : Option Addr} : ∀ {vs : List V} {ds : List D}, DrAll K F vs ds → ArgsOk K B F H vs (ds.map .fz)
  | _, [], h => by cases h; exact .nil
  | _, d :: ds, h => by
    cases h with
    | cons h1 h2 => exact .cons h1 (ArgsOk.all h2)
def FPost (K : PySem.W.Frag) (mg : Str → Option Value) (B : Option Addr) (F H : Hp) (Q : VK) (E : XK) : FRes → Prop
  | .ret x b' => ∀ v F' H', Same F F' → Same F' H' → (∀ a o, H a = some o → B ≠ some a → H' a = some o) → (∀ a o, F' a = some o → F a = some o ∨ H a = none) →
      (∀ l, B = some l → F' l = none ∧ ∃ vs', H' l = some (.lst vs') ∧ vs'.length ≤ sizeLine ∧ DrAll K F' vs' b') → RetOk K H F' H' v x → Q v H'
  | .ex c => ∀ C H', mg c = some (.ref C) → (∀ a o, H a = some o → B ≠ some a → H' a = some o) → E (.ref C) none H'
def spD (K : PySem.W.Frag) (mg : Str → Option Value) (n : Nat) (Φ : Fn) : Sp := fun vs H Q E => vs.length = n ∧ ∃ F B args r, Same F H ∧ (∀ l, B = some l → ∃ ds, args[(0 : Nat)]? = some (.br ds)) ∧ (∀ (i : Nat) ds, args[i]? = some (.br ds) → i = 0) ∧ ArgsOk K B F H vs args ∧ Φ args = some r ∧ FPost K mg B F H Q E r
/-- behind a call whose arguments are all frozen -/
theorem Ok.called {K : PySem.W.Frag} {g : Gh} {F F' H H' : Hp} {σ : L2.St} {δ : Sl} (k : Ok K g F H σ δ) (s1 : Same F F') (s2 : Same F' H') (fr : Same H H') (nw : ∀ a o, F' a = some o → F a = some o ∨ H a = none) : Ok K g F' H' σ δ := by
  have nF : ∀ l, F l = none → (∃ o, H l = some o) → F' l = none := fun l h ⟨o, h2⟩ => by
    cases e : F' l with
    | none => rfl
    | some u =>
      rcases nw l u e with q | q
      · rw [h] at q
        cases q
      · rw [h2] at q
        cases q
  refine ⟨s2, k.ext.trans s1, fun a o e hb => fr _ _ (k.frm a o e hb), fun a o e => ?_, fun l hl => ?_, k.len, fun i dv e => ?_, k.dis, k.br0, k.brB⟩
  · rcases nw a o e with q | q
    · exact k.new a o q
    · exact .inr (k.none0 q)
  · obtain ⟨h1, h2, o, h3⟩ := k.b0 l hl
    exact ⟨nF l h1 ⟨o, h3⟩, h2, o, fr _ _ h3⟩
  · obtain ⟨v, e1, r⟩ := k.rep i dv e
    exact ⟨v, e1, r.keep s1 nF fun l vs _ _ q => fr _ _ q⟩
theorem dCall_inv {Φ : Fn} {f : EA} {δ δ' : Sl} {x : DV} (h : dCall Φ f δ = some (x, δ')) : ∃ ds b, f δ = some (ds, δ') ∧ Φ (ds.map .fz) = some (.ret x b) := by
  unfold dCall at h
  split at h
  · cases h
  · rename_i ds δ1 e1
    split at h
    · rename_i r b e2
      cases h
      exact ⟨ds, b, e1, e2⟩
    · cases h
theorem noB {ds : List D} {i : Nat} {b : List D} (h : (ds.map DV.fz)[i]? = some (.br b)) : False := by
  rw [List.getElem?_map] at h
  cases e : ds[i]? with
  | none => rw [e] at h; cases h
  | some d => rw [e] at h; cases h
theorem RetOk.repX {K : PySem.W.Frag} {g : Gh} {F F' H H' : Hp} {σ : L2.St} {δ : Sl} {v : V} {x : DV} (k : Ok K g F H σ δ) (r : RetOk K H F' H' v x) : RepX K g F' H' σ δ v x := by
  cases x with
  | fz d => exact r
  | br ds => exact r
  | mt ds =>
    obtain ⟨l, rfl, h0, hf, vs, hl, z, ha⟩ := r
    refine ⟨l, rfl, ⟨k.none0 h0, hf, vs, hl, z, ha⟩, fun j dj e oj e2 => ?_⟩
    obtain ⟨_, _, o, q⟩ := k.ownCell e oj e2
    rw [h0] at q
    cases q
  | ow c =>
    obtain ⟨l, rfl, h0, hf, hl⟩ := r
    refine ⟨l, rfl, ⟨k.none0 h0, hf, hl⟩, fun j dj e oj e2 => ?_⟩
    obtain ⟨_, _, o, q⟩ := k.ownCell e oj e2
    rw [h0] at q
    cases q
theorem call_read {Φ : Fn} {f : EA} {n : Nat} {E : XK} {σ : L2.St} {H : Hp} {Q : VK} (hlen : ∀ δ ds δ', f δ = some (ds, δ') → ds.length = n) (h : tE X.K (dCall Φ f) σ H Q) : tCall (spD X.K mg n Φ) [] E (tA X.K f) σ H Q := by
  obtain ⟨g, F, δ, x, δ', k, hf, q⟩ := h
  obtain ⟨ds, b, e1, e2⟩ := dCall_inv hf
  refine ⟨g, F, δ, ds, δ', k, e1, fun vs F1 H1 k1 s1 r1 => ?_⟩
  show spD X.K mg n Φ (vs ++ []) H1 Q E
  rw [List.append_nil]
  refine ⟨by rw [r1.length]; exact hlen _ _ _ e1, F1, none, ds.map .fz, _, k1.sub, (fun l z => nomatch z), fun i b z => (noB z).elim, ArgsOk.all r1, e2, fun v F' H' t1 t2 t3 t4 t5 t6 => ?_⟩
  have k2 := k1.called t1 t2 (fun a o e => t3 a o e (fun z => nomatch z)) t4
  exact q v F' H' k2 (s1.trans t1) (t6.repX k1)
variable {CX : CXT} {kk : Nat} {f : Addr} {fd : FuncData} {ps : List Str} {x : Str} {p : Pos} {Φ : Fn} {fa : EA}
/-- f(e, ..), a def of the text; nothing is raised -/
theorem de_call (G : FnOk X.prog X.w X.K X.mg X.base (L2.CX X.prog X.w) kk f fd ps (spD X.K mg ps.length Φ)) (hr : Room kk X.A) (hg : Gl X x) (hm : X.mg x = some (.ref f)) (hk : PySem.W.keepIn X.K (.ref f) = true) (hb : Binds X.K fd ps [])
    (ha : PA X (e :: es) (tA X.K fa)) (hlen : ∀ δ ds δ', fa δ = some (ds, δ') → ds.length = ps.length) (hdb : (x == ("__debug__" : Str)) = false := by decide) (he : starEach (e :: es) X.env = (false, eval e X.env) :: starEach es X.env := by rfl) (hpl : (backTo pos (starEach es X.env)).any (·.1) = false := by rfl) :
    PE X (.Call (.Name x p) (e :: es) [] pos) (tE X.K (dCall Φ fa)) :=
  PE.imp (pe_call G hr hg hm hk hb .nil passL ha hdb he hpl) fun _ _ _ h => call_read hlen h
theorem aNil_len (δ : Sl) (ds : List D) (δ' : Sl) (h : aNil δ = some (ds, δ')) : ds.length = 0 := by
  cases h
  rfl
theorem aCons_len {a : EV} {r : EA} {n : Nat} (hr : ∀ δ ds δ', r δ = some (ds, δ') → ds.length = n) (δ : Sl) (ds : List D) (δ' : Sl) (h : aCons a r δ = some (ds, δ')) : ds.length = n + 1 := by
  unfold aCons at h
  split at h
  · cases h
  · split at h
    · cases h
    · rename_i e2
      cases h
      rw [List.length_cons, hr _ _ _ e2]
/-- f(e, ..) as a statement: what f raises leaves this def too -/
theorem ds_callX (G : FnOk X.prog X.w X.K X.mg X.base (L2.CX X.prog X.w) kk f fd ps (spD X.K mg ps.length Φ)) (hr : Room kk X.A) (tk : Takes X W) (hg : Gl X x) (hm : X.mg x = some (.ref f)) (hk : PySem.W.keepIn X.K (.ref f) = true) (hb : Binds X.K fd ps [])
    {pos' : Pos} (ha : PA X (e :: es) (tA X.K fa)) (hlen : ∀ δ ds δ', fa δ = some (ds, δ') → ds.length = ps.length) (hdb : (x == ("__debug__" : Str)) = false := by decide) (he : starEach (e :: es) X.env = (false, eval e X.env) :: starEach es X.env := by rfl) (hpl : (backTo pos (starEach es X.env)).any (·.1) = false := by rfl)
    (hs : swapsWith (.Call (.Name x p) (e :: es) [] pos) none pos'.line X.env = pure false := by rfl) :
    PS X (.Expr (.Call (.Name x p) (e :: es) [] pos) pos') (tS X.K mg W (sCallX Φ fa)) :=
  PS.imp (ps_expr (pe_callS G hr hg hm hk hb (fun σ => passAt tk σ) ha hdb he hpl) hs) fun D σ H ⟨g, F, δ, o, k, hf, q⟩ => by
    unfold sCallX at hf
    split at hf
    · cases hf
    · rename_i ds δ1 e1
      refine ⟨g, F, δ, ds, δ1, k, e1, fun vs F1 H1 k1 s1 r1 => ?_⟩
      split at hf
      · rename_i r b e2
        cases hf
        refine ⟨by rw [r1.length]; exact hlen _ _ _ e1, F1, none, ds.map .fz, _, k1.sub, (fun l z => nomatch z), fun i b z => (noB z).elim, ArgsOk.all r1, e2, fun v F' H' t1 t2 t3 t4 t5 t6 => ?_⟩
        exact q σ F' H' (k1.called t1 t2 (fun a o e => t3 a o e (fun z => nomatch z)) t4) (s1.trans t1)
      · rename_i c e2
        cases hf
        refine ⟨by rw [r1.length]; exact hlen _ _ _ e1, F1, none, ds.map .fz, _, k1.sub, (fun l z => nomatch z), fun i b z => (noB z).elim, ArgsOk.all r1, e2, fun C H' hC t3 => ?_⟩
        exact q C σ F1 H' hC (k1.later fun a o e => t3 a o e (fun z => nomatch z)) s1
      · cases hf
/-- raise X('..') -/
theorem ds_raise {x m : Str} {j : Nat} {p p2 pc : Pos} {C : Addr} {B newId initId : String} {bmB : List Value} (hc : X.calm = true) (tk : Takes X W) (EF : ExcBaseFacts B newId initId bmB) (q : PySem.W.excIn X.K C bmB newId = true) (gC : X.mg x = some (.ref C)) (kC : PySem.W.keepIn X.K (.ref C) = true) (r : Raises X (.ref C)) (hg : Gl X x)
    (hmg : mg x = some (.ref C)) (hdb : (x == ("__debug__" : Str)) = false := by decide) : PS X (.Raise (some (.Call (.Name x p) [.Constant (.str m) j p2] [] pc)) none pos) (tS X.K mg W (sRaise x)) :=
  PS.imp (ps_raise hc tk (pmk_own EF q gC kC r hg hdb)) fun D σ H ⟨g, F, δ, o, k, hf, q⟩ => by
    cases hf
    exact q C σ F H hmg k (Same.refl F)
/-- f(x, ..): x a list handed on by reference -/
theorem dCallB_inv {Φ : Fn} {i : Nat} {f : EA} {δ δ' : Sl} {x : DV} (h : dCallB Φ i f δ = some (x, δ')) : ∃ ds δ1 y b b', f δ = some (ds, δ1) ∧ (∃ z, δ[i]? = some (some z)) ∧ δ1[i]? = some (some y) ∧ (y = .mt b ∨ y = .br b) ∧ Φ (.br b :: ds.map .fz) = some (.ret x b') ∧ δ' = δ1.set i (some (y.put b')) := by
  unfold dCallB at h
  split at h
  · rename_i z ez
    split at h
    · cases h
    · rename_i ds δ1 e1
      split at h
      · rename_i b e2
        split at h
        · rename_i r b' e3
          cases h
          exact ⟨ds, δ1, _, b, b', e1, ⟨z, ez⟩, e2, .inl rfl, e3, rfl⟩
        · cases h
      · rename_i b e2
        split at h
        · rename_i r b' e3
          cases h
          exact ⟨ds, δ1, _, b, b', e1, ⟨z, ez⟩, e2, .inr rfl, e3, rfl⟩
        · cases h
      · cases h
  · cases h
theorem callB_read {Φ : Fn} {i : Nat} {f : EA} {n : Nat} {E : XK} {σ : L2.St} {H : Hp} {Q : VK} (hlen : ∀ δ ds δ', f δ = some (ds, δ') → ds.length = n) (h : tE X.K (dCallB Φ i f) σ H Q) : tCall (spD X.K mg (n + 1) Φ) [] E (tCons (tVar i) (tA X.K f)) σ H Q := by
  obtain ⟨g, F, δ, x, δ', k, hf, q⟩ := h
  obtain ⟨ds, δ1, y, b, b', e1, ⟨z, ez⟩, e2, hy, e3, rfl⟩ := dCallB_inv hf
  obtain ⟨v0, ev0, _⟩ := k.rep i _ ez
  refine ⟨v0, ev0, g, F, δ, ds, δ1, k, e1, fun vs F1 H1 k1 s1 r1 => ?_⟩
  show spD X.K mg (n + 1) Φ ((v0 :: vs) ++ []) H1 Q E
  rw [List.append_nil]
  obtain ⟨v1, ev1, ry⟩ := k1.rep i _ e2
  rw [ev0] at ev1
  cases ev1
  have hy0 : ∀ d, y ≠ .fz d := fun d e => by rcases hy with h | h <;> (rw [h] at e; cases e)
  obtain ⟨l, rfl, hf, vs0, hl, z0, ha⟩ : ∃ l, v0 = .ref l ∧ F1 l = none ∧ ∃ vs0, H1 l = some (.lst vs0) ∧ vs0.length ≤ sizeLine ∧ DrAll X.K F1 vs0 b := by
    rcases hy with rfl | rfl
    · obtain ⟨l, rfl, h0, hf, r⟩ := ry
      exact ⟨l, rfl, hf, r⟩
    · obtain ⟨l, rfl, h0, hf, r⟩ := ry
      exact ⟨l, rfl, hf, r⟩
  refine ⟨by rw [List.length_cons, r1.length, hlen _ _ _ e1], F1, some l, .br b :: ds.map .fz, _, k1.sub, fun _ _ => ⟨b, rfl⟩, fun i b' z => ?_, .cons ⟨l, rfl, rfl, hf, vs0, hl, z0, ha⟩ (ArgsOk.all r1), e3, fun v F' H' t1 t2 t3 t4 t5 t6 => ?_⟩
  · cases i with
    | zero => rfl
    | succ i => exact (noB (ds := ds) (i := i) (b := b') z).elim
  · obtain ⟨q1, vs', q2, q3, q4⟩ := t5 l rfl
    -- the state behind: first all but the list, then the list
    have e4 : (fun a => if a = l then some (.lst vs0) else H' a) l = some (.lst vs0) := if_pos rfl
    have k2 : Ok X.K g F' (upd H' l (.lst vs0)) σ δ1 := by
      refine k1.called t1 (fun a o e => ?_) (fun a o e => ?_) t4
      · have hne : a ≠ l := fun z => by
          subst z
          rw [q1] at e
          cases e
        rw [upd_ne hne]
        exact t2 a o e
      · by_cases hal : a = l
        · subst hal
          rw [hl] at e
          cases e
          exact upd_same
        · rw [upd_ne hal]
          exact t3 a o e fun z => hal (Option.some.inj z).symm
    have hyw : ∀ d, y ≠ .ow d := fun d e => by rcases hy with h | h <;> (rw [h] at e; cases e)
    have k3 := k2.change (ds' := b') (vs' := vs') e2 hy0 hyw ev0 q3 q4
    have e5 : upd (upd H' l (.lst vs0)) l (.lst vs') = H' := by
      rw [upd_upd]
      funext a
      by_cases hal : a = l
      · subst hal
        rw [upd_same, q2]
      · rw [upd_ne hal]
    rw [e5] at k3
    refine q v F' H' k3 (s1.trans t1) ?_
    have far : ∀ {m : Addr}, H1 m = none → ∀ (j : Nat) dj, (δ1.set i (some (y.put b')))[j]? = some (some dj) → own dj = true → σ[j]? ≠ some (some (.ref m)) := fun {m} h0 j dj e oj e2' => by
      by_cases hj : i = j
      · subst hj
        rw [ev0] at e2'
        cases e2'
        rw [hl] at h0
        cases h0
      · rw [List.getElem?_set_ne hj] at e
        obtain ⟨_, _, o, qq⟩ := k1.ownCell e oj e2'
        rw [h0] at qq
        cases qq
    cases x with
    | fz d => exact t6
    | br ds => exact t6
    | mt dd =>
      obtain ⟨m, rfl, h0, hf, us, hus, z, ha⟩ := t6
      exact ⟨m, rfl, ⟨k1.none0 h0, hf, us, hus, z, ha⟩, far h0⟩
    | ow dd =>
      obtain ⟨m, rfl, h0, hf, hus⟩ := t6
      exact ⟨m, rfl, ⟨k1.none0 h0, hf, hus⟩, far h0⟩
theorem de_callB {i : Nat} (G : FnOk X.prog X.w X.K X.mg X.base (L2.CX X.prog X.w) kk f fd ps (spD X.K mg ps.length Φ)) (hr : Room kk X.A) (hg : Gl X x) (hm : X.mg x = some (.ref f)) (hk : PySem.W.keepIn X.K (.ref f) = true) (hb : Binds X.K fd ps [])
    (hv : PE X e (tVar i)) (ha : PA X es (tA X.K fa)) {n : Nat} (hlen : ∀ δ ds δ', fa δ = some (ds, δ') → ds.length = n) (hn : ps.length = n + 1) (hdb : (x == ("__debug__" : Str)) = false := by decide) (he : starEach (e :: es) X.env = (false, eval e X.env) :: starEach es X.env := by rfl) (hpl : (backTo pos (starEach es X.env)).any (·.1) = false := by rfl) :
    PE X (.Call (.Name x p) (e :: es) [] pos) (tE X.K (dCallB Φ i fa)) :=
  PE.imp (pe_call G hr hg hm hk hb .nil passL (pa_cons hv ha he) hdb he hpl) fun _ _ _ h => by
    rw [hn]
    exact callB_read hlen h
end
end DL
set_option Elab.async false
set_option linter.all false
set_option maxRecDepth 100000
set_option maxHeartbeats 1000000
/-! Rules: a def by its body; loops; comprehensions. -/
namespace DL
open PySem PySem.Spec PyProof.Rows L2
/-! ### a def by its body -/
section
variable {P : Program} {w : World} {K : PySem.W.Frag} {mg : Str → Option Value} {base : Heap}
theorem start_get {n : Nat} {args : List DV} {i : Nat} {dv : DV} (h : (DL.start n args)[i]? = some (some dv)) : args[i]? = some dv := by
  unfold DL.start at h
  by_cases hi : i < args.length
  · rw [List.getElem?_append_left (by simpa using hi), List.getElem?_map] at h
    cases e : args[i]? with
    | none => rw [e] at h; cases h
    | some a => rw [e] at h; cases h; rfl
  · rw [List.getElem?_append_right (by simpa using hi), List.getElem?_replicate] at h
    split at h <;> cases h
theorem start_at {n : Nat} {args : List DV} {i : Nat} {dv : DV} (h : args[i]? = some dv) : (DL.start n args)[i]? = some (some dv) := by
  have hi := (List.getElem?_eq_some_iff.mp h).1
  unfold DL.start
  rw [List.getElem?_append_left (by simpa using hi), List.getElem?_map, h]
  rfl
theorem start_atV {N : List Str} {vs : List V} {i : Nat} {v : V} (h : vs[i]? = some v) : (L2.start N vs)[i]? = some (some v) := by
  have hi := (List.getElem?_eq_some_iff.mp h).1
  unfold L2.start
  rw [List.getElem?_append_left (by simpa using hi), List.getElem?_map, h]
  rfl
theorem Ok.start {B : Option Addr} {F H : Hp} {N : List Str} {vs : List V} {args : List DV} (s : Same F H) (hB : ∀ l, B = some l → ∃ ds, args[(0 : Nat)]? = some (.br ds)) (h0 : ∀ (i : Nat) ds, args[i]? = some (.br ds) → i = 0) (a : ArgsOk K B F H vs args) :
    Ok K ⟨B, F, H⟩ F H (L2.start N vs) (DL.start N.length args) := by
  have hl := a.length
  refine ⟨s, Same.refl F, fun a o e _ => e, fun a o e => .inl e, fun l hl => ?_, ?_, fun i dv e => ?_, fun i j di dj e1 _ oi _ _ => ?_, fun i ds e => h0 i ds (start_get e), fun l hl => ?_⟩
  · obtain ⟨ds, e⟩ := hB l hl
    obtain ⟨v, e1, l', rfl, e2, hf, us, e3, _⟩ := a.get e
    have hl' : B = some l := hl
    rw [hl'] at e2
    cases e2
    exact ⟨hf, ⟨_, e3⟩, _, e3⟩
  · unfold L2.start DL.start
    rw [List.length_append, List.length_append, List.length_map, List.length_map, List.length_replicate, List.length_replicate, hl]
  · obtain ⟨v, e1, r⟩ := a.get (start_get e)
    refine ⟨v, start_atV e1, ?_⟩
    cases dv with
    | fz d => exact r
    | mt ds => exact r.elim
    | ow ds => exact r.elim
    | br ds =>
      obtain ⟨l, rfl, e2, hf, r⟩ := r
      exact ⟨l, rfl, e2, hf, r⟩
  · obtain ⟨v, _, r⟩ := a.get (start_get e1)
    cases di with
    | fz d => cases oi
    | br d => cases oi
    | mt d => exact r.elim
    | ow d => exact r.elim
  · obtain ⟨ds, e⟩ := hB l hl
    exact ⟨ds, start_at e⟩
theorem Ok.ends {B : Option Addr} {F0 H0 F H : Hp} {σ : L2.St} {δ : Sl} (k : Ok K ⟨B, F0, H0⟩ F H σ δ) (l : Addr) (hl : B = some l) : F l = none ∧ ∃ vs', H l = some (.lst vs') ∧ vs'.length ≤ sizeLine ∧ DrAll K F vs' (lentOf δ) := by
  obtain ⟨ds, e⟩ := k.brB l hl
  obtain ⟨v, e1, l', rfl, e2, hf, r⟩ := k.rep 0 _ e
  have e2 : B = some l' := e2
  rw [hl] at e2
  cases e2
  refine ⟨hf, ?_⟩
  unfold lentOf
  rw [e]
  exact r
theorem RepX.ret {B : Option Addr} {F0 H0 F H : Hp} {σ : L2.St} {δ : Sl} {v : V} {x : DV} (r : RepX K ⟨B, F0, H0⟩ F H σ δ v x) : RetOk K H0 F H v x := by
  cases x with
  | fz d => exact r
  | br ds => exact r
  | mt ds =>
    obtain ⟨l, rfl, ⟨h0, hf, r⟩, _⟩ := r
    exact ⟨l, rfl, h0, hf, r⟩
  | ow ds =>
    obtain ⟨l, rfl, ⟨h0, hf, r⟩, _⟩ := r
    exact ⟨l, rfl, h0, hf, r⟩
/-- THE RULE for a def -/
theorem fn_dat {x qual : Str} {st : Stmt} {f : Addr} {fd : FuncData} {N ps : List Str} {k : Nat} {b : SM} (F : Fun K x qual st f fd) (S : FnScope N ps (defScope st))
    (hbody : ∀ (cdv : Value) (A : Around) (outer : List Env) (s : Shared) (H : Hp) (E : XK), Room k (A.deeper (envOfC qual (defScope st) s.heap.objs.size f cdv)) →
      PSs (cxOf (L2.CX P w) P w K mg base N qual (defScope st) f cdv A outer s H E) (defBody st) (tS K mg (fun cls d _ H => E cls d H) b)) :
    FnOk P w K mg base (L2.CX P w) (k + 1) f fd ps (spD K mg ps.length (fnOf N.length b)) := by
  refine F.okX S (fun vs H Q E h => h.1) fun cdv A outer s H vs Q E hr h => ⟨_, hbody cdv A outer s H E hr, ?_⟩
  obtain ⟨hl, F0, B, args, r, sub, hB, h0, ha, hΦ, hP⟩ := h
  have k0 : Ok K ⟨B, F0, H⟩ F0 H (L2.start N vs) (DL.start N.length args) := Ok.start sub hB h0 ha
  unfold fnOf at hΦ
  split at hΦ
  · rename_i δ' e1
    cases hΦ
    exact ⟨⟨B, F0, H⟩, F0, _, _, k0, e1, fun σ' F' H' k' s' => hP .non F' H' s' k'.sub k'.frm k'.new k'.ends .non⟩
  · rename_i x δ' e1
    cases hΦ
    exact ⟨⟨B, F0, H⟩, F0, _, _, k0, e1, fun v σ' F' H' k' s' r' => hP v F' H' s' k'.sub k'.frm k'.new k'.ends r'.ret⟩
  · rename_i c δ' e1
    cases hΦ
    exact ⟨⟨B, F0, H⟩, F0, _, _, k0, e1, fun C σ' F' H' hC k' s' => hP C H' hC k'.frm⟩
  · cases hΦ
end
/-! ### what is walked -/
def YieldOk (K : PySem.W.Frag) (F H : Hp) (x : V) (H' : Hp) (d : D) : Prop :=
  (H' = H ∧ Dr K F x d) ∨ ∃ T vs ds, x = .ref T ∧ H T = none ∧ H' = upd H T (.tup vs) ∧ d = .dict [(.bool true, .tuple ds)] ∧ vs.length ≤ sizeLine ∧ DrAll K F vs ds
def Drives (K : PySem.W.Frag) (J : It) (F : Hp) (ds : List D) : Prop :=
  ∀ (i : Nat) (H : Hp), Same F H → (ds.length ≤ i → J.stop i H) ∧ (∀ d, ds[i]? = some d → J.go i H ∧ ∀ x H', J.yld i H x H' → YieldOk K F H x H' d)
def tI (K : PySem.W.Frag) (f : EI) : TI := fun σ H R => ∃ g F δ ds δ', Ok K g F H σ δ ∧ f δ = some (ds, δ') ∧ ∀ J F' H', Ok K g F' H' σ δ' → Same F F' → Drives K J F' ds → R J H'
theorem YieldOk.land {K : PySem.W.Frag} {g : Gh} {F0 F H H' : Hp} {σ : L2.St} {δ : Sl} {x : V} {d : D} (k : Ok K g F H σ δ) (s : Same F0 F) (y : YieldOk K F0 H x H' d) : ∃ F', Ok K g F' H' σ δ ∧ Same F F' ∧ Dr K F' x d := by
  rcases y with ⟨rfl, r⟩ | ⟨T, vs, ds, rfl, hT, rfl, rfl, z, r⟩
  · exact ⟨F, k, Same.refl F, Dr.mono s _ _ r⟩
  · have s2 := same_new (o := .tup vs) (k.noneF hT)
    exact ⟨upd F T (.tup vs), k.laid hT, s2, .par upd_same z (DrAll.mono (s.trans s2) _ _ r) rfl⟩
section
variable {K : PySem.W.Frag} {F : Hp}
theorem drives_list {a : Addr} {vs : List V} {ds : List D} (h : F a = some (.lst vs)) (ha : DrAll K F vs ds) : Drives K (Itl K a) F ds := fun i H s => by
  have hH : SqL K H a vs := .inl (.inl (s _ _ h))
  refine ⟨fun hi => ⟨vs, hH, by rw [ha.length]; exact hi⟩, fun d hd => ?_⟩
  obtain ⟨v, e1, r⟩ := ha.get' hd
  exact ⟨⟨vs, v, hH, e1⟩, fun x H' ⟨e2, e3⟩ => .inl ⟨e2, by have := e3 vs hH; rw [e1] at this; cases this; exact r⟩⟩
theorem drives_tup {a : Addr} {vs : List V} {ds : List D} (h : TupF F a vs) (ha : DrAll K F vs ds) : Drives K (Itt K a) F ds := fun i H s => by
  have hH : SqT K H a vs := h.sqt s
  refine ⟨fun hi => ⟨vs, hH, by rw [ha.length]; exact hi⟩, fun d hd => ?_⟩
  obtain ⟨v, e1, r⟩ := ha.get' hd
  exact ⟨⟨vs, v, hH, e1⟩, fun x H' ⟨e2, e3⟩ => .inl ⟨e2, by have := e3 vs hH; rw [e1] at this; cases this; exact r⟩⟩
theorem rangeD_get {lo : Int} {n i : Nat} {d : D} (h : (rangeD lo n)[i]? = some d) : i < n ∧ d = .int (lo + i) := by
  unfold rangeD at h
  rw [List.getElem?_map] at h
  by_cases hi : i < n
  · rw [List.getElem?_range hi] at h
    cases h
    exact ⟨hi, rfl⟩
  · rw [List.getElem?_eq_none (by simpa using hi)] at h
    cases h
theorem drives_range {lo : Int} {n : Nat} : Drives K (Itr lo n) F (rangeD lo n) := fun i H s => by
  refine ⟨fun hi => show n ≤ i by simpa [rangeD] using hi, fun d hd => ?_⟩
  obtain ⟨h1, rfl⟩ := rangeD_get hd
  exact ⟨h1, fun x H' ⟨e1, e2⟩ => .inl ⟨e1, by rw [e2]; exact .int _⟩⟩
theorem zipD_get : ∀ {as bs : List D} {i : Nat} {d : D}, (zipD as bs)[i]? = some d → ∃ a b, as[i]? = some a ∧ bs[i]? = some b ∧ d = pairD a b
  | [], _, _, _, h => by simp [zipD] at h
  | _ :: _, [], _, _, h => by simp [zipD] at h
  | a :: as, b :: bs, 0, d, h => by
    simp [zipD] at h
    subst h
    exact ⟨a, b, rfl, rfl, rfl⟩
  | a :: as, b :: bs, i + 1, d, h => by
    obtain ⟨x, y, e1, e2, e3⟩ := zipD_get (as := as) (bs := bs) (i := i) (d := d) (by simpa [zipD] using h)
    exact ⟨x, y, by simpa using e1, by simpa using e2, e3⟩
theorem zipD_length : ∀ (as bs : List D), (zipD as bs).length = min as.length bs.length
  | [], _ => by simp [zipD]
  | _ :: _, [] => by simp [zipD]
  | a :: as, b :: bs => by
    simp only [zipD, List.length_cons, zipD_length as bs]
    omega
theorem drives_zipL {a b : Addr} {vs ws : List V} {ds es : List D} (h : F a = some (.lst vs)) (ha : DrAll K F vs ds) (h' : F b = some (.lst ws)) (hb : DrAll K F ws es) : Drives K (Itz K a b) F (zipD ds es) := fun i H s => by
  have hA : SqL K H a vs := .inl (.inl (s _ _ h))
  have hB : SqL K H b ws := .inl (.inl (s _ _ h'))
  refine ⟨fun hi => ⟨vs, ws, hA, hB, ?_⟩, fun d hd => ?_⟩
  · rw [zipD_length] at hi
    rw [ha.length, hb.length]
    omega
  · obtain ⟨x, y, e1, e2, rfl⟩ := zipD_get hd
    obtain ⟨v, q1, r1⟩ := ha.get' e1
    obtain ⟨w, q2, r2⟩ := hb.get' e2
    refine ⟨⟨vs, ws, v, w, hA, hB, q1, q2⟩, fun x H' ⟨T, u1, u2, e3, e4, e5, e6, e7⟩ => ?_⟩
    have z1 := e6 vs hA
    have z2 := e7 ws hB
    rw [q1] at z1
    rw [q2] at z2
    cases z1
    cases z2
    exact .inr ⟨T, _, _, e3, e4, e5, rfl, by show 2 ≤ sizeLine; decide, .cons r1 (.cons r2 .nil)⟩
theorem drives_zipT {a b : Addr} {vs ws : List V} {ds es : List D} (h : TupF F a vs) (ha : DrAll K F vs ds) (h' : TupF F b ws) (hb : DrAll K F ws es) : Drives K (RZ.ItzT K a b) F (zipD ds es) := fun i H s => by
  have hA : SqT K H a vs := h.sqt s
  have hB : SqT K H b ws := h'.sqt s
  refine ⟨fun hi => ⟨vs, ws, hA, hB, ?_⟩, fun d hd => ?_⟩
  · rw [zipD_length] at hi
    rw [ha.length, hb.length]
    omega
  · obtain ⟨x, y, e1, e2, rfl⟩ := zipD_get hd
    obtain ⟨v, q1, r1⟩ := ha.get' e1
    obtain ⟨w, q2, r2⟩ := hb.get' e2
    refine ⟨⟨vs, ws, v, w, hA, hB, q1, q2⟩, fun x H' ⟨T, u1, u2, e3, e4, e5, e6, e7⟩ => ?_⟩
    have z1 := e6 vs hA
    have z2 := e7 ws hB
    rw [q1] at z1
    rw [q2] at z2
    cases z1
    cases z2
    exact .inr ⟨T, _, _, e3, e4, e5, rfl, by show 2 ≤ sizeLine; decide, .cons r1 (.cons r2 .nil)⟩
theorem enumD_get : ∀ {ds : List D} {j i : Nat} {d : D}, (enumD j ds)[i]? = some d → ∃ a, ds[i]? = some a ∧ d = pairD (.int ((j + i : Nat))) a
  | [], _, _, _, h => by simp [enumD] at h
  | a :: as, j, 0, d, h => by
    simp [enumD] at h
    subst h
    exact ⟨a, rfl, rfl⟩
  | a :: as, j, i + 1, d, h => by
    obtain ⟨x, e1, e3⟩ := enumD_get (ds := as) (j := j + 1) (i := i) (d := d) (by simpa [enumD] using h)
    refine ⟨x, by simpa using e1, ?_⟩
    rw [e3]
    have : j + 1 + i = j + (i + 1) := by omega
    rw [this]
theorem enumD_length : ∀ (j : Nat) (ds : List D), (enumD j ds).length = ds.length
  | _, [] => rfl
  | j, d :: ds => by
    show (enumD (j + 1) ds).length + 1 = ds.length + 1
    rw [enumD_length]
theorem drives_enum {a : Addr} {vs : List V} {ds : List D} (h : F a = some (.lst vs)) (ha : DrAll K F vs ds) : Drives K (Ite K a) F (enumD 0 ds) := fun i H s => by
  have hA : SqL K H a vs := .inl (.inl (s _ _ h))
  refine ⟨fun hi => ⟨vs, hA, ?_⟩, fun d hd => ?_⟩
  · rw [enumD_length] at hi
    rw [ha.length]
    exact hi
  · obtain ⟨x, e1, rfl⟩ := enumD_get hd
    obtain ⟨v, q1, r1⟩ := ha.get' e1
    refine ⟨⟨vs, v, hA, q1⟩, fun x H' ⟨T, u1, e3, e4, e5, e6⟩ => ?_⟩
    have z1 := e6 vs hA
    rw [q1] at z1
    cases z1
    refine .inr ⟨T, _, _, e3, e4, e5, rfl, by show 2 ≤ sizeLine; decide, .cons ?_ (.cons r1 .nil)⟩
    rw [Nat.zero_add]
    exact .int _
end
theorem drives_enumT {K : PySem.W.Frag} {F : Hp} {a : Addr} {vs : List V} {ds : List D} (h : TupF F a vs) (ha : DrAll K F vs ds) : Drives K (DLE.IteT K a) F (enumD 0 ds) := fun i H s => by
  have hA : SqT K H a vs := h.sqt s
  refine ⟨fun hi => ⟨vs, hA, ?_⟩, fun d hd => ?_⟩
  · rw [enumD_length] at hi
    rw [ha.length]
    exact hi
  · obtain ⟨x, e1, rfl⟩ := enumD_get hd
    obtain ⟨v, q1, r1⟩ := ha.get' e1
    refine ⟨⟨vs, v, hA, q1⟩, fun x H' ⟨T, u1, e3, e4, e5, e6⟩ => ?_⟩
    have z1 := e6 vs hA
    rw [q1] at z1
    cases z1
    refine .inr ⟨T, _, _, e3, e4, e5, rfl, by show 2 ≤ sizeLine; decide, .cons ?_ (.cons r1 .nil)⟩
    rw [Nat.zero_add]
    exact .int _
section
variable {X : Cx} {mg : Str → Option Value} {W : WX} {e a b c tg iter : Expr} {es : List Expr} {pos p : Pos}
/-- a list or a tuple -/
def iAny (K : PySem.W.Frag) (tl : TE) : TI := fun σ H R => tl σ H fun x H1 => ∃ a, x = .ref a ∧ (((∃ xs, SqL K H1 a xs) ∧ R (Itl K a) H1) ∨ ((∃ xs, SqT K H1 a xs) ∧ R (Itt K a) H1))
theorem pi_any {l : Expr} {tl : TE} (hl : PE X l tl) : PI X tg l (iAny X.K tl) := by
  refine ⟨fun pins s σ H R I h => ?_⟩
  refine thn (hl.run pins s σ H _ I h) fun v s1 ⟨x, H1, I1, r1, q1⟩ => ?_
  obtain ⟨a, e, ⟨⟨xs, hq⟩, q⟩ | ⟨⟨xs, hq⟩, q⟩⟩ := q1
  · subst e
    cases r1
    obtain ⟨its, rv, p, hz⟩ := I1.list hq
    refine wpAny_pyIter_list p.isList ?_
    refine ⟨s1.heap.objs.size, [s1.heap.objs.size], _, _, H1, rfl, I1.kept (t' := s1.toks) fun b o e => Heap.get?_push_of_some _ e, turn_list a _, ⟨_, Heap.get?_push_size _ rfl, rfl, rfl⟩, fun b hb => ?_, q⟩
    have e : b = s1.heap.objs.size := by simpa using hb
    subst e
    exact I1.fpOk (Nat.le_refl _) (I1.hok.fresh (Nat.le_refl _))
  · subst e
    cases r1
    obtain ⟨its, rv, p, hz⟩ := I1.tuple hq
    refine wpAny_pyIter_tuple (show s1.heap.IsTuple a its.toArray from p) ?_
    refine ⟨s1.heap.objs.size, [s1.heap.objs.size], _, _, H1, rfl, I1.kept (t' := s1.toks) fun b o e => Heap.get?_push_of_some _ e, turn_tuple a _, ⟨_, Heap.get?_push_size _ rfl, rfl, rfl⟩, fun b hb => ?_, q⟩
    have e : b = s1.heap.objs.size := by simpa using hb
    subst e
    exact I1.fpOk (Nat.le_refl _) (I1.hok.fresh (Nat.le_refl _))
theorem di_any {f : EV} (h : PE X e (tV X.K f)) : PI X tg e (tI X.K (dIter f)) := PI.imp (pi_any h) fun σ H R ⟨g, F, δ, ds, δ', k, hf, q⟩ => by
  unfold dIter at hf
  split at hf
  · cases hf
  · rename_i d δ1 e1
    split at hf
    · rename_i ds' e2
      cases hf
      refine ⟨g, F, δ, d, _, k, e1, fun v F' H' k' s' r' => ?_⟩
      unfold itemsD at e2
      split at e2
      · cases e2
        obtain ⟨a, xs, rfl, h1, h2, h3⟩ := r'.unlst
        exact ⟨a, rfl, .inl ⟨⟨xs, .inl (.inl (k'.sub _ _ h1))⟩, q _ F' H' k' s' (drives_list h1 h3)⟩⟩
      · cases e2
        obtain ⟨a, xs, rfl, h1, h2, h3⟩ := r'.untup
        exact ⟨a, rfl, .inr ⟨⟨xs, h1.sqt k'.sub⟩, q _ F' H' k' s' (drives_tup h1 h3)⟩⟩
      · cases e2
    · cases hf
theorem unDl1 {K : PySem.W.Frag} {F H : Hp} {vs : List V} {d : D} (h : DlAll K F H vs [d]) : ∃ v, vs = [v] ∧ Dl K F H v d := by
  cases h with
  | cons h1 h2 =>
    cases h2
    exact ⟨_, rfl, h1⟩
theorem unDl2 {K : PySem.W.Frag} {F H : Hp} {vs : List V} {d d2 : D} (h : DlAll K F H vs [d, d2]) : ∃ v w, vs = [v, w] ∧ Dl K F H v d ∧ Dl K F H w d2 := by
  cases h with
  | cons h1 h2 =>
    obtain ⟨w, rfl, h3⟩ := unDl1 h2
    exact ⟨_, _, rfl, h1, h3⟩
theorem unDr1 {K : PySem.W.Frag} {F : Hp} {vs : List V} {d : D} (h : DrAll K F vs [d]) : ∃ v, vs = [v] ∧ Dr K F v d := by
  cases h with
  | cons h1 h2 =>
    cases h2
    exact ⟨_, rfl, h1⟩
theorem unDr2 {K : PySem.W.Frag} {F : Hp} {vs : List V} {d d2 : D} (h : DrAll K F vs [d, d2]) : ∃ v w, vs = [v, w] ∧ Dr K F v d ∧ Dr K F w d2 := by
  cases h with
  | cons h1 h2 =>
    obtain ⟨w, rfl, h3⟩ := unDr1 h2
    exact ⟨_, _, rfl, h1, h3⟩
theorem di_range1 {f : EAL} (hg : Gl X "range") (hm : X.mg "range" = none) (ha : PA X [a] (tAL X.K f)) (hs : starEach [a] X.env = [(false, eval a X.env)] := by rfl) : PI X tg (.Call (.Name "range" p) [a] [] pos) (tI X.K (dRange1 f)) :=
  PI.imp (pi_range1 hg hm ha hs) fun σ H R ⟨g, F, δ, ds, δ', k, hf, q⟩ => by
    unfold dRange1 at hf
    split at hf
    · cases hf
    · rename_i xs δ1 e1
      refine ⟨g, F, δ, xs, δ1, k, e1, fun vs F' H' k' s' r' => ?_⟩
      split at hf
      · rename_i n e2
        split at hf
        · rename_i hn
          cases hf
          obtain ⟨v, rfl, r⟩ := unDl1 (getAll_ok k' r' e2)
          obtain rfl := r.unint
          exact ⟨n, rfl, hn.1, hn.2, q _ F' H' k' s' drives_range⟩
        · cases hf
      · cases hf
theorem di_range2 {f : EAL} (hg : Gl X "range") (hm : X.mg "range" = none) (ha : PA X [a, b] (tAL X.K f)) (hs : starEach [a, b] X.env = [(false, eval a X.env), (false, eval b X.env)] := by rfl) (hs2 : starEach [b] X.env = [(false, eval b X.env)] := by rfl) :
    PI X tg (.Call (.Name "range" p) [a, b] [] pos) (tI X.K (dRange2 f)) :=
  PI.imp (pi_range2 hg hm ha hs hs2) fun σ H R ⟨g, F, δ, ds, δ', k, hf, q⟩ => by
    unfold dRange2 at hf
    split at hf
    · cases hf
    · rename_i xs δ1 e1
      refine ⟨g, F, δ, xs, δ1, k, e1, fun vs F' H' k' s' r' => ?_⟩
      split at hf
      · rename_i m n e2
        split at hf
        · rename_i hn
          cases hf
          obtain ⟨v, w, rfl, r, r2⟩ := unDl2 (getAll_ok k' r' e2)
          obtain rfl := r.unint
          obtain rfl := r2.unint
          exact ⟨m, n, rfl, ⟨hn.1, hn.2.1, hn.2.2.1, hn.2.2.2⟩, q _ F' H' k' s' drives_range⟩
        · cases hf
      · cases hf
theorem di_zip {elts : List Expr} {kk : Nat} {tpos : Pos} {f : EA} (hg : Gl X "zip") (hm : X.mg "zip" = none) (ha : PA X [a, b] (tA X.K f))
    (hs : starEach [a, b] X.env = (false, eval a X.env) :: starEach [b] X.env := by rfl) (hpl : (backTo pos (starEach [b] X.env)).any (·.1) = false := by rfl) :
    PI X (.Tuple elts kk tpos) (.Call (.Name "zip" p) [a, b] [] pos) (tI X.K (dZip f)) :=
  PI.imp (RZ.pi_zipA hg hm ha hs hpl) fun σ H R ⟨g, F, δ, ds, δ', k, hf, q⟩ => by
    unfold dZip at hf
    split at hf
    · cases hf
    · rename_i xs ys δ1 e1
      cases hf
      refine ⟨g, F, δ, _, _, k, e1, fun vs F' H' k' s' r' => ?_⟩
      obtain ⟨v, w, rfl, r1, r2⟩ := unDr2 r'
      obtain ⟨a1, us, rfl, h1, _, h2⟩ := r1.unlst
      obtain ⟨a2, ws, rfl, h3, _, h4⟩ := r2.unlst
      exact ⟨a1, a2, us, ws, rfl, .inl ⟨.inl (.inl (k'.sub _ _ h1)), .inl (.inl (k'.sub _ _ h3)), q _ F' H' k' s' (drives_zipL h1 h2 h3 h4)⟩⟩
    · rename_i xs ys δ1 e1
      cases hf
      refine ⟨g, F, δ, _, _, k, e1, fun vs F' H' k' s' r' => ?_⟩
      obtain ⟨v, w, rfl, r1, r2⟩ := unDr2 r'
      obtain ⟨a1, us, rfl, h1, _, h2⟩ := r1.untup
      obtain ⟨a2, ws, rfl, h3, _, h4⟩ := r2.untup
      exact ⟨a1, a2, us, ws, rfl, .inr ⟨h1.sqt k'.sub, h3.sqt k'.sub, q _ F' H' k' s' (drives_zipT h1 h2 h3 h4)⟩⟩
    · cases hf
theorem di_enum {elts : List Expr} {kk : Nat} {tpos : Pos} {f : EA} (hg : Gl X "enumerate") (hm : X.mg "enumerate" = none) (ha : PA X [a] (tA X.K f)) (hs : starEach [a] X.env = [(false, eval a X.env)] := by rfl) :
    PI X (.Tuple elts kk tpos) (.Call (.Name "enumerate" p) [a] [] pos) (tI X.K (dEnum f)) :=
  PI.imp (DLE.pi_enumA hg hm ha hs) fun σ H R ⟨g, F, δ, ds, δ', k, hf, q⟩ => by
    unfold dEnum at hf
    split at hf
    · cases hf
    · rename_i xs δ1 e1
      cases hf
      refine ⟨g, F, δ, _, _, k, e1, fun vs F' H' k' s' r' => ?_⟩
      obtain ⟨v, rfl, r1⟩ := unDr1 r'
      obtain ⟨a1, us, rfl, h1, _, h2⟩ := r1.unlst
      exact ⟨a1, us, rfl, .inl ⟨.inl (.inl (k'.sub _ _ h1)), q _ F' H' k' s' (drives_enum h1 h2)⟩⟩
    · rename_i xs δ1 e1
      cases hf
      refine ⟨g, F, δ, _, _, k, e1, fun vs F' H' k' s' r' => ?_⟩
      obtain ⟨v, rfl, r1⟩ := unDr1 r'
      obtain ⟨a1, us, rfl, h1, _, h2⟩ := r1.untup
      exact ⟨a1, us, rfl, .inr ⟨h1.sqt k'.sub, q _ F' H' k' s' (drives_enumT h1 h2)⟩⟩
    · cases hf
/-! ### for -/
theorem PS.nox {st : Stmt} {t : TS} (h : PS X.nox st t) : PS X st t := ⟨fun pins s σ H D I hw =>
  wpAny_mono (h.run pins s σ H D (I.wish _) hw) (fun _ _ q => q.unwish) fun _ _ z => False.elim z⟩
abbrev W0 : WX := fun _ _ _ _ => False
theorem for_read {K : PySem.W.Frag} {fi : EI} {ft : ETg} {ts : List Nat} {fb : SM} {D : Ends} {σ : L2.St} {H : Hp} (h : tS K mg W (sFor fi ft fb) D σ H) : tFor (tI K fi) (tGx K ts ft) (tS K mg W0 fb) D σ H := by
  obtain ⟨g, F, δ, o, k, hf, q⟩ := h
  unfold sFor at hf
  split at hf
  · cases hf
  · rename_i ds δ1 e1
    refine ⟨g, F, δ, ds, δ1, k, e1, fun J F1 H1 k1 s1 dr => ?_⟩
    refine ⟨fun i m σ H => m = ds.length - i ∧ i ≤ ds.length ∧ ∃ Fi δi, Ok K g Fi H σ δi ∧ Same F1 Fi ∧ forTurns ft fb (ds.drop i) δi = some o, ⟨_, rfl, Nat.zero_le _, F1, δ1, k1, Same.refl F1, hf⟩, ?_⟩
    rintro i m σ2 H2 ⟨rfl, hi, Fi, δi, ki, si, hi2⟩
    obtain ⟨d1, d2⟩ := dr i H2 (si.trans ki.sub)
    by_cases hlt : i < ds.length
    · have hd : ds[i]? = some ds[i] := List.getElem?_eq_getElem hlt
      obtain ⟨go, yl⟩ := d2 _ hd
      rw [List.drop_eq_getElem_cons hlt] at hi2
      unfold forTurns at hi2
      split at hi2
      · cases hi2
      · rename_i δ2 e2
        refine .inr ⟨go, fun σ' H' => ∃ Fi' δi', Ok K g Fi' H' σ' δi' ∧ Same F1 Fi' ∧ forTurns ft fb (ds.drop (i + 1)) δi' = some o, fun σ' H' hN => ⟨_, by omega, rfl, hlt, hN⟩, fun x H' hy => ?_⟩
        obtain ⟨Fj, kj, sj, rj⟩ := (yl x H' hy).land ki si
        refine ⟨g, Fj, δi, ds[i], δ2, kj, rj, e2, fun σ3 F3 H3 k3 s3 _ => ?_⟩
        split at hi2
        · rename_i δ3 e3
          exact ⟨g, F3, δ2, _, k3, e3, fun σ' F' H' k' s' => ⟨F', δ3, k', ((si.trans sj).trans s3).trans s', hi2⟩⟩
        · rename_i δ3 e3
          exact ⟨g, F3, δ2, _, k3, e3, fun σ' F' H' k' s' => ⟨F', δ3, k', ((si.trans sj).trans s3).trans s', hi2⟩⟩
        · rename_i δ3 e3
          cases hi2
          exact ⟨g, F3, δ2, _, k3, e3, fun σ' F' H' k' s' => q σ' F' H' k' ((((s1.trans si).trans sj).trans s3).trans s')⟩
        · rename_i v δ3 e3
          cases hi2
          exact ⟨g, F3, δ2, _, k3, e3, fun v σ' F' H' k' s' r' => q v σ' F' H' k' ((((s1.trans si).trans sj).trans s3).trans s') r'⟩
        · cases hi2
    · have e : i = ds.length := by omega
      subst e
      rw [List.drop_length] at hi2
      cases hi2
      exact .inl ⟨d1 (Nat.le_refl _), q σ2 Fi H2 ki (s1.trans si)⟩
theorem ds_for {fi : EI} {ft : ETg} {ts : List Nat} {fb : SM} {body : List Stmt} (hc : X.calm = true) (hi : PI X.nox tg iter (tI X.K fi)) (hg : PG X.nox tg (tGx X.K ts ft)) (hb : PSs X.nox body (tS X.K mg W0 fb)) (hs : ∀ x, foldedSetIterable iter X.env x = pure x := by intro _; rfl) :
    PS X (.For tg iter body [] pos) (tS X.K mg W (sFor fi ft fb)) :=
  PS.nox (PS.imp (ps_for (X := X.nox) PassesOwn.never hc hi hg hb hs) fun D σ H h => for_read h)
/-! ### while -/
theorem while_read {K : PySem.W.Frag} {n : Nat} {fc : ET} {fb : SM} {D : Ends} {σ : L2.St} {H : Hp} (h : tS K mg W (sWhile n fc fb) D σ H) : tWhile (tT K fc) (tS K mg W0 fb) D σ H := by
  obtain ⟨g, F, δ, o, k, hf, q⟩ := h
  refine ⟨fun m σ H => ∃ Fi δi, Ok K g Fi H σ δi ∧ Same F Fi ∧ whileTurns fc fb m δi = some o, ⟨n, F, δ, k, Same.refl F, hf⟩, ?_⟩
  rintro m σ2 H2 ⟨Fi, δi, ki, si, hm⟩
  cases m with
  | zero => cases hm
  | succ m =>
    unfold whileTurns at hm
    split at hm
    · cases hm
    · rename_i δ1 e1
      cases hm
      refine ⟨g, Fi, δi, false, δ1, ki, e1, fun F1 H1 k1 s1 => ?_⟩
      refine iteF ?_
      exact q σ2 F1 H1 k1 (si.trans s1)
    · rename_i δ1 e1
      refine ⟨g, Fi, δi, true, δ1, ki, e1, fun F1 H1 k1 s1 => ?_⟩
      refine iteT ?_
      refine ⟨fun σ' H' => ∃ Fi' δi', Ok K g Fi' H' σ' δi' ∧ Same F Fi' ∧ whileTurns fc fb m δi' = some o, fun σ' H' hN => ⟨m, Nat.lt_succ_self m, hN⟩, ?_⟩
      split at hm
      · rename_i δ3 e3
        exact ⟨g, F1, δ1, _, k1, e3, fun σ' F' H' k' s' => ⟨F', δ3, k', (si.trans s1).trans s', hm⟩⟩
      · rename_i δ3 e3
        exact ⟨g, F1, δ1, _, k1, e3, fun σ' F' H' k' s' => ⟨F', δ3, k', (si.trans s1).trans s', hm⟩⟩
      · rename_i δ3 e3
        cases hm
        exact ⟨g, F1, δ1, _, k1, e3, fun σ' F' H' k' s' => q σ' F' H' k' ((si.trans s1).trans s')⟩
      · rename_i v δ3 e3
        cases hm
        exact ⟨g, F1, δ1, _, k1, e3, fun v σ' F' H' k' s' r' => q v σ' F' H' k' ((si.trans s1).trans s') r'⟩
      · cases hm
theorem ds_while {n : Nat} {fc : ET} {fb : SM} {body : List Stmt} (hc : PT X.nox c (tT X.K fc)) (hb : PSs X.nox body (tS X.K mg W0 fb)) : PS X (.While c body [] pos) (tS X.K mg W (sWhile n fc fb)) :=
  PS.nox (PS.imp (ps_while (X := X.nox) PassesOwn.never hc hb) fun D σ H h => while_read h)
end
end DL
set_option Elab.async false
set_option linter.all false
set_option maxRecDepth 100000
set_option maxHeartbeats 1000000
/-! Rules: comprehensions. -/
namespace DL
open PySem PySem.Spec PyProof.Rows L2
section
variable {K : PySem.W.Frag} {g : Gh} {F F' H H' : Hp} {σ : L2.St} {δ δ' : Sl}
/-- a cell beside the slots may change -/
theorem Ok.mutBeside (k : Ok K g F H σ δ) {a : Addr} {o : HO} (hf : F a = none) (ho : ¬ OwnedBy σ δ a) (h0 : g.H0 a = none) : Ok K g F (upd H a o) σ δ := by
  refine ⟨fun b u e => ?_, k.ext, fun b u e hb => ?_, k.new, fun l hl => ?_, k.len, fun i dv e => ?_, k.dis, k.br0, k.brB⟩
  · rw [upd_ne (ne_of_none e hf)]
    exact k.sub b u e
  · rw [upd_ne (ne_of_none e h0)]
    exact k.frm b u e hb
  · obtain ⟨h1, ⟨o2, h2⟩, o', h3⟩ := k.b0 l hl
    exact ⟨h1, ⟨o2, h2⟩, o', by rw [upd_ne (ne_of_none h2 h0)]; exact h3⟩
  · obtain ⟨v, e1, r⟩ := k.rep i dv e
    refine ⟨v, e1, ?_⟩
    cases dv with
    | fz d => exact r
    | mt ds =>
      obtain ⟨l, rfl, q0, qf, vs, ql, z, ha⟩ := r
      have hne : l ≠ a := fun z => by
        subst z
        exact ho ⟨i, _, e, rfl, e1⟩
      exact ⟨l, rfl, q0, qf, vs, by rw [upd_ne hne]; exact ql, z, ha⟩
    | ow ds =>
      obtain ⟨l, rfl, q0, qf, ql⟩ := r
      have hne : l ≠ a := fun z => by
        subst z
        exact ho ⟨i, _, e, rfl, e1⟩
      exact ⟨l, rfl, q0, qf, by rw [upd_ne hne]; exact ql⟩
    | br ds =>
      obtain ⟨l, rfl, q0, qf, vs, ql, z, ha⟩ := r
      have hne : l ≠ a := fun z => by
        subst z
        obtain ⟨_, ⟨o2, h2⟩, _⟩ := k.b0 l q0
        rw [h0] at h2
        cases h2
      exact ⟨l, rfl, q0, qf, vs, by rw [upd_ne hne]; exact ql, z, ha⟩
theorem wipeD_length : ∀ (vs : List Nat), (wipeD δ vs).length = δ.length
  | [] => rfl
  | v :: vs => by unfold wipeD; rw [List.length_set, wipeD_length vs]
theorem wipeD_get {j : Nat} : ∀ {vs : List Nat}, (wipeD δ vs)[j]? = if j ∈ vs ∧ j < δ.length then some none else δ[j]?
  | [] => by simp [wipeD]
  | v :: vs => by
    unfold wipeD
    by_cases h : v = j
    · subst h
      by_cases hl : v < δ.length
      · rw [List.getElem?_set_self (by rw [wipeD_length]; exact hl), if_pos ⟨List.mem_cons_self, hl⟩]
      · rw [List.getElem?_eq_none (by rw [List.length_set, wipeD_length]; omega), if_neg (fun z => hl z.2), List.getElem?_eq_none (by omega)]
    · rw [List.getElem?_set_ne h, wipeD_get]
      have : (j ∈ v :: vs ∧ j < δ.length) ↔ (j ∈ vs ∧ j < δ.length) := by
        constructor
        · rintro ⟨h1, h2⟩
          rcases List.mem_cons.mp h1 with h1 | h1
          · exact absurd h1.symm h
          · exact ⟨h1, h2⟩
        · rintro ⟨h1, h2⟩
          exact ⟨List.mem_cons_of_mem _ h1, h2⟩
      by_cases hc : j ∈ vs ∧ j < δ.length
      · rw [if_pos hc, if_pos (this.mpr hc)]
      · rw [if_neg hc, if_neg (fun z => hc (this.mp z))]
theorem wipeD_some {j : Nat} {x : DV} {vs : List Nat} (h : (wipeD δ vs)[j]? = some (some x)) : j ∉ vs ∧ δ[j]? = some (some x) := by
  rw [wipeD_get] at h
  split at h
  · cases h
  · rename_i hc
    have hj := slot_lt h
    exact ⟨fun z => hc ⟨z, hj⟩, h⟩
theorem OwnedBy.ofWipe {vs : List Nat} {a : Addr} (h : OwnedBy (L2.wipe σ vs) (wipeD δ vs) a) : OwnedBy σ δ a := by
  obtain ⟨j, ds, e, oj, e2⟩ := h
  exact ⟨j, ds, (wipeD_some e).2, oj, (L2.wipe_some e2).1⟩
theorem restore_length : ∀ (vs : List Nat), (restore δ vs δ').length = δ'.length
  | [] => rfl
  | v :: vs => by unfold restore; rw [List.length_set, restore_length vs]
theorem restore_get {j : Nat} : ∀ {vs : List Nat}, (restore δ vs δ')[j]? = if j ∈ vs ∧ j < δ'.length then some ((δ[j]?).getD none) else δ'[j]?
  | [] => by simp [restore]
  | v :: vs => by
    unfold restore
    by_cases h : v = j
    · subst h
      by_cases hl : v < δ'.length
      · rw [List.getElem?_set_self (by rw [restore_length]; exact hl), if_pos ⟨List.mem_cons_self, hl⟩]
      · rw [List.getElem?_eq_none (by rw [List.length_set, restore_length]; omega), if_neg (fun z => hl z.2), List.getElem?_eq_none (by omega)]
    · rw [List.getElem?_set_ne h, restore_get]
      have : (j ∈ v :: vs ∧ j < δ'.length) ↔ (j ∈ vs ∧ j < δ'.length) := by
        constructor
        · rintro ⟨h1, h2⟩
          rcases List.mem_cons.mp h1 with h1 | h1
          · exact absurd h1.symm h
          · exact ⟨h1, h2⟩
        · rintro ⟨h1, h2⟩
          exact ⟨List.mem_cons_of_mem _ h1, h2⟩
      by_cases hc : j ∈ vs ∧ j < δ'.length
      · rw [if_pos hc, if_pos (this.mpr hc)]
      · rw [if_neg hc, if_neg (fun z => hc (this.mp z))]
theorem calm_of {vs : List Nat} (h : vs.all (calmAt δ) = true) {v : Nat} (hv : v ∈ vs) : (∃ d, δ[v]? = some (some (.fz d))) ∨ δ[v]? = some none := by
  have := List.all_eq_true.mp h v hv
  unfold calmAt at this
  split at this
  · rename_i d e
    exact .inl ⟨d, e⟩
  · rename_i e
    exact .inr e
  · cases this
theorem Ok.noBr {vs : List Nat} (k1 : Ok K g F H σ δ) (hc : vs.all (calmAt δ) = true) {F2 H2 : Hp} {σ2 : L2.St} (k2 : Ok K g F2 H2 σ2 δ') : ∀ v ∈ vs, ∀ ds, δ'[v]? ≠ some (some (.br ds)) := fun v hv ds e => by
  have h0 := k2.br0 v ds e
  subst h0
  obtain ⟨w, e1, l, rfl, hB, _⟩ := k2.rep 0 _ e
  obtain ⟨ds', e'⟩ := k1.brB l hB
  rcases calm_of hc hv with ⟨d, q⟩ | q
  · rw [q] at e'
    cases e'
  · rw [q] at e'
    cases e'
theorem Ok.restore {F1 H1 : Hp} {δ1 : Sl} {vs : List Nat} (k1 : Ok K g F1 H1 σ δ1) (hc : vs.all (calmAt δ1) = true) (k : Ok K g F H (L2.wipe σ vs) (wipeD δ vs)) (s : Same F1 F) : Ok K g F H σ (DL.restore δ1 vs δ) := by
  have hl : δ.length = δ1.length := by
    have := k.len
    rw [L2.wipe_length, wipeD_length, k1.len] at this
    exact this.symm
  have look : ∀ {j : Nat} {x : DV}, (DL.restore δ1 vs δ)[j]? = some (some x) → (j ∈ vs ∧ ∃ d, δ1[j]? = some (some (.fz d)) ∧ x = .fz d) ∨ (j ∉ vs ∧ (wipeD δ vs)[j]? = some (some x)) := fun {j x} e => by
    rw [restore_get] at e
    by_cases hj : j ∈ vs
    · by_cases h2 : j < δ.length
      · rw [if_pos ⟨hj, h2⟩] at e
        rcases calm_of hc hj with ⟨d, q⟩ | q
        · rw [q] at e
          cases e
          exact .inl ⟨hj, d, q, rfl⟩
        · rw [q] at e
          cases e
      · rw [if_neg fun z => h2 z.2, List.getElem?_eq_none (by omega)] at e
        cases e
    · rw [if_neg fun z => hj z.1] at e
      refine .inr ⟨hj, ?_⟩
      rw [wipeD_get, if_neg fun z => hj z.1]
      exact e
  refine ⟨k.sub, k.ext, k.frm, k.new, k.b0, by rw [restore_length, hl, k1.len], fun j dv e => ?_, fun a b da db ea eb oa ob hne => ?_, fun j ds e => ?_, fun l hl => ?_⟩
  · rcases look e with ⟨hj, d, e1, rfl⟩ | ⟨hj, e1⟩
    · obtain ⟨v, e2, r⟩ := k1.rep j _ e1
      exact ⟨v, e2, Dr.mono s _ _ r⟩
    · obtain ⟨v, e2, r⟩ := k.rep j dv e1
      exact ⟨v, (L2.wipe_some e2).1, r⟩
  · rcases look ea with ⟨_, d, _, q⟩ | ⟨ha, ea1⟩
    · subst q
      cases oa
    · rcases look eb with ⟨_, d, _, q⟩ | ⟨hb, eb1⟩
      · subst q
        cases ob
      · have := k.dis a b da db ea1 eb1 oa ob hne
        rw [L2.wipe_out ha, L2.wipe_out hb] at this
        exact this
  · rcases look e with ⟨_, d, _, q⟩ | ⟨ha, ea1⟩
    · cases q
    · exact k.br0 j ds ea1
  · obtain ⟨ds, e⟩ := k.brB l hl
    obtain ⟨h1, h2⟩ := wipeD_some e
    refine ⟨ds, ?_⟩
    rw [restore_get, if_neg fun z => h1 z.1]
    exact h2
end
theorem YieldOk.land2 {K : PySem.W.Frag} {g : Gh} {F0 F H H' : Hp} {σ : L2.St} {δ : Sl} {x : V} {d : D} (k : Ok K g F H σ δ) (s : Same F0 F) (y : YieldOk K F0 H x H' d) :
    ∃ F', Ok K g F' H' σ δ ∧ Same F F' ∧ Dr K F' x d ∧ Same H H' ∧ ∀ a, F a = none → (∃ o, H a = some o) → F' a = none := by
  rcases y with ⟨rfl, r⟩ | ⟨T, vs, ds, rfl, hT, rfl, rfl, z, r⟩
  · exact ⟨F, k, Same.refl F, Dr.mono s _ _ r, Same.refl _, fun a h _ => h⟩
  · have s2 := same_new (o := .tup vs) (k.noneF hT)
    exact ⟨upd F T (.tup vs), k.laid hT, s2, .par upd_same z (DrAll.mono (s.trans s2) _ _ r) rfl, same_new hT, fun a h ⟨o, e⟩ => by
      rw [upd_ne (ne_of_none e hT)]
      exact h⟩
theorem dComp_inv {src : EI} {t : ETg} {c : ET} {e : EV} {vs : List Nat} {δ δ' : Sl} {x : DV} (h : dComp src t c e vs δ = some (x, δ')) :
    ∃ ds δ1 acc δ2, src δ = some (ds, δ1) ∧ vs.all (calmAt δ1) = true ∧ ds.length ≤ LIM ∧ compTurns t c e vs ds [] (wipeD δ1 vs) = some (acc, δ2) ∧ x = .mt acc ∧ δ' = DL.restore δ1 vs δ2 := by
  unfold dComp at h
  split at h
  · cases h
  · rename_i ds δ1 e1
    split at h
    · rename_i hc
      rw [Bool.and_eq_true] at hc
      split at h
      · cases h
      · rename_i acc δ2 e2
        cases h
        exact ⟨ds, δ1, acc, δ2, e1, hc.1, of_decide_eq_true hc.2, e2, rfl, rfl⟩
    · cases h
theorem comp_read {K : PySem.W.Frag} {fi : EI} {ft : ETg} {ts vs : List Nat} {fc : ET} {fe : EV} {σ : L2.St} {H : Hp} {Q : VK} (hts : ∀ i ∈ ts, i ∈ vs) (h : tE K (dComp fi ft fc fe vs) σ H Q) : tLc (tI K fi) (tGx K ts ft) (tT K fc) (tV K fe) vs σ H Q := by
  obtain ⟨g, F, δ, x, δ', k, hf, q⟩ := h
  obtain ⟨ds, δ1, accE, δE, e1, hcalm, hlim, hrun, rfl, rfl⟩ := dComp_inv hf
  refine ⟨g, F, δ, ds, δ1, k, e1, fun J F1 H1 k1 s1 dr Dc hD => ?_⟩
  have nb1 : ∀ v ∈ vs, ∀ ds, δ1[v]? ≠ some (some (.br ds)) := k1.noBr hcalm k1
  have k1w := k1.wipe vs nb1
  have h0D := k1.none0 hD
  have hBD : g.B ≠ some Dc := fun z => by
    obtain ⟨_, _, o, e⟩ := k1.b0 Dc z
    rw [hD] at e
    cases e
  refine ⟨fun i m H => m = ds.length - i ∧ i ≤ ds.length ∧ ∃ Fi δi acc us, Ok K g Fi H (L2.wipe σ vs) (wipeD δi vs) ∧ Same F1 Fi ∧ compTurns ft fc fe vs (ds.drop i) acc δi = some (accE, δE) ∧
    H Dc = some (.lst us) ∧ Fi Dc = none ∧ ¬ OwnedBy (L2.wipe σ vs) (wipeD δi vs) Dc ∧ DrAll K Fi us acc ∧ acc.length ≤ i,
    ⟨_, rfl, Nat.zero_le _, F1, wipeD δ1 vs, [], [], ?_, Same.refl F1, hrun, upd_same, k1.noneF hD, ?_, .nil, Nat.le_refl _⟩, ?_⟩
  · have := (k1w.push (p := Dc) (o := .lst []) hD).wipe vs (k1.noBr hcalm k1w)
    have e2 : L2.wipe (L2.wipe σ vs) vs = L2.wipe σ vs := wipe_eq (L2.wipe_length σ vs) fun j hj => L2.wipe_out hj
    rw [e2] at this
    exact this
  · rintro ⟨j, dj, e, oj, e2⟩
    obtain ⟨_, _, o, q1⟩ := k1.ownCell (wipeD_some (wipeD_some e).2).2 oj (L2.wipe_some e2).1
    rw [hD] at q1
    cases q1
  · rintro i m H2 ⟨rfl, hi, Fi, δi, acc, us, ki, si, hrun, hDi, hFi, hoi, hacc, hlen⟩
    obtain ⟨d1, d2⟩ := dr i H2 (si.trans ki.sub)
    by_cases hlt : i < ds.length
    · have hd : ds[i]? = some ds[i] := List.getElem?_eq_getElem hlt
      obtain ⟨go, yl⟩ := d2 _ hd
      rw [List.drop_eq_getElem_cons hlt] at hrun
      unfold compTurns at hrun
      split at hrun
      · cases hrun
      · rename_i δt et
        refine .inr ⟨go, fun H' => i + 1 ≤ ds.length ∧ ∃ Fi δi acc us, Ok K g Fi H' (L2.wipe σ vs) (wipeD δi vs) ∧ Same F1 Fi ∧ compTurns ft fc fe vs (ds.drop (i + 1)) acc δi = some (accE, δE) ∧
          H' Dc = some (.lst us) ∧ Fi Dc = none ∧ ¬ OwnedBy (L2.wipe σ vs) (wipeD δi vs) Dc ∧ DrAll K Fi us acc ∧ acc.length ≤ i + 1, fun H' hN => ⟨_, by omega, rfl, hN.1, hN.2⟩, fun x H' hy => ?_⟩
        obtain ⟨Fj, kj, sj, rj, hHj, hFj⟩ := (yl x H' hy).land2 ki si
        have hDj := hHj _ _ hDi
        have hDf := hFj _ hFi ⟨_, hDi⟩
        -- all of the turn from the present state
        generalize hg : rebase g Fj H' (L2.wipe σ vs) (wipeD δi vs) = g'
        have kr : Ok K g' Fj H' (L2.wipe σ vs) (wipeD δi vs) := by
          rw [← hg]
          exact kj.rebase
        refine ⟨g', Fj, wipeD δi vs, ds[i], δt, kr, rj, et, fun σ2 F2 H2 k2 s2 w2 => ?_⟩
        have ew := w2 vs hts
        have ew2 : L2.wipe (L2.wipe σ vs) vs = L2.wipe σ vs := wipe_eq (L2.wipe_length σ vs) fun j hj => L2.wipe_out hj
        rw [ew2] at ew
        refine ⟨ew, ?_⟩
        -- behind the turn
        have fin : ∀ {F4 H4 : Hp} {δ4 : Sl} {us' : List V} {acc' : List D}, Ok K g' F4 H4 σ2 δ4 → Same Fj F4 → (us' = us ∧ acc' = acc ∨ ∃ y d, us' = us ++ [y] ∧ acc' = acc ++ [d] ∧ Dr K F4 y d) → compTurns ft fc fe vs (ds.drop (i + 1)) acc' δ4 = some (accE, δE) →
            i + 1 ≤ ds.length ∧ ∃ Fi δi acc us'', Ok K g Fi (upd H4 Dc (.lst us')) (L2.wipe σ vs) (wipeD δi vs) ∧ Same F1 Fi ∧ compTurns ft fc fe vs (ds.drop (i + 1)) acc δi = some (accE, δE) ∧
              (upd H4 Dc (.lst us')) Dc = some (.lst us'') ∧ Fi Dc = none ∧ ¬ OwnedBy (L2.wipe σ vs) (wipeD δi vs) Dc ∧ DrAll K Fi us'' acc ∧ acc.length ≤ i + 1 := fun {F4 H4 δ4 us' acc'} k4 s4 hu hr4 => by
          rw [← hg] at k4
          obtain ⟨q1, q2, q3⟩ := k4.beside hDj hDf hoi hBD
          have k5 := kj.unbase k4
          have k6 := (k5.mutBeside (o := .lst us') q2 q3 h0D).wipe vs (k1.noBr hcalm k5)
          rw [ew] at k6
          refine ⟨hlt, F4, δ4, acc', us', k6, (si.trans sj).trans s4, hr4, upd_same, q2, fun z => q3 (OwnedBy.ofWipe (vs := vs) (by rw [ew]; exact z)), ?_, ?_⟩
          · have hm := DrAll.mono (sj.trans s4) _ _ hacc
            rcases hu with ⟨rfl, rfl⟩ | ⟨y, d, rfl, rfl, hy⟩
            · exact hm
            · exact hm.append (.one hy)
          · rcases hu with ⟨rfl, rfl⟩ | ⟨y, d, rfl, rfl, hy⟩
            · omega
            · rw [List.length_append]
              show acc.length + 1 ≤ i + 1
              omega
        split at hrun
        · cases hrun
        · rename_i δt2 ec
          refine ⟨g', F2, δt, false, δt2, k2, ec, fun F3 H3 k3 s3 => ?_⟩
          refine iteF ?_
          have e0 : upd H3 Dc (.lst us) = H3 := by
            have k3' := k3
            rw [← hg] at k3'
            obtain ⟨q1, _, _⟩ := k3'.beside hDj hDf hoi hBD
            funext a
            by_cases ha : a = Dc
            · subst ha
              rw [upd_same, q1]
            · rw [upd_ne ha]
          have := fin (us' := us) (acc' := acc) k3 (s2.trans s3) (.inl ⟨rfl, rfl⟩) hrun
          rw [e0] at this
          exact this
        · rename_i δt2 ec
          refine ⟨g', F2, δt, true, δt2, k2, ec, fun F3 H3 k3 s3 => ?_⟩
          refine iteT ?_
          split at hrun
          · cases hrun
          · rename_i y δt3 ee
            refine ⟨g', F3, δt2, y, δt3, k3, ee, fun v F4 H4 k4 s4 r4 => ?_⟩
            have k4' := k4
            rw [← hg] at k4'
            obtain ⟨q1, _, _⟩ := k4'.beside hDj hDf hoi hBD
            refine ⟨us, q1, ?_, fin k4 ((s2.trans s3).trans s4) (.inr ⟨v, y, rfl, rfl, r4⟩) hrun⟩
            have hl : us.length < ds.length := by
              rw [hacc.length]
              omega
            exact Nat.lt_of_lt_of_le hl (lim_le hlim)
    · have e : i = ds.length := by omega
      subst e
      rw [List.drop_length] at hrun
      cases hrun
      refine .inl ⟨d1 (Nat.le_refl _), ?_⟩
      have kk := k1.restore hcalm ki si
      refine q _ Fi H2 kk (s1.trans si) ⟨Dc, rfl, ⟨h0D, hFi, us, hDi, ?_, hacc⟩, fun j dj e oj e2 => ?_⟩
      · rw [hacc.length]
        exact lim_le (by omega)
      · rw [restore_get] at e
        split at e
        · rename_i hj
          rcases calm_of hcalm hj.1 with ⟨d, q⟩ | q
          · rw [q] at e
            cases e
            cases oj
          · rw [q] at e
            cases e
        · rename_i hj
          have hj : j ∉ vs := fun z => hj ⟨z, slot_lt e⟩
          refine hoi ⟨j, dj, ?_, oj, ?_⟩
          · rw [wipeD_get, if_neg fun z => hj z.1]
            exact e
          · rw [L2.wipe_out hj]
            exact e2
section
variable {X : Cx} {mg : Str → Option Value} {W : WX} {elt tg iter : Expr} {ifs : List Expr} {scope : Scope} {own : List (Str × Nat)} {pos : Pos} {fi : EI} {ft : ETg} {ts : List Nat} {fc : ET} {fe : EV}
theorem dts_nil : PTs X [] (tT X.K dYes) := ⟨fun pins s σ H Q I ⟨g, F, δ, b, δ', k, hf, q⟩ => by
  cases hf
  exact pts_nil.run pins s σ H Q I (q F H k (Same.refl F))⟩
theorem dts_one {c : Expr} (h : PT X c (tT X.K fc)) : PTs X [c] (tT X.K fc) := pts_one h
/-- a comprehension as a value -/
theorem de_comp (hts : ∀ i ∈ ts, i ∈ own.map (·.2)) (hc : X.calm = true) (hN : X.N.Nodup) (hi : PI X tg iter (tI X.K fi)) (ok : BlkOk X.N X.env.scope scope own)
    (hg : ∀ (s : Shared) (H : Hp) (C : Addr) (cl : List (Str × Addr)) (fp : List Addr), PG (X.blk s H scope (compEnvC scope cl C X.env) fp) tg (tGx X.K ts ft)) (ht : ∀ (s : Shared) (H : Hp) (C : Addr) (cl : List (Str × Addr)) (fp : List Addr), PTs (X.blk s H scope (compEnvC scope cl C X.env) fp) ifs (tT X.K fc))
    (he : ∀ (s : Shared) (H : Hp) (C : Addr) (cl : List (Str × Addr)) (fp : List Addr), PE (X.blk s H scope (compEnvC scope cl C X.env) fp) elt (tV X.K fe)) (hs : ∀ x, foldedSetIterable iter X.env x = pure x := by intro _; rfl) :
    PE X (.ListComp elt [⟨tg, iter, ifs, 0⟩] scope pos) (tE X.K (dComp fi ft fc fe (own.map (·.2)))) :=
  PE.imp (pe_lc hc hN hi ok hg ht he hs) fun σ H Q h => comp_read hts h
/-- name = [..] -/
theorem ds_asgComp {i : Nat} {y : Str} {py spos : Pos} (hts : ∀ i ∈ ts, i ∈ own.map (·.2)) (hc : X.calm = true) (hN : X.N.Nodup) (hy : X.N[i]? = some y) (hyl : X.env.scope.names.lookup y = some .local)
    (hsw : swapsWith (.ListComp elt [⟨tg, iter, ifs, 0⟩] scope pos) (some (.Name y py)) spos.line X.env = pure true) (hi : PI X tg iter (tI X.K fi)) (ok : BlkOk X.N X.env.scope scope own)
    (hg : ∀ (s : Shared) (H : Hp) (C : Addr) (cl : List (Str × Addr)) (fp : List Addr), PG (X.blk s H scope (compEnvC scope cl C X.env) fp) tg (tGx X.K ts ft)) (ht : ∀ (s : Shared) (H : Hp) (C : Addr) (cl : List (Str × Addr)) (fp : List Addr), PTs (X.blk s H scope (compEnvC scope cl C X.env) fp) ifs (tT X.K fc))
    (he : ∀ (s : Shared) (H : Hp) (C : Addr) (cl : List (Str × Addr)) (fp : List Addr), PE (X.blk s H scope (compEnvC scope cl C X.env) fp) elt (tV X.K fe)) (hs : ∀ x, foldedSetIterable iter X.env x = pure x := by intro _; rfl) :
    PS X (.Assign [.Name y py] (.ListComp elt [⟨tg, iter, ifs, 0⟩] scope pos) spos) (tS X.K mg W (sAsg i (dComp fi ft fc fe (own.map (·.2))))) :=
  PS.imp (ps_setLc hc hN hy hyl hsw hi ok hg ht he hs) fun D σ H ⟨g, F, δ, o, k, hf, q⟩ => by
    obtain ⟨r, δ1, e1, hb, rfl⟩ := sAsg_inv hf
    exact comp_read hts ⟨g, F, δ, r, δ1, k, e1, fun v F' H' k' s' r' => q _ F' H' (k'.store hb r') s'⟩
end
end DL
set_option Elab.async false
set_option linter.all false
set_option maxRecDepth 100000
set_option maxHeartbeats 1000000
/-! Rules: built-ins. -/
namespace DL
open PySem PySem.Spec PyProof.Rows L2
theorem intsOf_inv : ∀ {ds : List D} {ns : List Int}, intsOf ds = some ns → ds = ns.map PyData.int
  | [], ns, h => by cases h; rfl
  | d :: r, ns, h => by
    unfold intsOf at h
    split at h
    · rename_i heq
      cases heq
    · rename_i i r' heq
      cases heq
      split at h
      · rename_i ms e
        cases h
        rw [intsOf_inv e]
        rfl
      · cases h
    · cases h
theorem boolsOf_inv : ∀ {ds : List D} {ns : List Bool}, boolsOf ds = some ns → ds = ns.map PyData.bool
  | [], ns, h => by cases h; rfl
  | d :: r, ns, h => by
    unfold boolsOf at h
    split at h
    · rename_i heq
      cases heq
    · rename_i i r' heq
      cases heq
      split at h
      · rename_i ms e
        cases h
        rw [boolsOf_inv e]
        rfl
      · cases h
    · cases h
theorem intsOf_map (ns : List Int) : intsOf (ns.map PyData.int) = some ns := by
  induction ns with
  | nil => rfl
  | cons n ns ih =>
    show (match intsOf (ns.map PyData.int) with | some ns => some (n :: ns) | none => none) = _
    rw [ih]
section
variable {K : PySem.W.Frag} {g : Gh} {F H : Hp} {σ : L2.St} {δ : Sl}
theorem DrAll.bools : ∀ {bs : List Bool} {vs : List V}, DrAll K F vs (bs.map PyData.bool) → vs = bs.map V.bl
  | [], _, h => by cases h; rfl
  | b :: bs, _, h => by
    cases h with
    | cons h1 h2 =>
      cases h1
      rw [DrAll.bools h2]
      rfl
theorem Dl.items (k : Ok K g F H σ δ) {v : V} {d : D} {ds : List D} (h : Dl K F H v d) (e : itemsD d = some ds) :
    ∃ a xs, v = .ref a ∧ ((d = .list ds ∧ H a = some (.lst xs)) ∨ (d = .tuple ds ∧ SqT K H a xs)) ∧ xs.length ≤ sizeLine ∧ DrAll K F xs ds := by
  unfold itemsD at e
  split at e
  · cases e
    obtain ⟨a, xs, rfl, h1, h2, h3⟩ := h.unlst k.sub
    exact ⟨a, xs, rfl, .inl ⟨rfl, h1⟩, h2, h3⟩
  · cases e
    obtain ⟨a, xs, rfl, h1, h2, h3⟩ := h.untup
    exact ⟨a, xs, rfl, .inr ⟨rfl, h1.sqt k.sub⟩, h2, h3⟩
  · cases e
theorem Dl.scr (k : Ok K g F H σ δ) {v : V} {kvs : List (D × D)} {ns : List Int} (h : Dl K F H v (.dict kvs)) (e : unScr (.dict kvs) = some ns) : ∃ a, v = .ref a ∧ SqL K H a (ns.map V.int) := by
  obtain ⟨a, ms, rfl, h1, rfl⟩ := h.unscr k.sub e
  have e : intsOf (ms.map PyData.int) = some ns := e
  rw [intsOf_map] at e
  cases e
  exact ⟨a, rfl, h1⟩
end
section
variable {X : Cx}
theorem cd_len : CallR X (.builtin "len") (cD X.K gLen) := CallR.imp call_len_seq fun xs H Q ⟨g, F, σ, δ, us, r, k, hx, hr, q⟩ => by
  unfold gLen at hr
  split at hr
  · rename_i ds
    cases hr
    obtain ⟨v, rfl, r⟩ := unDl1 hx
    obtain ⟨a, ys, rfl, h1, h2, h3⟩ := r.unlst k.sub
    refine ⟨a, ys, rfl, .inl (.inl (.inl h1)), ?_⟩
    rw [h3.length]
    exact q.fz k (.int _)
  · rename_i ds
    cases hr
    obtain ⟨v, rfl, r⟩ := unDl1 hx
    obtain ⟨a, ys, rfl, h1, h2, h3⟩ := r.untup
    refine ⟨a, ys, rfl, .inr (h1.sqt k.sub), ?_⟩
    rw [h3.length]
    exact q.fz k (.int _)
  · rename_i kvs
    split at hr
    · rename_i ns e
      cases hr
      obtain ⟨v, rfl, r⟩ := unDl1 hx
      obtain ⟨a, rfl, h1⟩ := r.scr k e
      refine ⟨a, _, rfl, .inl h1, ?_⟩
      rw [List.length_map]
      exact q.fz k (.int _)
    · cases hr
  · cases hr
theorem sum_tup {prog : Program} {w : World} {A : Around} {E : Value → Shared → Prop} {s : Shared} {t : Addr} {its : List Value} {ns : List Int} {Q : Value → Shared → Prop} (hh : A.handled = none) (hl : s.heap.IsTuple t its.toArray) (hi : IntsAre its ns)
    (h : ∀ h' tk t', (∀ b o, s.heap.get? b = some o → h'.get? b = some o) → Q (.int ns.sum t') { s with heap := h', toks := tk }) : wpAny (model prog w) A (call (.builtin "sum") [.ref t]) Q E s := by
  obtain ⟨xs, e⟩ := hi.allInts.items
  have hn : numsOf (intItems xs).toList = ns := by rw [← e]; exact hi.numsOf
  rw [nums_intItems] at hn
  rw [e] at hl
  refine PySem.W.ktm_sumG hh hl fun h' tk t' hk => ?_
  have := h h' tk t' hk
  rw [preSum_eq, List.take_of_length_le (by simp), hn]
  exact this
theorem cd_sum (hc : X.calm = true) : CallR X (.builtin "sum") (cD X.K gSum) := by
  intro pins s σ H xs us Q I rx ⟨g, F, σ', δ, ds, r, k, hx, hr, q⟩
  unfold gSum at hr
  split at hr
  · rename_i d
    split at hr
    · rename_i ds e1
      split at hr
      · rename_i ns e2
        cases hr
        obtain ⟨v, rfl, r⟩ := unDl1 hx
        obtain ⟨a, ys, rfl, h1, h2, h3⟩ := r.items k e1
        have e3 := intsOf_inv e2
        subst e3
        have e4 := h3.ofInts
        subst e4
        rw [Vals.ref1 rx]
        rcases h1 with ⟨_, h1⟩ | ⟨_, h1⟩
        · obtain ⟨its, rv, hl, _⟩ := I.list (SqL.of h1)
          exact sum_raw (I.ok.hd hc) hl.isList rv.ints fun h' tk t' hk => ⟨.int _, H, I.kept hk, ⟨_, rfl⟩, q.fz k (.int _)⟩
        · obtain ⟨its, rv, hl, _⟩ := I.tuple h1
          exact sum_tup (I.ok.hd hc) hl rv.ints fun h' tk t' hk => ⟨.int _, H, I.kept hk, ⟨_, rfl⟩, q.fz k (.int _)⟩
      · cases hr
    · cases hr
  · cases hr
theorem cd_max2 (hc : X.calm = true) : CallR X (.builtin "max") (cD X.K gMax2) := CallR.imp (call_max2 hc) fun xs H Q ⟨g, F, σ, δ, us, r, k, hx, hr, q⟩ => by
  unfold gMax2 at hr
  split at hr
  · rename_i i j
    cases hr
    obtain ⟨v, w, rfl, r1, r2⟩ := unDl2 hx
    obtain rfl := r1.unint
    obtain rfl := r2.unint
    exact ⟨i, j, rfl, q.fz k (.int _)⟩
  · cases hr
theorem cd_min2 (hc : X.calm = true) : CallR X (.builtin "min") (cD X.K gMin2) := CallR.imp (call_min2 hc) fun xs H Q ⟨g, F, σ, δ, us, r, k, hx, hr, q⟩ => by
  unfold gMin2 at hr
  split at hr
  · rename_i i j
    cases hr
    obtain ⟨v, w, rfl, r1, r2⟩ := unDl2 hx
    obtain rfl := r1.unint
    obtain rfl := r2.unint
    exact ⟨i, j, rfl, q.fz k (.int _)⟩
  · cases hr
/-! the greatest, the least -/
theorem foldMax (l : List Int) : ∀ a : Int, (l.foldl (fun x y => if x < y then y else x) a = a ∨ l.foldl (fun x y => if x < y then y else x) a ∈ l) ∧ a ≤ l.foldl (fun x y => if x < y then y else x) a ∧ ∀ y ∈ l, y ≤ l.foldl (fun x y => if x < y then y else x) a := by
  induction l with
  | nil => exact fun a => ⟨.inl rfl, Int.le_refl a, fun y h => by cases h⟩
  | cons b l ih =>
    intro a
    simp only [List.foldl_cons]
    obtain ⟨h1, h2, h3⟩ := ih (if a < b then b else a)
    refine ⟨?_, ?_, fun y hy => ?_⟩
    · rcases h1 with h1 | h1
      · by_cases h : a < b
        · rw [if_pos h] at h1 ⊢
          exact .inr (by rw [h1]; exact List.mem_cons_self)
        · rw [if_neg h] at h1 ⊢
          exact .inl h1
      · exact .inr (List.mem_cons_of_mem _ h1)
    · split at h2 <;> split <;> omega
    · rcases List.mem_cons.mp hy with rfl | hy
      · split at h2 <;> split <;> omega
      · exact h3 y hy
theorem foldMin (l : List Int) : ∀ a : Int, (l.foldl (fun x y => if y < x then y else x) a = a ∨ l.foldl (fun x y => if y < x then y else x) a ∈ l) ∧ l.foldl (fun x y => if y < x then y else x) a ≤ a ∧ ∀ y ∈ l, l.foldl (fun x y => if y < x then y else x) a ≤ y := by
  induction l with
  | nil => exact fun a => ⟨.inl rfl, Int.le_refl a, fun y h => by cases h⟩
  | cons b l ih =>
    intro a
    simp only [List.foldl_cons]
    obtain ⟨h1, h2, h3⟩ := ih (if b < a then b else a)
    refine ⟨?_, ?_, fun y hy => ?_⟩
    · rcases h1 with h1 | h1
      · by_cases h : b < a
        · rw [if_pos h] at h1 ⊢
          exact .inr (by rw [h1]; exact List.mem_cons_self)
        · rw [if_neg h] at h1 ⊢
          exact .inl h1
      · exact .inr (List.mem_cons_of_mem _ h1)
    · split at h2 <;> split <;> omega
    · rcases List.mem_cons.mp hy with rfl | hy
      · split at h2 <;> split <;> omega
      · exact h3 y hy
theorem maxI_mem (a : Int) (l : List Int) : maxI (a :: l) ∈ a :: l := by
  rcases (foldMax l a).1 with h | h
  · show l.foldl _ a ∈ _
    rw [h]
    exact List.mem_cons_self
  · exact List.mem_cons_of_mem _ h
theorem maxI_ge {a : Int} {l : List Int} {y : Int} (h : y ∈ a :: l) : y ≤ maxI (a :: l) := by
  rcases List.mem_cons.mp h with rfl | h
  · exact (foldMax l y).2.1
  · exact (foldMax l a).2.2 y h
theorem minI_mem (a : Int) (l : List Int) : minI (a :: l) ∈ a :: l := by
  rcases (foldMin l a).1 with h | h
  · show l.foldl _ a ∈ _
    rw [h]
    exact List.mem_cons_self
  · exact List.mem_cons_of_mem _ h
theorem minI_le {a : Int} {l : List Int} {y : Int} (h : y ∈ a :: l) : minI (a :: l) ≤ y := by
  rcases List.mem_cons.mp h with rfl | h
  · exact (foldMin l y).2.1
  · exact (foldMin l a).2.2 y h
/-- the items of a tuple of ints, read -/
theorem reads_ints {h : Heap} : ∀ {ns : List Int} {us : List Value}, Vals (ns.map V.int) us → ∃ as, ReadsAll h us (ns.map PyData.int) as
  | [], us, r => by
    cases r
    exact ⟨_, ReadsAll.nil⟩
  | n :: ns, us, r => by
    cases r with
    | cons r1 r2 =>
      obtain ⟨t, rfl⟩ := r1
      obtain ⟨as, h2⟩ := reads_ints r2
      exact ⟨_, ReadsAll.cons (Reads.int n t) h2⟩
theorem alike_ints (ns : List Int) : PySem.W.AlikeAll (ns.map PyData.int) := by
  refine ⟨fun x hx y hy => ?_, fun x hx => ?_⟩
  · obtain ⟨i, _, rfl⟩ := List.mem_map.mp hx
    obtain ⟨j, _, rfl⟩ := List.mem_map.mp hy
    simp [PySem.W.alike]
  · obtain ⟨i, _, rfl⟩ := List.mem_map.mp hx
    intro h
    cases h
theorem depth_ints (ns : List Int) : PyData.depthAll (ns.map PyData.int) = 0 := by
  induction ns with
  | nil => simp [PyData.depthAll]
  | cons n ns ih => simp [PyData.depthAll, PyData.depth, ih]
theorem maxD_ints (a : Int) (l : List Int) : PySem.W.maxD (.int a) (l.map PyData.int) = .int (maxI (a :: l)) := by
  unfold PySem.W.maxD maxI
  induction l generalizing a with
  | nil => rfl
  | cons b l ih =>
    simp only [List.map_cons, List.foldl_cons, PySem.W.dataLt_int, decide_eq_true_eq]
    split
    · exact ih b
    · exact ih a
theorem minD_ints (a : Int) (l : List Int) : PySem.W.minD (.int a) (l.map PyData.int) = .int (minI (a :: l)) := by
  unfold PySem.W.minD minI
  induction l generalizing a with
  | nil => rfl
  | cons b l ih =>
    simp only [List.map_cons, List.foldl_cons, PySem.W.dataLt_int, decide_eq_true_eq]
    split
    · exact ih b
    · exact ih a
theorem reads_int {h : Heap} {v : Value} {i : Int} {bs : List Addr} (r : Reads h v (.int i) bs) : ∃ t, v = .int i t := by
  cases r
  exact ⟨_, rfl⟩
theorem cd_maxI (hc : X.calm = true) (hu : X.A.units + 64 < cLine) : CallR X (.builtin "max") (cD X.K gMaxI) := by
  intro pins s σ H xs us Q I rx ⟨g, F, σ', δ, ds, r, k, hx, hr, q⟩
  unfold gMaxI at hr
  split at hr
  · rename_i d
    split at hr
    · rename_i ds e1
      split at hr
      · rename_i n ns e2
        cases hr
        obtain ⟨v, rfl, r⟩ := unDl1 hx
        obtain ⟨a, ys, rfl, h1, h2, h3⟩ := r.items k e1
        have e3 := intsOf_inv e2
        subst e3
        have e4 := h3.ofInts
        subst e4
        rw [Vals.ref1 rx]
        rcases h1 with ⟨_, h1⟩ | ⟨_, h1⟩
        · obtain ⟨its, rv, hl, _⟩ := I.list (SqL.of h1)
          refine max_raw (I.ok.hd hc) hl.isList rv.ints (by simp) fun h' tk m t' hk hm1 hm2 => ?_
          have em : m = maxI (n :: ns) := Int.le_antisymm (maxI_ge hm1) (hm2 _ (maxI_mem n ns))
          subst em
          exact ⟨.int _, H, I.kept hk, ⟨_, rfl⟩, q.fz k (.int _)⟩
        · obtain ⟨its, rv, hl, _⟩ := I.tuple h1
          obtain ⟨as, ra⟩ := reads_ints (h := s.heap) rv
          refine PySem.W.max_tuple_data (I.ok.hd hc) hl (show ReadsAll s.heap its.toArray.toList (PyData.int n :: ns.map PyData.int) as from ra) (alike_ints (n :: ns)) (by rw [show PyData.int n :: ns.map PyData.int = (n :: ns).map PyData.int from rfl, depth_ints]; omega) fun i v h' tk bs _ rv' hk => ?_
          rw [maxD_ints] at rv'
          obtain ⟨t, rfl⟩ := reads_int rv'
          exact ⟨.int _, H, I.kept hk, ⟨_, rfl⟩, q.fz k (.int _)⟩
      · cases hr
    · cases hr
  · cases hr
theorem cd_minI (hc : X.calm = true) (hu : X.A.units + 64 < cLine) : CallR X (.builtin "min") (cD X.K gMinI) := by
  intro pins s σ H xs us Q I rx ⟨g, F, σ', δ, ds, r, k, hx, hr, q⟩
  unfold gMinI at hr
  split at hr
  · rename_i d
    split at hr
    · rename_i ds e1
      split at hr
      · rename_i n ns e2
        cases hr
        obtain ⟨v, rfl, r⟩ := unDl1 hx
        obtain ⟨a, ys, rfl, h1, h2, h3⟩ := r.items k e1
        have e3 := intsOf_inv e2
        subst e3
        have e4 := h3.ofInts
        subst e4
        rw [Vals.ref1 rx]
        rcases h1 with ⟨_, h1⟩ | ⟨_, h1⟩
        · obtain ⟨its, rv, hl, _⟩ := I.list (SqL.of h1)
          refine min_raw (I.ok.hd hc) hl.isList rv.ints (by simp) fun h' tk m t' hk hm1 hm2 => ?_
          have em : m = minI (n :: ns) := Int.le_antisymm (hm2 _ (minI_mem n ns)) (minI_le hm1)
          subst em
          exact ⟨.int _, H, I.kept hk, ⟨_, rfl⟩, q.fz k (.int _)⟩
        · obtain ⟨its, rv, hl, _⟩ := I.tuple h1
          obtain ⟨as, ra⟩ := reads_ints (h := s.heap) rv
          refine PySem.W.min_tuple_data (I.ok.hd hc) hl (show ReadsAll s.heap its.toArray.toList (PyData.int n :: ns.map PyData.int) as from ra) (alike_ints (n :: ns)) (by rw [show PyData.int n :: ns.map PyData.int = (n :: ns).map PyData.int from rfl, depth_ints]; omega) fun i v h' tk bs _ rv' hk => ?_
          rw [minD_ints] at rv'
          obtain ⟨t, rfl⟩ := reads_int rv'
          exact ⟨.int _, H, I.kept hk, ⟨_, rfl⟩, q.fz k (.int _)⟩
      · cases hr
    · cases hr
  · cases hr
theorem cd_maxA (hc : X.calm = true) (hu : X.A.units + 64 < cLine) : CallR X (.builtin "max") (cD X.K gMaxA) := CallR.orD (cd_max2 hc) (cd_maxI hc hu)
theorem cd_min (hc : X.calm = true) (hu : X.A.units + 64 < cLine) : CallR X (.builtin "min") (cD X.K gMin) := CallR.orD (cd_min2 hc) (cd_minI hc hu)
theorem cd_all (hc : X.calm = true) : CallR X (.builtin "all") (cD X.K gAll) := CallR.imp (cr_all hc) fun xs H Q ⟨g, F, σ, δ, us, r, k, hx, hr, q⟩ => by
  unfold gAll at hr
  split at hr
  · rename_i ds
    split at hr
    · rename_i bs e
      cases hr
      obtain ⟨v, rfl, r⟩ := unDl1 hx
      obtain ⟨a, ys, rfl, h1, h2, h3⟩ := r.unlst k.sub
      have e2 := boolsOf_inv e
      subst e2
      have e3 := h3.bools
      subst e3
      exact ⟨a, bs, rfl, SqL.of h1, q.fz k (.bl _)⟩
    · cases hr
  · cases hr
theorem cd_list : CallR X (.type "list") (cD X.K gList) := CallR.imp call_list_of fun xs H Q ⟨g, F, σ, δ, us, r, k, hx, hr, q⟩ => by
  unfold gList at hr
  split at hr
  · rename_i d
    split at hr
    · rename_i ds e
      cases hr
      obtain ⟨v, rfl, r⟩ := unDl1 hx
      obtain ⟨a, ys, rfl, h1, h2, h3⟩ := r.items k e
      rcases h1 with ⟨_, h1⟩ | ⟨_, h1⟩
      · exact ⟨a, ys, rfl, .inl (SqL.of h1), fun l hl => q.lst k hl h2 h3⟩
      · exact ⟨a, ys, rfl, .inr h1, fun l hl => q.lst k hl h2 h3⟩
    · cases hr
  · cases hr
theorem call_tuple_F : CallR X (.type "tuple") (fun xs H Q => ∃ p ys, xs = [.ref p] ∧ ((SqL X.K H p ys ∧ ∀ l o, H l = none → TupO o → Q (.ref l) (upd H l (.frz o (.tup ys)))) ∨ (SqT X.K H p ys ∧ Q (.ref p) H))) := by
  intro pins s σ H xs us Q I r h
  obtain ⟨p, ys, rfl, h⟩ := h
  obtain ⟨u, rfl, rx⟩ := vals1 r
  cases rx
  rcases h with ⟨hq, q⟩ | ⟨hq, q⟩
  · obtain ⟨its, r', pl, hz⟩ := I.list hq
    have hlen := r'.length
    exact call_tuple_list pl.isList (fun h' kp => new_tup I kp r' hz q) (by simp only [List.size_toArray] <;> omega)
  · obtain ⟨its, r', pl, hz⟩ := I.tuple hq
    exact call_tuple_same pl ⟨.ref p, H, I, rfl, q⟩
theorem cd_tuple : CallR X (.type "tuple") (cD X.K gTuple) := CallR.imp call_tuple_F fun xs H Q ⟨g, F, σ, δ, us, r, k, hx, hr, q⟩ => by
  unfold gTuple at hr
  split at hr
  · rename_i d
    split at hr
    · rename_i ds e
      cases hr
      obtain ⟨v, rfl, r⟩ := unDl1 hx
      have r0 := r
      obtain ⟨a, ys, rfl, h1, h2, h3⟩ := r.items k e
      rcases h1 with ⟨_, h1⟩ | ⟨ed, h1⟩
      · exact ⟨a, ys, rfl, .inl ⟨SqL.of h1, fun l o hl ho => q.tup k hl ho h2 h3⟩⟩
      · subst ed
        obtain ⟨b, zs, e2, h5, h6, h7⟩ := r0.untup
        exact ⟨a, ys, rfl, .inr ⟨h1, q.fz k (by rw [e2]; exact .tup h5 h6 h7)⟩⟩
    · cases hr
  · cases hr
end
/-! sorted, ints, of a list or a tuple -/
section
open SrtO SrtR PyProof.Rows
variable {prog : Program} {w : World} {A : Around} {E : Value → Shared → Prop} {s : Shared}
theorem collect_seq {l : Addr} {T : String} {o : Obj} {vs : List Value} {n : Nat} {Q : List Value → Shared → Prop} (hT : T = "list" ∨ T = "tuple") (ho : s.heap.get? l = some o) (hc : o.cls = .type T) (hd : o.data = .seq vs.toArray n)
    (h : Q vs { s with heap := (s.heap.push (seqObj "list" #[] 0)).update s.heap.objs.size (Obj.mapSeq (· ++ vs.toArray)) }) (hsz : vs.length ≤ sizeLine) :
    wpAny (model prog w) A (collect (.ref l)) Q E s := by
  unfold collect
  refine wpAny_bind (wpAny_runValue (codeAny_builtin entry_proto_collect' ?_))
  show wpAny _ _ (do again (.builtin "list.__iadd__" ⟨[← newList [], .ref l], []⟩)) _ _ s
  refine wpAny_bind (wpAny_newList (wpAny_pure ⟨Code.quiet_builtin _ (by decide +kernel), codeAny_builtin entry_list_iadd' ?_⟩))
  show wpAny _ _ (Builtin.List.listExtendWith (.ref s.heap.objs.size) (.ref l) (.ref s.heap.objs.size)) _ _ { s with heap := s.heap.push (seqObj "list" #[] 0) }
  unfold Builtin.List.listExtendWith
  have ho' : (s.heap.push (seqObj "list" #[] 0)).get? l = some o := Heap.get?_push_of_some _ ho
  refine wpAny_bind (wpAny_typeOf (T := T) ⟨o, ho', hc⟩ ?_)
  have ht : (Value.type T == Value.type "list" || Value.type T == Value.type "tuple") = true := by
    rcases hT with rfl | rfl <;> rfl
  rw [if_pos (by rw [Bool.or_assoc, ht, Bool.or_true])]
  refine wpAny_bind (listItems_at ho' hd ?_)
  refine wpAny_bind (listItems_at (xs := #[]) (n := 0) (Heap.get?_push_size _ rfl) rfl ?_)
  rw [if_neg (by simp)]
  refine wpAny_bind (listUpdate_at (xs := #[]) (n := 0) (Heap.get?_push_size _ rfl) rfl ?_ (Nat.zero_le _) (by show (#[] ++ vs.toArray).size ≤ sizeLine + 1; simp only [Array.size_append, List.size_toArray, List.length_nil]; omega))
  refine wpAny_pure ?_
  show wpAny (model prog w) A (do
      let o ← load s.heap.objs.size
      match o.data with
      | .seq xs _ => pure xs.toList
      | _ => unsupported "internal:collect") Q E { s with heap := (s.heap.push (seqObj "list" #[] 0)).update s.heap.objs.size (Obj.mapSeq (· ++ vs.toArray)) }
  refine wpAny_bind (wpAny_load (get?_update_seq (Heap.get?_push_size _ rfl) _) ?_)
  show wpAny _ _ (pure ((#[] : Array Value) ++ vs.toArray).toList) Q E _
  rw [show ((#[] : Array Value) ++ vs.toArray).toList = vs by simp]
  exact wpAny_pure h
theorem sorted_seq {l : Addr} {T : String} {o : Obj} {vs : List Value} {n : Nat} {b : Bool} {kw : List (Str × Value)} {ltv : Value → Value → Bool} {Q : Value → Shared → Prop} (hT : T = "list" ∨ T = "tuple") (ho : s.heap.get? l = some o) (hc : o.cls = .type T) (hd : o.data = .seq vs.toArray n)
    (hk : ∀ a, Builtin.«list.sort» ⟨[.ref a], kw⟩ = Builtin.«list.sort» ⟨[.ref a], [(Str.ofString "reverse", .bool b)]⟩)
    (ha1 : argsOk "sorted" ⟨[.ref l], kw⟩) (ha2 : ∀ a, argsOk "list.sort" ⟨[a], kw⟩) (O : Swo ltv) (hz : vs.length ≤ sizeLine)
    (hS : 2 ≤ vs.length → ∀ (h₁ : Heap) (a : Addr), h₁.get? a = some (seqObj "list" vs.toArray 0) → (∀ b o, s.heap.get? b = some o → b ≠ a ∧ h₁.get? b = some o) → SortableO prog w A.in1.in1 { s with heap := h₁ } a vs ltv)
    (h : ∀ out : List Value, Srtd ltv out → Stb ltv out (if b = true then vs.reverse else vs) → Q (.ref (s.heap.objs.size + 1)) { s with heap := sortedAll s.heap vs (if b = true then out.toArray.reverse else out.toArray) }) :
    wpAny (model prog w) A (call (.builtin "sorted") [.ref l] kw) Q E s := by
  refine call_function_entry_kw kind_sorted plain_sorted entry_sorted ha1 ?_
  unfold Builtin.«sorted»
  refine wpAny_bind (m := checkCount "sorted" 1 1 _) (wpAny_pure ?_)
  refine wpAny_bind (collect_seq hT ho hc hd ?_ hz)
  refine wpAny_bind (wpAny_newList ?_ hz)
  have hsz : ((s.heap.push (seqObj "list" #[] 0)).update s.heap.objs.size (Obj.mapSeq (· ++ vs.toArray))).objs.size = s.heap.objs.size + 1 := by
    rw [Heap.size_update, size_push']
  have hoL : (((s.heap.push (seqObj "list" #[] 0)).update s.heap.objs.size (Obj.mapSeq (· ++ vs.toArray))).push (seqObj "list" vs.toArray 0)).get? (s.heap.objs.size + 1) = some (seqObj "list" vs.toArray 0) := by
    rw [← hsz]; exact Heap.get?_push_size _ rfl
  have keep : ∀ b o, s.heap.get? b = some o → b ≠ s.heap.objs.size + 1 ∧ (((s.heap.push (seqObj "list" #[] 0)).update s.heap.objs.size (Obj.mapSeq (· ++ vs.toArray))).push (seqObj "list" vs.toArray 0)).get? b = some o := fun b o q => by
    have hlt : b < s.heap.objs.size := Heap.lt_size q
    refine ⟨Nat.ne_of_lt (Nat.lt_succ_of_lt hlt), Heap.get?_push_of_some _ ?_⟩
    rw [Heap.get?_update_ne _ _ _ _ (Nat.ne_of_lt hlt)]
    exact Heap.get?_push_of_some _ q
  show wpAny _ _ _ _ _ { s with heap := ((s.heap.push (seqObj "list" #[] 0)).update s.heap.objs.size (Obj.mapSeq (· ++ vs.toArray))).push (seqObj "list" vs.toArray 0) }
  rw [hsz]
  refine wpAny_bind (wpAny_holding (wpAny_call_entry_kw slot_list_sort ⟨_, hoL, rfl⟩ entry_list_sort ?_ (ha2 _)))
  rw [hk]
  refine list_sort_ordR O hoL hz (fun h2 => hS h2 _ _ hoL keep) fun out hs hb => ⟨_, rfl, ?_⟩
  exact wpAny_pure ⟨_, rfl, h out hs hb⟩
end
theorem sort_same {a b : List Int} (hp : a.Perm b) (ha : a.Pairwise (· ≤ ·)) (hb : b.Pairwise (· ≤ ·)) : a = b := PySem.W.ksm_same hp ha hb
theorem sortI_perm (ns : List Int) : (sortI ns).Perm ns := List.mergeSort_perm ..
theorem sortI_sorted (ns : List Int) : (sortI ns).Pairwise (· ≤ ·) := by
  have h := List.pairwise_mergeSort (le := fun a b : Int => decide (a ≤ b)) (fun a b c h1 h2 => by
    simp only [decide_eq_true_eq] at *
    omega) (fun a b => by
    simp only [Bool.or_eq_true, decide_eq_true_eq]
    omega) ns
  exact h.imp fun {a b} h => of_decide_eq_true h
theorem sortI_eq {ns ms : List Int} (hp : ms.Perm ns) (hs : ms.Pairwise (· ≤ ·)) : ms = sortI ns := sort_same (hp.trans (sortI_perm ns).symm) hs (sortI_sorted ns)
section
variable {X : Cx}
theorem sorted_data {pins : List (Addr × Obj)} {s : Shared} {σ : L2.St} {H : Hp} {a : Addr} {T : String} {o : Obj} {its : List Value} {n : Nat} {ns : List Int} {b : Bool} {kw : List (Str × Value)} {Q : VK} (I : Inv X pins σ H s) (hT : T = "list" ∨ T = "tuple") (ho : s.heap.get? a = some o) (hc : o.cls = .type T) (hd : o.data = .seq its.toArray n)
    (hi : IntsAre its ns) (hz : its.length ≤ sizeLine) (hk : ∀ a, Builtin.«list.sort» ⟨[.ref a], kw⟩ = Builtin.«list.sort» ⟨[.ref a], [(Str.ofString "reverse", .bool b)]⟩) (ha1 : argsOk "sorted" ⟨[.ref a], kw⟩) (ha2 : ∀ a, argsOk "list.sort" ⟨[a], kw⟩)
    (q : ∀ p, H p = none → Q (.ref p) (upd H p (.lst ((if b = true then (sortI ns).reverse else sortI ns).map V.int)))) : wpAny (model X.prog X.w) X.A (call (.builtin "sorted") [.ref a] kw) (EP X pins σ Q) X.xe s := by
  refine sorted_seq hT ho hc hd hk ha1 ha2 SrtO.swo_int hz (fun h2 h₁ a' _ _ => SrtO.ints_sortable hi h2) fun out h1 h2 => ?_
  obtain ⟨ns', k1, k2, k3⟩ := SrtR.ints_outR hi h1 h2
  obtain ⟨ep, he'⟩ := PyProof.Rows.sortedAll_at s.heap its (if b = true then out.toArray.reverse else out.toArray)
  have en : ns' = (if b = true then (sortI ns).reverse else sortI ns) := by
    cases b with
    | false => exact sortI_eq k2 k3
    | true =>
      have k3' : ns'.reverse.Pairwise (· ≤ ·) := List.pairwise_reverse.mpr k3
      have := sortI_eq ((List.reverse_perm ns').trans k2) k3'
      show ns' = (sortI ns).reverse
      rw [← this, List.reverse_reverse]
  have hlen : (ns'.map V.int).length ≤ sizeLine := by
    rw [List.length_map, k2.length_eq, ← hi.length]
    exact hz
  have e0 : ((if b = true then out.toArray.reverse else out.toArray).toList).toArray = (if b = true then out.toArray.reverse else out.toArray) := by rw [Array.toArray_toList]
  have hn := I.hok.fresh (Nat.le_succ s.heap.objs.size)
  have hq := q _ hn
  rw [← en] at hq
  exact ⟨.ref _, upd H (s.heap.objs.size + 1) (.lst (ns'.map V.int)), I.laid (t' := s.toks) (fun _ _ => PyProof.Rows.sortedAll_old) (Nat.le_succ _) ⟨hlen, _, ep, vals_of_ints k1, by rw [e0]; exact he'⟩, rfl, hq⟩
theorem rev_none (a : Addr) : Builtin.«list.sort» ⟨[.ref a], []⟩ = Builtin.«list.sort» ⟨[.ref a], [(Str.ofString "reverse", .bool false)]⟩ := by
  rw [PyProof.Rows.list_sort_rev]
  first | rfl | kernel_rfl
theorem cd_sortedI : CallR X (.builtin "sorted") (cD X.K gSortedI) := by
  intro pins s σ H xs us Q I rx ⟨g, F, σ', δ, ds, r, k, hx, hr, q⟩
  unfold gSortedI at hr
  split at hr
  · rename_i d
    split at hr
    · rename_i ds e1
      split at hr
      · rename_i ns e2
        cases hr
        obtain ⟨v, rfl, r⟩ := unDl1 hx
        obtain ⟨a, ys, rfl, h1, h2, h3⟩ := r.items k e1
        have e3 := intsOf_inv e2
        subst e3
        have e4 := h3.ofInts
        subst e4
        rw [Vals.ref1 rx]
        have zz : ((sortI ns).map V.int).length ≤ sizeLine := by
          rw [List.length_map, (sortI_perm ns).length_eq]
          rw [List.length_map] at h2
          exact h2
        rcases h1 with ⟨_, h1⟩ | ⟨_, h1⟩
        · obtain ⟨its, rv, ⟨o, n, ho, hc, _, hd⟩, hz⟩ := I.list (SqL.of h1)
          exact sorted_data (b := false) I (.inl rfl) ho hc hd rv.ints (by rw [← rv.length]; exact hz) rev_none (PyProof.Rows.args_sorted1 _) (fun _ => PyProof.Rows.args_list_sort _) fun p hp => q.lst k hp zz (DrAll.ints _)
        · obtain ⟨its, rv, ⟨o, ho, hc, n, hd⟩, hz⟩ := I.tuple h1
          exact sorted_data (b := false) I (.inr rfl) ho hc hd rv.ints (by rw [← rv.length]; exact hz) rev_none (PyProof.Rows.args_sorted1 _) (fun _ => PyProof.Rows.args_list_sort _) fun p hp => q.lst k hp zz (DrAll.ints _)
      · cases hr
    · cases hr
  · cases hr
/-- sorted(xs, reverse=True) -/
def cDK (K : PySem.W.Frag) (gd : GN) (zs0 : List V) : List V → List V → Hp → VK → Prop := fun xs zs H Q => zs = zs0 ∧ cD K gd xs H Q
theorem cd_sortedR : CallRK X (.builtin "sorted") [Str.ofString "reverse"] (cDK X.K gSortedR [.bl true]) := by
  intro pins s σ H xs zs us ws Q I rx rz ⟨ez, g, F, σ', δ, ds, r, k, hx, hr, q⟩
  subst ez
  unfold gSortedR at hr
  split at hr
  · rename_i d
    split at hr
    · rename_i ds e1
      split at hr
      · rename_i ns e2
        cases hr
        obtain ⟨v, rfl, r⟩ := unDl1 hx
        obtain ⟨a, ys, rfl, h1, h2, h3⟩ := r.items k e1
        have e3 := intsOf_inv e2
        subst e3
        have e4 := h3.ofInts
        subst e4
        rw [Vals.ref1 rx]
        obtain ⟨w1, rfl, e1⟩ := vals1 rz
        obtain rfl : w1 = Value.bool true := e1
        have zz : ((sortI ns).reverse.map V.int).length ≤ sizeLine := by
          rw [List.length_map, List.length_reverse, (sortI_perm ns).length_eq]
          rw [List.length_map] at h2
          exact h2
        rcases h1 with ⟨_, h1⟩ | ⟨_, h1⟩
        · obtain ⟨its, rv, ⟨o, n, ho, hc, _, hd⟩, hz⟩ := I.list (SqL.of h1)
          exact sorted_data (b := true) I (.inl rfl) ho hc hd rv.ints (by rw [← rv.length]; exact hz) (fun _ => rfl) (PyProof.Rows.args_sorted_rev _ _) (fun _ => PyProof.Rows.args_list_sort_rev _ _) fun p hp => q.lst k hp zz (DrAll.ints _)
        · obtain ⟨its, rv, ⟨o, ho, hc, n, hd⟩, hz⟩ := I.tuple h1
          exact sorted_data (b := true) I (.inr rfl) ho hc hd rv.ints (by rw [← rv.length]; exact hz) (fun _ => rfl) (PyProof.Rows.args_sorted_rev _ _) (fun _ => PyProof.Rows.args_list_sort_rev _ _) fun p hp => q.lst k hp zz (DrAll.ints _)
      · cases hr
    · cases hr
  · cases hr
end
end DL
set_option Elab.async false
set_option linter.all false
set_option maxRecDepth 100000
set_option maxHeartbeats 1000000
/-! Rules: isinstance, items, slices, methods. -/
namespace DL
open PySem PySem.Spec PyProof.Rows L2
section
variable {X : Cx} {mg : Str → Option Value} {W : WX} {e a b c tg : Expr} {es : List Expr} {pos p p2 : Pos} {fa fb fl : EL}
/-! ### isinstance(e, T) -/
def tys : List String := ["NoneType", "bool", "int", "str", "list", "tuple"]
theorem tyOf_mem : ∀ d : D, tyOf d ∈ tys
  | .none => by decide
  | .bool _ => by show "bool" ∈ tys; decide
  | .int _ => by show "int" ∈ tys; decide
  | .str _ => by show "str" ∈ tys; decide
  | .list _ => by show "list" ∈ tys; decide
  | .tuple _ => by show "tuple" ∈ tys; decide
  | .dict _ => by show "list" ∈ tys; decide
theorem isi_of {T : String} (h : ∀ s ∈ tys, kitB s T = some (s == T || (T == "int" && s == "bool"))) (d : D) (_ : ∀ kvs, d ≠ .dict kvs) : kitB (tyOf d) T = some (tyOf d == T || (T == "int" && tyOf d == "bool")) := h _ (tyOf_mem d)
theorem isi_int (d : D) (h : ∀ kvs, d ≠ .dict kvs) : kitB (tyOf d) "int" = some (tyOf d == "int" || ("int" == "int" && tyOf d == "bool")) := isi_of (by decide +kernel) d h
theorem isi_bool (d : D) (h : ∀ kvs, d ≠ .dict kvs) : kitB (tyOf d) "bool" = some (tyOf d == "bool" || ("bool" == "int" && tyOf d == "bool")) := isi_of (by decide +kernel) d h
theorem isi_tuple (d : D) (h : ∀ kvs, d ≠ .dict kvs) : kitB (tyOf d) "tuple" = some (tyOf d == "tuple" || ("tuple" == "int" && tyOf d == "bool")) := isi_of (by decide +kernel) d h
theorem Dl.ty {K : PySem.W.Frag} {g : Gh} {F H : Hp} {σ : L2.St} {δ : Sl} (k : Ok K g F H σ δ) {v : V} {d : D} (h : Dl K F H v d) (hd : ∀ kvs, d ≠ .dict kvs) : TyX K H v (.type (tyOf d)) := by
  cases d with
  | none => obtain rfl := h.unnone; exact .base .non
  | bool b => obtain rfl := h.unbool; exact .base (.bl _)
  | int i => obtain rfl := h.unint; exact .base (.int _)
  | str x => obtain rfl := h.unstr; exact .base (.str _)
  | list ds =>
    obtain ⟨a, xs, rfl, h1, _⟩ := h.unlst k.sub
    exact .base (.lst h1)
  | tuple ds =>
    obtain ⟨a, xs, rfl, ⟨o, _, h1⟩, _⟩ := h.untup
    exact .fTuple (k.sub _ _ h1)
  | dict kvs => exact absurd rfl (hd kvs)
theorem de_isi {T : String} {x : Str} (hT : ∀ d : D, (∀ kvs, d ≠ .dict kvs) → kitB (tyOf d) T = some (tyOf d == T || (T == "int" && tyOf d == "bool"))) {p3 : Pos} (ha : PE X a (tL X.K fa)) (hg : Gl X "isinstance") (hm : X.mg "isinstance" = none) (hgT : Gl X x) (hmT : X.mg x = none) (hvT : bootBuiltins x = some (.type T)) (hnT : x ≠ "__name__" := by decide) (hdT : (x == ("__debug__" : Str)) = false := by decide)
    (s1 : starEach [a, .Name x p2] X.env = (false, eval a X.env) :: starEach [.Name x p2] X.env := by rfl) (s2 : starEach [.Name x p2] X.env = (false, eval (.Name x p2) X.env) :: starEach [] X.env := by rfl) (hpl : (backTo pos (starEach [.Name x p2] X.env)).any (·.1) = false := by rfl) :
    PE X (.Call (.Name "isinstance" p3) [a, .Name x p2] [] pos) (tV X.K (dUn (gIsi T) fa)) :=
  PE.imp (pe_callB call_isi hg hm (by decide +kernel) (pa_cons ha (pa_cons (pe_bltn (v := .ty T) hgT hmT hvT rfl hnT hdT) pa_nil s2) s1) (by decide) (by decide) s1 hpl) fun σ H Q ⟨g, F, δ, r, δ', k, hf, q⟩ => by
    unfold dUn at hf
    split at hf
    · cases hf
    · rename_i y δ1 e1
      split at hf
      · rename_i u e2
        split at hf
        · rename_i r' e3
          cases hf
          refine ⟨g, F, δ, y, _, k, e1, fun v F1 H1 k1 s1 r1 => ?_⟩
          unfold gIsi at e3
          split at e3
          · cases e3
          · rename_i hnd
            cases e3
            have hl := k1.late r1 e2
            exact ⟨v, _, .type (tyOf u), .type T, _, rfl, .ty T, hl.ty k1 hnd, kit_ty (hT u hnd), q _ F1 H1 k1 s1 (.bl _)⟩
        · cases hf
      · cases hf
/-! ### items -/
theorem atI_of {K : PySem.W.Frag} {F : Hp} {vs : List V} {ds : List D} {i : Int} {d : D} (h : DrAll K F vs ds) (e : atD ds i = some d) : ∃ v, atI vs i = some v ∧ Dr K F v d := by
  have hl := h.length
  unfold atD at e
  unfold atI ixN
  split at e
  · rename_i h0
    obtain ⟨v, e1, r⟩ := h.get' e
    have := (List.getElem?_eq_some_iff.mp e1).1
    rw [if_pos h0, if_pos (by omega)]
    exact ⟨v, e1, r⟩
  · rename_i h0
    split at e
    · rename_i h1
      obtain ⟨v, e1, r⟩ := h.get' e
      rw [if_neg h0, if_pos (by omega), hl]
      exact ⟨v, e1, r⟩
    · cases e
theorem ix_D : IxR X (rD X.K gIx) := IxR.imp (ix_list.or ix_tup) fun x y H Q ⟨g, F, σ, δ, u, v, r, k, hx, hy, hr, q⟩ => by
  unfold gIx at hr
  split at hr
  · rename_i i
    obtain rfl := hy.unint
    split at hr
    · rename_i ds
      split at hr
      · rename_i d e1
        cases hr
        obtain ⟨a, xs, rfl, h1, h2, h3⟩ := hx.unlst k.sub
        obtain ⟨v, e2, r⟩ := atI_of h3 e1
        exact .inl ⟨a, xs, i, v, rfl, rfl, SqL.of h1, e2, q.fz k r⟩
      · cases hr
    · rename_i ds
      split at hr
      · rename_i d e1
        cases hr
        obtain ⟨a, xs, rfl, h1, h2, h3⟩ := hx.untup
        obtain ⟨v, e2, r⟩ := atI_of h3 e1
        exact .inr ⟨a, xs, i, v, rfl, rfl, h1.sqt k.sub, e2, q.fz k r⟩
      · cases hr
    · rename_i kvs
      split at hr
      · rename_i ns e0
        split at hr
        · rename_i d e1
          cases hr
          obtain ⟨a, rfl, h1⟩ := hx.scr k e0
          obtain ⟨v, e2, r⟩ := atI_of (K := X.K) (F := F) (DrAll.ints ns) e1
          exact .inl ⟨a, _, i, v, rfl, rfl, h1, e2, q.fz k r⟩
        · cases hr
      · cases hr
    · cases hr
  · cases hr
/-! ### slices -/
def tO (K : PySem.W.Frag) (f : EO) : TO := fun σ H Q => ∃ g F δ o δ', Ok K g F H σ δ ∧ f δ = some (o, δ') ∧ ∀ F' H', Ok K g F' H' σ δ' → Same F F' → Q o H'
theorem PO.imp {x : Option Expr} {t t' : TO} (h : PO X x t) (i : ∀ σ H Q, t' σ H Q → t σ H Q) : PO X x t' := ⟨fun pins s σ H Q I q => h.run pins s σ H Q I (i σ H Q q)⟩
theorem do_none : PO X none (tO X.K oNone) := PO.imp po_none fun σ H Q ⟨g, F, δ, o, δ', k, hf, q⟩ => by
  cases hf
  exact q F H k (Same.refl F)
theorem do_some (h : PE X e (tL X.K fl)) : PO X (some e) (tO X.K (oSome fl)) := PO.imp (po_some h) fun σ H Q ⟨g, F, δ, o, δ', k, hf, q⟩ => by
  unfold oSome at hf
  split at hf
  · cases hf
  · rename_i x δ1 e1
    split at hf
    · rename_i i e2
      cases hf
      exact ⟨g, F, δ, x, _, k, e1, fun v F' H' k' s' r' => ⟨i, (k'.late r' e2).unint, q F' H' k' s'⟩⟩
    · cases hf
theorem sIx_eq (n d : Nat) (o : Option Int) : HT.sIx n d o = cutIx n d o := rfl
theorem cutV_of {K : PySem.W.Frag} {F : Hp} {vs : List V} {ds : List D} {lo hi : Option Int} (h : DrAll K F vs ds) : DrAll K F (cutV vs lo hi) (cutD ds lo hi) := by
  unfold cutV cutD
  rw [h.length]
  exact (h.drop _).take _
def rSlF (K : PySem.W.Frag) : V → Option Int → Option Int → Hp → VK → Prop := fun x lo hi H Q => ∃ a xs, x = .ref a ∧ SqT K H a xs ∧
  (HT.sIx xs.length 0 lo = 0 ∧ HT.sIx xs.length xs.length hi = xs.length → Q (.ref a) H) ∧ (¬ (HT.sIx xs.length 0 lo = 0 ∧ HT.sIx xs.length xs.length hi = xs.length) → ∀ p o, H p = none → TupO o → Q (.ref p) (upd H p (.frz o (.tup (cutV xs lo hi)))))
theorem sl_tupF : SlR X (rSlF X.K) := by
  intro pins s σ H x v vl vu lo hi sl Q I rx hs pl pu h
  obtain ⟨a, xs, rfl, hx, q1, q2⟩ := h
  cases rx
  obtain ⟨its, r, ht, hz⟩ := I.tuple hx
  have hlen : its.toArray.size = xs.length := by rw [List.size_toArray]; exact r.length.symm
  refine ⟨"tuple", _, PyProof.Rows.slot_tuple_getitem.lookup, ht.typeIs, ?_⟩
  by_cases hw : HT.sIx xs.length 0 lo = 0 ∧ HT.sIx xs.length xs.length hi = xs.length
  · exact getItem_tuple_whole ht hs pl pu (by rw [hlen]; exact hw) ⟨.ref a, H, I, rfl, q1 hw⟩
  · refine HT.getItem_tuple_cut ht hs pl pu (by rw [hlen]; exact hw) ?_ (by rw [hlen]; exact hz)
    rw [hlen]
    exact new_tup I (fun _ _ e => e) ((r.drop (HT.sIx xs.length 0 lo)).take (HT.sIx xs.length xs.length hi - HT.sIx xs.length 0 lo)) (Nat.le_trans (cutV_length xs lo hi) hz) (q2 hw)
theorem cutD_whole {ds : List D} {lo hi : Option Int} (h : cutIx ds.length 0 lo = 0 ∧ cutIx ds.length ds.length hi = ds.length) : cutD ds lo hi = ds := by
  unfold cutD
  rw [h.1, h.2, List.drop_zero, Nat.sub_zero, List.take_length]
theorem de_cut {lo hi : Option Expr} {fo fh : EO} (ha : PE X a (tL X.K fa)) (hl : PO X lo (tO X.K fo)) (hh : PO X hi (tO X.K fh)) : PE X (.Subscript a (.Slice lo hi none p2) pos) (tE X.K (dCut fa fo fh)) :=
  PE.imp (pe_slice (sl_list.or sl_tupF) ha hl hh) fun σ H Q ⟨g, F, δ, r, δ', k, hf, q⟩ => by
    unfold dCut at hf
    split at hf
    · cases hf
    · rename_i x δ1 e1
      split at hf
      · cases hf
      · rename_i l δ2 e2
        split at hf
        · cases hf
        · rename_i h δ3 e3
          refine ⟨g, F, δ, x, δ1, k, e1, fun v F1 H1 k1 s1 r1 => ⟨g, F1, δ1, l, δ2, k1, e2, fun F2 H2 k2 s2 => ⟨g, F2, δ2, h, δ3, k2, e3, fun F3 H3 k3 s3 => ?_⟩⟩⟩
          have r3 := RepL.mono (s2.trans s3) r1
          split at hf
          · rename_i ds e4
            cases hf
            obtain ⟨a, xs, rfl, h1, h2, h3⟩ := (k3.late r3 e4).unlst k3.sub
            refine .inl ⟨a, xs, rfl, SqL.of h1, fun p hp => ?_⟩
            have z : (cutV xs l h).length ≤ sizeLine := Nat.le_trans (cutV_length xs l h) h2
            exact q _ _ _ (k3.push hp) ((s1.trans s2).trans s3) (k3.newMt hp z (cutV_of h3))
          · rename_i ds e4
            cases hf
            obtain ⟨a, xs, rfl, h1, h2, h3⟩ := (k3.late r3 e4).untup
            refine .inr ⟨a, xs, rfl, h1.sqt k3.sub, fun hw => ?_, fun hw p o hp ho => ?_⟩
            · rw [h3.length] at hw
              rw [cutD_whole hw] at q
              exact q _ F3 H3 k3 ((s1.trans s2).trans s3) (.tup h1 h2 h3)
            · have z : (cutV xs l h).length ≤ sizeLine := Nat.le_trans (cutV_length xs l h) h2
              exact q _ _ _ (k3.laid hp) (((s1.trans s2).trans s3).trans (same_new (k3.noneF hp))) (.tup ⟨o, ho, upd_same⟩ z (DrAll.mono (same_new (k3.noneF hp)) _ _ (cutV_of h3)))
          · cases hf
theorem DrAll.reverse {K : PySem.W.Frag} {F : Hp} : ∀ {vs : List V} {ds : List D}, DrAll K F vs ds → DrAll K F vs.reverse ds.reverse
  | _, [], h => by cases h; exact .nil
  | _, d :: ds, h => by
    cases h with
    | cons h1 h2 =>
      rw [List.reverse_cons, List.reverse_cons]
      exact (DrAll.reverse h2).append (.one h1)
/-- xs[::-1], a list -/
theorem de_revL {k : Nat} {p1 p3 : Pos} (ha : PE X a (tL X.K fa)) : PE X (.Subscript a (.Slice none none (some (.UnaryOp .USub (.Constant (.int 1) k p1) p2)) p3) pos) (tE X.K (dUnE gRevL fa)) :=
  PE.imp (pe_revL ha) fun σ H Q ⟨g, F, δ, r, δ', k, hf, q⟩ => by
    unfold dUnE at hf
    split at hf
    · cases hf
    · rename_i x δ1 e1
      refine ⟨g, F, δ, x, δ1, k, e1, fun v F1 H1 k1 s1 r1 => ?_⟩
      split at hf
      · rename_i u e2
        split at hf
        · rename_i r' e3
          cases hf
          unfold gRevL at e3
          split at e3
          · rename_i ds
            cases e3
            obtain ⟨a, xs, rfl, h1, h2, h3⟩ := (k1.late r1 e2).unlst k1.sub
            refine ⟨a, xs, rfl, SqL.of h1, fun p hp => ?_⟩
            exact q _ _ _ (k1.push hp) s1 (k1.newMt hp (by rw [List.length_reverse]; exact h2) h3.reverse)
          · cases e3
        · cases hf
      · cases hf
/-! ### a list in a slot is changed -/
theorem isLs_of {i : Nat} {δ : Sl} (h : ¬ isLs δ i = false) : ∃ z b, δ[i]? = some (some z) ∧ (z = .mt b ∨ z = .br b) := by
  unfold isLs at h
  split at h
  · rename_i b e
    exact ⟨_, b, e, .inl rfl⟩
  · rename_i b e
    exact ⟨_, b, e, .inr rfl⟩
  · exact absurd rfl h
theorem dMut_inv {i : Nat} {gm : GM} {f : EA} {δ δ' : Sl} {x : DV} (h : dMut i gm f δ = some (x, δ')) : ¬ isLs δ i = false ∧ ∃ ds δ1 y b b', f δ = some (ds, δ1) ∧ δ1[i]? = some (some y) ∧ (y = .mt b ∨ y = .br b) ∧ gm b ds = some (x, b') ∧ δ' = δ1.set i (some (y.put b')) := by
  unfold dMut at h
  split at h
  · cases h
  · rename_i hz
    refine ⟨hz, ?_⟩
    split at h
    · cases h
    · rename_i ds δ1 e1
      split at h
      · rename_i b e2
        split at h
        · rename_i r b' e3
          cases h
          exact ⟨ds, δ1, _, b, b', e1, e2, .inl rfl, e3, rfl⟩
        · cases h
      · rename_i b e2
        split at h
        · rename_i r b' e3
          cases h
          exact ⟨ds, δ1, _, b, b', e1, e2, .inr rfl, e3, rfl⟩
        · cases h
      · cases h
/-- what the owner's cell holds -/
theorem Ok.cell {K : PySem.W.Frag} {g : Gh} {F H : Hp} {σ : L2.St} {δ : Sl} (k : Ok K g F H σ δ) {i : Nat} {y : DV} {b : List D} (e : δ[i]? = some (some y)) (hy : y = .mt b ∨ y = .br b) : ∃ l vs, σ[i]? = some (some (.ref l)) ∧ H l = some (.lst vs) ∧ vs.length ≤ sizeLine ∧ DrAll K F vs b := by
  obtain ⟨v, e1, r⟩ := k.rep i _ e
  rcases hy with rfl | rfl
  · obtain ⟨l, rfl, h0, hf, vs, hl, z, ha⟩ := r
    exact ⟨l, vs, e1, hl, z, ha⟩
  · obtain ⟨l, rfl, h0, hf, vs, hl, z, ha⟩ := r
    exact ⟨l, vs, e1, hl, z, ha⟩
theorem Ok.changed {K : PySem.W.Frag} {g : Gh} {F H : Hp} {σ : L2.St} {δ : Sl} (k : Ok K g F H σ δ) {i : Nat} {y : DV} {b b' : List D} {l : Addr} {vs' : List V} (e : δ[i]? = some (some y)) (hy : y = .mt b ∨ y = .br b) (ev : σ[i]? = some (some (.ref l))) (z : vs'.length ≤ sizeLine) (ha : DrAll K F vs' b') :
    Ok K g F (upd H l (.lst vs')) σ (δ.set i (some (y.put b'))) :=
  k.change e (fun d h => by rcases hy with q | q <;> (rw [q] at h; cases h)) (fun d h => by rcases hy with q | q <;> (rw [q] at h; cases h)) ev z ha
/-- the method's own reading gives what gm says -/
def MutR (K : PySem.W.Frag) (r : V → List V → Hp → VK → Prop) (gm : GM) : Prop := ∀ (F H : Hp) (l : Addr) (vs us : List V) (b ds b' : List D) (x : DV) (Q : VK), Same F H → H l = some (.lst vs) → vs.length ≤ sizeLine → DrAll K F vs b → DrAll K F us ds → gm b ds = some (x, b') →
  (∀ v vs' d, x = .fz d → vs'.length ≤ sizeLine → DrAll K F vs' b' → Dr K F v d → Q v (upd H l (.lst vs'))) → r (.ref l) us H Q
theorem mut_read {K : PySem.W.Frag} {i : Nat} {gm : GM} {f : EA} {r : V → List V → Hp → VK → Prop} (hr : MutR K r gm) {σ : L2.St} {H : Hp} {Q : VK} (h : tE K (dMut i gm f) σ H Q) : tBM K "list" r (tVar i) (tA K f) σ H Q := by
  obtain ⟨g, F, δ, x, δ', k, hf, q⟩ := h
  obtain ⟨hz, ds, δ1, y, b, b', e1, e2, hy, e3, rfl⟩ := dMut_inv hf
  obtain ⟨z, b0, ez, hzz⟩ := isLs_of hz
  obtain ⟨l0, vs0, ev0, hl0, _, _⟩ := k.cell ez hzz
  refine ⟨.ref l0, ev0, .inl ⟨rfl, vs0, SqL.of hl0⟩, g, F, δ, ds, δ1, k, e1, fun us F1 H1 k1 s1 r1 => ?_⟩
  obtain ⟨l, vs, ev, hl, zl, ha⟩ := k1.cell e2 hy
  rw [ev0] at ev
  cases ev
  exact hr F1 H1 l0 vs us b ds b' _ Q k1.sub hl zl ha r1 e3 fun v vs' d' hd z' h' rv => by
    subst hd
    exact q v F1 _ (k1.changed e2 hy ev0 z' h') s1 rv
theorem mut_read0 {K : PySem.W.Frag} {i : Nat} {gm : GM} {r : V → List V → Hp → VK → Prop} (hr : MutR K r gm) {σ : L2.St} {H : Hp} {Q : VK} (h : tE K (dMut i gm aNil) σ H Q) : tBM0 K "list" r (tVar i) σ H Q := by
  obtain ⟨g, F, δ, x, δ', k, hf, q⟩ := h
  obtain ⟨hz, ds, δ1, y, b, b', e1, e2, hy, e3, rfl⟩ := dMut_inv hf
  cases e1
  obtain ⟨l, vs, ev, hl, zl, ha⟩ := k.cell e2 hy
  refine ⟨.ref l, ev, .inl ⟨rfl, vs, SqL.of hl⟩, ?_⟩
  exact hr F H l vs [] b [] b' _ Q k.sub hl zl ha .nil e3 fun v vs' d' hd z' h' rv => by
    subst hd
    exact q v F _ (k.changed e2 hy ev z' h') (Same.refl F) rv
theorem mu_append {K : PySem.W.Frag} : MutR K rAppend mAppend := fun F H l vs us b ds b' x Q sm hl z ha hu hg q => by
  unfold mAppend at hg
  split at hg
  · rename_i d
    split at hg
    · rename_i hb
      cases hg
      cases hu with
      | cons h1 h2 =>
        cases h2
        have hn : vs.length < sizeLine := by rw [ha.length]; exact Nat.lt_of_lt_of_le hb (by decide)
        refine ⟨l, vs, _, rfl, rfl, hl, hn, q _ _ .none rfl ?_ (ha.append (.one h1)) .non⟩
        rw [List.length_append]
        exact hn
    · cases hg
  · cases hg
theorem DrAll.dropLast {K : PySem.W.Frag} {F : Hp} {vs : List V} {ds : List D} (h : DrAll K F vs ds) : DrAll K F vs.dropLast ds.dropLast := by
  rw [List.dropLast_eq_take, List.dropLast_eq_take, h.length]
  exact h.take _
theorem DrAll.eraseIdx {K : PySem.W.Frag} {F : Hp} {vs : List V} {ds : List D} (h : DrAll K F vs ds) (n : Nat) : DrAll K F (vs.eraseIdx n) (ds.eraseIdx n) := by
  rw [List.eraseIdx_eq_take_drop_succ, List.eraseIdx_eq_take_drop_succ]
  exact (h.take n).append (h.drop _)
theorem mu_pop {K : PySem.W.Frag} : MutR K rPop mPop := fun F H l vs us b ds b' x Q sm hl z ha hu hg q => by
  unfold mPop at hg
  split at hg
  · split at hg
    · rename_i d hd
      cases hg
      cases hu
      obtain ⟨v, e1, r⟩ := ha.get' hd
      rw [← ha.length] at e1
      refine ⟨l, vs, v, rfl, rfl, hl, e1, q _ _ d rfl ?_ ha.dropLast r⟩
      rw [List.length_dropLast]
      omega
    · cases hg
  · cases hg
theorem mu_popAt {K : PySem.W.Frag} : MutR K rPopAt mPopAt := fun F H l vs us b ds b' x Q sm hl z ha hu hg q => by
  unfold mPopAt at hg
  split at hg
  · rename_i i
    split at hg
    · rename_i hi
      split at hg
      · rename_i d hd
        cases hg
        cases hu with
        | cons h1 h2 =>
          cases h2
          obtain rfl := h1.unint
          obtain ⟨v, e1, r⟩ := ha.get' hd
          have hn := line63
          have hl2 := ha.length
          refine ⟨l, vs, i, i.toNat, v, rfl, rfl, hl, by omega, by omega, ?_, e1, q _ _ d rfl ?_ (ha.eraseIdx _) r⟩
          · unfold seqIndex?
            have h3 : ¬ i < 0 := by omega
            rw [if_neg h3]
            have h4 : (decide (0 ≤ i) && decide (i < (vs.length : Int))) = true := by
              rw [Bool.and_eq_true]
              exact ⟨decide_eq_true (by omega), decide_eq_true (by omega)⟩
            exact if_pos h4
          · exact Nat.le_trans (len_erase _ _) z
      · cases hg
    · cases hg
  · cases hg
theorem erase_at : ∀ {ns : List Int} {i : Int}, i ∈ ns → ∃ j : Nat, ns[j]? = some i ∧ (∀ m : Nat, m < j → ns[m]? ≠ some i) ∧ ns.erase i = ns.eraseIdx j
  | [], _, h => absurd h (by simp)
  | n :: ns, i, h => by
    by_cases e : n = i
    · subst e
      exact ⟨0, rfl, fun m hm => absurd hm (Nat.not_lt_zero _), by simp⟩
    · have hm : i ∈ ns := by
        rcases List.mem_cons.mp h with q | q
        · exact absurd q.symm e
        · exact q
      obtain ⟨j, h1, h2, h3⟩ := erase_at hm
      refine ⟨j + 1, h1, fun m hm => ?_, ?_⟩
      · cases m with
        | zero => exact fun z => e (Option.some.inj z)
        | succ m => exact h2 m (by omega)
      · rw [List.erase_cons_tail (by simpa using e), h3]
        rfl
theorem mu_remove {K : PySem.W.Frag} : MutR K rRemI mRemove := fun F H l vs us b ds b' x Q sm hl z ha hu hg q => by
  unfold mRemove at hg
  split at hg
  · rename_i i
    split at hg
    · rename_i ns hns
      split at hg
      · rename_i hi
        cases hg
        cases hu with
        | cons h1 h2 =>
          cases h2
          obtain rfl := h1.unint
          obtain rfl := intsOf_inv hns
          obtain rfl := DrAll.ofInts ha
          obtain ⟨j, e1, e2, e3⟩ := erase_at hi
          refine ⟨l, ns, i, j, rfl, rfl, hl, e1, e2, ?_⟩
          rw [e3] at q
          refine q .non ((ns.eraseIdx j).map V.int) .none rfl ?_ (DrAll.ints _) .non
          rw [List.length_map] at z ⊢
          exact Nat.le_trans (len_erase _ _) z
      · cases hg
    · cases hg
  · cases hg
section
variable {nm : Str} {o : Expr} {apos cpos : Pos} {f : EA} {i : Nat} {gm : GM} {r : V → List V → Hp → VK → Prop} {id : String}
theorem de_mut (slot : Slot "list" nm id) (hty : typeOf (.builtin id) = pure (.type "method_descriptor")) (hm : MtR X id r) (hr : MutR X.K r gm) (ho : PE X o (tVar i)) (ha : PA X (e :: es) (tA X.K f))
    (hbase : attributeBase o nm X.env (eval o X.env) = eval o X.env := by rfl)
    (hfew : ((backTo cpos (starEach (e :: es) X.env)).all (fun x => !x.1) && (backToKw cpos (keywordEach [] X.env)).all (fun x => x.1.isSome)
      && decide ((e :: es).length + ([] : List Keyword).length + (if ([] : List Keyword).isEmpty then 0 else 1) < 30)) = true := by rfl)
    (hline : (apos.endLine == cpos.line) = true := by rfl) (hs : starEach (e :: es) X.env = (false, eval e X.env) :: starEach es X.env := by rfl) (hplain : (backTo cpos (starEach es X.env)).any (·.1) = false := by rfl) :
    PE X (.Call (.Attribute o nm apos) (e :: es) [] cpos) (tE X.K (dMut i gm f)) :=
  PE.imp (pe_bm PySem.F.plainAttrs_list slot hty hm ho ha hbase hfew hline hs hplain) fun σ H Q h => mut_read hr h
theorem de_mut0 (slot : Slot "list" nm id) (hty : typeOf (.builtin id) = pure (.type "method_descriptor")) (hm : MtR X id r) (hr : MutR X.K r gm) (ho : PE X o (tVar i))
    (hbase : attributeBase o nm X.env (eval o X.env) = eval o X.env := by rfl) (hline : (apos.endLine == cpos.line) = true := by rfl) :
    PE X (.Call (.Attribute o nm apos) [] [] cpos) (tE X.K (dMut i gm aNil)) :=
  PE.imp (pe_bm0 PySem.F.plainAttrs_list slot hty hm ho hbase hline) fun σ H Q h => mut_read0 hr h
end
end
end DL
set_option Elab.async false
set_option linter.all false
set_option maxRecDepth 100000
set_option maxHeartbeats 1000000
/-! Rules: chains, stores into lists. -/
namespace DL
open PySem PySem.Spec PyProof.Rows L2
section
variable {X : Cx} {mg : Str → Option Value} {W : WX} {e a b c tg o : Expr} {es : List Expr} {pos p p2 : Pos} {fa fb fc fl : EL} {fe : EE}
/-! ### chains -/
theorem chain_read {g1 g2 : G2} {σ : L2.St} {H : Hp} {Q : VK} (h : tV X.K (dOfT (dChain g1 g2 fa fb fc)) σ H Q) : tChain (rD X.K g1) (rD X.K g2) (tL X.K fa) (tL X.K fb) (tL X.K fc) σ H Q := by
  obtain ⟨g, F, δ, d, δ', k, hf, q⟩ := h
  obtain ⟨cc, e0, rfl⟩ := dOfT_inv hf
  unfold dChain at e0
  split at e0
  · cases e0
  · rename_i x δ1 e1
    split at e0
    · cases e0
    · rename_i y δ2 e2
      split at e0
      · rename_i u v e3 e4
        refine ⟨g, F, δ, x, δ1, k, e1, fun v1 F1 H1 k1 s1 r1 => ⟨g, F1, δ1, y, δ2, k1, e2, fun v2 F2 H2 k2 s2 r2 => ?_⟩⟩
        have l1 := k2.late (RepL.mono s2 r1) e3
        have l2 := k2.late r2 e4
        split at e0
        · rename_i e5
          cases e0
          exact ⟨g, F2, σ, _, u, v, _, k2, l1, l2, e5, fun w F3 H3 k3 s3 r3 => ⟨false, Dr.unbool r3, iteF (q _ F3 H3 k3 ((s1.trans s2).trans s3) (.bl _))⟩⟩
        · rename_i e5
          refine ⟨g, F2, σ, δ2, u, v, _, k2, l1, l2, e5, fun w F3 H3 k3 s3 r3 => ⟨true, Dr.unbool r3, iteT ?_⟩⟩
          split at e0
          · cases e0
          · rename_i z δ3 e6
            refine ⟨g, F3, δ2, z, δ3, k3, e6, fun v4 F4 H4 k4 s4 r4 => ?_⟩
            split at e0
            · rename_i v' w' e7 e8
              split at e0
              · rename_i r e9
                cases e0
                exact ⟨g, F4, σ, _, v', w', _, k4, k4.late (RepL.mono (s3.trans s4) r2) e7, k4.late r4 e8, e9, fun w5 F5 H5 k5 s5 r5 => q w5 F5 H5 k5 ((((s1.trans s2).trans s3).trans s4).trans s5) r5⟩
              · cases e0
            · cases e0
        · cases e0
      · cases e0
theorem de_chain {op op' : CmpOp} {g1 g2 : G2} (ho : OpR X (compareOp op) (rD X.K g1)) (ho' : OpR X (compareOp op') (rD X.K g2)) (ha : PE X a (tL X.K fa)) (hb : PE X b (tL X.K fb)) (hc : PE X c (tL X.K fc))
    (hm : lastMarks [op, op'] [b, c] = false := by with_unfolding_all rfl) : PE X (.Compare a [op, op'] [b, c] pos) (tV X.K (dOfT (dChain g1 g2 fa fb fc))) :=
  PE.imp (pe_chain ho ho' ha hb hc hm) fun σ H Q h => chain_read h
theorem dt_chain {op op' : CmpOp} {g1 g2 : G2} (ho : OpR X (compareOp op) (rD X.K g1)) (ho' : OpR X (compareOp op') (rD X.K g2)) (ha : PE X a (tL X.K fa)) (hb : PE X b (tL X.K fb)) (hc : PE X c (tL X.K fc))
    (hm : lastMarks [op, op'] [b, c] = false := by with_unfolding_all rfl) : PT X (.Compare a [op, op'] [b, c] pos) (tT X.K (dChain g1 g2 fa fb fc)) :=
  PT.imp (pt_chain ho ho' ha hb hc hm) fun σ H Q ⟨g, F, δ, r, δ', k, hf, q⟩ => by
    refine chain_read ⟨g, F, δ, .bool r, δ', k, by unfold dOfT; rw [hf], fun v F' H' k' s' r' => ⟨r, Dr.unbool r', q F' H' k' s'⟩⟩
/-! ### stores -/
theorem ixN_of {n : Nat} {k : Int} (h0 : 0 ≤ k) (h1 : k < n) : ixN n k = some k.toNat := by
  unfold ixN
  rw [if_pos h0, if_pos h1]
theorem sSet_inv {i : Nat} {fi fv : EV} {δ : Sl} {o : Out} (h : sSet i fi fv δ = some o) : ∃ y δ0 k δ1 x b, fv δ = some (y, δ0) ∧ ¬ isLs δ0 i = false ∧ fi δ0 = some (.int k, δ1) ∧ δ1[i]? = some (some x) ∧ (x = .mt b ∨ x = .br b) ∧ 0 ≤ k ∧ k < b.length ∧ o = .nx (δ1.set i (some (x.put (b.set k.toNat y)))) := by
  unfold sSet at h
  split at h
  · cases h
  · rename_i y δ0 e1
    split at h
    · cases h
    · rename_i hz
      split at h
      · rename_i k δ1 e2
        split at h
        · rename_i b e3
          split at h
          · rename_i hk
            cases h
            exact ⟨y, δ0, k, δ1, _, b, e1, hz, e2, e3, .inl rfl, hk.1, hk.2, rfl⟩
          · cases h
        · rename_i b e3
          split at h
          · rename_i hk
            cases h
            exact ⟨y, δ0, k, δ1, _, b, e1, hz, e2, e3, .inr rfl, hk.1, hk.2, rfl⟩
          · cases h
        · cases h
      · cases h
/-- x[i] = v -/
theorem ds_set {i : Nat} {ei : Expr} {fi fv : EV} {tpos : Pos} (ho : PE X o (tVar i)) (hi : PE X ei (tV X.K fi)) (he : PE X e (tV X.K fv))
    (ha : ∀ v, assign (.Subscript o ei tpos) X.env v = (do
      let ov ← holding [v] (eval o X.env)
      let iv ← holding [v, ov] (eval ei X.env)
      standAt tpos
      holding [v, ov, iv] (setItem ov iv v)
      release [v, ov, iv] []) := by intro _; rfl)
    (hs : swapsWithSole [.Subscript o ei tpos] e pos.line X.env = pure false := by rfl) (hw : swappedStores [.Subscript o ei tpos] e X.env = pure none := by rfl)
    (h1 : (assignEach [.Subscript o ei tpos] X.env).map (·.2) = [assign (.Subscript o ei tpos) X.env] := by rfl) : PS X (.Assign [.Subscript o ei tpos] e pos) (tS X.K mg W (sSet i fi fv)) :=
  PS.imp (ps_asg he (pg_sub ho hi set_list ha) hs hw h1) fun D σ H ⟨g, F, δ, oo, k, hf, q⟩ => by
    obtain ⟨y, δ0, kk, δ1, x, b, e1, hz, e2, e3, hx, h0, hlt, rfl⟩ := sSet_inv hf
    refine ⟨g, F, δ, y, δ0, k, e1, fun v F1 H1 k1 s1 r1 => ?_⟩
    obtain ⟨z0, b0, ez, hzz⟩ := isLs_of hz
    obtain ⟨l0, vs0, ev0, hl0, _, _⟩ := k1.cell ez hzz
    refine ⟨.ref l0, ev0, g, F1, δ0, .int kk, δ1, k1, e2, fun w F2 H2 k2 s2 r2 => ?_⟩
    obtain ⟨l, vs, ev, hl, zl, hb⟩ := k2.cell e3 hx
    rw [ev0] at ev
    cases ev
    refine ⟨l0, vs, kk, kk.toNat, rfl, Dr.unint r2, hl, ixN_of h0 (by rw [hb.length]; exact hlt), ?_⟩
    exact q σ F2 _ (k2.changed e3 hx ev0 (by rw [List.length_set]; exact zl) (hb.set _ (Dr.mono s2 _ _ r1))) (s1.trans s2)
/-- a list item, by values -/
def rGetL (K : PySem.W.Frag) : V → V → Hp → VK → Prop := fun o i H Q => ∃ p xs k v, o = .ref p ∧ i = .int k ∧ SqL K H p xs ∧ atI xs k = some v ∧ Q v H
end
end DL
set_option Elab.async false
set_option linter.all false
set_option maxRecDepth 100000
set_option maxHeartbeats 1000000
/-! Rules: slices with a step; more. -/
namespace DL
open PySem PySem.Spec PyProof.Rows L2
section
variable {prog : Program} {w : World} {A : Around} {E : Value → Shared → Prop} {s : Shared}
theorem applied_step {sl : Addr} {vl : Value} {t : Tok} {lo : Option Int} {k : Int} {n : Nat} {Q : Int × Int × Nat → Shared → Prop} (hk : 0 < k) (hs : s.heap.IsSliceOf sl vl .none (.int k t)) (pl : IsPart vl lo)
    (q : Q (((HT.sIx n 0 lo : Nat) : Int), k, Builtin.Slice.slicePlaces ((HT.sIx n 0 lo : Nat) : Int) (n : Int) k) s) : wpAny (model prog w) A (Builtin.Slice.sliceApplied (.ref sl) (pure (n : Int))) Q E s := by
  obtain ⟨o, h1, h2, h3⟩ := id hs
  unfold Builtin.Slice.sliceApplied Builtin.Slice.sliceFields
  refine wpAny_bind (wpAny_bind (wpAny_field h1 h3 (x := vl) rfl (wpAny_bind (wpAny_field h1 h3 (x := .none) rfl (wpAny_bind (wpAny_field h1 h3 (x := .int k t) rfl (wpAny_pure ?_)))))))
  refine wpAny_bind (HT.slicePart_ (.int k t) ?_)
  have k0 : ¬ ((k == 0) = true) := by
    intro z
    have z := eq_of_beq z
    omega
  show wpAny _ _ (if (k == 0) = true then _ else _) _ _ s
  rw [if_neg k0]
  refine wpAny_bind (HT.slicePart_ pl (wpAny_bind (HT.slicePart_ .none (wpAny_bind (wpAny_pure ?_)))))
  have ad : Builtin.Slice.sliceAdjust lo none k (n : Int) = (((HT.sIx n 0 lo : Nat) : Int), (n : Int)) := by
    have kn : ¬ k < 0 := by omega
    unfold Builtin.Slice.sliceAdjust
    simp only [kn, if_false]
    refine Prod.ext ?_ rfl
    cases lo with
    | none => rfl
    | some v => exact HT.clip_eq v n 0
  show wpAny _ _ (match Builtin.Slice.sliceAdjust lo none k (n : Int) with | (a, b) => pure (a, k, Builtin.Slice.slicePlaces a b k)) _ _ s
  rw [ad]
  exact wpAny_pure q
theorem fm_range {α : Type} (f : Nat → Option α) {p n : Nat} (hp : p ≤ n) (h : ∀ m, p ≤ m → f m = none) : (List.range n).filterMap f = (List.range p).filterMap f := by
  obtain ⟨d, rfl⟩ : ∃ d, n = p + d := ⟨n - p, by omega⟩
  rw [List.range_add, List.filterMap_append]
  have e : ((List.range d).map fun x => p + x).filterMap f = [] := by
    rw [List.filterMap_eq_nil_iff]
    intro a ha
    obtain ⟨x, _, rfl⟩ := List.mem_map.mp ha
    exact h _ (Nat.le_add_right _ _)
  rw [e, List.append_nil]
theorem places_le {a n : Nat} {k : Int} (hk : 0 < k) : Builtin.Slice.slicePlaces (a : Int) (n : Int) k ≤ n ∧ ∀ m : Nat, Builtin.Slice.slicePlaces (a : Int) (n : Int) k ≤ m → n ≤ a + m * k.toNat := by
  obtain ⟨j, rfl⟩ : ∃ j : Nat, k = j := ⟨k.toNat, by omega⟩
  have hj : 0 < j := by omega
  unfold Builtin.Slice.slicePlaces
  rw [if_pos hk]
  by_cases h : (a : Int) < (n : Int)
  · rw [if_pos h]
    have e : (n : Int) - (a : Int) - 1 = ((n - a - 1 : Nat) : Int) := by omega
    have e2 : (((n - a - 1 : Nat) : Int) / (j : Int) + 1).toNat = (n - a - 1) / j + 1 := by
      have : ((n - a - 1 : Nat) : Int) / (j : Int) = (((n - a - 1) / j : Nat) : Int) := rfl
      rw [this]
      exact Int.toNat_natCast ((n - a - 1) / j + 1)
    rw [e, e2, Int.toNat_natCast]
    have d1 := Nat.div_le_self (n - a - 1) j
    refine ⟨by omega, fun m hm => ?_⟩
    have d2 : n - a - 1 < (m) * j := by
      have d3 := Nat.div_add_mod (n - a - 1) j
      have d4 := Nat.mod_lt (n - a - 1) hj
      have d5 : ((n - a - 1) / j + 1) * j ≤ m * j := Nat.mul_le_mul_right j hm
      rw [Nat.add_mul, Nat.one_mul, Nat.mul_comm] at d5
      omega
    omega
  · rw [if_neg h]
    exact ⟨Nat.zero_le _, fun m _ => by omega⟩
theorem tup_step {t sl : Addr} {its : Array Value} {vl : Value} {tk : Tok} {lo : Option Int} {k : Int} {Q : Value → Shared → Prop} (ht : IsTup s.heap t its) (hk : 2 ≤ k) (hs : s.heap.IsSliceOf sl vl .none (.int k tk)) (pl : IsPart vl lo)
    (q : Q (.ref s.heap.objs.size) { s with heap := s.heap.push { cls := .type "tuple", data := .seq ((List.range its.size).filterMap fun m => its.toList[HT.sIx its.size 0 lo + m * k.toNat]?).toArray } }) (hsz : its.size ≤ sizeLine) :
    wpAny (model prog w) A (getItem (.ref t) (.ref sl)) Q E s := by
  obtain ⟨h1, h2⟩ := @places_le (HT.sIx its.size 0 lo) its.size k (by omega)
  have e : (List.range (Builtin.Slice.slicePlaces ((HT.sIx its.size 0 lo : Nat) : Int) (its.size : Int) k)).filterMap (fun (m : Nat) => its[(((HT.sIx its.size 0 lo : Nat) : Int) + (m : Int) * k).toNat]?) = (List.range its.size).filterMap fun m => its.toList[HT.sIx its.size 0 lo + m * k.toNat]? := by
    have e1 : (fun (m : Nat) => its[(((HT.sIx its.size 0 lo : Nat) : Int) + (m : Int) * k).toNat]?) = fun m => its.toList[HT.sIx its.size 0 lo + m * k.toNat]? := by
      funext m
      have : (((HT.sIx its.size 0 lo : Nat) : Int) + (m : Int) * k).toNat = HT.sIx its.size 0 lo + m * k.toNat := by
        obtain ⟨j, rfl⟩ : ∃ j : Nat, k = j := ⟨k.toNat, by omega⟩
        have : (m : Int) * (j : Int) = ((m * j : Nat) : Int) := rfl
        rw [this, Int.toNat_natCast]
        omega
      rw [this, Array.getElem?_toList]
    rw [e1]
    exact (fm_range _ h1 fun m hm => List.getElem?_eq_none (by rw [Array.length_toList]; exact h2 m hm)).symm
  have zk : sizeOk (.seq ((List.range its.size).filterMap fun m => its.toList[HT.sIx its.size 0 lo + m * k.toNat]?).toArray) := by
    show ((List.range its.size).filterMap fun m => its.toList[HT.sIx its.size 0 lo + m * k.toNat]?).toArray.size ≤ sizeLine
    rw [List.size_toArray]
    exact Nat.le_trans (List.length_filterMap_le _ _) (by rw [List.length_range]; exact hsz)
  obtain ⟨o, g1, g2, g3⟩ := id hs
  have ty : s.TypeIs (.ref sl) "slice" := ⟨o, g1, g2⟩
  unfold getItem
  try with_reducible refine wpAny_holding ?_
  first | refine wpAny_bind (wpAny_pure ?_) | skip
  refine wpAny_bind (wpAny_sequenceKey ht.typeIs (by decide) ?_)
  refine wpAny_bind (wpAny_callSpecial?_slot (name := Str.ofString "__getitem__") ht.typeIs PyProof.Rows.slot_tuple_getitem (wpAny_call_entry PyProof.Rows.slot_tuple_getitem ht.typeIs PyProof.Rows.entry_tuple_getitem ?_ (PyProof.Rows.args_tuple_getitem _ _)))
  show wpAny _ _ (Builtin.Tuple.tupleItemsOf (.ref t) >>= _) _ _ s
  refine wpAny_bind (PyProof.Rows.tupleItemsOf_ ht ?_)
  refine wpAny_bind (wpAny_typeOf ty ?_)
  rw [if_pos (by decide)]
  refine wpAny_bind (applied_step (by omega) hs pl ?_)
  have no : ¬ ((((HT.sIx its.size 0 lo : Nat) : Int) == 0 && k == 1 && Builtin.Slice.slicePlaces ((HT.sIx its.size 0 lo : Nat) : Int) (its.size : Int) k == its.size) = true) := by
    intro z
    rw [Bool.and_eq_true, Bool.and_eq_true] at z
    have := eq_of_beq z.1.2
    omega
  show wpAny _ _ (if (((HT.sIx its.size 0 lo : Nat) : Int) == 0 && k == 1 && Builtin.Slice.slicePlaces ((HT.sIx its.size 0 lo : Nat) : Int) (its.size : Int) k == its.size) = true then _ else _) _ _ s
  rw [if_neg no, e]
  first
    | exact wpAny_bind (m := Builtin.Tuple.tupleExact _) (wpAny_newObj_type (wpAny_pure ⟨_, rfl, wpAny_pure q⟩) zk)
    | exact wpAny_bind (m := Builtin.Tuple.tupleExact _) (wpAny_newObj_type (wpAny_bind (wpAny_pure (wpAny_pure ⟨_, rfl, wpAny_pure q⟩))) zk)
    | exact wpAny_bind (wpAny_bind (m := Builtin.Tuple.tupleExact _) (wpAny_newObj_type (wpAny_pure (wpAny_pure ⟨_, rfl, wpAny_pure q⟩)) zk))
    | exact wpAny_bind (wpAny_bind (m := Builtin.Tuple.tupleExact _) (wpAny_newObj_type (wpAny_pure ⟨_, rfl, wpAny_pure q⟩) zk))
end
theorem DrAll.pick {K : PySem.W.Frag} {F : Hp} {vs : List V} {ds : List D} (h : DrAll K F vs ds) (f : Nat → Nat) : ∀ l : List Nat, DrAll K F (l.filterMap fun m => vs[f m]?) (l.filterMap fun m => ds[f m]?)
  | [] => .nil
  | m :: l => by
    have hl := h.length
    by_cases hm : f m < ds.length
    · obtain ⟨v, e1, r⟩ := h.get' (List.getElem?_eq_getElem hm)
      rw [List.filterMap_cons_some (f := fun m => vs[f m]?) e1, List.filterMap_cons_some (f := fun m => ds[f m]?) (List.getElem?_eq_getElem hm)]
      exact .cons r (DrAll.pick h f l)
    · rw [List.filterMap_cons_none (f := fun m => vs[f m]?) (List.getElem?_eq_none (by omega)), List.filterMap_cons_none (f := fun m => ds[f m]?) (List.getElem?_eq_none (by omega))]
      exact DrAll.pick h f l
theorem valsPick {vs : List V} {us : List Value} (h : Vals vs us) (f : Nat → Nat) : ∀ l : List Nat, Vals (l.filterMap fun m => vs[f m]?) (l.filterMap fun m => us[f m]?)
  | [] => .nil
  | m :: l => by
    have hl := h.length
    by_cases hm : f m < vs.length
    · obtain ⟨u, e1, r⟩ := h.get (List.getElem?_eq_getElem hm)
      rw [List.filterMap_cons_some (f := fun m => vs[f m]?) (List.getElem?_eq_getElem hm), List.filterMap_cons_some (f := fun m => us[f m]?) e1]
      exact .cons r (valsPick h f l)
    · rw [List.filterMap_cons_none (f := fun m => vs[f m]?) (List.getElem?_eq_none (by omega)), List.filterMap_cons_none (f := fun m => us[f m]?) (List.getElem?_eq_none (by omega))]
      exact valsPick h f l
section
variable {X : Cx} {mg : Str → Option Value} {W : WX} {e a b c tg o st : Expr} {es : List Expr} {pos p p2 : Pos} {fa fb fc fl fs : EL} {fe : EE} {fo : EO} {lo : Option Expr}
def tStep (K : PySem.W.Frag) (te : TE) (tl : TO) (ts : TO) : TE := fun σ H Q => te σ H fun x H1 => tl σ H1 fun l H2 => ts σ H2 fun z H3 => ∃ k a xs, z = some k ∧ 2 ≤ k ∧ x = .ref a ∧ SqT K H3 a xs ∧
  ∀ p o, H3 p = none → TupO o → Q (.ref p) (upd H3 p (.frz o (.tup ((List.range xs.length).filterMap fun m => xs[HT.sIx xs.length 0 l + m * k.toNat]?))))
theorem pe_step {te : TE} {tl ts : TO} (he : PE X e te) (hl : PO X lo tl) (hst : PO X (some st) ts) : PE X (.Subscript e (.Slice lo none (some st) p2) pos) (tStep X.K te tl ts) := by
  refine ⟨fun pins s σ H Q I h => ?_⟩
  refine Subscript_ (thn (he.run pins s σ H _ I h) fun v s1 ⟨x, H1, I1, r1, q1⟩ => ?_)
  refine wpAny_Slice (thn (hl.run pins s1 σ H1 _ I1 q1) fun vl s2 ⟨l, H2, I2, pl, q2⟩ => ?_)
  refine thn (po_none.run pins s2 σ H2 (fun o H3 => o = none ∧ H3 = H2) I2 ⟨rfl, rfl⟩) fun vu s3 ⟨u, H3, I3, pu, eu, e3⟩ => ?_
  subst eu e3
  refine thn (hst.run pins s3 σ H3 _ I3 q2) fun vs s4 ⟨z, H4, I4, ps, k, a, xs, ez, hk, ex, hx, q⟩ => ?_
  subst ez ex
  cases r1
  cases pu
  cases ps with
  | int _ tk =>
    have I5 : Inv X pins σ H4 { s4 with heap := s4.heap.push { cls := .type "slice", data := .fields #[vl, .none, .int k tk] } } := I4.kept (t' := s4.toks) fun b ob q => Heap.get?_push_of_some _ q
    obtain ⟨its, r, ht, hz⟩ := I5.tuple hx
    have hlen : its.toArray.size = xs.length := by rw [List.size_toArray]; exact r.length.symm
    refine tail_any (ops := [.ref a, .ref s4.heap.objs.size]) ht.typeIs PyProof.Rows.slot_tuple_getitem.lookup ?_ (by with_unfolding_all rfl)
    refine tup_step ht hk (Heap.IsSliceOf.new ..) pl ?_ (by rw [hlen]; exact hz)
    rw [hlen]
    exact new_tup I5 (fun _ _ e => e) (valsPick r (fun m => HT.sIx xs.length 0 l + m * k.toNat) _) (Nat.le_trans (List.length_filterMap_le _ _) (by rw [List.length_range]; exact hz)) q
theorem de_step (ha : PE X a (tL X.K fa)) (hl : PO X lo (tO X.K fo)) (hs : PE X st (tL X.K fs)) : PE X (.Subscript a (.Slice lo none (some st) p2) pos) (tV X.K (dStep fa fo fs)) :=
  PE.imp (pe_step ha hl (do_some hs)) fun σ H Q ⟨g, F, δ, r, δ', k, hf, q⟩ => by
    unfold dStep at hf
    split at hf
    · cases hf
    · rename_i x δ1 e1
      split at hf
      · cases hf
      · rename_i l δ2 e2
        split at hf
        · cases hf
        · rename_i y δ3 e3
          split at hf
          · rename_i ds kk e4 e5
            split at hf
            · rename_i hk
              cases hf
              refine ⟨g, F, δ, x, δ1, k, e1, fun v F1 H1 k1 s1 r1 => ⟨g, F1, δ1, l, δ2, k1, e2, fun F2 H2 k2 s2 => ⟨g, F2, δ2, some kk, _, k2, by unfold oSome; rw [e3]; dsimp only; rw [e5], fun F3 H3 k3 s3 => ?_⟩⟩⟩
              have r3 := RepL.mono (s2.trans s3) r1
              obtain ⟨a, xs, rfl, h1, h2, h3⟩ := (k3.late r3 e4).untup
              refine ⟨kk, a, xs, rfl, hk, rfl, h1.sqt k3.sub, fun p o hp ho => ?_⟩
              have z : ((List.range xs.length).filterMap fun m => xs[HT.sIx xs.length 0 l + m * kk.toNat]?).length ≤ sizeLine := Nat.le_trans (List.length_filterMap_le _ _) (by rw [List.length_range]; exact h2)
              refine q _ _ _ (k3.laid hp) (((s1.trans s2).trans s3).trans (same_new (k3.noneF hp))) (.tup ⟨o, ho, upd_same⟩ z (DrAll.mono (same_new (k3.noneF hp)) _ _ ?_))
              unfold stepD
              rw [h3.length]
              exact h3.pick _ _
            · cases hf
          · cases hf
end
end DL
set_option Elab.async false
set_option linter.all false
set_option maxRecDepth 100000
set_option maxHeartbeats 1000000
/-! Rules: is True; ranges as tuples and lists; three at once. -/
namespace DL
open PySem PySem.Spec PyProof.Rows L2
section
variable {X : Cx} {mg : Str → Option Value} {W : WX} {e a b c tg o st : Expr} {es : List Expr} {pos p p2 p3 : Pos} {fa fb fc fl fs : EL} {fe : EE} {f : EAL} {fi : EI}
theorem od_isB : OpR X (compareOp .Is) (rD X.K gIsB) := OpR.imp op_isBl fun x y H Q ⟨g, F, σ, δ, u, v, r, k, hx, hy, hr, q⟩ => by
  unfold gIsB at hr
  split at hr
  · rename_i a b
    cases hr
    obtain rfl := hx.unbool
    obtain rfl := hy.unbool
    refine ⟨a, b, rfl, rfl, ?_⟩
    have e : (a == b) = decide (a = b) := by cases a <;> cases b <;> rfl
    rw [e] at q
    exact q.fz k (.bl _)
  · cases hr
/-! ### range(..) as an object -/
theorem rgN_eq (i j c : Int) (hc : c ≠ 0) : Builtin.Range.rangeSize i j c = (rgN i j c : Nat) := by
  unfold rgN Builtin.Range.rangeSize
  have hp : 0 ≤ (if c > 0 then (if i < j then (j - i - 1) / c + 1 else 0) else (if i > j then (i - j - 1) / (-c) + 1 else 0)) := by
    by_cases h : c > 0
    · rw [if_pos h]
      by_cases h2 : i < j
      · rw [if_pos h2]
        have := Int.ediv_nonneg (show 0 ≤ j - i - 1 by omega) (show 0 ≤ c by omega)
        omega
      · rw [if_neg h2]
        exact Int.le_refl _
    · rw [if_neg h]
      by_cases h2 : i > j
      · rw [if_pos h2]
        have := Int.ediv_nonneg (show 0 ≤ i - j - 1 by omega) (show 0 ≤ -c by omega)
        omega
      · rw [if_neg h2]
        exact Int.le_refl _
  omega
theorem rgN_le (i j c : Int) (hc : c ≠ 0) (h : -RLIM ≤ i ∧ i ≤ RLIM ∧ -RLIM ≤ j ∧ j ≤ RLIM) : (rgN i j c : Int) ≤ 8388608 := by
  rw [← rgN_eq i j c hc]
  unfold RLIM at h
  unfold Builtin.Range.rangeSize
  by_cases h1 : c > 0
  · rw [if_pos h1]
    by_cases h2 : i < j
    · rw [if_pos h2]
      have := Int.ediv_le_self (a := j - i - 1) c (by omega)
      omega
    · rw [if_neg h2]
      decide
  · rw [if_neg h1]
    by_cases h2 : i > j
    · rw [if_pos h2]
      have := Int.ediv_le_self (a := i - j - 1) (-c) (by omega)
      omega
    · rw [if_neg h2]
      decide
theorem small_3 {i j c : Int} (hc : c ≠ 0) (h0 : -RLIM ≤ c ∧ c ≤ RLIM) (h : -RLIM ≤ i ∧ i ≤ RLIM ∧ -RLIM ≤ j ∧ j ≤ RLIM) : Builtin.Range.small i j c = true := by
  have hl := rgN_le i j c hc h
  unfold RLIM at h h0
  unfold Builtin.Range.small
  rw [rgN_eq i j c hc]
  have h1 := Int.natCast_nonneg (rgN i j c)
  by_cases h2 : c > 0
  · simp only [Builtin.Range.rangeFitsLong, Bool.and_eq_true, Bool.or_eq_true, decide_eq_true_eq, beq_iff_eq, h2, if_true]
    omega
  · simp only [Builtin.Range.rangeFitsLong, Bool.and_eq_true, Bool.or_eq_true, decide_eq_true_eq, beq_iff_eq, h2, if_false]
    omega
/-- an expression that makes a range -/
def PRc (X : Cx) (e : Expr) (f : EI) : Prop := ∀ (pins : List (Addr × Obj)) (s : Shared) (σ : L2.St) (H : Hp) (g : Gh) (F : Hp) (δ : Sl) (ds : List D) (δ' : Sl), Inv X pins σ H s → Ok X.K g F H σ δ → f δ = some (ds, δ') →
  wpAny (model X.prog X.w) X.A (eval e X.env) (fun x s' => ∃ r i j c t u v n H' F', x = .ref r ∧ IsRange s'.heap r i j c t u v ∧ Builtin.Range.small i j c = true ∧ Builtin.Range.rangeSize i j c = (n : Nat) ∧ Inv X pins σ H' s' ∧ Ok X.K g F' H' σ δ' ∧ Same F F' ∧ ds = rangeCD i c n) X.xe s
theorem rangeC_one (lo : Int) (n : Nat) : rangeD lo n = rangeCD lo 1 n := by
  unfold rangeD rangeCD
  refine List.map_congr_left fun m _ => ?_
  rw [Int.mul_one]
theorem prc_1 (hg : Gl X "range") (hm : X.mg "range" = none) (ha : PE X a (tL X.K fa)) (na : starEach [a] X.env = (false, eval a X.env) :: starEach [] X.env := by rfl) : PRc X (.Call (.Name "range" p) [a] [] pos) (dRange1 (lCons fa lNil)) := by
  intro pins s σ H g F δ ds δ' I k hf
  unfold dRange1 at hf
  split at hf
  · cases hf
  · rename_i xs δ1 e1
    unfold lCons lNil at e1
    split at e1
    · cases e1
    · rename_i x δ2 e0
      cases e1
      split at hf
      · rename_i n e2
        split at hf
        · rename_i hn
          cases hf
          have e3 : x.get δ' = some (.int n) := by
            unfold getAll getAll at e2
            split at e2
            · rename_i d ds hd hds
              cases hds
              cases e2
              exact hd
            · cases e2
          refine thn (prg_1 hg hm ha na pins s σ H (fun lo hi H' => lo = 0 ∧ hi = n ∧ ∃ F', Ok X.K g F' H' σ δ' ∧ Same F F') I ⟨g, F, δ, x, δ', k, e0, fun v F' H' k' s' r' => ⟨n, (k'.late r' e3).unint, rfl, rfl, F', k', s'⟩⟩) fun x s1 ⟨r, lo, hi, t, u, v, H1, ex, hr, I1, e4, e5, F', k', s'⟩ => ?_
          subst e4 e5
          unfold two62 at hn
          exact ⟨r, 0, hi, 1, t, u, v, hi.toNat, H1, F', ex, hr, small_one (by omega) (by omega) (by omega) (by omega), by rw [rangeSize_nat, Int.sub_zero], I1, k', s', rangeC_one 0 hi.toNat⟩
        · cases hf
      · cases hf
theorem getAll3 {δ : Sl} {x y z : LV} {u v w : D} (h : getAll δ [x, y, z] = some [u, v, w]) : x.get δ = some u ∧ y.get δ = some v ∧ z.get δ = some w := by
  unfold getAll at h
  split at h
  · rename_i d ds h1 h2
    cases h
    unfold getAll at h2
    split at h2
    · rename_i d2 ds2 h3 h4
      cases h2
      unfold getAll at h4
      split at h4
      · rename_i d3 ds3 h5 h6
        cases h4
        exact ⟨h1, h3, h5⟩
      · cases h4
    · cases h2
  · cases h
theorem prc_3 (hg : Gl X "range") (hm : X.mg "range" = none) (ha : PA X [a, b, c] (tAL X.K f))
    (hs : starEach [a, b, c] X.env = (false, eval a X.env) :: starEach [b, c] X.env := by rfl) (hpl : (backTo pos (starEach [b, c] X.env)).any (·.1) = false := by rfl) : PRc X (.Call (.Name "range" p) [a, b, c] [] pos) (dRange3 f) := by
  intro pins s σ H g F δ ds δ' I k hf
  unfold dRange3 at hf
  split at hf
  · cases hf
  · rename_i xs δ1 e1
    split at hf
    · rename_i i j cc e2
      split at hf
      · rename_i hn
        cases hf
        obtain ⟨hc, h1, h2, h3, h4, h5, h6⟩ := hn
        refine Call_ (ld_blt I hg hm boot_range (PyProof.Rows.callWith_type1 (thn (ha.run pos pins s σ H (fun vs H' => vs = [.int i, .int j, .int cc] ∧ ∃ F', Ok X.K g F' H' σ δ' ∧ Same F F') I ⟨g, F, δ, xs, δ', k, e1, fun vs F' H' k' s' r' => ⟨?_, F', k', s'⟩⟩) fun us s1 ⟨vs, H1, I1, r1, ev, F', k', s'⟩ => ?_) hs hpl))
        · have dl := getAll_ok k' r' e2
          cases dl with
          | cons a1 t1 =>
            cases t1 with
            | cons a2 t2 =>
              cases t2 with
              | cons a3 t3 =>
                cases t3
                rw [a1.unint, a2.unint, a3.unint]
        · subst ev
          cases r1 with
          | cons q1 t1 =>
            cases t1 with
            | cons q2 t2 =>
              cases t2 with
              | cons q3 t3 =>
                cases t3
                obtain ⟨t, rfl⟩ := q1
                obtain ⟨u, rfl⟩ := q2
                obtain ⟨v, rfl⟩ := q3
                refine call_range_3 hc ?_ (.inl (PyProof.noPylong_small (by unfold RLIM at h1 h2; omega)))
                exact ⟨_, i, j, cc, t, u, v, rgN i j cc, H1, F', rfl, IsRange.new _ _ _ _ _ _ _, small_3 hc ⟨h1, h2⟩ ⟨h3, h4, h5, h6⟩, rgN_eq i j cc hc, I1.kept fun b o e => Heap.get?_push_of_some _ e, k', s', rfl⟩
      · cases hf
    · cases hf
/-- the ints of a range as values -/
def rgC (i c : Int) (n : Nat) : List V := (List.range n).map fun m => V.int (i + (m : Nat) * c)
theorem vals_rgC {i c : Int} {n : Nat} {acc : Array Value} (h : ItemsOf (fun m v => ∃ t, v = .int (i + m * c) t) acc n) : Vals (rgC i c n) acc.toList := by
  have e : acc.toList.length = n := by rw [Array.length_toList]; exact h.1
  unfold rgC
  rw [← e]
  refine vals_of_get acc.toList _ fun j u hj => ?_
  obtain ⟨t, rfl⟩ := h.2 j u (by rw [← hj, Array.getElem?_toList])
  exact ⟨t, rfl⟩
theorem dr_rgC {K : PySem.W.Frag} {F : Hp} (i c : Int) (n : Nat) : DrAll K F (rgC i c n) (rangeCD i c n) := by
  unfold rgC rangeCD
  generalize List.range n = l
  induction l with
  | nil => exact .nil
  | cons m l ih => exact .cons (.int _) ih
theorem rgC_len (i c : Int) (n : Nat) : (rgC i c n).length = n := by
  unfold rgC
  rw [List.length_map, List.length_range]
theorem de_tupR (hc : X.calm = true) (hg : Gl X "tuple") (hm : X.mg "tuple" = none) (he : PRc X e fi) (na : starEach [e] X.env = (false, eval e X.env) :: starEach [] X.env := by rfl) : PE X (.Call (.Name "tuple" p) [e] [] pos) (tV X.K (dTupI fi)) := by
  refine ⟨fun pins s σ H Q I ⟨g, F, δ, d, δ', k, hf, q⟩ => ?_⟩
  unfold dTupI at hf
  split at hf
  · cases hf
  · rename_i ds δ1 e1
    split at hf
    · rename_i hz
      cases hf
      refine Call_ (ld_blt I hg hm boot_tuple (PyProof.Rows.callWith_type1 (args_cons (thn (he pins s σ H g F δ ds _ I k e1) fun x s1 ⟨r, i, j, c, t, u, v, n, H1, F1, ex, hr, sm, sz, I1, k1, s1', ed⟩ => args_nil ?_) na) na))
      subst ex ed
      have hn : n ≤ LIM := by
        unfold rangeCD at hz
        rw [List.length_map, List.length_range] at hz
        exact hz
      refine call_tuple_range (n := n) (I1.ok.hd hc) hr sm sz hn fun h' tk acc hk hi => ?_
      have I2 : Inv X pins σ H1 { s1 with heap := h', toks := tk } := I1.kept hk
      have e : acc = acc.toList.toArray := by simp
      rw [e]
      exact new_tup I2 (fun _ _ e => e) (vals_rgC hi) (by rw [rgC_len]; exact lim_le hn) fun p o hp ho =>
        q _ _ _ (k1.laid hp) (s1'.trans (same_new (k1.noneF hp))) (.tup ⟨o, ho, upd_same⟩ (by rw [rgC_len]; exact lim_le hn) (dr_rgC i c n))
    · cases hf
theorem de_lstR (hc : X.calm = true) (hg : Gl X "list") (hm : X.mg "list" = none) (he : PRc X e fi) (na : starEach [e] X.env = (false, eval e X.env) :: starEach [] X.env := by rfl) : PE X (.Call (.Name "list" p) [e] [] pos) (tE X.K (dLstI fi)) := by
  refine ⟨fun pins s σ H Q I ⟨g, F, δ, d, δ', k, hf, q⟩ => ?_⟩
  unfold dLstI at hf
  split at hf
  · cases hf
  · rename_i ds δ1 e1
    split at hf
    · rename_i hz
      cases hf
      refine Call_ (ld_blt I hg hm boot_list (PyProof.Rows.callWith_type1 (args_cons (thn (he pins s σ H g F δ ds _ I k e1) fun x s1 ⟨r, i, j, c, t, u, v, n, H1, F1, ex, hr, sm, sz, I1, k1, s1', ed⟩ => args_nil ?_) na) na))
      subst ex ed
      have hn : n ≤ LIM := by
        unfold rangeCD at hz
        rw [List.length_map, List.length_range] at hz
        exact hz
      refine call_list_range (n := n) (I1.ok.hd hc) hr sm sz hn fun h' tk acc c' hk e' hi => ?_
      have zz : (rgC i c n).length ≤ sizeLine := by rw [rgC_len]; exact lim_le hn
      have hp := I1.hok.fresh (Nat.le_refl _)
      refine ⟨.ref s1.heap.objs.size, upd H1 s1.heap.objs.size (.lst (rgC i c n)), I1.laid hk (Nat.le_refl _) (show ObjOk X.prog X.w _ _ _ (.lst (rgC i c n)) from ⟨zz, acc.toList, c', vals_rgC hi, ?_⟩), rfl, q _ _ _ (k1.push hp) s1' (k1.newMt hp zz (dr_rgC i c n))⟩
      rw [Array.toArray_toList]
      exact e'
    · cases hf
/-! ### a, b, c = x, y, z -/
theorem ds_par3 {i j l : Nat} {x y z : Str} {f : EA} {px py pz pt : Pos} {kt k2 pt2} (hc : X.calm = true) (hN : X.N.Nodup) (hi : X.N[i]? = some x) (hj : X.N[j]? = some y) (hl : X.N[l]? = some z) (hij : i ≠ j) (hil : i ≠ l) (hjl : j ≠ l)
    (hx : X.env.scope.names.lookup x = some .local) (hy : X.env.scope.names.lookup y = some .local) (hz : X.env.scope.names.lookup z = some .local) (ha : PA X [a, b, c] (tA X.K f))
    (hw : swappedStores [.Tuple [.Name x px, .Name y py, .Name z pz] kt pt] (.Tuple [a, b, c] k2 pt2) X.env = pure (some [x, y, z]))
    (hs : swapsWithSole [.Tuple [.Name x px, .Name y py, .Name z pz] kt pt] (.Tuple [a, b, c] k2 pt2) pos.line X.env = pure false := by rfl) :
    PS X (.Assign [.Tuple [.Name x px, .Name y py, .Name z pz] kt pt] (.Tuple [a, b, c] k2 pt2) pos) (tS X.K mg W (sPar3 i j l f)) :=
  PS.imp (ps_par3 hc hN hi hj hl hij hil hjl hx hy hz ha hw hs) fun D σ H ⟨g, F, δ, oo, k, hf, q⟩ => by
    unfold sPar3 at hf
    split at hf
    · rename_i u v w δ3 e1
      split at hf
      · rename_i hb
        cases hf
        rw [Bool.and_eq_true, Bool.and_eq_true] at hb
        refine ⟨g, F, δ, [u, v, w], δ3, k, e1, fun vs F' H' k' s' r' => ?_⟩
        cases r' with
        | cons r1 t1 =>
          cases t1 with
          | cons r2 t2 =>
            cases t2 with
            | cons r3 t3 =>
              cases t3
              refine ⟨_, _, _, rfl, q _ F' H' ?_ s'⟩
              have k1 := k'.store (i := i) (x := .fz u) (notBr_ne hb.1.1) r1
              have k2 := k1.store (i := j) (x := .fz v) (fun ds e => by
                rw [List.getElem?_set_ne hij] at e
                exact notBr_ne hb.1.2 ds e) r2
              exact k2.store (i := l) (x := .fz w) (fun ds e => by
                rw [List.getElem?_set_ne hjl, List.getElem?_set_ne hil] at e
                exact notBr_ne hb.2 ds e) r3
      · cases hf
    · cases hf
end
end DL
set_option Elab.async false
set_option linter.all false
set_option maxRecDepth 100000
set_option maxHeartbeats 1000000
/-! Rules: try. -/
namespace DL
open PySem PySem.Spec PyProof.Rows L2
section
variable {X : Cx} {mg : Str → Option Value} {W : WX} {e a b c tg o st : Expr} {es : List Expr} {pos p p2 p3 : Pos} {i : Nat}
theorem cd_int : CallR X (.type "int") (cD X.K gInt) := CallR.imp call_int1 fun xs H Q ⟨g, F, σ, δ, us, r, k, hx, hr, q⟩ => by
  unfold gInt at hr
  split at hr
  · rename_i i
    cases hr
    obtain ⟨v, rfl, h1⟩ := unDl1 hx
    obtain rfl := h1.unint
    exact .inl ⟨i, rfl, q.fz k (.int _)⟩
  · rename_i b
    cases hr
    obtain ⟨v, rfl, h1⟩ := unDl1 hx
    obtain rfl := h1.unbool
    exact .inr ⟨b, rfl, q.fz k (.int _)⟩
  · cases hr
/-! ### an except suite: what it returns hangs on the class alone -/
def tK (i : Nat) (ea : Addr) (v : V) : TE := fun σ H Q => σ[i]? = some (some (.ref ea)) ∧ Q v H
def tKS (i : Nat) (ea : Addr) (v : V) : TS := fun D σ H => σ[i]? = some (some (.ref ea)) ∧ D.rt v H
variable {ea : Addr}
theorem pk_str {x : Str} {j : Nat} : PE X (.Constant (.str x) j pos) (tK i ea (.str x)) := PE.imp pe_str fun σ H Q h => h.2
theorem pk_non {j : Nat} : PE X (.Constant .none j pos) (tK i ea .non) := PE.imp pe_non fun σ H Q h => h.2
theorem pk_int {i' : Int} {j : Nat} : PE X (.Constant (.int i') j pos) (tK i ea (.int i')) := PE.imp pe_int fun σ H Q h => h.2
theorem pk_ret {v : V} (h : PE X e (tK i ea v)) : PSs X [.Return (some e) pos] (tKS i ea v) := PSs.imp (pss_one (ps_ret h)) fun D σ H h => h
theorem pk_add {x y : Str} (ha : PE X a (tK i ea (.str x))) (hb : PE X b (tK i ea (.str y))) (hz : x.length + y.length ≤ LIM := by decide) : PE X (.BinOp a .Add b pos) (tK i ea (.str (x ++ y))) :=
  PE.imp (pe_op op_add_str ha hb) fun σ H Q h => ⟨h.1, h.1, x, y, rfl, rfl, lim_le hz, h.2⟩
theorem op_mulB : OpR X (binaryOp .Mult) (fun x y H Q => ∃ (s : Str) (k : Bool), x = .str s ∧ y = .int (if k then 1 else 0) ∧ Q (.str (if k then s else Str.empty)) H) := fun pins s σ H x y v u Q I rx ry ⟨z, k, ex, ey, q⟩ => by
  subst ex ey
  obtain ⟨t, rfl⟩ := rx
  obtain ⟨t', rfl⟩ := ry
  cases k with
  | false => exact PySem.P.mul_str_none (by decide) (by decide) ⟨.str Str.empty, H, I.tok _, ⟨_, rfl⟩, q⟩
  | true =>
    refine PySem.P.mul_str (by decide) (fun _ h => by cases h) (fun _ h => by cases h) ?_
    exact ⟨.str z, H, I, ⟨_, rfl⟩, q⟩
theorem pk_mul {x : Str} {k : Bool} (ha : PE X a (tK i ea (.str x))) (hb : PE X b (tK i ea (.int (if k then 1 else 0)))) : PE X (.BinOp a .Mult b pos) (tK i ea (.str (if k then x else Str.empty))) :=
  PE.imp (pe_op op_mulB ha hb) fun σ H Q h => ⟨h.1, h.1, x, k, rfl, rfl, h.2⟩
theorem pk_toInt {k : Bool} (ha : PE X a (tK i ea (.bl k))) (hm : X.mg "int" = none) (hg : Gl X "int" := by rfl) (hs : starEach [a] X.env = (false, eval a X.env) :: starEach [] X.env := by rfl) (hpl : (backTo pos (starEach [] X.env)).any (·.1) = false := by rfl) :
    PE X (.Call (.Name "int" p) [a] [] pos) (tK i ea (.int (if k then 1 else 0))) :=
  PE.imp (pe_callTy call_int1 hg hm (by decide +kernel) (pa_cons ha pa_nil hs) (by decide) (by decide) hs hpl) fun σ H Q h => ⟨h.1, .inr ⟨k, rfl, h.2⟩⟩
theorem pk_if {k : Bool} {v w : V} (hc : PE X c (tK i ea (.bl k))) (ha : PE X a (tK i ea v)) (hb : PE X b (tK i ea w)) (he : ∀ whole, isTrue c X.env whole = (do let v ← whole; standAt c.pos; holding [v] (truthy v)) := by intro _; rfl) : PE X (.IfExp c a b pos) (tK i ea (if k then v else w)) :=
  PE.imp (pe_ifExp (pt_val hc he) ha hb) fun σ H Q h => ⟨h.1, k, rfl, by
    cases k with
    | true => exact iteT ⟨h.1, h.2⟩
    | false => exact iteF ⟨h.1, h.2⟩⟩
theorem pk_if' {k : Bool} {x y : Str} (hc : PE X c (tK i ea (.bl k))) (ha : PE X a (tK i ea (.str x))) (hb : PE X b (tK i ea (.str y))) (he : ∀ whole, isTrue c X.env whole = (do let v ← whole; standAt c.pos; holding [v] (truthy v)) := by intro _; rfl) : PE X (.IfExp c a b pos) (tK i ea (.str (if k then x else y))) :=
  PE.imp (pk_if hc ha hb he) fun σ H Q h => ⟨h.1, by cases k <;> exact h.2⟩
/-- what is asked of each class that may come -/
structure ExT (K : PySem.W.Frag) (mg : Str → Option Value) (base : Str) (cl : List Str) : Prop where
  g : ∀ q ∈ base :: cl, mg q = some (.ref (He.ga K q))
  c : ∀ q ∈ cl, ExcC K (He.ga K q)
  m : ∀ q ∈ cl, PySem.W.exmOne K (.ref (He.ga K q)) (.ref (He.ga K base)) = some true
  k : ∀ q ∈ cl, ∀ z ∈ cl, PySem.W.kitOne K (.ref (He.ga K q)) (.ref (He.ga K z)) = some (q == z)
/-- isinstance(e, z) in the suite -/
theorem pk_is {base : Str} {cl : List Str} {q z : Str} {oe : Obj} {pn : List (Addr × Obj)} {p1 : Pos} (T : ExT X.K X.mg base cl) (hq : q ∈ cl) (hz' : z ∈ cl) (hz : Zc (.ref (He.ga X.K q)) none oe) (hf : ∃ vs, oe.data = .fields vs) (he : PE (X.suite ea ((ea, oe) :: pn)) e (tVar i)) (hm : X.mg "isinstance" = none) (hg : Gl X "isinstance" := by rfl) (hgz : Gl X z := by rfl) (hdz : (z == ("__debug__" : Str)) = false := by decide)
    (s1 : starEach [e, .Name z p2] X.env = (false, eval e X.env) :: starEach [.Name z p2] X.env := by rfl) (s2 : starEach [.Name z p2] X.env = (false, eval (.Name z p2) X.env) :: starEach [] X.env := by rfl) (hpl : (backTo pos (starEach [.Name z p2] X.env)).any (·.1) = false := by rfl) :
    PE (X.suite ea ((ea, oe) :: pn)) (.Call (.Name "isinstance" p1) [e, .Name z p2] [] pos) (tK i ea (.bl (q == z))) :=
  PE.imp (pe_callB (X := X.suite ea ((ea, oe) :: pn)) (call_isE (T.c q hq) hz hf) hg hm (by decide +kernel) (pa_cons he (pa_cons (pe_glob (X := X.suite ea ((ea, oe) :: pn)) (v := .ref (He.ga X.K z)) hgz (T.g z (List.mem_cons_of_mem _ hz')) rfl hdz) pa_nil s2) s1) (by decide) (by decide) s1 hpl) fun σ H Q h =>
    ⟨.ref ea, h.1, .ref (He.ga X.K z), .ref (He.ga X.K z), _, rfl, fun u hu => hu, T.k q hq z hz', h.2⟩
theorem Ok.forget {K : PySem.W.Frag} {g : Gh} {F H : Hp} {σ : L2.St} {δ : Sl} (k : Ok K g F H σ δ) (hb : notBr δ i = true) (v : Option V) : Ok K g F H (σ.set i v) (δ.set i none) := by
  have look : ∀ {j : Nat} {x : DV}, (δ.set i none)[j]? = some (some x) → j ≠ i ∧ δ[j]? = some (some x) := fun {j x} e => by
    by_cases hj : i = j
    · subst hj
      by_cases hi : i < δ.length
      · rw [List.getElem?_set_self hi] at e
        cases e
      · rw [List.getElem?_eq_none (by simpa using hi)] at e
        cases e
    · rw [List.getElem?_set_ne hj] at e
      exact ⟨fun z => hj z.symm, e⟩
  refine ⟨k.sub, k.ext, k.frm, k.new, k.b0, by rw [List.length_set, List.length_set, k.len], fun j dv e => ?_, fun a b da db ea eb hne => ?_, fun j ds e => k.br0 j ds (look e).2, fun l hl => ?_⟩
  · obtain ⟨h1, h2⟩ := look e
    rw [List.getElem?_set_ne (fun z => h1 z.symm)]
    exact k.rep j dv h2
  · obtain ⟨h1, h2⟩ := look ea
    obtain ⟨h3, h4⟩ := look eb
    rw [List.getElem?_set_ne (fun z => h1 z.symm), List.getElem?_set_ne (fun z => h3 z.symm)]
    exact k.dis a b da db h2 h4 hne
  · obtain ⟨ds, e⟩ := k.brB l hl
    refine ⟨ds, ?_⟩
    rw [List.getElem?_set_ne fun z => ?_]
    · exact e
    · subst z
      exact notBr_ne hb ds e
theorem ds_try {base n : Str} {cl : List Str} {fb : SM} {h : Str → D} {body suite : List Stmt} {b₀ : Stmt} {np pos' : Pos} (T : ExT X.K X.mg base cl) (hmg : mg = X.mg) (hN : X.N.Nodup) (hi : X.N[i]? = some n) (hln : X.env.kindOf n = some .local) (hgb : Gl X base := by rfl) (hdb : (base == ("__debug__" : Str)) = false := by decide)
    (hb : ∀ (W : WX) (pn : List (Addr × Obj)) (xe : Value → Shared → Prop), Takes (X.tr pn xe) W → PSs (X.tr pn xe) body (tS X.K mg W fb))
    (hsu : ∀ q ∈ cl, ∀ (a : Addr) (oe : Obj) (pn : List (Addr × Obj)), Zc (.ref (He.ga X.K q)) none oe → (∃ vs, oe.data = .fields vs) → ∃ v, PSs (X.suite a ((a, oe) :: pn)) (b₀ :: suite) (tKS i a v) ∧ ∀ F, Dr X.K F v (h q))
    (hs : X.stack = X.env :: X.outer := by rfl) (hf : X.env.frame = some X.env.locals := by rfl) :
    PS X (.Try body [.ExceptHandler (some (.Name base np)) (some n) (b₀ :: suite) pos'] [] [] pos) (tS X.K mg W (sTry cl i fb h)) := by
  subst hmg
  refine PS.imp (ps_try_as (i := i) (c := .ref (He.ga X.K base)) (tb := fun W => tS X.K X.mg W fb) (ts := fun a cls d D σ H => ∃ q, q ∈ cl ∧ cls = .ref (He.ga X.K q) ∧ d = none ∧ σ[i]? = some (some (.ref a)) ∧ ∀ v, (∀ F, Dr X.K F v (h q)) → D.rt v H) (Wout := fun _ _ _ _ => False)
    hs hf hN hi hln ⟨hgb, hdb, .inl (T.g base List.mem_cons_self)⟩ takes0 (fun W pn xe tk _ => hb W pn xe tk) fun a oe cls d pn hz hfl => ⟨fun pins s σ H D I hh => ?_⟩) fun D σ H ⟨g, F, δ, o, k, hfn, q⟩ => ?_
  · obtain ⟨q, hq, rfl, rfl, hσ, hh⟩ := hh
    obtain ⟨v, hP, hd⟩ := hsu q hq a oe pn hz hfl
    exact hP.run pins s σ H D I ⟨hσ, hh v hd⟩
  · unfold sTry at hfn
    split at hfn
    · rename_i c δ1 e1
      split at hfn
      · rename_i hc
        cases hfn
        refine ⟨g, F, δ, _, k, e1, fun C σ' F' H' hC k' s' => ⟨true, ?_, fun _ a ha => ⟨c, hc.2, ?_, rfl, ?_, fun v hv => ?_⟩, fun z => by cases z⟩⟩
        · have := T.g c (List.mem_cons_of_mem _ hc.2)
          rw [hC] at this
          cases this
          exact T.m c hc.2
        · have := T.g c (List.mem_cons_of_mem _ hc.2)
          rw [hC] at this
          cases this
          rfl
        · have hlt : i < σ'.length := by
            rw [k'.len]
            exact hc.1.2
          exact List.getElem?_set_self hlt
        · exact q v (σ'.set i (some (.ref a))) F' H' (k'.forget hc.1.1 (some (.ref a))) s' (hv F')
      · cases hfn
    · rename_i δ1 e1
      cases hfn
      exact ⟨g, F, δ, _, k, e1, q⟩
    · rename_i r δ1 e1
      cases hfn
      exact ⟨g, F, δ, _, k, e1, q⟩
    · cases hfn
end
end DL
set_option Elab.async false
set_option linter.all false
set_option maxRecDepth 100000
set_option maxHeartbeats 1000000
/-! Rules: chains of three; lists lengthened; items added to; count. -/
namespace DL
open PySem PySem.Spec PyProof.Rows L2
section
variable {X : Cx} {mg : Str → Option Value} {W : WX} {e a b c d tg o st : Expr} {es : List Expr} {pos p p2 p3 : Pos} {i : Nat} {fa fb fc fd fl : EL}
theorem linkD_inv {g : G2} {δ : Sl} {x y : LV} {r : Bool} (h : linkD g δ x y = some r) : ∃ u v, x.get δ = some u ∧ y.get δ = some v ∧ g u v = some (.fz (.bool r)) := by
  unfold linkD at h
  split at h
  · rename_i u v e1 e2
    split at h
    · rename_i b e3
      cases h
      exact ⟨u, v, e1, e2, e3⟩
    · cases h
  · cases h
def tCh3 (r1 r2 r3 : R2) (ta tb tc td : TE) : TT := fun σ H Q => ta σ H fun x H1 => tb σ H1 fun y H2 => r1 x y H2 fun z H3 => ∃ k, z = .bl k ∧
  (if k = true then (tc σ H3 fun w H4 => r2 y w H4 fun z2 H5 => ∃ k2, z2 = .bl k2 ∧ (if k2 = true then (td σ H5 fun v H6 => r3 w v H6 fun z3 H7 => ∃ k3, z3 = .bl k3 ∧ Q k3 H7) else Q false H5)) else Q false H3)
theorem pt_chain3 {o1 o2 o3 : CmpOp} {r1 r2 r3 : R2} {ta tb tc td : TE} (h1 : OpR X (compareOp o1) r1) (h2 : OpR X (compareOp o2) r2) (h3 : OpR X (compareOp o3) r3) (ha : PE X a ta) (hb : PE X b tb) (hc : PE X c tc) (hd : PE X d td)
    (hm : lastMarks [o1, o2, o3] [b, c, d] = false := by with_unfolding_all rfl) : PT X (.Compare a [o1, o2, o3] [b, c, d] pos) (tCh3 r1 r2 r3 ta tb tc td) := by
  refine ⟨fun pins s σ H Q I h => ?_⟩
  refine isTrue_chain (thn (ha.run pins s σ H _ I h) fun v1 s1 ⟨x, H1, I1, rx, q1⟩ => test_link (thn (hb.run pins s1 σ H1 _ I1 q1) fun v2 s2 ⟨y, H2, I2, ry, q2⟩ => thn (h1 pins s2 σ H2 x y v1 v2 _ I2 rx ry q2) fun d1 s3 ⟨z, H3, I3, rz, k, ek, q3⟩ => ?_)) hm
  subst ek
  cases rz
  refine wpAny_truthy_bool ?_
  cases k with
  | false => exact ite_ff ⟨H3, I3, q3⟩
  | true =>
    refine ite_tt (test_link (thn (hc.run pins s3 σ H3 _ I3 q3) fun v3 s4 ⟨w, H4, I4, rw', q4⟩ => thn (h2 pins s4 σ H4 y w v2 v3 _ I4 ry rw' q4) fun d2 s5 ⟨z2, H5, I5, rz2, k2, ek2, q5⟩ => ?_))
    subst ek2
    cases rz2
    refine wpAny_truthy_bool ?_
    cases k2 with
    | false => exact ite_ff ⟨H5, I5, q5⟩
    | true =>
      refine ite_tt (test_last (thn (hd.run pins s5 σ H5 _ I5 q5) fun v4 s6 ⟨v, H6, I6, rv, q6⟩ => thn (h3 pins s6 σ H6 w v v3 v4 _ I6 rw' rv q6) fun d3 s7 ⟨z3, H7, I7, rz3, k3, ek3, q7⟩ => ?_))
      subst ek3
      cases rz3
      exact wpAny_truthy_bool ⟨H7, I7, q7⟩
theorem dt_chain3 {o1 o2 o3 : CmpOp} {g1 g2 g3 : G2} (h1 : OpR X (compareOp o1) (rD X.K g1)) (h2 : OpR X (compareOp o2) (rD X.K g2)) (h3 : OpR X (compareOp o3) (rD X.K g3)) (ha : PE X a (tL X.K fa)) (hb : PE X b (tL X.K fb)) (hc : PE X c (tL X.K fc)) (hd : PE X d (tL X.K fd))
    (hm : lastMarks [o1, o2, o3] [b, c, d] = false := by with_unfolding_all rfl) : PT X (.Compare a [o1, o2, o3] [b, c, d] pos) (tT X.K (dChain3 g1 g2 g3 fa fb fc fd)) :=
  PT.imp (pt_chain3 h1 h2 h3 ha hb hc hd hm) fun σ H Q ⟨g, F, δ, r, δ', k, hf, q⟩ => by
    unfold dChain3 at hf
    split at hf
    · cases hf
    · rename_i x δ1 e1
      split at hf
      · cases hf
      · rename_i y δ2 e2
        refine ⟨g, F, δ, x, δ1, k, e1, fun v1 F1 H1 k1 s1 r1 => ⟨g, F1, δ1, y, δ2, k1, e2, fun v2 F2 H2 k2 s2 r2 => ?_⟩⟩
        split at hf
        · rename_i e3
          cases hf
          obtain ⟨u, v, g1', g2', g3'⟩ := linkD_inv e3
          exact ⟨g, F2, σ, _, u, v, _, k2, k2.late (RepL.mono s2 r1) g1', k2.late r2 g2', g3', fun w F3 H3 k3 s3 r3 => ⟨false, Dr.unbool r3, iteF (q F3 H3 k3 ((s1.trans s2).trans s3))⟩⟩
        · rename_i e3
          obtain ⟨u, v, g1', g2', g3'⟩ := linkD_inv e3
          refine ⟨g, F2, σ, _, u, v, _, k2, k2.late (RepL.mono s2 r1) g1', k2.late r2 g2', g3', fun w F3 H3 k3 s3 r3 => ⟨true, Dr.unbool r3, iteT ?_⟩⟩
          split at hf
          · cases hf
          · rename_i z δ3 e4
            refine ⟨g, F3, δ2, z, δ3, k3, e4, fun v4 F4 H4 k4 s4 r4 => ?_⟩
            split at hf
            · rename_i e5
              cases hf
              obtain ⟨u', v', f1, f2, f3⟩ := linkD_inv e5
              exact ⟨g, F4, σ, _, u', v', _, k4, k4.late (RepL.mono (s3.trans s4) r2) f1, k4.late r4 f2, f3, fun w5 F5 H5 k5 s5 r5 => ⟨false, Dr.unbool r5, iteF (q F5 H5 k5 ((((s1.trans s2).trans s3).trans s4).trans s5))⟩⟩
            · rename_i e5
              obtain ⟨u', v', f1, f2, f3⟩ := linkD_inv e5
              refine ⟨g, F4, σ, _, u', v', _, k4, k4.late (RepL.mono (s3.trans s4) r2) f1, k4.late r4 f2, f3, fun w5 F5 H5 k5 s5 r5 => ⟨true, Dr.unbool r5, iteT ?_⟩⟩
              split at hf
              · cases hf
              · rename_i w' δ4 e6
                refine ⟨g, F5, δ3, w', δ4, k5, e6, fun v6 F6 H6 k6 s6 r6 => ?_⟩
                split at hf
                · rename_i e7
                  cases hf
                  obtain ⟨u2, v2, m1, m2, m3⟩ := linkD_inv e7
                  exact ⟨g, F6, σ, _, u2, v2, _, k6, k6.late (RepL.mono (s5.trans s6) r4) m1, k6.late r6 m2, m3, fun w7 F7 H7 k7 s7 r7 => ⟨_, Dr.unbool r7, q F7 H7 k7 ((((((s1.trans s2).trans s3).trans s4).trans s5).trans s6).trans s7)⟩⟩
                · cases hf
            · cases hf
        · cases hf
/-! ### x += a list -/
theorem sExt_inv {fe : EE} {δ : Sl} {oo : Out} (h : sExt i fe δ = some oo) : ¬ isLs δ i = false ∧ ∃ r δ1 ds x b, fe δ = some (r, δ1) ∧ (∀ z, r ≠ .br z) ∧ r.dat = .list ds ∧ δ1[i]? = some (some x) ∧ (x = .mt b ∨ x = .br b) ∧ b.length + ds.length ≤ LIM ∧ oo = .nx (δ1.set i (some (x.put (b ++ ds)))) := by
  unfold sExt at h
  split at h
  · cases h
  · rename_i hz
    refine ⟨hz, ?_⟩
    split at h
    · cases h
    · rename_i r δ1 e1
      split at h
      · cases h
      · rename_i r' hr
        split at h
        · rename_i ds e2
          split at h
          · rename_i b e3
            split at h
            · rename_i hl
              cases h
              exact ⟨_, δ1, ds, _, b, e1, fun z ez => hr z ez, e2, e3, .inl rfl, hl, rfl⟩
            · cases h
          · rename_i b e3
            split at h
            · rename_i hl
              cases h
              exact ⟨_, δ1, ds, _, b, e1, fun z ez => hr z ez, e2, e3, .inr rfl, hl, rfl⟩
            · cases h
          · cases h
        · cases h
theorem ds_ext {x : Str} {pos' : Pos} {fe : EE} (hN : X.N.Nodup) (hi : X.N[i]? = some x) (hx : Loc X.env.scope x) (he : PE X e (tE X.K fe))
    (hf : X.fn x = true ∨ X.env.scope.names.lookup x = some .local := by first | exact .inl rfl | exact .inr rfl | assumption) : PS X (.AugAssign (.Name x pos') .Add e pos) (tS X.K mg W (sExt i fe)) :=
  PS.imp (ps_aug hN hi hx he iop_ext hf) fun D σ H ⟨g, F, δ, oo, k, hfn, q⟩ => by
    obtain ⟨hz, r, δ1, ds, x, b, e1, hr, e2, e3, hx, hl, rfl⟩ := sExt_inv hfn
    obtain ⟨z0, b0, ez, hzz⟩ := isLs_of hz
    obtain ⟨l0, vs0, ev0, hl0, _, _⟩ := k.cell ez hzz
    refine ⟨.ref l0, ev0, g, F, δ, r, δ1, k, e1, fun v F1 H1 k1 s1 r1 => ?_⟩
    obtain ⟨l, vs, ev, hH, zl, hb⟩ := k1.cell e3 hx
    rw [ev0] at ev
    cases ev
    obtain ⟨l2, ws, rfl, hw, hda⟩ : ∃ l2 ws, v = .ref l2 ∧ H1 l2 = some (.lst ws) ∧ DrAll X.K F1 ws ds := by
      cases r with
      | fz dd =>
        have e2 : dd = .list ds := e2
        subst e2
        obtain ⟨a, xs, rfl, h1, h2, h3⟩ := Dr.unlst r1
        exact ⟨a, xs, rfl, k1.sub _ _ h1, h3⟩
      | mt dd =>
        obtain ⟨a, rfl, ⟨h0, hF, xs, h1, h2, h3⟩, _⟩ := r1
        have e2 : PyData.list dd = .list ds := e2
        cases e2
        exact ⟨a, xs, rfl, h1, h3⟩
      | br dd => exact absurd rfl (hr dd)
      | ow c =>
        have e2 : PyData.dict c.kvs = .list ds := e2
        cases e2
    have zz : vs.length + ws.length ≤ sizeLine := by
      rw [hb.length, hda.length]
      exact lim_le hl
    refine ⟨l0, l2, vs, ws, rfl, rfl, hH, hw, zz, ?_⟩
    have same : σ.set i (some (.ref l0)) = σ := by
      have hlt := (List.getElem?_eq_some_iff.mp ev0).1
      apply List.ext_getElem?
      intro j
      by_cases hj : i = j
      · subst hj
        rw [List.getElem?_set_self hlt, ev0]
      · rw [List.getElem?_set_ne hj]
    show D.nx (σ.set i (some (.ref l0))) _
    rw [same]
    exact q σ F1 _ (k1.changed e3 hx ev0 (by rw [List.length_append]; exact zz) (hb.append hda)) s1
end
end DL
set_option Elab.async false
set_option linter.all false
set_option maxRecDepth 100000
set_option maxHeartbeats 3200000
/-! Rules: sorted(set(..)). -/
namespace L2
open PySem PySem.Spec PyProof.Rows
section
variable {P : Program} {w : World} {A : Around} {E : Value → Shared → Prop} {s : Shared}
abbrev emptySet (b : Bool) : Obj := { cls := .type "set", dict := none, data := .set #[] 0 (.fresh 0 0 b) }
/-- set(a list of ints): turned from the library's rule for a tuple -/
theorem call_set_listI {l : Addr} {items : Array Value} (ns : List Int) {Q : Value → Shared → Prop} (hh : A.handled = none) (hl : s.heap.IsList l items) (hit : IntsAre items.toList ns) (hb : ns.length + 1 < scanBound)
    (h : ∀ (h' : Heap) (tk c : Nat), SetR w h' s.heap.objs.size (fun j => decide (j ∈ ns)) c → c ≤ ns.length → (∀ b o, s.heap.get? b = some o → h'.get? b = some o) → Q (.ref s.heap.objs.size) { s with heap := h', toks := tk }) :
    wpAny (model P w) A (call (.type "set") [.ref l]) Q E s := by
  have hisz : items.size = ns.length := by
    have q := IntsAre.length hit
    rw [Array.length_toList] at q
    exact q
  obtain ⟨c, tl, hmro⟩ := F.called_set.mro
  have hmade := F.called_set.made
  have hsub := F.called_set.sub
  refine wpAny_call (codeAny_of_tree ?_)
  show wpAny _ _ (callAny (.type "set") _) _ _ _
  refine wpAny_pure ⟨Code.quiet_builtin _ (by decide +kernel), codeAny_builtin F.entry_type_call ?_⟩
  rw [Around.under_plain (weight_type_call_type "set" [.ref l] []) rfl]
  have h1 := F.called_set.notType
  have h2 := F.called_set.canCreate
  have hct := F.typeCall_set_1 (.ref l)
  repeat (any_goals (first | assumption | wp_step))
  generalize hbq : (!w.params.followText "set-order") = bq
  refine codeAny_mono (code_set_led1 (.ref l) (E := E) (Q₁ := fun obj s₁ => obj = .ref s.heap.objs.size ∧ s₁ = { s with heap := s.heap.push (emptySet bq) }) ⟨rfl, by rw [← hbq]⟩) fun r s₁ hr => ?_
  cases r with
  | error e => exact hr
  | ok fl =>
    cases fl with
    | ret obj =>
      obtain ⟨rfl, rfl⟩ := hr
      have hS : (s.heap.push (emptySet bq)).get? s.heap.objs.size = some (emptySet bq) := Heap.get?_push_size _ rfl
      have hT : Shared.TypeIs { s with heap := s.heap.push (emptySet bq) } (.ref s.heap.objs.size) "set" := ⟨_, hS, rfl⟩
      have hli := F.called_set.init.lookup
      have hbi := F.called_set.init.bind (.ref s.heap.objs.size)
      repeat (any_goals (first | assumption | wp_step))
      refine codeAny_mono (codeAny_call_builtin (R := wants (fun r s₂ => r = .none ∧ ∃ h' tk c, s₂ = { s with heap := h', toks := tk } ∧ SetR w h' s.heap.objs.size (fun j => decide (j ∈ ns)) c ∧ c ≤ ns.length ∧
          (∀ b o, s.heap.get? b = some o → h'.get? b = some o)) E) F.called_set.init.plain F.entry_set_init (check_set_init_1 hT ?_)) fun r₂ s₂ hr₂ => ?_
      · obtain ⟨ol, hol, hcl, nl, hdl⟩ := hl
        obtain ⟨ocls, odict, odata, oslots⟩ := ol
        simp only at hcl hdl
        subst hcl; subst hdl
        have hol' : (s.heap.push (emptySet bq)).get? l = some { cls := .type "list", dict := odict, data := .seq items nl, slots := oslots } := Heap.get?_push_of_some _ hol
        have hsls := F.sub_list_set
        have hslf := F.sub_list_frozenset
        have hne : (Value.type "list" == Value.type "dict") = false := by decide
        have hl1 : (s.heap.push (emptySet bq)).IsList l items := ⟨_, hol', rfl, nl, rfl⟩
        unfold Builtin.«set.__init__» noKeywords Builtin.Frozenset.updateFrom
        generalize hPI : pyIter = PI
        wp_walk
        subst hPI
        refine wpAny_pyIter_list hl1 ?_
        refine wpAny_bind (wpAny_runValue ?_)
        have hlS : l < s.heap.objs.size := Heap.lt_size hol
        have hh3 : A.in1.in1.in1.handled = none := by simp [hh]
        have hz1 : (s.heap.push (emptySet bq)).objs.size = s.heap.objs.size + 1 := Heap.size_push ..
        have hneI : l ≠ (s.heap.push (emptySet bq)).objs.size := by
          rw [hz1]; exact Nat.ne_of_lt (Nat.lt_succ_of_lt hlS)
        have hSf : s.heap.objs.size ∉ [(s.heap.push (emptySet bq)).objs.size, l] := by
          rw [hz1]; simp only [List.mem_cons, List.mem_singleton, List.not_mem_nil, or_false, not_or]
          exact ⟨Nat.ne_of_lt (Nat.lt_succ_self _), Nat.ne_of_gt hlS⟩
        have hval : ∀ (i : Nat) (v : Value), items[i]? = some v → ∃ k t, ns[i]? = some k ∧ v = .int k t := fun i v hv => by
          have hi : i < ns.length := by rw [← hisz]; exact (Array.getElem?_eq_some_iff.mp hv).1
          obtain ⟨t, e⟩ := PyProof.Rows.IntsAre.int_at hit i v (by rw [Array.getElem?_toList]; exact hv)
          refine ⟨ns[i], t, List.getElem?_eq_getElem hi, ?_⟩
          rw [e, List.getD_eq_getElem?_getD, List.getElem?_eq_getElem hi] <;> rfl
        refine set_update_ints ((Walks.list hh3 _ l hneI items).toS) s.heap.objs.size
          hSf ns hisz hb hval (items.size - 0) 0 _ (by omega) (Nat.zero_le _)
          ⟨⟨_, Heap.get?_push_size _ rfl, rfl, rfl⟩, (hl1.push _)⟩ ?hS0 ?hR
        case hS0 =>
          refine ⟨0, Nat.le_refl 0, setR_new_at ?_⟩
          rw [hbq]
          exact Heap.get?_push_of_some _ hS
        case hR =>
          intro s' c' hm hc' hS'
          obtain ⟨h', g2, d', tk', os'⟩ := s'
          have eg : g2 = s.gens := hm.gens
          have ed : d' = s.drawn := hm.drawn
          have eo : os' = s.os := hm.os
          subst eg; subst ed; subst eo
          refine wpAny_pure ?_
          rw [hisz] at hc'
          refine wpAny_pure ⟨rfl, h', tk', c', rfl, hS', hc', fun b o e => ?_⟩
          have hb0 : b < s.heap.objs.size := Heap.lt_size e
          refine hm.heap b o ?_ (Heap.get?_push_of_some _ (Heap.get?_push_of_some _ e))
          simp only [List.mem_cons, List.mem_singleton, List.not_mem_nil, or_false, not_or]
          rw [hz1]
          exact ⟨Nat.ne_of_lt hb0, Nat.ne_of_lt (Nat.lt_succ_of_lt hb0)⟩
      · cases r₂ with
        | error e => exact hr₂
        | ok fl₂ =>
          cases fl₂ with
          | ret r =>
            obtain ⟨rfl, h', tk, c', rfl, hS', hc', hk'⟩ := hr₂
            repeat (any_goals (first | assumption | wp_step))
            exact h _ _ _ hS' hc' hk'
          | _ => exact hr₂.elim
    | _ => exact hr.elim
end
section
variable {X : Cx}
def rSetI (K : PySem.W.Frag) (w : World) : List V → Hp → VK → Prop := fun xs H Q => ∃ (l : Addr) (ns : List Int), xs = [V.ref l] ∧ (SqL K H l (ns.map V.int) ∨ SqT K H l (ns.map V.int)) ∧ ns.length < 64 ∧
  ∀ p c, H p = none → c ≤ ns.length → Q (.ref p) (upd H p (SetO w p (fun j => decide (j ∈ ns)) c))
theorem cr_setI (hc : X.calm = true) : CallR X (.type "set") (rSetI X.K X.w) := by
  intro pins s σ H xs us Q I r ⟨l, ns, e, hl, hn, q⟩
  subst e
  rw [Vals.ref1 r]
  rcases hl with hl | hl
  · obtain ⟨its, rv, pl, hz⟩ := I.list hl
    exact call_set_listI ns (I.ok.hd hc) pl.isList (ints_of_vals rv) (by unfold scanBound; omega) fun h' tk c R1 hcn k =>
      ⟨.ref s.heap.objs.size, _, I.laid (t' := tk) k (Nat.le_refl _) (setO_new R1), rfl, q _ c (I.hok.fresh (Nat.le_refl _)) hcn⟩
  · obtain ⟨its, rv, pt, hz⟩ := I.tuple hl
    exact call_set_tupI ns (I.ok.hd hc) (show s.heap.IsTuple l its.toArray from pt) (ints_of_vals rv) (by unfold scanBound; omega) fun h' tk c R1 hcn k =>
      ⟨.ref s.heap.objs.size, _, I.laid (t' := tk) k (Nat.le_refl _) (setO_new R1), rfl, q _ c (I.hok.fresh (Nat.le_refl _)) hcn⟩
end
end L2
namespace DL
open PySem PySem.Spec PyProof.Rows L2
theorem once_mem {k : Int} : ∀ {ns : List Int}, k ∈ onceI ns ↔ k ∈ ns
  | [] => Iff.rfl
  | x :: xs => by
    unfold onceI
    by_cases h : x ∈ xs
    · rw [if_pos h, once_mem, List.mem_cons]
      exact ⟨.inr, fun e => by
        rcases e with e | e
        · rw [e]
          exact h
        · exact e⟩
    · rw [if_neg h, List.mem_cons, List.mem_cons, once_mem]
theorem once_nodup : ∀ ns : List Int, (onceI ns).Nodup
  | [] => List.nodup_nil
  | x :: xs => by
    unfold onceI
    by_cases h : x ∈ xs
    · rw [if_pos h]
      exact once_nodup xs
    · rw [if_neg h]
      exact List.nodup_cons.mpr ⟨fun e => h (once_mem.mp e), once_nodup xs⟩
theorem setI_mem {ns : List Int} {k : Int} : k ∈ setI ns ↔ k ∈ ns := by
  unfold setI
  rw [(sortI_perm _).mem_iff, once_mem]
theorem setI_nodup (ns : List Int) : (setI ns).Nodup := (sortI_perm _).nodup_iff.mpr (once_nodup ns)
theorem setI_eq {ns ms : List Int} (h1 : ms.Pairwise (· < ·)) (h2 : ∀ k, k ∈ ms ↔ decide (k ∈ ns) = true) : ms = setI ns := by
  have hn : ms.Nodup := h1.imp fun h => Int.ne_of_lt h
  have hp : ms.Perm (setI ns) := (List.perm_ext_iff_of_nodup hn (setI_nodup ns)).mpr fun k => by rw [h2, setI_mem, decide_eq_true_eq]
  have hs : (setI ns).Pairwise (· ≤ ·) := by
    unfold setI sortI
    refine (List.pairwise_mergeSort ?_ ?_ _).imp fun h => of_decide_eq_true h
    · intro a b c h1 h2
      have h1 := of_decide_eq_true h1
      have h2 := of_decide_eq_true h2
      exact decide_eq_true (by omega)
    · intro a b
      rw [Bool.or_eq_true, decide_eq_true_eq, decide_eq_true_eq]
      omega
  exact List.Perm.eq_of_pairwise (fun a b _ _ h1 h2 => Int.le_antisymm h1 h2) (h1.imp fun h => Int.le_of_lt h) hs hp
section
variable {X : Cx} {e : Expr} {pos p p2 pos2 : Pos} {fa : EAL}
theorem de_sortSet (hcm : X.calm = true) (hg : Gl X "sorted") (hm : X.mg "sorted" = none) (hg2 : Gl X "set") (hm2 : X.mg "set" = none) (ha : PA X [e] (tAL X.K fa))
    (he : starEach [e] X.env = [(false, eval e X.env)] := by rfl) :
    PE X (.Call (.Name "sorted" p) [.Call (.Name "set" p2) [e] [] pos2] [] pos) (tE X.K (dCB gSortSet fa)) := by
  have h1 : PE X (.Call (.Name "set" p2) [e] [] pos2) _ := pe_callTy (cr_setI hcm) hg2 hm2 PyProof.Rows.boot_set ha (by decide) (by decide) he rfl
  have h2 := pe_callB (X := X) (p := p) (pos := pos) (cr_sortedSet hcm) hg hm (by decide +kernel) (pa_cons h1 pa_nil) (by decide) (by decide) rfl rfl
  refine PE.imp h2 fun σ H Q h => ?_
  obtain ⟨g, F, δ, ds, δ', k, hf, q⟩ := cb_read h
  refine ⟨g, F, δ, ds, δ', k, hf, fun vs F' H' k' s' r' => ?_⟩
  obtain ⟨g, F, σ', δ, us, r, k, hx, hr, q⟩ := q vs F' H' k' s' r'
  unfold gSortSet at hr
  split at hr
  · rename_i d
    split at hr
    · rename_i ds e1
      split at hr
      · rename_i ns e2
        split at hr
        · rename_i h64
          cases hr
          obtain ⟨v, rfl, r⟩ := unDl1 hx
          obtain ⟨a, ys, rfl, h1, h2, h3⟩ := r.items k e1
          have e3 := intsOf_inv e2
          subst e3
          have e4 := h3.ofInts
          subst e4
          refine ⟨a, ns, rfl, ?_, h64, fun p c hp hc => ⟨p, _, c, rfl, upd_same, by omega, fun ms p2 q1 q2 q3 hp2 => ?_⟩⟩
          · rcases h1 with ⟨_, h1⟩ | ⟨_, h1⟩
            · exact .inl (SqL.of h1)
            · exact .inr h1
          · have em := setI_eq q1 q2
            subst em
            exact q _ _ _ ((k.push hp).push hp2) (Same.refl F) ((k.push hp).newMt hp2 (by rw [List.length_map, q3, sizeLine_eq]; omega) (DrAll.ints _))
        · cases hr
      · cases hr
    · cases hr
  · cases hr
end
end DL
set_option Elab.async false
set_option linter.all false
set_option maxRecDepth 100000
set_option maxHeartbeats 3200000
/-! Lists of tuples of ints: sorted, max. -/
namespace PySem.W
open PySem PySem.SeqAt PySem.Calls PyProof.Rows
section
variable {prog : Program} {w : World} {A : Around} {E : Value → Shared → Prop} {s : Shared}
/-- tuples, as sorting compares keys of one type: turned from the library's case of lists -/
theorem oneLt_tupleD {xs ys : List PyData} {a b : Value} {as bs : List Addr} {Q : Bool → Shared → Prop} (ra : Reads s.heap a (.tuple xs) as) (rb : Reads s.heap b (.tuple ys) bs) (h : alike (.tuple xs) (.tuple ys) = true)
    (hu : A.units + min (PyData.tuple xs).depth (PyData.tuple ys).depth < cLine) (hq : Q (dataLt (.tuple xs) (.tuple ys)) s) : wpAny (model prog w) A (oneLt' true a b) Q E s := by
  have hal : alikeAll xs ys = true := by simpa [alike] using h
  cases ra with
  | @tuple l o vs n _ as₁ h1 h2 h3 h4 =>
    cases rb with
    | @tuple l' o' vs' n' _ bs₁ k1 k2 k3 k4 =>
      have n1 : vs.size = xs.length := by simpa using ReadsAll.length _ _ _ h4
      have n2 : vs'.size = ys.length := by simpa using ReadsAll.length _ _ _ k4
      rw [dataLt_tuple, ← firstLt_toks xs ys hal, ← n1, ← n2] at hq
      obtain ⟨cls, dd, data, sl⟩ := o
      obtain ⟨cls2, dd2, data2, sl2⟩ := o'
      simp only at h2 h3 k2 k3
      subst h2 h3 k2 k3
      rw [oneLt'_eq]
      simp only [if_true]
      refine wpAny_bind (wpAny_cRoomFor (room_here hu) ?_)
      refine wpAny_bind (wpAny_callSpecialIfBound?_slot (T := "tuple") ⟨_, h1, rfl⟩ F.slot_tuple_lt (call_meets F.slot_tuple_lt ⟨_, h1, rfl⟩ F.entry_tuple_lt (F.args_tuple_lt_2 _ _) (tuple_ltAt l l' vs vs' n n' dd dd2 sl sl2 (pairEq xs ys) (fun j => dataLt (xs.getD j .none) (ys.getD j .none))) ⟨h1, k1, fun j j1 j2 => ?_, fun j j1 j2 hj => ?_, ?_⟩))
      · have := eqAt_alikeAll xs ys A.in1 s vs.toList vs'.toList _ _ h4 k4 hal (room_in hu) j (by simpa using j1) (by simpa using j2)
        simpa using this
      · have := rcLt_alikeAll xs ys A.in1 s vs.toList vs'.toList _ _ h4 k4 hal (room_in hu) j (by simpa using j1) (by simpa using j2) hj
        simpa using this
      · exact wpAny_truthy_bool hq
theorem te_firsts {M : Model} : ∀ (vs : List Value) {Q : List (Option Value) → Shared → Prop}, (∀ v ∈ vs, ∃ d as, Reads s.heap v (.tuple d) as) → (∀ fs : List (Option Value), fs.length = vs.length → (∀ v as, vs[0]? = some v → Reads s.heap v (.tuple []) as → fs[0]? = some none) → Q fs s) → wpAny M A (vs.mapM firstOfTuple') Q E s
  | [], _, _, h => by rw [List.mapM_nil]; exact wpAny_pure (h [] rfl fun v as e => by cases e)
  | v :: vs, Q, ht, h => by
    obtain ⟨d, as, r⟩ := ht v List.mem_cons_self
    cases r with
    | @tuple a o xs n _ _ ho hc hd hr =>
      rw [List.mapM_cons]
      refine wpAny_bind ?_
      rw [kas_first_eq]
      refine wpAny_bind (Looks.here (show Looks M s.heap (typeOf (.ref a)) o.cls from (Looks.ld ho).andThen .now) ?_)
      rw [hc, if_neg (by first | decide | simp)]
      refine wpAny_bind (listItems_at ho hd (wpAny_pure ?_))
      refine wpAny_bind (te_firsts vs (Q := fun bs s' => wpAny M A (pure (xs[0]? :: bs)) Q E s') (fun v hv => ht v (List.mem_cons_of_mem _ hv)) fun fs hl _ => wpAny_pure (h (xs[0]? :: fs) (by simp [hl]) fun v' as' e r' => ?_))
      cases e
      cases r' with
      | @tuple a' o' xs' n' _ _ ho' hc' hd' hr' =>
        rw [ho] at ho'
        cases ho'
        rw [hd] at hd'
        cases hd'
        have : xs.toList = [] := by cases e : xs.toList with
          | nil => rfl
          | cons x l => rw [e] at hr'; cases hr'
        have : xs = #[] := by rw [← Array.toArray_toList (xs := xs), this]
        subst this
        rfl
theorem te_kind {M : Model} {vs : List Value} {Q : SortKind → Shared → Prop} (ht : ∀ v ∈ vs, ∃ d as, Reads s.heap v (.tuple d) as) (h0 : ∃ v as, vs[0]? = some v ∧ Reads s.heap v (.tuple []) as) (h : Q oneType' s) : wpAny M A (keyKind' vs.toArray) Q E s := by
  obtain ⟨v0, as0, e0, r0⟩ := h0
  rw [keyKind'_eq, List.mapM_toArray, map_eq_pure_bind]
  refine wpAny_bind (wpAny_bind (te_firsts vs ht fun fs hl hf => wpAny_pure ?_))
  have e1 := hf v0 as0 e0 r0
  cases fs with
  | nil => cases e1
  | cons f fr =>
    cases e1
    rw [if_neg (by simp), if_neg (by simp)]
    rw [oneTypeOnly'_eq, List.mapM_toArray, map_eq_pure_bind]
    refine wpAny_bind (wpAny_bind (wpAny_bind (kas_mapM (r := .type "tuple") _ (fun v hv Q' hq => ?_) (wpAny_pure ?_))))
    · obtain ⟨d, as, r⟩ := ht v hv
      exact (looks_reads r).here hq
    · cases vs with
      | nil => cases e0
      | cons v vs =>
        have hall : ((List.map (fun _ => Value.type "tuple") (v :: vs)).toArray.all fun x => x == Value.type "tuple") = true := by
          simp only [List.all_toArray, List.all_map, List.all_eq_true]
          intro _ _
          exact beq_self_eq_true _
        have h0 : (List.map (fun _ => Value.type "tuple") (v :: vs)).toArray[0]? = some (Value.type "tuple") := by simp
        rw [h0]
        simp only [hall, if_true]
        exact wpAny_pure (wpAny_pure h)
/-- tuples, the first of them empty -/
theorem SortsAt.data0 {vs : List Value} {ds : List PyData} (e : EachIs (fun v d => ∃ as, Reads s.heap v d as) vs ds) (hal : AllAlike ds) (ht : ∀ d, d ∈ ds → ∃ xs, d = .tuple xs) (h0 : ds[0]? = some (.tuple [])) (hu : ∀ d, d ∈ ds → A.units + d.depth < cLine) : SortsAt prog w A s (dataKind s.heap ds) vs := by
  refine ⟨fun v hv => ?_, oneType', ?_, fun h2 E Q hq => ?_⟩
  · obtain ⟨d, hd, as, r⟩ := e.left v hv
    exact ⟨_, dataKind_some hal hd r⟩
  · intro E x y a b Q ha hb hq
    obtain ⟨d, as, hd, ra, rfl⟩ := dataKind_inv ha
    obtain ⟨d', as', hd', rb, rfl⟩ := dataKind_inv hb
    have hh := hal d hd d' hd'
    have hu' : A.units + min d.depth d'.depth < cLine := Nat.lt_of_le_of_lt (Nat.add_le_add_left (Nat.min_le_left _ _) _) (hu d hd)
    obtain ⟨xs, rfl⟩ := ht d hd
    obtain ⟨ys, rfl⟩ := ht d' hd'
    rw [keyLt'_oneType]
    exact oneLt_tupleD ra rb hh hu' hq
  · refine te_kind (fun v hv => ?_) ?_ hq
    · obtain ⟨d, hd, as, r⟩ := e.left v hv
      obtain ⟨xs, rfl⟩ := ht d hd
      exact ⟨xs, as, r⟩
    · cases e with
      | nil => cases h0
      | cons r t =>
        cases h0
        obtain ⟨as, r⟩ := r
        exact ⟨_, as, rfl, r⟩
/-- sorted(xs), tuples, the first of them empty -/
theorem sorted_data0 {β : Type} {vs : List Value} {bs : List β} {enc : β → PyData} {R : Value → β → Prop} {l : Addr} {Q : Value → Shared → Prop} (hl : s.heap.IsList l vs.toArray) (e : EachIs R vs bs) (er : EachIs (fun v b => ∃ as, Reads s.heap v (enc b) as) vs bs) (hal : AllAlike (bs.map enc)) (ht : ∀ d, d ∈ bs.map enc → ∃ xs, d = .tuple xs) (h0 : (bs.map enc)[0]? = some (.tuple [])) (hL : bs.length ≤ sizeLine)
    (hu : ∀ b, b ∈ bs → A.units + 2 + (enc b).depth < cLine) (h : ∀ out, out.length = bs.length → EachIs R out (bs.mergeSort (dataLe false enc)) → Q (.ref (s.heap.objs.size + 1)) { s with heap := sortedAll s.heap vs (List.toArray out) }) :
    wpAny (model prog w) A (call (.builtin "sorted") [.ref l]) Q E s := by
  have er' : EachIs (fun v b => ∃ as, Reads (sortingHeap (copyHeap s.heap vs) (s.heap.objs.size + 1) vs) v (enc b) as) vs bs := er.mono fun _ _ ⟨as, r⟩ => ⟨as, PyProof.Rows.Reads.keeps (fun _ _ => sorting_copy_old) r⟩
  exact sorted_vals hl (SortsAt.data0 (s := { s with heap := sortingHeap (copyHeap s.heap vs) (s.heap.objs.size + 1) vs }) (each_map (R := fun v d => ∃ as, Reads (sortingHeap (copyHeap s.heap vs) (s.heap.objs.size + 1) vs) v d as) enc er') hal ht h0 (bound_map hu)) (by rw [e.length]; exact hL)
    (h _ (by rw [sortVals_length false rfl]; exact e.length) (sortVals_data false e er' hal))
/-- sorted(xs), tuples of ints -/
theorem sorted_tups {β : Type} {vs : List Value} {bs : List β} {x : β → List Int} {R : Value → β → Prop} {l : Addr} {Q : Value → Shared → Prop} (hl : s.heap.IsList l vs.toArray) (e : EachIs R vs bs) (er : EachIs (fun v b => ∃ as, Reads s.heap v (.tuple ((x b).map .int)) as) vs bs)
    (h0 : (∀ b ∈ bs, x b ≠ []) ∨ (bs.map x)[0]? = some []) (hL : bs.length ≤ sizeLine) (hu : A.units + 3 < cLine) (h : ∀ out, out.length = bs.length → EachIs R out (bs.mergeSort fun p q => decide (x p ≤ x q)) → Q (.ref (s.heap.objs.size + 1)) { s with heap := sortedAll s.heap vs (List.toArray out) }) :
    wpAny (model prog w) A (call (.builtin "sorted") [.ref l]) Q E s := by
  have hal : AllAlike (bs.map fun b => PyData.tuple ((x b).map .int)) := AllAlike.of fun b b' => by
    show alike (.tuple ((x b).map .int)) (.tuple ((x b').map .int)) = true
    rw [alike, alike_ints]
  have hle : dataLe false (fun b => PyData.tuple ((x b).map .int)) = fun p q => decide (x p ≤ x q) := dataLe_rows x
  have hd : ∀ b, b ∈ bs → A.units + 2 + (PyData.tuple ((x b).map .int)).depth < cLine := fun b _ => by
    simp only [PyData.depth, depth_ints]
    omega
  rw [← hle] at h
  rcases h0 with h0 | h0
  · refine sorted_data hl e er hal (.inl fun d hd => ?_) hL hd h
    obtain ⟨b, hb, rfl⟩ := List.mem_map.mp hd
    have := h0 b hb
    cases hx : x b with
    | nil => exact absurd hx this
    | cons i l => exact ⟨.int i, l.map .int, rfl⟩
  · refine sorted_data0 hl e er hal (fun d hd => ?_) ?_ hL hd h
    · obtain ⟨b, hb, rfl⟩ := List.mem_map.mp hd
      exact ⟨_, rfl⟩
    · rw [List.getElem?_map] at h0 ⊢
      cases hb : bs[0]? with
      | none => rw [hb] at h0; cases h0
      | some b =>
        rw [hb] at h0
        have : x b = [] := by simpa using h0
        simp [this]
end
end PySem.W
namespace DL
open PySem PySem.Spec PySem.W PySem.Calls PyProof.Rows L2
def tiD (l : List Int) : D := .tuple (l.map PyData.int)
theorem tupOf_inv {d : D} {l : List Int} (h : tupOf d = some l) : d = tiD l := by
  unfold tupOf at h
  split at h
  · rw [intsOf_inv h]
    rfl
  · cases h
theorem tupsOf_inv : ∀ {ds : List D} {ls : List (List Int)}, tupsOf ds = some ls → ds = ls.map tiD
  | [], ls, h => by
    cases h
    rfl
  | d :: ds, ls, h => by
    unfold tupsOf at h
    split at h
    · rename_i a b e1 e2
      cases h
      rw [tupOf_inv e1, tupsOf_inv e2]
      rfl
    · cases h
theorem lay_tiD (l : List Int) : (tiD l).canLay0 = true := by
  have : PyData.canLayAll0 (l.map PyData.int) = true := by
    induction l with
    | nil => rfl
    | cons x l ih => simp [PyData.canLayAll0, PyData.canLay0, ih]
  simpa [tiD, PyData.canLay0] using this
section
variable {X : Cx} {pins : List (Addr × Obj)} {s : Shared} {σ : L2.St} {H : Hp}
theorem each_rel {K : PySem.W.Frag} {F : Hp} : ∀ {ls : List (List Int)} {ys : List V} {its : List Value}, DrAll K F ys (ls.map tiD) → Vals ys its → EachIs (fun u (b : V × List Int) => RelV b.1 u) its (ys.zip ls)
  | [], _, _, h, r => by
    cases h
    cases r
    exact .nil
  | l :: ls, _, _, h, r => by
    cases h with
    | cons h1 h2 =>
      cases r with
      | cons r1 r2 => exact .cons r1 (each_rel h2 r2)
theorem each_reads (I : Inv X pins σ H s) {F : Hp} (sm : Same F H) : ∀ {ls : List (List Int)} {ys : List V} {its : List Value}, DrAll X.K F ys (ls.map tiD) → Vals ys its → EachIs (fun u (b : V × List Int) => ∃ as, Reads s.heap u (tiD b.2) as) its (ys.zip ls)
  | [], _, _, h, r => by
    cases h
    cases r
    exact .nil
  | l :: ls, _, _, h, r => by
    cases h with
    | cons h1 h2 =>
      cases r with
      | cons r1 r2 => exact .cons (Dp.reads I _ _ _ (Dr.dp _ _ (lay_tiD l) (Dr.mono sm _ _ h1)) r1) (each_reads I sm h2 r2)
theorem zip_dr {K : PySem.W.Frag} {F : Hp} : ∀ {ls : List (List Int)} {ys : List V}, DrAll K F ys (ls.map tiD) → (∀ b ∈ ys.zip ls, Dr K F b.1 (tiD b.2)) ∧ (ys.zip ls).map Prod.snd = ls ∧ ys.length = ls.length
  | [], _, h => by
    cases h
    exact ⟨(fun b hb => by cases hb), rfl, rfl⟩
  | l :: ls, _, h => by
    cases h with
    | cons h1 h2 =>
      obtain ⟨i1, i2, i3⟩ := zip_dr h2
      refine ⟨fun b hb => ?_, by simp [i2], by simp [i3]⟩
      rcases List.mem_cons.mp hb with e | e
      · rw [e]
        exact h1
      · exact i1 b e
theorem drAll_of {K : PySem.W.Frag} {F : Hp} : ∀ {bs : List (V × List Int)}, (∀ b ∈ bs, Dr K F b.1 (tiD b.2)) → DrAll K F (bs.map Prod.fst) (bs.map fun b => tiD b.2)
  | [], _ => .nil
  | b :: bs, h => .cons (h b List.mem_cons_self) (drAll_of fun c hc => h c (List.mem_cons_of_mem _ hc))
theorem vals_each {α : Type} {f : α → V} : ∀ {out : List Value} {bs : List α}, EachIs (fun u b => RelV (f b) u) out bs → Vals (bs.map f) out
  | _, _, .nil => .nil
  | _, _, .cons h t => .cons h (vals_each t)
theorem cd_sortT (hu : X.A.units + 64 < cLine) : CallR X (.builtin "sorted") (cD X.K gSortT) := by
  intro pins s σ H xs us Q I rx ⟨g, F, σ', δ, ds, r, k, hx, hr, q⟩
  unfold gSortT at hr
  split at hr
  · rename_i ds
    split at hr
    · rename_i ls e1
      split at hr
      · rename_i hok
        cases hr
        obtain ⟨v, rfl, r⟩ := unDl1 hx
        obtain ⟨a, ys, rfl, h1, h2, h3⟩ := r.items k rfl
        have e2 := tupsOf_inv e1
        subst e2
        rw [Vals.ref1 rx]
        rcases h1 with ⟨_, h1⟩ | ⟨z, _⟩
        · obtain ⟨its, rv, hl, hz⟩ := I.list (SqL.of h1)
          obtain ⟨z1, z2, z3⟩ := zip_dr h3
          have h0 : (∀ b ∈ ys.zip ls, b.2 ≠ []) ∨ ((ys.zip ls).map fun b => b.2)[0]? = some [] := by
            unfold okT at hok
            rw [Bool.or_eq_true] at hok
            rcases hok with hok | hok
            · refine .inl fun b hb e => ?_
              have hm : b.2 ∈ ls := by rw [← z2]; exact List.mem_map.mpr ⟨b, hb, rfl⟩
              have := List.all_eq_true.mp hok _ hm
              rw [e] at this
              cases this
            · refine .inr ?_
              have z2' : ((ys.zip ls).map fun b => b.2) = ls := z2
              rw [z2']
              split at hok
              · rfl
              · cases hok
          have zl : (ys.zip ls).length ≤ sizeLine := by
            rw [List.length_zip]
            omega
          refine sorted_tups (x := fun b : V × List Int => b.2) hl.isList (each_rel h3 rv) (each_reads I k.sub h3 rv) h0 zl (by omega) fun out ho he => ?_
          obtain ⟨ep, he'⟩ := PyProof.Rows.sortedAll_at s.heap its (List.toArray out)
          generalize hbs : ((ys.zip ls).mergeSort fun p q => decide (p.2 ≤ q.2)) = bs at *
          have hp : bs.Perm (ys.zip ls) := by rw [← hbs]; exact List.mergeSort_perm ..
          have hd := drAll_of fun b hb => z1 b (hp.mem_iff.mp hb)
          have hs : bs.map Prod.snd = sortT ls := by
            rw [← hbs, List.map_mergeSort (s := fun p q : List Int => decide (p ≤ q)) (fun _ _ _ _ => rfl), z2]
            rfl
          have hs2 : (bs.map fun b => tiD b.2) = (sortT ls).map fun l => .tuple (l.map PyData.int) := by
            rw [← hs, List.map_map]
            rfl
          rw [hs2] at hd
          have hlen : (bs.map Prod.fst).length ≤ sizeLine := by
            rw [List.length_map, hp.length_eq]
            exact zl
          exact ⟨.ref _, upd H (s.heap.objs.size + 1) (.lst (bs.map Prod.fst)), I.laid (t' := s.toks) (fun _ _ => PyProof.Rows.sortedAll_old) (Nat.le_succ _) ⟨hlen, out, ep, vals_each he, he'⟩, rfl, q.lst k (I.hok.fresh (Nat.le_succ _)) hlen hd⟩
        · cases z
      · cases hr
    · cases hr
  · cases hr
theorem cd_sorted (hu : X.A.units + 64 < cLine) : CallR X (.builtin "sorted") (cD X.K gSorted) := CallR.orD cd_sortedI (cd_sortT hu)
/-! max -/
def pcD (p : Int × List Int) : D := .tuple [.int p.1, .tuple (p.2.map PyData.int)]
theorem pairOf_inv {d : D} {p : Int × List Int} (h : pairOf d = some p) : d = pcD p := by
  unfold pairOf at h
  split at h
  · split at h
    · rename_i e
      cases h
      rw [intsOf_inv e]
      rfl
    · cases h
  · cases h
theorem pairsOf_inv : ∀ {ds : List D} {ls : List (Int × List Int)}, pairsOf ds = some ls → ds = ls.map pcD
  | [], ls, h => by
    cases h
    rfl
  | d :: ds, ls, h => by
    unfold pairsOf at h
    split at h
    · rename_i a b e1 e2
      cases h
      rw [pairOf_inv e1, pairsOf_inv e2]
      rfl
    · cases h
theorem lay_pcD (p : Int × List Int) : (pcD p).canLay0 = true := by
  have h := lay_tiD p.2
  unfold tiD at h
  simp [pcD, PyData.canLay0, PyData.canLayAll0] at h ⊢
  exact h
theorem alike_pcD (p q : Int × List Int) : alike (pcD p) (pcD q) = true := by
  simp [pcD, alike, alikeAll, PySem.W.alike_ints]
theorem lt_pcD (p q : Int × List Int) : dataLt (pcD p) (pcD q) = ltP p q := by
  unfold pcD
  rw [dataLt_pair (by simp [alike]) (by simp [alike, PySem.W.alike_ints]), dataLt_int]
  have e : dataLt (.tuple (p.2.map PyData.int)) (.tuple (q.2.map PyData.int)) = decide (p.2 < q.2) := dataLt_ints p.2 q.2
  have e2 : PyData.eqv (.tuple (p.2.map PyData.int)) (.tuple (q.2.map PyData.int)) = decide (p.2 = q.2) := by
    have H : ∀ a b : List Int, PyData.eqvAll (a.map PyData.int) (b.map PyData.int) = decide (a = b) := by
      intro a
      induction a with
      | nil => intro b; cases b <;> simp [PyData.eqvAll]
      | cons x a ih =>
        intro b
        cases b with
        | nil => simp [PyData.eqvAll]
        | cons y b =>
          simp only [List.map_cons, PyData.eqvAll, ih]
          by_cases h : x = y
          · subst h
            simp [PyData.eqv]
          · simp [PyData.eqv, h]
    rw [PyData.eqv]
    exact H _ _
  rw [e, e2]
  simp only [PyData.eqv, beq_iff_eq]
  unfold ltP
  by_cases h1 : p.1 = q.1
  · by_cases h2 : p.2 = q.2
    · have : ¬ p.2 < q.2 := by rw [h2]; exact List.lt_irrefl _
      simp [h1, h2]
    · simp [h1, h2]
  · simp [h1]
theorem max_pcD (p : Int × List Int) (r : List (Int × List Int)) : maxD (pcD p) (r.map pcD) = pcD (maxP p r) := by
  unfold maxD maxP
  induction r generalizing p with
  | nil => rfl
  | cons q r ih =>
    rw [List.map_cons, List.foldl_cons, List.foldl_cons, lt_pcD, ← ih]
    split <;> rfl
theorem maxP_mem (p : Int × List Int) (r : List (Int × List Int)) : maxP p r ∈ p :: r := by
  unfold maxP
  induction r generalizing p with
  | nil => exact List.mem_cons_self
  | cons q r ih =>
    rw [List.foldl_cons]
    have := ih (if ltP p q then q else p)
    rcases List.mem_cons.mp this with e | e
    · rw [e]
      split
      · exact List.mem_cons_of_mem _ List.mem_cons_self
      · exact List.mem_cons_self
    · exact List.mem_cons_of_mem _ (List.mem_cons_of_mem _ e)
theorem canAll_pc (l : List (Int × List Int)) : PyData.canLayAll0 (l.map pcD) = true := by
  induction l with
  | nil => rfl
  | cons p l ih => rw [List.map_cons, PyData.canLayAll0, lay_pcD, ih]; rfl
theorem depth_pc (l : List (Int × List Int)) : PyData.depthAll (l.map pcD) ≤ 2 := by
  induction l with
  | nil => exact Nat.zero_le _
  | cons p l ih =>
    have : (pcD p).depth ≤ 2 := by
      simp only [pcD, PyData.depth, PyData.depthAll, depth_ints]
      omega
    rw [List.map_cons, PyData.depthAll]
    omega
theorem cd_maxP (hc : X.calm = true) (hu : X.A.units + 64 < cLine) : CallR X (.builtin "max") (cD X.K gMaxP) := by
  intro pins s σ H xs us Q I rx ⟨g, F, σ', δ, ds, r, k, hx, hr, q⟩
  unfold gMaxP at hr
  split at hr
  · rename_i ds
    split at hr
    · rename_i p l e1
      cases hr
      obtain ⟨v, rfl, r⟩ := unDl1 hx
      obtain ⟨a, ys, rfl, h1, h2, h3⟩ := r.items k rfl
      have e2 := pairsOf_inv e1
      subst e2
      rw [Vals.ref1 rx]
      rcases h1 with ⟨_, h1⟩ | ⟨z, _⟩
      · obtain ⟨its, rv, hl, hz⟩ := I.list (SqL.of h1)
        obtain ⟨as, ra⟩ := Dp.readsAll I _ _ _ (DrAll.dp _ _ (canAll_pc (p :: l)) (DrAll.mono k.sub _ _ h3)) rv
        refine PySem.W.max_list_data (I.ok.hd hc) hl.isList (show ReadsAll s.heap its.toArray.toList (pcD p :: l.map pcD) as from ra) ⟨fun x hx y hy => ?_, fun x hx => ?_⟩ (by have := depth_pc (p :: l); rw [show pcD p :: l.map pcD = (p :: l).map pcD from rfl]; omega) fun i v h' tk bs hv rv' hk => ?_
        · have hx : x ∈ (p :: l).map pcD := hx
          have hy : y ∈ (p :: l).map pcD := hy
          obtain ⟨b, _, rfl⟩ := List.mem_map.mp hx
          obtain ⟨c, _, rfl⟩ := List.mem_map.mp hy
          exact alike_pcD b c
        · have hx : x ∈ (p :: l).map pcD := hx
          obtain ⟨b, _, rfl⟩ := List.mem_map.mp hx
          exact fun e => by cases e
        · have hv : its[i]? = some v := by simpa using hv
          have hil : i < its.length := (List.getElem?_eq_some_iff.mp hv).1
          have hyl : i < ys.length := by rw [rv.length]; exact hil
          obtain ⟨u, hu1, hu2⟩ := Vals.get (i := i) rv (List.getElem?_eq_getElem hyl)
          rw [hv] at hu1
          cases hu1
          obtain ⟨d, hd1, hd2⟩ := h3.get (List.getElem?_eq_getElem hyl)
          have hdl : d ∈ (p :: l).map pcD := List.mem_of_getElem? hd1
          obtain ⟨c, _, rfl⟩ := List.mem_map.mp hdl
          obtain ⟨as2, ra2⟩ := Dp.reads I _ _ _ (Dr.dp _ _ (lay_pcD c) (Dr.mono k.sub _ _ hd2)) hu2
          rw [max_pcD] at rv'
          have e3 := alike_unique _ _ _ _ _ (alike_pcD c (maxP p l)) (PyProof.Rows.Reads.keeps hk ra2) rv'
          rw [e3] at hd2
          exact ⟨ys[i], H, I.kept hk, hu2, q.fz k hd2⟩
      · cases z
    · cases hr
  · cases hr
theorem cd_max (hc : X.calm = true) (hu : X.A.units + 64 < cLine) : CallR X (.builtin "max") (cD X.K gMax) := CallR.orD (cd_maxA hc hu) (cd_maxP hc hu)
end
end DL
set_option Elab.async false
set_option linter.all false
set_option maxRecDepth 100000
set_option maxHeartbeats 3200000
/-! Rules: t[::-1]. -/
namespace DL
open PySem PySem.Spec PyProof.Rows L2
section
variable {prog : Program} {w : World} {A : Around} {E : Value → Shared → Prop} {s : Shared}
theorem applied_rev {sl : Addr} {t : Tok} {n : Nat} {Q : Int × Int × Nat → Shared → Prop} (hs : s.heap.IsSliceOf sl .none .none (.int (-1) t))
    (q : Q ((n : Int) - 1, -1, n) s) : wpAny (model prog w) A (Builtin.Slice.sliceApplied (.ref sl) (pure (n : Int))) Q E s := by
  obtain ⟨o, h1, h2, h3⟩ := id hs
  unfold Builtin.Slice.sliceApplied Builtin.Slice.sliceFields
  refine wpAny_bind (wpAny_bind (wpAny_field h1 h3 (x := .none) rfl (wpAny_bind (wpAny_field h1 h3 (x := .none) rfl (wpAny_bind (wpAny_field h1 h3 (x := .int (-1) t) rfl (wpAny_pure ?_)))))))
  refine wpAny_bind (HT.slicePart_ (.int (-1) t) ?_)
  have k0 : ¬ (((-1 : Int) == 0) = true) := by decide
  show wpAny _ _ (if ((-1 : Int) == 0) = true then _ else _) _ _ s
  rw [if_neg k0]
  refine wpAny_bind (HT.slicePart_ .none (wpAny_bind (HT.slicePart_ .none (wpAny_bind (wpAny_pure ?_)))))
  have ad : Builtin.Slice.sliceAdjust none none (-1) (n : Int) = ((n : Int) - 1, -1) := rfl
  show wpAny _ _ (match Builtin.Slice.sliceAdjust none none (-1) (n : Int) with | (a, b) => pure (a, (-1 : Int), Builtin.Slice.slicePlaces a b (-1))) _ _ s
  rw [ad]
  have pl : Builtin.Slice.slicePlaces ((n : Int) - 1) (-1) (-1) = n := by
    unfold Builtin.Slice.slicePlaces
    rw [if_neg (by decide)]
    by_cases h : n = 0
    · subst h
      rfl
    · rw [if_pos (by omega)]
      have : ((n : Int) - 1 - -1 - 1) / (- -1) + 1 = n := by
        rw [show (- -1 : Int) = 1 by decide, Int.ediv_one]
        omega
      rw [this]
      exact Int.toNat_natCast n
  show wpAny _ _ (pure ((n : Int) - 1, (-1 : Int), Builtin.Slice.slicePlaces ((n : Int) - 1) (-1) (-1))) _ _ s
  rw [pl]
  exact wpAny_pure q
theorem fm_rev {α : Type} (l : List α) : (List.range l.length).filterMap (fun (m : Nat) => l[(((l.length : Int) - 1) + (m : Int) * (-1)).toNat]?) = l.reverse := by
  have H : ∀ k, k ≤ l.length → (List.range k).filterMap (fun (m : Nat) => l[(((l.length : Int) - 1) + (m : Int) * (-1)).toNat]?) = l.reverse.take k := by
    intro k
    induction k with
    | zero => intro _; rfl
    | succ k ih =>
      intro hk
      have hr : k < l.reverse.length := by rw [List.length_reverse]; omega
      rw [List.range_succ, List.filterMap_append, ih (by omega), List.take_add_one, List.getElem?_eq_getElem hr]
      have e : (((l.length : Int) - 1) + (k : Int) * (-1)).toNat = l.length - 1 - k := by omega
      have e2 : l[(((l.length : Int) - 1) + (k : Int) * (-1)).toNat]? = some l.reverse[k] := by
        rw [e, List.getElem_reverse, List.getElem?_eq_getElem (by omega)]
      simp only [List.filterMap_cons, e2, List.filterMap_nil, Option.toList]
  rw [H l.length (Nat.le_refl _), List.take_of_length_le (by rw [List.length_reverse]; exact Nat.le_refl _)]
theorem tup_rev {t sl : Addr} {its : List Value} {tk : Tok} {Q : Value → Shared → Prop} (ht : IsTup s.heap t its.toArray) (hs : s.heap.IsSliceOf sl .none .none (.int (-1) tk))
    (q : Q (.ref s.heap.objs.size) { s with heap := s.heap.push { cls := .type "tuple", data := .seq its.reverse.toArray } }) (hsz : its.length ≤ sizeLine) :
    wpAny (model prog w) A (getItem (.ref t) (.ref sl)) Q E s := by
  have e : (List.range its.length).filterMap (fun (m : Nat) => its.toArray[(((its.length : Int) - 1) + (m : Int) * (-1)).toNat]?) = its.reverse := by
    rw [← fm_rev its]
    congr 1
    funext m
    simp
  have zk : sizeOk (.seq its.reverse.toArray) := by
    show its.reverse.toArray.size ≤ sizeLine
    rw [List.size_toArray, List.length_reverse]
    exact hsz
  obtain ⟨o, g1, g2, g3⟩ := id hs
  have ty : s.TypeIs (.ref sl) "slice" := ⟨o, g1, g2⟩
  unfold getItem
  try with_reducible refine wpAny_holding ?_
  first | refine wpAny_bind (wpAny_pure ?_) | skip
  refine wpAny_bind (wpAny_sequenceKey ht.typeIs (by decide) ?_)
  refine wpAny_bind (wpAny_callSpecial?_slot (name := Str.ofString "__getitem__") ht.typeIs PyProof.Rows.slot_tuple_getitem (wpAny_call_entry PyProof.Rows.slot_tuple_getitem ht.typeIs PyProof.Rows.entry_tuple_getitem ?_ (PyProof.Rows.args_tuple_getitem _ _)))
  show wpAny _ _ (Builtin.Tuple.tupleItemsOf (.ref t) >>= _) _ _ s
  refine wpAny_bind (PyProof.Rows.tupleItemsOf_ ht ?_)
  refine wpAny_bind (wpAny_typeOf ty ?_)
  rw [if_pos (by decide)]
  have ez : its.toArray.size = its.length := List.size_toArray ..
  rw [ez]
  refine wpAny_bind (applied_rev hs ?_)
  have no : ¬ ((((its.length : Int) - 1 == 0) && ((-1 : Int) == 1) && (its.length == its.length)) = true) := by
    intro z
    rw [Bool.and_eq_true, Bool.and_eq_true] at z
    exact absurd z.1.2 (by decide)
  show wpAny _ _ (if (((its.length : Int) - 1 == 0) && ((-1 : Int) == 1) && (its.length == its.length)) = true then _ else _) _ _ s
  rw [if_neg no, e]
  first
    | exact wpAny_bind (m := Builtin.Tuple.tupleExact _) (wpAny_newObj_type (wpAny_pure ⟨_, rfl, wpAny_pure q⟩) zk)
    | exact wpAny_bind (m := Builtin.Tuple.tupleExact _) (wpAny_newObj_type (wpAny_bind (wpAny_pure (wpAny_pure ⟨_, rfl, wpAny_pure q⟩))) zk)
    | exact wpAny_bind (wpAny_bind (m := Builtin.Tuple.tupleExact _) (wpAny_newObj_type (wpAny_pure (wpAny_pure ⟨_, rfl, wpAny_pure q⟩)) zk))
    | exact wpAny_bind (wpAny_bind (m := Builtin.Tuple.tupleExact _) (wpAny_newObj_type (wpAny_pure ⟨_, rfl, wpAny_pure q⟩) zk))
end
section
variable {X : Cx} {a : Expr} {pos p2 : Pos} {fa : EL}
def tRevT (K : PySem.W.Frag) (te : TE) : TE := fun σ H Q => te σ H fun x H1 => ∃ a xs, x = .ref a ∧ SqT K H1 a xs ∧ ∀ p o, H1 p = none → TupO o → Q (.ref p) (upd H1 p (.frz o (.tup xs.reverse)))
theorem pe_revT {e : Expr} {te : TE} {k : Nat} {p1 p2 p3 pos : Pos} (he : PE X e te) : PE X (.Subscript e (.Slice none none (some (.UnaryOp .USub (.Constant (.int 1) k p1) p2)) p3) pos) (tRevT X.K te) := by
  refine ⟨fun pins s σ H Q I h => ?_⟩
  refine Subscript_ (thn (he.run pins s σ H _ I h) fun v s1 ⟨x, H1, I1, r1, q1⟩ => ?_)
  obtain ⟨a, xs, ex, hx, q⟩ := q1
  subst ex
  cases r1
  have hst : PO X (some (.UnaryOp .USub (.Constant (.int 1) k p1) p2)) (tPart (tUn (rU fun i => .int (-i)) (tC (.int 1)))) := po_some (pe_un un_neg pe_int)
  refine wpAny_Slice (thn (po_none.run pins s1 σ H1 (fun o H2 => o = none ∧ H2 = H1) I1 ⟨rfl, rfl⟩) fun vl s2 ⟨l, H2, I2, pl, el, e2⟩ => ?_)
  subst el e2
  refine thn (po_none.run pins s2 σ H2 (fun o H3 => o = none ∧ H3 = H2) I2 ⟨rfl, rfl⟩) fun vu s3 ⟨u, H3, I3, pu, eu, e3⟩ => ?_
  subst eu e3
  refine thn (hst.run pins s3 σ H3 (fun o H4 => o = some (-1) ∧ H4 = H3) I3 ⟨1, rfl, -1, rfl, rfl, rfl⟩) fun vs s4 ⟨o, H4, I4, ps, eo, e4⟩ => ?_
  subst eo e4
  cases pl
  cases pu
  cases ps with
  | int _ tk =>
    have I5 : Inv X pins σ H4 { s4 with heap := s4.heap.push { cls := .type "slice", data := .fields #[.none, .none, .int (-1) tk] } } := I4.kept (t' := s4.toks) fun b ob q => Heap.get?_push_of_some _ q
    obtain ⟨its, r, ht, hz⟩ := I5.tuple hx
    refine tail_any (ops := [.ref a, .ref s4.heap.objs.size]) ht.typeIs PyProof.Rows.slot_tuple_getitem.lookup ?_ (by with_unfolding_all rfl)
    have hlen := r.length
    refine tup_rev ht (Heap.IsSliceOf.new ..) ?_ (by omega)
    exact new_tup I5 (fun _ _ e => e) r.reverse (by rw [List.length_reverse]; exact hz) q
/-- t[::-1], a tuple -/
theorem de_revT {k : Nat} {p1 p3 : Pos} (ha : PE X a (tL X.K fa)) : PE X (.Subscript a (.Slice none none (some (.UnaryOp .USub (.Constant (.int 1) k p1) p2)) p3) pos) (tE X.K (dUnE gRevT fa)) :=
  PE.imp (pe_revT ha) fun σ H Q ⟨g, F, δ, r, δ', k, hf, q⟩ => by
    unfold dUnE at hf
    split at hf
    · cases hf
    · rename_i x δ1 e1
      refine ⟨g, F, δ, x, δ1, k, e1, fun v F1 H1 k1 s1 r1 => ?_⟩
      split at hf
      · rename_i u e2
        split at hf
        · rename_i r' e3
          cases hf
          unfold gRevT at e3
          split at e3
          · rename_i ds
            cases e3
            obtain ⟨a, xs, rfl, h1, h2, h3⟩ := (k1.late r1 e2).untup
            refine ⟨a, xs, rfl, h1.sqt k1.sub, fun p o hp ho => ?_⟩
            have z : xs.reverse.length ≤ sizeLine := by rw [List.length_reverse]; exact h2
            exact q _ _ _ (k1.laid hp) (s1.trans (same_new (k1.noneF hp))) (.tup ⟨o, ho, upd_same⟩ z (DrAll.mono (same_new (k1.noneF hp)) _ _ h3.reverse))
          · cases e3
        · cases hf
      · cases hf
end
end DL
set_option Elab.async false
set_option linter.all false
set_option maxRecDepth 100000
set_option maxHeartbeats 3200000
/-! Rules: t.count(n); x[e] += v. -/
namespace DL
open PySem PySem.Spec PyProof.Rows L2
section
variable {X : Cx} {mg : Str → Option Value} {W : WX} {o e : Expr} {pos p2 : Pos} {i : Nat}
def rCntT (K : PySem.W.Frag) : V → List V → Hp → VK → Prop := fun x xs H Q => ∃ (p : Addr) (ns : List Int) (k : Int), x = .ref p ∧ xs = [.int k] ∧ SqT K H p (ns.map V.int) ∧ Q (.int (ns.count k : Nat)) H
theorem mt_tcount : MtR X "tuple.count" (rCntT X.K) := by
  intro pins s σ H x xs v us Q I rx rxs h
  obtain ⟨p, ns, k, rfl, rfl, hs, q⟩ := h
  cases rx
  obtain ⟨u, rfl, ru⟩ := rxs.one
  obtain ⟨t, rfl⟩ := ru
  obtain ⟨its, rv, ⟨⟨cls, dd, data, sl⟩, ho, hc, n, hd⟩, hlen⟩ := I.tuple hs
  simp only at hc hd
  subst hc hd
  have hi := ints_of_vals rv
  refine call_meets PySem.F.slot_tuple_count ⟨_, ho, rfl⟩ PySem.F.entry_tuple_count (PySem.F.args_tuple_count_2 _ _)
    (SeqAt.tuple_countAt p its.toArray n dd sl (.int k t) (eqk k)) ⟨ho, fun y hy => (eqk_gives hi y (by simpa using hy)).at _ _, ?_⟩
  have ec : its.toArray.toList.countP (eqk k) = ns.count k := eqk_count hi
  refine ⟨.int (ns.count k : Nat), H, I.tok _, ⟨s.toks, ?_⟩, q⟩
  show Value.int ((its.toArray.toList.countP (eqk k) : Nat) : Int) s.toks = Value.int ((ns.count k : Nat) : Int) s.toks
  rw [ec]
/-- a method of a tuple whose object is known -/
def tBMT (r : V → List V → Hp → VK → Prop) (to : TE) (t : TA) : TE := fun σ H Q => to σ H fun x H1 => (∃ a o xs, x = .ref a ∧ TupO o ∧ H1 a = some (.frz o (.tup xs))) ∧ t σ H1 fun xs H2 => r x xs H2 Q
theorem pe_bmT {es : List Expr} {to : TE} {t : TA} {name : Str} {apos cpos : Pos} {id : String} {r : V → List V → Hp → VK → Prop} (slot : Slot "tuple" name id) (hty : typeOf (.builtin id) = pure (.type "method_descriptor")) (hm : MtR X id r) (ho : PE X o to) (ha : PA X (e :: es) t)
    (hbase : attributeBase o name X.env (eval o X.env) = eval o X.env := by rfl)
    (hfew : ((backTo cpos (starEach (e :: es) X.env)).all (fun x => !x.1) && (backToKw cpos (keywordEach [] X.env)).all (fun x => x.1.isSome)
      && decide ((e :: es).length + ([] : List Keyword).length + (if ([] : List Keyword).isEmpty then 0 else 1) < 30)) = true := by rfl)
    (hline : (apos.endLine == cpos.line) = true := by rfl) (hs : starEach (e :: es) X.env = (false, eval e X.env) :: starEach es X.env := by rfl) (hplain : (backTo cpos (starEach es X.env)).any (·.1) = false := by rfl) :
    PE X (.Call (.Attribute o name apos) (e :: es) [] cpos) (tBMT r to t) := by
  refine ⟨fun pins s σ H Q I h => ?_⟩
  refine wpAny_Call_method_late hbase hfew hline rfl (thn (ho.run pins s σ H _ I h) fun v s1 ⟨x, H1, I1, r1, ⟨a, ob, xs0, ea, ho1, hk⟩, q1⟩ => ?_)
  subst ea
  cases r1
  obtain ⟨e1, _⟩ := I1.hok a _ hk
  refine ⟨"tuple", id, PySem.F.plainAttrs_tuple, slot, hty, ⟨ob, e1, ho1.1⟩, fun b eb => ?_, ?_⟩
  · cases eb
    exact ⟨ob, e1, ho1.2⟩
  · have hA := ha.run cpos pins s1 σ H1 _ I1 q1
    rw [hs] at hA ⊢
    refine Calls.callWith_builtin (by show (false || (backTo cpos (starEach es X.env)).any (·.1)) = false; rw [hplain] <;> rfl) (Calls.evalArgs_plain ?_)
    exact thn hA fun us s2 ⟨vs, H2, I2, r2, q2⟩ => hm pins s2 σ H2 (.ref a) vs _ us Q I2 rfl r2 q2
theorem de_tcount {fe : EV} {apos cpos : Pos} (ho : PE X o (tVar i)) (ha : PA X [e] (tA X.K (aCons fe aNil)))
    (hbase : attributeBase o "count" X.env (eval o X.env) = eval o X.env := by rfl)
    (hfew : ((backTo cpos (starEach [e] X.env)).all (fun x => !x.1) && (backToKw cpos (keywordEach [] X.env)).all (fun x => x.1.isSome)
      && decide ([e].length + ([] : List Keyword).length + (if ([] : List Keyword).isEmpty then 0 else 1) < 30)) = true := by rfl)
    (hline : (apos.endLine == cpos.line) = true := by rfl) (hs : starEach [e] X.env = (false, eval e X.env) :: starEach [] X.env := by rfl) :
    PE X (.Call (.Attribute o "count" apos) [e] [] cpos) (tV X.K (dTCount i fe)) :=
  PE.imp (pe_bmT PySem.F.slot_tuple_count PySem.F.type_tuple_count mt_tcount ho ha hbase hfew hline hs rfl) fun σ H Q ⟨g, F, δ, r, δ', k, hf, q⟩ => by
    unfold dTCount at hf
    split at hf
    · rename_i ds e0
      split at hf
      · rename_i ns e1
        split at hf
        · rename_i kk δ1 e2
          obtain ⟨rfl, rfl⟩ : r = .int ((ns.count kk : Nat) : Int) ∧ δ' = δ1 := by cases hf; exact ⟨rfl, rfl⟩
          obtain ⟨v, ev, rv⟩ := k.rep i _ e0
          obtain ⟨a, xs, rfl, ⟨ob, ho1, hF⟩, h2, h3⟩ := Dr.untup rv
          have e3 := intsOf_inv e1
          subst e3
          have e4 := h3.ofInts
          subst e4
          refine ⟨.ref a, ev, ⟨a, ob, _, rfl, ho1, k.sub _ _ hF⟩, g, F, δ, [.int kk], _, k, by unfold aCons; rw [e2]; rfl, fun vs F1 H1 k1 s1 r1 => ?_⟩
          cases r1 with
          | cons r1 r2 =>
            cases r2
            obtain rfl := Dr.unint r1
            exact ⟨a, ns, kk, rfl, rfl, .inl (.inr ⟨ob, k1.sub _ _ (s1 _ _ hF)⟩), q _ F1 H1 k1 s1 (.int _)⟩
        · cases hf
      · cases hf
    · cases hf
/-! ### x[e] += v -/
theorem pget_list : PGet X (fun o i H Q => ∃ p xs k v, o = .ref p ∧ i = .int k ∧ SqL X.K H p xs ∧ 0 ≤ k ∧ xs[k.toNat]? = some v ∧ Q v H) := by
  intro pins s σ H o i ov iv Q I ro ri ⟨p, xs, k, v, eo, ei, hs, h0, hv, q⟩
  subst eo ei
  cases ro
  obtain ⟨t, rfl⟩ := ri
  obtain ⟨its, rv, pl, hz⟩ := I.list hs
  obtain ⟨u, hu, ru⟩ := rv.get hv
  have hn := line63
  have hl : k.toNat < xs.length := (List.getElem?_eq_some_iff.mp hv).1
  exact wpAny_getItem_list pl.isList h0 (by omega) (by simpa using hu) ⟨v, H, I, ru, q⟩
theorem sAug_inv {fe fv : EV} {δ : Sl} {o : Out} (h : sAugIx i fe fv δ = some o) : ∃ kk δ1 b0 z y δ2 x b, ¬ isLs δ i = false ∧ fe δ = some (.int kk, δ1) ∧ ¬ isLs δ1 i = false ∧ slotD δ1 i = some (.list b0) ∧ atD b0 kk = some (.int z) ∧ fv δ1 = some (.int y, δ2) ∧ δ2[i]? = some (some x) ∧ (x = .mt b ∨ x = .br b) ∧ 0 ≤ kk ∧ kk < b.length ∧ o = .nx (δ2.set i (some (x.put (b.set kk.toNat (.int (z + y)))))) := by
  unfold sAugIx at h
  split at h
  · cases h
  · rename_i hz
    split at h
    · rename_i kk δ1 e1
      split at h
      · rename_i b0 e2
        split at h
        · rename_i z e3
          split at h
          · cases h
          · rename_i hz1
            split at h
            · rename_i y δ2 e4
              split at h
              · rename_i b e5
                split at h
                · rename_i hk
                  cases h
                  exact ⟨kk, δ1, b0, z, y, δ2, _, b, hz, e1, hz1, e2, e3, e4, e5, .inl rfl, hk.1, hk.2, rfl⟩
                · cases h
              · rename_i b e5
                split at h
                · rename_i hk
                  cases h
                  exact ⟨kk, δ1, b0, z, y, δ2, _, b, hz, e1, hz1, e2, e3, e4, e5, .inr rfl, hk.1, hk.2, rfl⟩
                · cases h
              · cases h
            · cases h
        · cases h
      · cases h
    · cases h
theorem ds_augIx {ei : Expr} {fi fv : EV} {tpos : Pos} (ho : PE X o (tVar i)) (hi : PE X ei (tV X.K fi)) (he : PE X e (tV X.K fv))
    (ha : ∀ ov iv new, augStore ei ov iv new = (do holding [new, ov, iv] (setItem ov iv new); release [new, ov, iv] []; pure .next) := by intros; rfl) : PS X (.AugAssign (.Subscript o ei tpos) .Add e pos) (tS X.K mg W (sAugIx i fi fv)) :=
  PS.imp (ps_augS ho hi pget_list he ip_add set_list ha) fun D σ H ⟨g, F, δ, oo, k, hf, q⟩ => by
    obtain ⟨kk, δ1, b0, z, y, δ2, x, b, hz, e1, hz1, e2, e3, e4, e5, hx, h0, hlt, rfl⟩ := sAug_inv hf
    obtain ⟨z0, c0, ez, hzz⟩ := isLs_of hz
    obtain ⟨l0, vs0, ev0, hl0, _, _⟩ := k.cell ez hzz
    refine ⟨.ref l0, ev0, g, F, δ, .int kk, δ1, k, e1, fun w F1 H1 k1 s1 r1 => ?_⟩
    obtain ⟨z1, c1, ez1, hzz1⟩ := isLs_of hz1
    obtain ⟨l1, vs1, ev1, hl1, _, hd1⟩ := k1.cell ez1 hzz1
    rw [ev0] at ev1
    cases ev1
    have eb : c1 = b0 := by
      unfold slotD at e2
      rw [ez1] at e2
      rcases hzz1 with rfl | rfl <;> (cases e2; rfl)
    subst eb
    have e3' : c1[kk.toNat]? = some (.int z) := by
      unfold atD at e3
      rwa [if_pos h0] at e3
    obtain ⟨vz, hvz, rz⟩ := hd1.get' e3'
    obtain rfl := Dr.unint rz
    refine ⟨l0, vs1, kk, .int z, rfl, Dr.unint r1, SqL.of hl1, h0, hvz, g, F1, δ1, .int y, δ2, k1, e4, fun v F2 H2 k2 s2 r2 => ⟨z, y, rfl, Dr.unint r2, ?_⟩⟩
    obtain ⟨l, vs, ev, hl, zl, hb⟩ := k2.cell e5 hx
    rw [ev0] at ev
    cases ev
    refine ⟨l0, vs, kk, kk.toNat, rfl, Dr.unint r1, hl, ixN_of h0 (by rw [hb.length]; exact hlt), ?_⟩
    exact q σ F2 _ (k2.changed e5 hx ev0 (by rw [List.length_set]; exact zl) (hb.set _ (.int _))) (s1.trans s2)
end
end DL
set_option Elab.async false
set_option linter.all false
set_option maxRecDepth 100000
set_option maxHeartbeats 3200000
/-! Rules: dicts of ints to ints. -/
namespace DL
open PySem PySem.Spec PyProof.Rows L2
theorem pairsI_inv : ∀ {ds : List D} {l : List (Int × Int)}, pairsI ds = some l → ds = l.map fun p => PyData.tuple [.int p.1, .int p.2]
  | [], l, h => by cases h; rfl
  | d :: r, l, h => by
    unfold pairsI at h
    split at h
    · rename_i heq
      cases heq
    · rename_i a b r' heq
      cases heq
      split at h
      · rename_i l' e
        cases h
        rw [List.map_cons, pairsI_inv e]
      · cases h
    · cases h
theorem unDI_inv {d : D} {kvs : List (Int × Int)} (h : unDI d = some kvs) : d = .dict (Own.dI kvs).kvs := by
  unfold unDI at h
  split at h
  · rw [pairsI_inv h]
    rfl
  · cases h
theorem dI_inj {a b : List (Int × Int)} (h : (Own.dI a).kvs = (Own.dI b).kvs) : a = b := by
  have h1 : (a.map fun p => PyData.tuple [.int p.1, .int p.2]) = b.map fun p => PyData.tuple [.int p.1, .int p.2] := by
    have := List.cons.inj h
    have := Prod.mk.inj this.1
    exact PyData.list.inj this.2
  clear h
  induction a generalizing b with
  | nil =>
    cases b with
    | nil => rfl
    | cons x b => cases h1
  | cons x a ih =>
    cases b with
    | nil => cases h1
    | cons y b =>
      rw [List.map_cons, List.map_cons] at h1
      obtain ⟨h2, h3⟩ := List.cons.inj h1
      injection h2 with h2
      injection h2 with h4 h5
      injection h4 with h4
      injection h5 with h5
      injection h5 with h5
      obtain ⟨x1, x2⟩ := x
      obtain ⟨y1, y2⟩ := y
      simp only at h4 h5
      rw [h4, h5, ih h3]
theorem Dr.undI {K : PySem.W.Frag} {F : Hp} {v : V} {kvs : List (Int × Int)} (r : Dr K F v (.dict (Own.dI kvs).kvs)) : ∃ a, v = .ref a ∧ Rd F a (Own.dI kvs).ho := by
  generalize e : (Own.dI kvs).kvs = l at r
  cases r with
  | par h1 h2 h3 h4 =>
    rw [h4] at e
    cases e
  | scr h1 h2 =>
    rw [h2] at e
    cases e
  | fn h =>
    rw [h] at e
    cases e
  | @dct a c _ h1 h2 =>
    rw [h2] at e
    cases c with
    | dI l =>
      have := dI_inj e
      subst this
      exact ⟨a, rfl, h1⟩
    | dT l => cases e
section
variable {K : PySem.W.Frag} {g : Gh} {F H : Hp} {σ : L2.St} {δ : Sl}
theorem Ok.dictI (k : Ok K g F H σ δ) {i : Nat} {kvs : List (Int × Int)} (h : dctI δ i = some kvs) : ∃ a, σ[i]? = some (some (.ref a)) ∧ Rd H a (Own.dI kvs).ho := by
  unfold dctI at h
  split at h
  · rename_i l e
    cases h
    obtain ⟨v, e1, a, rfl, _, _, hl⟩ := k.rep i _ e
    exact ⟨a, e1, .inl hl⟩
  · rename_i d e
    have := unDI_inv h
    subst this
    obtain ⟨v, e1, r⟩ := k.rep i _ e
    obtain ⟨a, rfl, hf⟩ := Dr.undI r
    exact ⟨a, e1, Same.rd k.sub hf⟩
  · cases h
theorem Ok.newOw (k : Ok K g F H σ δ) {p : Addr} {c : Own} (hp : H p = none) : RepX K g F (upd H p c.ho) σ δ (.ref p) (.ow c) := by
  refine ⟨p, rfl, ⟨k.none0 hp, k.noneF hp, upd_same⟩, fun j dj e oj e2 => ?_⟩
  obtain ⟨_, _, o, q⟩ := k.ownCell e oj e2
  rw [hp] at q
  cases q
end
section
variable {K : PySem.W.Frag} {g : Gh} {F H : Hp} {σ : L2.St} {δ : Sl}
/-- an owning slot is forgotten -/
theorem Ok.loose (k : Ok K g F H σ δ) {i : Nat} {x : DV} (h : δ[i]? = some (some x)) (hx : own x = true) : Ok K g F H σ (δ.set i none) := by
  have hi := slot_lt h
  refine ⟨k.sub, k.ext, k.frm, k.new, k.b0, by rw [List.length_set, k.len], fun j dv e => ?_, fun a b da db ea eb oa ob hne => ?_, fun j ds' e => ?_, fun l' hl' => ?_⟩
  · by_cases hj : i = j
    · subst hj
      rw [List.getElem?_set_self hi] at e
      cases e
    · rw [List.getElem?_set_ne hj] at e
      exact k.rep j dv e
  · have ha : i ≠ a := fun z => by
      subst z
      rw [List.getElem?_set_self hi] at ea
      cases ea
    have hb : i ≠ b := fun z => by
      subst z
      rw [List.getElem?_set_self hi] at eb
      cases eb
    rw [List.getElem?_set_ne ha] at ea
    rw [List.getElem?_set_ne hb] at eb
    exact k.dis a b da db ea eb oa ob hne
  · by_cases hj : i = j
    · subst hj
      rw [List.getElem?_set_self hi] at e
      cases e
    · rw [List.getElem?_set_ne hj] at e
      exact k.br0 j ds' e
  · obtain ⟨ds', e⟩ := k.brB l' hl'
    have h0 : i ≠ 0 := fun z => by
      subst z
      rw [h] at e
      cases e
      cases hx
    exact ⟨ds', by rw [List.getElem?_set_ne h0]; exact e⟩
theorem Ok.far (k : Ok K g F H σ δ) {i : Nat} {x : DV} {v : V} (h : δ[i]? = some (some x)) (hx : own x = true) (ev : σ[i]? = some (some v)) : ∀ (j : Nat) dj, (δ.set i none)[j]? = some (some dj) → own dj = true → σ[j]? ≠ some (some v) := fun j dj e oj z => by
  have hi := slot_lt h
  have hj : i ≠ j := fun y => by
    subst y
    rw [List.getElem?_set_self hi] at e
    cases e
  rw [List.getElem?_set_ne hj] at e
  exact k.dis i j _ _ h e hx oj hj (ev.trans z.symm)
/-- a dict of a slot's own is frozen as the object it is -/
theorem Ok.fixed (k : Ok K g F H σ δ) {i : Nat} {c : Own} {a : Addr} {ob : Obj} (h : δ[i]? = some (some (.ow c))) (ev : σ[i]? = some (some (.ref a))) :
    Ok K g (upd F a (.frz ob c.ho)) (upd H a (.frz ob c.ho)) σ (δ.set i (some (.fz (.dict c.kvs)))) ∧ Same F (upd F a (.frz ob c.ho)) := by
  obtain ⟨v, e1, l, rfl, h0, hf, hl⟩ := k.rep i _ h
  rw [ev] at e1
  cases e1
  have hi := slot_lt h
  have k0 := k.loose h rfl
  have far := k.far h rfl ev
  have no : ¬ OwnedBy σ (δ.set i none) a := fun ⟨j, dj, e, oj, e2⟩ => far j dj e oj e2
  have k1 := k0.mutBeside (o := .frz ob c.ho) hf no h0
  have k2 := k1.freezeO h0 hf upd_same far
  have k3 := k2.store (i := i) (v := .ref a) (x := .fz (.dict c.kvs)) (fun ds' e => by
    rw [List.getElem?_set_self hi] at e
    cases e) (.dct (.inr ⟨ob, upd_same⟩) rfl)
  rw [List.set_set] at k3
  have e3 : σ.set i (some (.ref a)) = σ := by
    obtain ⟨hi', e⟩ := List.getElem?_eq_some_iff.mp ev
    rw [← e]
    exact List.set_getElem_self hi'
  rw [e3] at k3
  exact ⟨k3, same_new hf⟩
end
theorem valV_get (kvs : List (Int × Int)) (k : Int) : valV (kvs.map fun p => ((Sum.inl p.1 : Key), V.int p.2)) (Sum.inl k) = (getI kvs k).map V.int := by
  induction kvs with
  | nil => rfl
  | cons p r ih =>
    by_cases h : p.1 = k
    · rw [List.map_cons, valV_pos (by simp [h])]
      simp [getI, h]
    · rw [List.map_cons, valV_neg (by simp [h]), ih]
      simp [getI, h]
theorem put_ho (kvs : List (Int × Int)) (k z : Int) : putK (kvs.map fun p => ((Sum.inl p.1 : Key), V.int p.2)) (Sum.inl k) (V.int z) = (putI kvs k z).map fun p => ((Sum.inl p.1 : Key), V.int p.2) := by
  unfold putK putI
  have e : ((kvs.map fun p => ((Sum.inl p.1 : Key), V.int p.2)).any fun kv => decide (kv.1 = Sum.inl k)) = kvs.any fun p => decide (p.1 = k) := by
    rw [List.any_map]
    congr 1
    funext p
    simp
  rw [e]
  split
  · rw [List.map_map, List.map_map]
    refine List.map_congr_left fun p _ => ?_
    simp only [Function.comp]
    by_cases h : p.1 = k
    · simp [h]
    · simp [h]
  · rw [List.map_append]
    rfl
theorem del_ho (kvs : List (Int × Int)) (k : Int) : dropK (kvs.map fun p => ((Sum.inl p.1 : Key), V.int p.2)) (Sum.inl k) = (delI kvs k).map fun p => ((Sum.inl p.1 : Key), V.int p.2) := by
  unfold dropK delI
  rw [List.filter_map]
  congr 1
  congr 1
  funext p
  simp
section
variable {X : Cx} {mg : Str → Option Value} {W : WX} {o e f : Expr} {pos p2 : Pos} {i : Nat} {fe ff : EV}
theorem de_d0 : PE X (.Dict [] [] pos) (tE X.K dD0) := PE.imp pe_dnewK fun σ H Q ⟨g, F, δ, x, δ', k, hf, q⟩ => by
  cases hf
  intro p hp
  exact q (.ref p) F _ (k.push hp) (Same.refl F) (k.newOw (c := .dI []) hp)
theorem de_d1 {a b : Int} {j1 j2 : Nat} {pa pb : Pos} : PE X (.Dict [some (.Constant (.int a) j1 pa)] [.Constant (.int b) j2 pb] pos) (tE X.K (dD1 a b)) :=
  PE.imp (pe_disp (pps_cons (pe_int (i := a)) (pe_int (i := b)) pps_nil) rfl rfl (by simp) (by simp)) fun σ H Q ⟨g, F, δ, x, δ', k, hf, q⟩ => by
  cases hf
  intro p hp
  refine ⟨upd_same, [((Sum.inl a : Key), V.int b)], rfl, by simp, ?_⟩
  rw [upd_upd]
  exact q (.ref p) F _ (k.push hp) (Same.refl F) (k.newOw (c := .dI [(a, b)]) hp)
theorem de_dix (hu : X.A.units + 1 < cLine) (ho : PE X o (tVar i)) (he : PE X e (tV X.K fe)) (hn : NoSl e) : PE X (.Subscript o e pos) (tV X.K (dDIx i fe)) :=
  PE.imp (pe_dget hu ho he hn) fun σ H Q ⟨g, F, δ, x, δ', k, hf, q⟩ => by
  unfold dDIx at hf
  split at hf
  · rename_i dv hd
    split at hf
    · rename_i kk δ1 e1
      split at hf
      · rename_i kvs e2
        split at hf
        · rename_i z e3
          cases hf
          obtain ⟨v, ev, _⟩ := k.rep i _ hd
          refine ⟨v, ev, g, F, δ, _, _, k, e1, fun w F1 H1 k1 s1 r1 => ?_⟩
          obtain rfl := Dr.unint r1
          obtain ⟨a, ea, ha⟩ := k1.dictI e2
          rw [ev] at ea
          cases ea
          have hg : DGet H1 a (V.int kk) _ := .inl ⟨_, (Sum.inl kk : Key), ha, rfl, rfl⟩
          rw [valV_get, e3] at hg
          exact ⟨a, V.int z, rfl, hg, q _ F1 H1 k1 s1 (.int z)⟩
        · cases hf
      · cases hf
    · cases hf
  · cases hf
theorem de_dget2 {apos cpos : Pos} (hu : X.A.units + 1 < cLine) (ho : PE X o (tVar i)) (he : PE X e (tV X.K fe)) (hf : PE X f (tV X.K ff)) (hm : M2 X o "get" apos e f cpos) :
    PE X (.Call (.Attribute o "get" apos) [e, f] [] cpos) (tV X.K (dDGet i fe ff)) :=
  PE.imp (pe_dget2 hu ho he hf hm) fun σ H Q ⟨g, F, δ, x, δ', k, hf, q⟩ => by
  unfold dDGet at hf
  split at hf
  · rename_i kv0 e0
    split at hf
    · rename_i kk δ1 e1
      split at hf
      · rename_i z δ2 e2
        split at hf
        · rename_i kvs e3
          cases hf
          obtain ⟨a, ev, ha⟩ := k.dictI e0
          refine ⟨.ref a, ev, a, rfl, .inl ⟨_, ha⟩, g, F, δ, _, δ1, k, e1, fun w F1 H1 k1 s1 r1 => ⟨g, F1, δ1, _, _, k1, e2, fun w2 F2 H2 k2 s2 r2 => ?_⟩⟩
          obtain rfl := Dr.unint r1
          obtain rfl := Dr.unint r2
          obtain ⟨a2, ea, ha2⟩ := k2.dictI e3
          rw [ev] at ea
          cases ea
          have hg : DGet H2 a (V.int kk) _ := .inl ⟨_, (Sum.inl kk : Key), ha2, rfl, rfl⟩
          rw [valV_get] at hg
          refine ⟨_, hg, ?_⟩
          have : ((getI kvs kk).map V.int).getD (V.int z) = V.int ((getI kvs kk).getD z) := by cases getI kvs kk <;> rfl
          rw [this]
          exact q _ F2 H2 k2 (s1.trans s2) (.int _)
        · cases hf
      · cases hf
    · cases hf
  · cases hf
theorem ds_dput {pos' : Pos} (hu : X.A.units + 1 < cLine) (ho : PE X o (tVar i)) (he : PE X e (tV X.K fe)) (hf : PE X f (tV X.K ff)) (hs : swapsWith f (some (.Subscript o e pos')) pos.line X.env = pure false := by rfl) :
    PS X (.Assign [.Subscript o e pos'] f pos) (tS X.K mg W (sDPutI i fe ff)) :=
  PS.imp (ps_dput hu ho he hf hs) fun D σ H ⟨g, F, δ, oo, k, hf, q⟩ => by
  unfold sDPutI at hf
  split at hf
  · rename_i z δ1 e1
    split at hf
    · rename_i dv hd
      split at hf
      · rename_i kk δ2 e2
        split at hf
        · rename_i kvs e3
          split at hf
          · rename_i hlim
            cases hf
            refine ⟨g, F, δ, _, δ1, k, e1, fun w F1 H1 k1 s1 r1 => ?_⟩
            obtain rfl := Dr.unint r1
            obtain ⟨v, ev, _⟩ := k1.rep i _ hd
            refine ⟨v, ev, g, F1, δ1, _, δ2, k1, e2, fun w2 F2 H2 k2 s2 r2 => ?_⟩
            obtain rfl := Dr.unint r2
            obtain ⟨v2, ev2, a, rfl, h0, hF, ha⟩ := k2.rep i _ e3
            rw [ev] at ev2
            cases ev2
            have hz : (kvs.map fun p => ((Sum.inl p.1 : Key), V.int p.2)).length < sizeLine := by
              rw [List.length_map]
              exact Nat.lt_of_lt_of_le hlim (lim_le (Nat.le_refl _))
            have hp := DPut.k (k := (Sum.inl kk : Key)) (v := V.int z) ha hz
            rw [put_ho] at hp
            exact ⟨a, _, rfl, hp, q _ F2 _ (k2.changeO (c' := .dI (putI kvs kk z)) e3 ev) (s1.trans s2)⟩
          · cases hf
        · cases hf
      · cases hf
    · cases hf
  · cases hf
theorem de_dpop {apos cpos : Pos} (ho : PE X o (tVar i)) (he : PE X e (tV X.K fe)) (hm : M1 X o "pop" apos e cpos) :
    PE X (.Call (.Attribute o "pop" apos) [e] [] cpos) (tV X.K (dDPop i fe)) :=
  PE.imp (pe_dpop1 ho he hm) fun σ H Q ⟨g, F, δ, x, δ', k, hf, q⟩ => by
  unfold dDPop at hf
  split at hf
  · rename_i kv0 e0
    split at hf
    · rename_i kk δ1 e1
      split at hf
      · rename_i kvs e3
        split at hf
        · rename_i z e4
          cases hf
          obtain ⟨a, ev, ha⟩ := k.dictI e0
          refine ⟨.ref a, ev, a, rfl, .inl ⟨_, ha⟩, g, F, δ, _, δ1, k, e1, fun w F1 H1 k1 s1 r1 => ?_⟩
          obtain rfl := Dr.unint r1
          obtain ⟨v2, ev2, a2, rfl, h0, hF, ha2⟩ := k1.rep i _ e3
          rw [ev] at ev2
          cases ev2
          refine ⟨_, (Sum.inl kk : Key), V.int z, ha2, rfl, by rw [valV_get, e4]; rfl, ?_⟩
          rw [del_ho]
          exact q _ F1 _ (k1.changeO (c' := .dI (delI kvs kk)) e3 ev) s1 (.int z)
        · cases hf
      · cases hf
    · cases hf
  · cases hf
/-- a name whose dict is frozen as it is read -/
def tFix (i : Nat) : TE := fun σ H Q => ∃ a kvs, σ[i]? = some (some (.ref a)) ∧ H a = some (.dK kvs) ∧ ∀ ob, Q (.ref a) (upd H a (.frz ob (.dK kvs)))
theorem pe_fix (ho : PE X o (tVar i)) : PE X o (tFix i) := by
  refine ⟨fun pins s σ H Q I ⟨a, kvs, ea, ha, q⟩ => ?_⟩
  refine thn (ho.run pins s σ H (fun v H1 => v = .ref a ∧ H1 = H) I ⟨.ref a, ea, rfl, rfl⟩) fun v s1 ⟨x, H1, I1, r1, e1, e2⟩ => ?_
  subst e1 e2
  have hk := I1.hok a _ ha
  simp only [ObjOk] at hk
  obtain ⟨z1, z2, vs, kv, dd⟩ := hk
  obtain ⟨ob, hob⟩ : ∃ ob, s1.heap.get? a = some ob := by
    obtain ⟨ob, es, ep, h, _⟩ := dd
    exact ⟨ob, h⟩
  have I2 := d_write (h' := s1.heap) (t' := s1.toks) (ob := .frz ob (.dK kvs)) I1 (by rw [ha]; trivial) ⟨rfl, fun _ _ => rfl⟩ ⟨ob, hob⟩ (by
    simp only [ObjOk]
    exact ⟨hob, z1, z2, vs, kv, dd⟩)
  exact ⟨.ref a, _, I2, r1, q ob⟩
theorem drives_keys {K : PySem.W.Frag} {F : Hp} {a : Addr} {ob : Obj} {kvs : List (Int × Int)} (h : F a = some (.frz ob (Own.dI kvs).ho)) : Drives K (Itk a ob (kvs.map fun p => ((Sum.inl p.1 : Key), V.int p.2))) F (kvs.map fun p => PyData.int p.1) := fun j H s => by
  have hH : H a = some (.frz ob (.dK (kvs.map fun p => ((Sum.inl p.1 : Key), V.int p.2)))) := s _ _ h
  refine ⟨fun hi => ⟨hH, by simpa using hi⟩, fun d hd => ?_⟩
  have hj : j < kvs.length := by
    have := (List.getElem?_eq_some_iff.mp hd).1
    simpa using this
  refine ⟨⟨hH, by simpa using hj⟩, fun x H' ⟨eH, kk, v, e, ex⟩ => .inl ⟨eH, ?_⟩⟩
  rw [List.getElem?_map, List.getElem?_eq_getElem hj] at e hd
  cases e
  cases hd
  rw [ex]
  exact .int _
theorem di_dkeys {tg : Expr} (ho : PE X o (tVar i)) : PI X tg o (tI X.K (dDKeys i)) := PI.imp (pi_keys (pe_fix ho)) fun σ H R ⟨g, F, δ, ds, δ', k, hf, q⟩ => by
  unfold dDKeys at hf
  split at hf
  · rename_i kvs hd
    cases hf
    obtain ⟨v, ev, a, rfl, h0, hF, ha⟩ := k.rep i _ hd
    refine ⟨a, _, ev, ha, fun ob => ⟨a, ob, rfl, .inl ⟨_, upd_same, ?_⟩⟩⟩
    obtain ⟨k2, s2⟩ := k.fixed (ob := ob) hd ev
    exact q _ _ _ k2 s2 (drives_keys upd_same)
  · cases hf
end
end DL
set_option Elab.async false
set_option linter.all false
set_option maxRecDepth 100000
set_option maxHeartbeats 3200000
/-! Rules: sorted(x), sum(x.values()), x = y, x a dict. -/
namespace DL
open PySem PySem.Spec PyProof.Rows L2 SrtO SrtR
theorem size_keep {h h' : Heap} (k : ∀ (b : Addr) (o : Obj), h.get? b = some o → h'.get? b = some o) {a : Addr} {o : Obj} (e : h.get? a = some o) : a < h'.objs.size := Heap.lt_size (k a o e)
section
variable {prog : Program} {w : World} {A : Around} {E : Value → Shared → Prop} {s : Shared}
theorem collect_src {T : String} {r d : Addr} {n : Nat} {P : Nat → Value → Prop} {OK : Heap → Prop} {R : List Value → Shared → Prop} (K : PySem.W.KdlSrc prog w T r d n P OK) (hh : A.handled = none) (hok : OK s.heap) (hn : n ≤ sizeLine)
    (h : ∀ (h' : Heap) (tk : Nat) (acc : Array Value), (∀ (b : Addr) (o : Obj), s.heap.get? b = some o → h'.get? b = some o) → s.heap.objs.size ≤ h'.objs.size → ItemsOf P acc n → R acc.toList { s with heap := h', toks := tk }) :
    wpAny (model prog w) A (collect (.ref r)) R E s := by
  obtain ⟨hr, hd⟩ := K.there s.heap hok
  have hold : ∀ (b : Addr) (o : Obj), s.heap.get? b = some o → (s.heap.push (seqObj "list" #[] 0)).get? b = some o := fun b o q => Heap.get?_push_of_some _ q
  unfold collect
  refine wpAny_bind (wpAny_runValue (codeAny_builtin entry_proto_collect' ?_))
  rw [Around.under_plainId PySem.F.plain_proto_collect]
  show wpAny _ _ (do again (.builtin "list.__iadd__" ⟨[← newList [], .ref r], []⟩)) _ _ s
  refine wpAny_bind (wpAny_newList (wpAny_pure ⟨Code.quiet_builtin _ (by decide +kernel), codeAny_builtin entry_list_iadd' ?_⟩))
  rw [Around.under_plainId PySem.F.plain_list_iadd]
  show wpAny _ _ (Builtin.List.listExtendWith (.ref s.heap.objs.size) (.ref r) (.ref s.heap.objs.size)) _ _ { s with heap := s.heap.push (seqObj "list" #[] 0) }
  refine PySem.W.kdl_extend (A := A) (R := fun r s' => match r with
      | .ok (.ret v) => wpAny (model prog w) A (match v with
        | .ref a => do
          let o ← load a
          match o.data with
          | .seq xs _ => pure xs.toList
          | _ => unsupported "internal:collect"
        | _ => unsupported "internal:collect") R E s'
      | .ok _ => False
      | .error e => E e s') (s := { s with heap := s.heap.push (seqObj "list" #[] 0) }) K ?_ (K.keep _ _ hok fun b _ o q => hold b o q) s.heap.objs.size (Nat.ne_of_gt hr) (Nat.ne_of_gt hd) (.ref s.heap.objs.size) 0 (Heap.get?_push_size _ rfl) (fun h' tk acc c k1 k2 ia => ?_) hn
  · exact hh
  · show wpAny (model prog w) A (do
      let o ← load s.heap.objs.size
      match o.data with
      | .seq xs _ => pure xs.toList
      | _ => unsupported "internal:collect") R E _
    refine wpAny_bind (wpAny_load k2 ?_)
    refine wpAny_pure (h h' tk acc (fun b o q => k1 b o (Nat.ne_of_lt (Heap.lt_size q)) (hold b o q)) (Nat.le_of_lt (Heap.lt_size k2)) ia)
theorem sorted_src {T : String} {r d : Addr} {n : Nat} {P : Nat → Value → Prop} {OK : Heap → Prop} {ns : List Int} {Q : Value → Shared → Prop} (K : PySem.W.KdlSrc prog w T r d n P OK) (hh : A.handled = none) (hok : OK s.heap) (hn : n ≤ sizeLine)
    (hP : ∀ acc : Array Value, ItemsOf P acc n → IntsAre acc.toList ns)
    (h : ∀ (h2 : Heap) (tk : Nat) (out : Array Value) (e : Nat) (p : Addr), (∀ (b : Addr) (o : Obj), s.heap.get? b = some o → h2.get? b = some o) → s.heap.objs.size ≤ p → IntsAre out.toList (sortI ns) → h2.get? p = some (seqObj "list" out e) → Q (.ref p) { s with heap := h2, toks := tk }) :
    wpAny (model prog w) A (call (.builtin "sorted") [.ref r]) Q E s := by
  refine call_function_entry_kw kind_sorted plain_sorted entry_sorted (PyProof.Rows.args_sorted1 _) ?_
  unfold Builtin.«sorted»
  refine wpAny_bind (m := checkCount "sorted" 1 1 _) (wpAny_pure ?_)
  refine wpAny_bind (collect_src K hh hok hn fun h' tk acc keep hsz ia => ?_)
  have hi := hP acc ia
  have hz : acc.toList.length ≤ sizeLine := by
    rw [Array.length_toList, ia.1]
    exact hn
  refine wpAny_bind (wpAny_newList ?_ hz)
  have hoL : (h'.push (seqObj "list" acc.toList.toArray 0)).get? h'.objs.size = some (seqObj "list" acc.toList.toArray 0) := Heap.get?_push_size _ rfl
  refine wpAny_bind (wpAny_holding (wpAny_call_entry_kw slot_list_sort ⟨_, hoL, rfl⟩ entry_list_sort ?_ (PyProof.Rows.args_list_sort _)))
  rw [rev_none]
  refine list_sort_ordR SrtO.swo_int hoL hz (fun h2 => SrtO.ints_sortable hi h2) fun out h1 h2 => ⟨_, rfl, ?_⟩
  obtain ⟨ns', k1, k2, k3⟩ := SrtR.ints_outR (b := false) hi h1 h2
  have en : ns' = sortI ns := sortI_eq k2 k3
  subst en
  obtain ⟨e, he⟩ := sortedHeap_at (out := out.toArray) hoL
  refine wpAny_pure ⟨_, rfl, h _ tk out.toArray e h'.objs.size (fun b o q => ?_) hsz k1 he⟩
  have hlt := size_keep keep q
  have hlt2 : b < (h'.push (seqObj "list" acc.toList.toArray 0)).objs.size := by
    rw [size_push']
    exact Nat.lt_succ_of_lt hlt
  show (sortedHeap (h'.push (seqObj "list" acc.toList.toArray 0)) h'.objs.size acc.toList out.toArray).get? b = some o
  rw [sortedHeap_old (Nat.ne_of_lt hlt) hlt2]
  exact Heap.get?_push_of_some _ (keep b o q)
end
theorem keyIs_int {k : Int} {v : Value} (h : keyIs (Sum.inl k) v = true) : ∃ t, v = .int k t := by
  cases v with
  | int j t =>
    simp [keyIs, Value.isInt] at h
    exact ⟨t, by rw [h]⟩
  | _ => simp [keyIs, Value.isInt] at h
theorem paired_at {α β : Type} {F : α → β → Prop} : ∀ {xs : List α} {ys : List β} {j : Nat} {y : β}, Paired F xs ys → ys[j]? = some y → ∃ x, xs[j]? = some x ∧ F x y
  | _, _, _, _, .nil, e => by simp at e
  | _, _, 0, _, .cons r _, e => by
    simp at e
    subst e
    exact ⟨_, rfl, r⟩
  | _, _, j + 1, _, .cons _ t, e => by
    obtain ⟨x, h1, h2⟩ := paired_at (j := j) t (by simpa using e)
    exact ⟨x, by simpa using h1, h2⟩
theorem ints_at : ∀ (vs : List Value) (ns : List Int), vs.length = ns.length → (∀ (i : Nat) v, vs[i]? = some v → ∃ k t, ns[i]? = some k ∧ v = .int k t) → IntsAre vs ns
  | [], [], _, _ => .nil
  | [], _ :: _, h, _ => by cases h
  | _ :: _, [], h, _ => by cases h
  | v :: vs, n :: ns, h, k => by
    obtain ⟨j, t, e1, e2⟩ := k 0 v rfl
    cases e1
    subst e2
    exact .cons n t (ints_at vs ns (by simpa using h) fun i v e => k (i + 1) v (by simpa using e))
section
variable {X : Cx} {mg : Str → Option Value} {W : WX} {o e f : Expr} {p pos p2 : Pos} {i : Nat} {fe ff : EV}
def rSD : List V → Hp → VK → Prop := fun xs H Q => ∃ a kvs, xs = [.ref a] ∧ Rd H a (Own.dI kvs).ho ∧ kvs.length ≤ sizeLine ∧ ∀ p, H p = none → Q (.ref p) (upd H p (.lst ((sortI (kvs.map (·.1))).map V.int)))
theorem call_sortedD (hc : X.calm = true) : CallR X (.builtin "sorted") rSD := by
  intro pins s σ H xs us Q I rx ⟨a, kvs, ex, hr, hz, q⟩
  subst ex
  rw [Vals.ref1 rx]
  have hk := rd_of I.hok hr
  simp only [Own.ho, ObjOk] at hk
  obtain ⟨z1, z2, vs, kv, ob, es, ep, d1, d2, d3, d4, d5, d6⟩ := hk
  have hl := kv.length
  rw [List.length_map] at hl
  refine sorted_src (ns := kvs.map (·.1)) (PySem.W.kdl_dict (knd := mixKind X.prog X.w) (kvs := vs) (ep := ep) z2) (I.ok.hd hc) ⟨ob, es, d1, d2, d3, d4, d5, d6⟩ (by rw [← hl]; exact hz) (fun acc ia => ?_) fun h2 tk out e p keep hsz k1 he => ?_
  · refine ints_at _ _ (by rw [Array.length_toList, ia.1, List.length_map, hl]) fun j v ev => ?_
    rw [Array.getElem?_toList] at ev
    obtain ⟨kk, x, e1, e2⟩ := ia.2 j v ev
    obtain ⟨q0, e3, e4, _⟩ := paired_at kv e1
    rw [List.getElem?_map] at e3 ⊢
    cases e5 : kvs[j]? with
    | none =>
      rw [e5] at e3
      cases e3
    | some pp =>
      rw [e5] at e3
      cases e3
      have e4 : (Sum.inl pp.1 : Key) = kk := e4
      subst e4
      obtain ⟨t, rfl⟩ := keyIs_int e2
      exact ⟨pp.1, t, rfl, rfl⟩
  · have hlen : ((sortI (kvs.map (·.1))).map V.int).length ≤ sizeLine := by
      rw [List.length_map, (sortI_perm _).length_eq, List.length_map]
      exact hz
    exact ⟨.ref _, upd H p (.lst ((sortI (kvs.map (·.1))).map V.int)), I.laid (t' := tk) keep hsz ⟨hlen, _, e, vals_of_ints k1, by rw [Array.toArray_toList]; exact he⟩, rfl, q _ (I.hok.fresh hsz)⟩
theorem de_dsort (hc : X.calm = true) (hg : Gl X "sorted") (hm : X.mg "sorted" = none) (ho : PE X o (tVar i)) (he : starEach [o] X.env = (false, eval o X.env) :: starEach [] X.env := by rfl) (hpl : (backTo pos (starEach [] X.env)).any (·.1) = false := by rfl) :
    PE X (.Call (.Name "sorted" p) [o] [] pos) (tE X.K (dDSort i)) :=
  PE.imp (pe_callB (call_sortedD hc) hg hm rfl (pa_cons ho pa_nil he) (by decide) (by decide) he hpl) fun σ H Q ⟨g, F, δ, x, δ', k, hf, q⟩ => by
  unfold dDSort at hf
  split at hf
  · rename_i kvs e0
    split at hf
    · rename_i hl
      cases hf
      obtain ⟨a, ev, ha⟩ := k.dictI e0
      refine ⟨.ref a, ev, a, kvs, rfl, ha, lim_le hl, fun p hp => ?_⟩
      refine q (.ref p) F _ (k.push hp) (Same.refl F) (k.newMt hp ?_ (DrAll.ints _))
      rw [List.length_map, (sortI_perm _).length_eq, List.length_map]
      exact lim_le hl
    · cases hf
  · cases hf
/-- x = y, y a dict of its own: y is forgotten -/
theorem ds_move {j : Nat} {x : Str} {pos' : Pos} (hN : X.N.Nodup) (hi : X.N[i]? = some x) (hx : Loc X.env.scope x) (ho : PE X o (tVar j)) (hs : swapsWith o (some (.Name x pos')) pos.line X.env = pure false := by rfl)
    (hf : X.fn x = true ∨ X.env.scope.names.lookup x = some .local := by first | exact .inl rfl | exact .inr rfl | assumption) : PS X (.Assign [.Name x pos'] o pos) (tS X.K mg W (sMove i j)) := PS.imp (ps_set hN hi hx ho hs hf) fun D σ H ⟨g, F, δ, oo, k, hf, q⟩ => by
  unfold sMove at hf
  split at hf
  · rename_i c hd
    split at hf
    · cases hf
    · rename_i hij
      split at hf
      · cases hf
      · rename_i y hno hy
        cases hf
        obtain ⟨v, ev, a, rfl, h0, hF, ha⟩ := k.rep j _ hd
        have k0 := k.loose hd rfl
        have far := k.far hd rfl ev
        have hb : ∀ ds, (δ.set j none)[i]? ≠ some (some (.br ds)) := fun ds e => by
          rw [List.getElem?_set_ne (fun z => hij z.symm)] at e
          rw [hy] at e
          exact hno ds (Option.some.inj e)
        exact ⟨.ref a, ev, q _ F H (k0.store hb ⟨a, rfl, ⟨h0, hF, ha⟩, far⟩) (Same.refl F)⟩
      · cases hf
  · cases hf
end
end DL
set_option Elab.async false
set_option linter.all false
set_option maxRecDepth 100000
set_option maxHeartbeats 3200000
/-! Rules: sum(x.values()), x a dict. -/
namespace DL
open PySem PySem.Spec PyProof.Rows L2
def viewO (a : Addr) : Obj := { cls := .type "dict_values", data := .fields #[.ref a] }
section
variable {X : Cx} {mg : Str → Option Value} {W : WX} {o e f : Expr} {p pos p2 : Pos} {i : Nat}
def rDV : V → List V → Hp → VK → Prop := fun x xs H Q => ∃ a kvs, x = .ref a ∧ xs = [] ∧ Rd H a (Own.dI kvs).ho ∧ ∀ p, H p = none → Q (.ref p) (upd H p (.ext fun h => h.get? p = some (viewO a)))
theorem mt_dvals : MtR X "dict.values" rDV := by
  intro pins s σ H x xs v us Q I rx rxs ⟨a, kvs, ex, exs, hr, q⟩
  subst ex exs
  cases rx
  cases rxs
  have hk := rd_of I.hok hr
  simp only [Own.ho, ObjOk] at hk
  obtain ⟨z1, z2, vs, kv, ob, es, ep, d1, d2, d3, d4, d5, d6⟩ := hk
  refine call_meetsIn PySem.F.slot_dict_values ⟨ob, d1, d2.1⟩ PySem.F.entry_dict_values (PySem.F.args_dict_values_1 _) (meets_dict_values (mixKind X.prog X.w) a z2) ⟨⟨vs, ob, es, ep, d1, d2, d3, d4, d5, d6⟩, ?_⟩
  have hg : (s.heap.push (viewO a)).get? s.heap.objs.size = some (viewO a) := Heap.get?_push_size _ rfl
  refine ⟨.ref s.heap.objs.size, _, I.laid (t' := s.toks) (a := s.heap.objs.size) (o := .ext fun h => h.get? s.heap.objs.size = some (viewO a)) (fun b u e => Heap.get?_push_of_some _ e) (Nat.le_refl _) ?_, rfl, q _ (I.hok.fresh (Nat.le_refl _))⟩
  simp only [ObjOk]
  exact ⟨hg, ⟨_, hg⟩, fun h1 h2 e k => k _ e⟩
def rSV : List V → Hp → VK → Prop := fun xs H Q => ∃ p a kvs, xs = [.ref p] ∧ H p = some (.ext fun h => h.get? p = some (viewO a)) ∧ Rd H a (Own.dI kvs).ho ∧ Q (.int (kvs.map (·.2)).sum) H
theorem call_sumV (hc : X.calm = true) : CallR X (.builtin "sum") rSV := by
  intro pins s σ H xs us Q I rx ⟨p, a, kvs, exs, hp, hr, q⟩
  subst exs
  rw [Vals.ref1 rx]
  have hh := I.ok.hd hc
  have hv := I.hok p _ hp
  simp only [ObjOk] at hv
  obtain ⟨hv, _⟩ := hv
  have hk := rd_of I.hok hr
  simp only [Own.ho, ObjOk] at hk
  obtain ⟨z1, z2, vs, kv, ob, es, ep, d1, d2, d3, d4, d5, d6⟩ := hk
  have K := PySem.W.kdl_values (prog := X.prog) (w := X.w) (knd := mixKind X.prog X.w) (d := a) (r := p) (kvs := vs) (ep := ep)
  have hok : s.heap.IsValuesView p a ∧ Heap.DictAt (mixKind X.prog X.w) s.heap a vs ep := ⟨⟨_, hv, rfl, rfl⟩, ob, es, d1, d2, d3, d4, d5, d6⟩
  obtain ⟨hr1, hd1⟩ := K.there s.heap hok
  refine call_sum_walkAnyS ?_
  obtain ⟨oI, St, it, WW, st0⟩ := K.iter X.A.in1 s hh hok
  refine it _ _ ?_
  refine ⟨s.heap.objs.size, _, _, _, vs.length, _, _, numAt (kvs.map fun p => (p.2, 0)).toArray, rfl, WW.toS, st0, fun b hb => ?_, fun j v hv2 => ?_, fun s' t' mv => ?_⟩
  · have hz : (s.heap.push oI).objs.size = s.heap.objs.size + 1 := size_push' _ _
    show b < (s.heap.push oI).objs.size
    rw [hz]
    rcases List.mem_cons.mp hb with rfl | hb
    · exact Nat.lt_succ_self _
    · rw [List.mem_singleton.mp hb]
      exact Nat.lt_succ_of_lt hd1
  · obtain ⟨kk, e1⟩ := hv2
    obtain ⟨q0, e3, e4, e5⟩ := paired_at kv e1
    rw [List.getElem?_map] at e3
    cases e6 : kvs[j]? with
    | none =>
      rw [e6] at e3
      cases e3
    | some pp =>
      rw [e6] at e3
      cases e3
      obtain ⟨t, e7⟩ : ∃ t, v = .int pp.2 t := e5
      refine ⟨t, ?_⟩
      rw [e7]
      congr 1
      simp [numAt, e6]
  · have hl := kv.length
    rw [List.length_map] at hl
    have es : preSum (numAt (kvs.map fun p => (p.2, (0 : Tok))).toArray) vs.length = (kvs.map (·.2)).sum := by
      rw [preSum_eq, List.take_of_length_le (by simp [hl])]
      simp [Function.comp_def]
    rw [es]
    have keep : ∀ (b : Addr) (u : Obj), s.heap.get? b = some u → s'.heap.get? b = some u := fun b u e => mv.heap b u (fun z => by
      rw [List.mem_singleton.mp z] at e
      exact absurd (Heap.lt_size e) (Nat.lt_irrefl _)) (Heap.get?_push_of_some _ e)
    have I2 := I.kept (t' := s'.toks) keep
    have e2 : s' = { heap := s'.heap, gens := s.gens, drawn := s.drawn, toks := s'.toks, os := s.os } := by
      have a1 := mv.gens
      have a2 := mv.drawn
      have a3 := mv.os
      cases s'
      simp only at a1 a2 a3
      subst a1 a2 a3
      rfl
    rw [← e2] at I2
    exact ⟨.int _, H, I2, ⟨_, rfl⟩, q⟩
def tDVals (i : Nat) : TE := fun σ H Q => ∃ a kvs, σ[i]? = some (some (.ref a)) ∧ Rd H a (Own.dI kvs).ho ∧ ∀ p, H p = none → Q (.ref p) (upd H p (.ext fun h => h.get? p = some (viewO a)))
theorem pe_dvals {apos cpos : Pos} (ho : PE X o (tVar i))
    (hbase : attributeBase o "values" X.env (eval o X.env) = eval o X.env := by rfl) (hline : (apos.endLine == cpos.line) = true := by rfl) :
    PE X (.Call (.Attribute o "values" apos) [] [] cpos) (tDVals i) := by
  refine ⟨fun pins s σ H Q I ⟨a, kvs, ea, hr, q⟩ => ?_⟩
  refine wpAny_Call_method_late hbase (by rfl) hline rfl (thn (ho.run pins s σ H (fun v H1 => v = .ref a ∧ H1 = H) I ⟨.ref a, ea, rfl, rfl⟩) fun v s1 ⟨x, H1, I1, r1, e1, e2⟩ => ?_)
  subst e1 e2
  cases r1
  have hk := rd_of I1.hok hr
  simp only [Own.ho, ObjOk] at hk
  obtain ⟨z1, z2, vs, kv, ob, es, ep, d1, d2, d3, d4, d5, d6⟩ := hk
  refine ⟨"dict", "dict.values", PySem.F.plainAttrs_dict, PySem.F.slot_dict_values, PySem.F.type_dict_values, ⟨ob, d1, d2.1⟩, fun b eb => ?_, ?_⟩
  · cases eb
    exact ⟨ob, d1, d2.2.1⟩
  · refine Calls.callWith_builtin rfl ?_
    refine wpAny_pure ?_
    exact mt_dvals pins s1 σ H1 (.ref a) [] _ [] Q I1 rfl .nil ⟨a, kvs, rfl, rfl, hr, q⟩
theorem de_dsum {apos cpos : Pos} (hc : X.calm = true) (hg : Gl X "sum") (hm : X.mg "sum" = none) (ho : PE X o (tVar i))
    (hbase : attributeBase o "values" X.env (eval o X.env) = eval o X.env := by rfl) (hline : (apos.endLine == cpos.line) = true := by rfl)
    (he : starEach [.Call (.Attribute o "values" apos) [] [] cpos] X.env = (false, eval (.Call (.Attribute o "values" apos) [] [] cpos) X.env) :: starEach [] X.env := by rfl) (hpl : (backTo pos (starEach [] X.env)).any (·.1) = false := by rfl) :
    PE X (.Call (.Name "sum" p) [.Call (.Attribute o "values" apos) [] [] cpos] [] pos) (tE X.K (dDSum i)) :=
  PE.imp (pe_callB (call_sumV hc) hg hm rfl (pa_cons (pe_dvals ho hbase hline) pa_nil he) (by decide) (by decide) he hpl) fun σ H Q ⟨g, F, δ, x, δ', k, hf, q⟩ => by
  unfold dDSum at hf
  split at hf
  · rename_i kvs e0
    cases hf
    obtain ⟨a, ev, ha⟩ := k.dictI e0
    refine ⟨a, kvs, ev, ha, fun p hp => ⟨p, a, kvs, rfl, upd_same, ?_, ?_⟩⟩
    · exact Same.rd (same_new hp) ha
    · exact q (.int _) F _ (k.push hp) (Same.refl F) (.int _)
  · cases hf
end
end DL
set_option Elab.async false
set_option linter.all false
set_option maxRecDepth 100000
set_option maxHeartbeats 1000000
/-! Defs of the text by name; the law's own def. -/
namespace DL
open PySem PySem.Spec PyProof.Rows L2
abbrev FunS (K : PySem.W.Frag) (x qual : Str) (st : Stmt) (f : Addr) (fd : FuncData) : Prop := FunD K x qual (defArgs st) (defBody st) (defScope st) [] [] f fd
theorem funS {K : PySem.W.Frag} {x qual : Str} {st : Stmt} {f : Addr} {fd : FuncData} (F : FunS K x qual st f fd) : Fun K x qual st f fd := by
  obtain ⟨oc, od, dV, kV, doc, pm, an, cdv, ct, osl, rfl, lk, hcd, hD, _⟩ := F.ex
  rcases hD with ⟨_, rfl⟩ | ⟨e, _⟩
  · exact ⟨⟨oc, od, kV, doc, pm, an, cdv, ct, osl, rfl, lk, hcd⟩, F.kp⟩
  · exact absurd rfl e
/-- a def of the text, by name, does what Φ says -/
structure Good (P : Program) (w : World) (K : PySem.W.Frag) (mg : Str → Option Value) (base : Heap) (k : Nat) (x : Str) (ps : List Str) (Φ : Fn) : Prop where
  g : mg x = some (.ref (He.ga K x))
  ok : ∃ fd, PySem.W.keepIn K (.ref (He.ga K x)) = true ∧ Binds K fd ps [] ∧ FnOk P w K mg base (L2.CX P w) k (He.ga K x) fd ps (spD K mg ps.length Φ)
theorem Good.mono {P : Program} {w : World} {K : PySem.W.Frag} {mg : Str → Option Value} {base : Heap} {j k : Nat} {x : Str} {ps : List Str} {Φ : Fn} (G : Good P w K mg base j x ps Φ) (h : j ≤ k) : Good P w K mg base k x ps Φ := by
  obtain ⟨g, fd, h1, h2, h3⟩ := G
  exact ⟨g, fd, h1, h2, h3.mono h⟩
section
variable {P : Program} {w : World} {K : PySem.W.Frag} {mg : Str → Option Value} {base : Heap}
/-- THE RULE for a def, by name -/
theorem good_of {x : Str} {st : Stmt} {N ps : List Str} {k : Nat} {b : SM} (g : mg x = some (.ref (He.ga K x))) (F : ∃ fd, FunS K x x st (He.ga K x) fd) (S : FnScope N ps (defScope st))
    (hb : ∀ (kV doc pm : Value) (an : Option Addr) (cdv ct : Value) (us : List Value), us.length = ps.length → bindArgs (PySem.W.fnOf x x (defArgs st) (defBody st) (defScope st) .none kV doc pm an cdv ct) ⟨us, []⟩ = pure (ps.zip us))
    (hbody : ∀ (f : Addr) (cdv : Value) (A : Around) (outer : List Env) (s : Shared) (H : Hp) (E : XK), Room k (A.deeper (envOfC x (defScope st) s.heap.objs.size f cdv)) →
      PSs (cxOf (L2.CX P w) P w K mg base N x (defScope st) f cdv A outer s H E) (defBody st) (tS K mg (fun cls d _ H => E cls d H) b)) :
    Good P w K mg base (k + 1) x ps (fnOf N.length b) := by
  obtain ⟨fd, F⟩ := F
  exact ⟨g, fd, F.kp, F.bindsN hb, fn_dat (funS F) S fun cdv A outer s H E hr => hbody _ cdv A outer s H E hr⟩
/-- the law's promise -/
def spLaw (K : PySem.W.Frag) : Sp := fun vs H Q _ => ∃ (a : Addr) (ns : List Int), vs = [.ref a] ∧ SqL K H a (ns.map V.int) ∧ ns.length ≤ 63 ∧ ∀ H', Q (.bl true) H'
theorem same_one {H : Hp} {a : Addr} {o : HO} (h : H a = some o) : Same (upd (fun _ => none) a o) H := fun b u e => by
  rcases upd_or e with ⟨rfl, rfl⟩ | ⟨_, e⟩
  · exact h
  · cases e
theorem dr_scr {a : Addr} {ns : List Int} {H : Hp} (h : SqL K H a (ns.map V.int)) : ∃ F, Same F H ∧ Dr K F (.ref a) (scrD ns) := by
  rcases h with h | h
  · rcases h with h | ⟨o, h⟩
    · exact ⟨_, same_one h, .scr (.inl (.inl upd_same)) rfl⟩
    · exact ⟨_, same_one h, .scr (.inl (.inr ⟨o, upd_same⟩)) rfl⟩
  · exact ⟨fun _ => none, (fun b u e => nomatch e), .scr (.inr h) rfl⟩
/-- the law's own def -/
theorem fn_law {st : Stmt} {f : Addr} {fd : FuncData} {N : List Str} {k : Nat} {b : SM} (F : FunS K "law" "law" st f fd) (S : FnScope N ["script"] (defScope st))
    (hbody : ∀ (cdv : Value) (A : Around) (outer : List Env) (s : Shared) (H : Hp) (E : XK), Room k (A.deeper (envOfC "law" (defScope st) s.heap.objs.size f cdv)) →
      PSs (cxOf CX0 P w K mg base N "law" (defScope st) f cdv A outer s H E).nox (defBody st) (tS K mg W0 b))
    (hlaw : ∀ ns : List Int, ns.length ≤ 63 → ∃ l, fnOf N.length b [.fz (scrD ns)] = some (.ret (.fz (.bool true)) l)) : FnOk P w K mg base CX0 (k + 1) f fd ["script"] (spLaw K) := by
  refine (funS F).ok S (fun vs H Q E h => ?_) fun cdv A outer s H vs Q E hr h => ⟨_, hbody cdv A outer s H E hr, ?_⟩
  · obtain ⟨a, ns, rfl, _⟩ := h
    rfl
  · obtain ⟨a, ns, rfl, hS, hn, q⟩ := h
    obtain ⟨F0, sm, dr⟩ := dr_scr hS
    obtain ⟨l, hl⟩ := hlaw ns hn
    have k0 : Ok K ⟨none, F0, H⟩ F0 H (L2.start N [.ref a]) (DL.start N.length [.fz (scrD ns)]) :=
      Ok.start sm (fun l z => nomatch z) (fun i ds z => by
        cases i with
        | zero => cases z
        | succ i => cases z) (.cons dr .nil)
    unfold fnOf at hl
    split at hl
    · cases hl
    · rename_i r δ e1
      cases hl
      refine ⟨_, F0, _, _, k0, e1, fun v σ' F' H' k' s' r' => ?_⟩
      have r' : Dr K F' v (.bool true) := r'
      obtain rfl := r'.unbool
      exact q _
    · cases hl
    · cases hl
end
section
variable {X : Cx} {mg : Str → Option Value} {W : WX} {kk : Nat} {ps : List Str} {x : Str} {p pos : Pos} {Φ : Fn} {fa : EA} {e : Expr} {es : List Expr}
/-- f(e, ..), a def of the text; nothing is raised -/
theorem de_callG (G : Good X.prog X.w X.K X.mg X.base kk x ps Φ) (hr : Room kk X.A) (ha : PA X (e :: es) (tA X.K fa)) (hlen : ∀ δ ds δ', fa δ = some (ds, δ') → ds.length = ps.length) (hg : Gl X x := by rfl) (hdb : (x == ("__debug__" : Str)) = false := by decide)
    (he : starEach (e :: es) X.env = (false, eval e X.env) :: starEach es X.env := by rfl) (hpl : (backTo pos (starEach es X.env)).any (·.1) = false := by rfl) :
    PE X (.Call (.Name x p) (e :: es) [] pos) (tE X.K (dCall Φ fa)) := by
  obtain ⟨g, fd, h1, h2, h3⟩ := G
  exact de_call h3 hr hg g h1 h2 ha hlen hdb he hpl
/-- f(x, ..), x a list handed on -/
theorem de_callBG {i : Nat} {n : Nat} (G : Good X.prog X.w X.K X.mg X.base kk x ps Φ) (hr : Room kk X.A) (hv : PE X e (tVar i)) (ha : PA X es (tA X.K fa)) (hlen : ∀ δ ds δ', fa δ = some (ds, δ') → ds.length = n) (hn : ps.length = n + 1 := by rfl) (hg : Gl X x := by rfl) (hdb : (x == ("__debug__" : Str)) = false := by decide)
    (he : starEach (e :: es) X.env = (false, eval e X.env) :: starEach es X.env := by rfl) (hpl : (backTo pos (starEach es X.env)).any (·.1) = false := by rfl) :
    PE X (.Call (.Name x p) (e :: es) [] pos) (tE X.K (dCallB Φ i fa)) := by
  obtain ⟨g, fd, h1, h2, h3⟩ := G
  exact de_callB h3 hr hg g h1 h2 hv ha hlen hn hdb he hpl
/-- f(e, ..) as a statement: what f raises leaves this def too -/
theorem ds_callXG {pos' : Pos} (G : Good X.prog X.w X.K X.mg X.base kk x ps Φ) (hr : Room kk X.A) (tk : Takes X W) (ha : PA X (e :: es) (tA X.K fa)) (hmg : mg = X.mg) (hlen : ∀ δ ds δ', fa δ = some (ds, δ') → ds.length = ps.length) (hg : Gl X x := by rfl) (hdb : (x == ("__debug__" : Str)) = false := by decide)
    (he : starEach (e :: es) X.env = (false, eval e X.env) :: starEach es X.env := by rfl) (hpl : (backTo pos (starEach es X.env)).any (·.1) = false := by rfl)
    (hs : swapsWith (.Call (.Name x p) (e :: es) [] pos) none pos'.line X.env = pure false := by rfl) :
    PS X (.Expr (.Call (.Name x p) (e :: es) [] pos) pos') (tS X.K mg W (sCallX Φ fa)) := by
  subst hmg
  obtain ⟨g, fd, h1, h2, h3⟩ := G
  exact ds_callX h3 hr tk hg g h1 h2 ha hlen hdb he hpl hs
end
/-! ### defs as values -/
section
variable {X : Cx} {W : WX} {i kk n : Nat} {x : Str} {p pos : Pos} {e : Expr} {es : List Expr} {t : TA} {fa : EA}
theorem de_fn (g : X.mg x = some (.ref (He.ga X.K x))) (hg : Gl X x := by rfl) (hd : (x == ("__debug__" : Str)) = false := by decide) : PE X (.Name x pos) (tV X.K (dC (fnD x))) :=
  de_c (pe_glob (v := .ref (He.ga X.K x)) hg g rfl hd) fun _ => .fn rfl
def GoodT (P : Program) (w : World) (K : PySem.W.Frag) (mg : Str → Option Value) (base : Heap) (k n : Nat) (tbl : List (Str × Fn)) : Prop := ∀ x Φ, lookF tbl x = some Φ → ∃ ps, ps.length = n ∧ Good P w K mg base k x ps Φ
theorem goodT_nil {P : Program} {w : World} {K : PySem.W.Frag} {mg : Str → Option Value} {base : Heap} : GoodT P w K mg base kk n [] := fun x Φ h => by cases h
theorem goodT_cons {P : Program} {w : World} {K : PySem.W.Frag} {mg : Str → Option Value} {base : Heap} {Φ : Fn} {ps : List Str} {tbl : List (Str × Fn)} {j : Nat} (G : Good P w K mg base j x ps Φ) (hj : j ≤ kk) (hn : ps.length = n) (t : GoodT P w K mg base kk n tbl) : GoodT P w K mg base kk n ((x, Φ) :: tbl) := fun y Ψ h => by
  unfold lookF at h
  split at h
  · rename_i e
    cases h
    subst e
    exact ⟨ps, hn, G.mono hj⟩
  · exact t y Ψ h
/-- a call of what slot i holds -/
def tCallSL (P : Program) (w : World) (K : PySem.W.Frag) (mg : Str → Option Value) (base : Heap) (k i : Nat) (E : L2.St → XK) (t : TA) : TE := fun σ H Q => ∃ (f : Addr) (fd : FuncData) (ps : List Str) (sp : Sp), (FnOk P w K mg base (L2.CX P w) k f fd ps sp ∧ PySem.W.keepIn K (.ref f) = true ∧ Binds K fd ps []) ∧ σ[i]? = some (some (.ref f)) ∧ t σ H fun vs H1 => sp vs H1 Q (E σ)
theorem pe_callSL {E : L2.St → XK} (hr : Room kk X.A) (hv : PE X (.Name x p) (tVar i)) (hx : ∀ σ, PassesAt (L2.CX X.prog X.w) X σ (E σ)) (ha : PA X (e :: es) t)
    (he : starEach (e :: es) X.env = (false, eval e X.env) :: starEach es X.env := by rfl) (hpl : (backTo pos (starEach es X.env)).any (·.1) = false := by rfl) :
    PE X (.Call (.Name x p) (e :: es) [] pos) (tCallSL X.prog X.w X.K X.mg X.base kk i E t) := by
  refine ⟨fun pins s σ H Q I h => ?_⟩
  obtain ⟨f, fd, ps, sp, ⟨F, hk, hb⟩, hs, ht⟩ := h
  refine wpAny_Call_Name_kw (thn (hv.run pins s σ H (fun v H1 => v = .ref f ∧ H1 = H) I ⟨.ref f, hs, rfl, rfl⟩) fun u s1 ⟨v, H1, I1, r1, q1⟩ => ?_)
  obtain ⟨rfl, rfl⟩ := q1
  cases r1
  refine PySem.W.callWith_K (h₀ := X.base) I.ok.mod.kin hk (thn (ha.run pos pins s1 σ _ _ I1 ht) fun us s2 ⟨vs, H2, I2, r, q⟩ => ⟨I2.kIn, ?_⟩) he hpl
  exact run_fnS F hr hb (hx σ) I2 r q
theorem unFn_inv {d : D} {x : Str} (h : unFn d = some x) : d = .dict [(.bool false, .str x)] := by
  unfold unFn at h
  split at h
  · cases h
    rfl
  · cases h
theorem Dr.unfn {K : PySem.W.Frag} {F : Hp} {v : V} {x : Str} (h : Dr K F v (.dict [(.bool false, .str x)])) : v = .ref (He.ga K x) := by
  cases h with
  | par h1 h2 h3 h4 => cases h4
  | scr h1 h2 => cases h2
  | fn h =>
    cases h
    rfl
  | @dct _ c _ h1 h2 => cases c <;> cases h2
theorem ds_callXV {mg : Str → Option Value} {tbl : List (Str × Fn)} {pos' : Pos} (GT : GoodT X.prog X.w X.K X.mg X.base kk n tbl) (hr : Room kk X.A) (tk : Takes X W) (hv : PE X (.Name x p) (tVar i)) (ha : PA X (e :: es) (tA X.K fa)) (hmg : mg = X.mg) (hlen : ∀ δ ds δ', fa δ = some (ds, δ') → ds.length = n)
    (he : starEach (e :: es) X.env = (false, eval e X.env) :: starEach es X.env := by rfl) (hpl : (backTo pos (starEach es X.env)).any (·.1) = false := by rfl)
    (hs : swapsWith (.Call (.Name x p) (e :: es) [] pos) none pos'.line X.env = pure false := by rfl) :
    PS X (.Expr (.Call (.Name x p) (e :: es) [] pos) pos') (tS X.K mg W (sCallXV tbl i fa)) := by
  subst hmg
  refine PS.imp (ps_expr (pe_callSL (E := WE W) hr hv (fun σ => passAt tk σ) ha he hpl) hs) fun D σ H ⟨g, F, δ, o, k, hf, q⟩ => ?_
  unfold sCallXV at hf
  split at hf
  · rename_i d e0
    split at hf
    · rename_i y e3
      split at hf
      · rename_i Φ e4
        obtain ⟨ps, hn, g0, fd, hk, hb, G⟩ := GT y Φ e4
        have ed := unFn_inv e3
        subst ed
        obtain ⟨v, es, r⟩ := k.rep i _ e0
        have ev := Dr.unfn r
        subst ev
        refine ⟨_, fd, ps, _, ⟨G, hk, hb⟩, es, ?_⟩
        unfold sCallX at hf
        split at hf
        · cases hf
        · rename_i ds δ1 e1
          refine ⟨g, F, δ, ds, δ1, k, e1, fun vs F1 H1 k1 s1 r1 => ?_⟩
          split at hf
          · rename_i r b e2
            cases hf
            refine ⟨by rw [r1.length, hn]; exact hlen _ _ _ e1, F1, none, ds.map .fz, _, k1.sub, (fun l z => nomatch z), fun i b z => (noB z).elim, ArgsOk.all r1, e2, fun v F' H' t1 t2 t3 t4 t5 t6 => ?_⟩
            exact q σ F' H' (k1.called t1 t2 (fun a o e => t3 a o e (fun z => nomatch z)) t4) (s1.trans t1)
          · rename_i c e2
            cases hf
            refine ⟨by rw [r1.length, hn]; exact hlen _ _ _ e1, F1, none, ds.map .fz, _, k1.sub, (fun l z => nomatch z), fun i b z => (noB z).elim, ArgsOk.all r1, e2, fun C H' hC t3 => ?_⟩
            exact q C σ F1 H' hC (k1.later fun a o e => t3 a o e (fun z => nomatch z)) s1
          · cases hf
      · cases hf
    · cases hf
  · cases hf
end
/-- an own exception class, by name -/
theorem ds_raiseG {X : Cx} {mg : Str → Option Value} {W : WX} {x m : Str} {j : Nat} {p p2 pc pos : Pos} (hc : X.calm = true) (tk : Takes X W) (T : (He.Fa.exc x).ok X.K = true) (gC : X.mg x = some (.ref (He.ga X.K x))) (hmg : mg = X.mg) (hg : Gl X x := by rfl) (hdb : (x == ("__debug__" : Str)) = false := by decide) :
    PS X (.Raise (some (.Call (.Name x p) [.Constant (.str m) j p2] [] pc)) none pos) (tS X.K mg W (sRaise x)) := by
  subst hmg
  obtain ⟨h1, h2, h3, h4⟩ := He.exc_ok T
  exact ds_raise hc tk PySem.F.excBase_ValueError h1 gC h2 (raises_own h3 h4) hg gC hdb
theorem u1 {A : Around} (h : A.units + 64 < cLine) : A.units + 1 < cLine := by omega
theorem unit64 {k : Nat} {A : Around} (hr : Room k A) : A.units + 64 < cLine := by
  have := hr.un
  omega
theorem unit65 {k : Nat} {A : Around} (hr : Room k A) : A.units + 65 < cLine := by
  have := hr.un
  omega
section
variable {X : Cx} {x : Str} {i : Int} {e : Expr} {es : List Expr} {p p2 pos : Pos}
/-- an int of the module -/
theorem de_globI (hg : Gl X x) (h : ∃ t, X.mg x = some (.int i t)) (hd : (x == ("__debug__" : Str)) = false := by decide) : PE X (.Name x pos) (tV X.K (dC (.int i))) := by
  obtain ⟨t, h⟩ := h
  exact de_glob hg h ⟨t, rfl⟩ hd
/-- sorted(e, reverse=True) -/
theorem de_sortR {f : EAL} {kp kp2 : Pos} {j : Nat} (hg : Gl X "sorted") (hm : X.mg "sorted" = none) (ha : PA X (e :: es) (tAL X.K f))
    (he : backTo pos (starEach (e :: es) X.env) = (false, eval e X.env) :: backTo pos (starEach es X.env) := by rfl) (hpl : (backTo pos (starEach (e :: es) X.env)).any (·.1) = false := by rfl) :
    PE X (.Call (.Name "sorted" p) (e :: es) [⟨some "reverse", .Constant (.bool true) j kp, kp2⟩] pos) (tE X.K (dCB gSortedR f)) :=
  PE.imp (pe_callBK cd_sortedR hg hm (by decide +kernel) ha (pk_cons pe_bl pk_nil) (by decide) (by decide) he hpl) fun σ H Q h => by
    obtain ⟨g, F, δ, ds, δ', k, hf, q⟩ := cb_read h
    exact ⟨g, F, δ, ds, δ', k, hf, fun vs F' H' k' s' r' => ⟨rfl, q vs F' H' k' s' r'⟩⟩
end
/-! ### the head's facts, with classes of errors -/
def excB (K : PySem.W.Frag) (C : Addr) : Bool :=
  He.eqO (PySem.W.findIn K (.ref C) "__getattribute__") (some (some (.builtin "BaseException.__getattribute__"))) && (He.eqO (PySem.W.findIn K (.ref C) "__getattr__") (some none) && (decide (PySem.W.subIn K (.ref C) (.type "BaseException") = some true) &&
    (PySem.W.hasDictIn K C && (He.eqO (PySem.W.findIn K (.ref C) "__class__") (some (some (.builtin "object.__class__"))) && (He.eqO (PySem.W.specialIn K (.builtin "object.__class__") "__get__") (some (some (.builtin "getset_descriptor.__get__"))) &&
      (decide (PySem.W.takesIn K (.builtin "object.__class__") = some true) && decide (PySem.W.mroIn K C (.type "object") = some true)))))))
def exB (base : Str) (cl : List Str) (K : PySem.W.Frag) : Bool := ((base :: cl).all fun q => (He.Fa.glo q).ok K) && (cl.all fun q => excB K (He.ga K q) && (decide (PySem.W.exmOne K (.ref (He.ga K q)) (.ref (He.ga K base)) = some true) &&
  cl.all fun z => decide (PySem.W.kitOne K (.ref (He.ga K q)) (.ref (He.ga K z)) = some (q == z))))
theorem excB_ok {K : PySem.W.Frag} {C : Addr} (h : excB K C = true) : ExcC K C := by
  obtain ⟨h1, h⟩ := He.ba h
  obtain ⟨h2, h⟩ := He.ba h
  obtain ⟨h3, h⟩ := He.ba h
  obtain ⟨h4, h⟩ := He.ba h
  obtain ⟨h5, h⟩ := He.ba h
  obtain ⟨h6, h⟩ := He.ba h
  obtain ⟨h7, h8⟩ := He.ba h
  exact ⟨He.eqO_ok h1, He.eqO_ok h2, of_decide_eq_true h3, h4, He.eqO_ok h5, He.eqO_ok h6, of_decide_eq_true h7, of_decide_eq_true h8⟩
theorem exB_ok {K : PySem.W.Frag} {h : Heap} {mg : Str → Option Value} {base : Str} {cl : List Str} (X : K.In h) (G : h.Ns mainGlobals mg) (c : exB base cl K = true) : ExT K mg base cl := by
  obtain ⟨c1, c2⟩ := He.ba c
  have c2 := List.all_eq_true.mp c2
  refine ⟨fun q hq => He.glo_ok X G (List.all_eq_true.mp c1 q hq), fun q hq => excB_ok (He.ba (c2 q hq)).1, fun q hq => of_decide_eq_true (He.ba (He.ba (c2 q hq)).2).1, fun q hq z hz => ?_⟩
  exact of_decide_eq_true (List.all_eq_true.mp (He.ba (He.ba (c2 q hq)).2).2 z hz)
def obsX (n : Nat) (fa : List He.Fa) (fn : List He.DefD) (base : Str) (cl : List Str) (g : Addr → Option Obj) : He.AlD × Bool := (He.obsD fa fn (He.frG g (He.asD g n)), exB base cl (He.frG g (He.asD g n)))
def hookX (n : Nat) (fa : List He.Fa) (fn : List He.DefD) (base : Str) (cl : List Str) : PySem.W.Hook where
  α := He.AlD × Bool
  obs := fun s => obsX n fa fn base cl s.heap.get?
  val := fun _ => (He.valD fn, true)
  says := fun _ h => ∃ K : PySem.W.Frag, K.In h ∧ He.SaysD fa fn K ∧ exB base cl K = true
  of := fun _ _ e => ⟨_, He.frG_in, congrArg (fun z : He.AlD × Bool => z.1) e, congrArg (fun z : He.AlD × Bool => z.2) e⟩
  keeps := fun _ _ _ ⟨K, hK, c⟩ k => ⟨K, PySem.W.Frag.In.keeps hK k, c⟩
theorem obsX_eq {n : Nat} {fa : List He.Fa} {fn : List He.DefD} {base : Str} {cl : List Str} {g : Addr → Option Obj} {s : Shared} (h : ∀ a, g a = s.heap.get? a) : obsX n fa fn base cl g = (hookX n fa fn base cl).obs s := by
  have e : g = s.heap.get? := funext h
  rw [e]
  rfl
end DL
set_option Elab.async false
set_option linter.all false
set_option maxRecDepth 100000
set_option maxHeartbeats 4000000
namespace LawK08
open PySem PySem.Spec PyProof.Rows L2 DL FT
def topS (i : Nat) : Stmt := PySem.Challenge.pw_freethirds_k08_whole_counts_of_large_bas.main.body.getD i (.Pass ⟨0, 0, 0, 0⟩)
abbrev s__law_bag : Stmt := topS 20
abbrev N__law_bag : List Str := ["script", "k", "cell", "seed"]
theorem S__law_bag : FnScope N__law_bag ["script", "k"] (defScope s__law_bag) := ⟨rfl, rfl, rfl, by decide +kernel, rfl, by decide +kernel, by decide +kernel⟩
abbrev s__law_take : Stmt := topS 21
abbrev N__law_take : List Str := ["bag", "count", "found"]
theorem S__law_take : FnScope N__law_take ["bag", "count"] (defScope s__law_take) := ⟨rfl, rfl, rfl, by decide +kernel, rfl, by decide +kernel, by decide +kernel⟩
abbrev s__law_of : Stmt := topS 22
abbrev N__law_of : List Str := ["bag", "some"]
theorem S__law_of : FnScope N__law_of ["bag", "some"] (defScope s__law_of) := ⟨rfl, rfl, rfl, by decide +kernel, rfl, by decide +kernel, by decide +kernel⟩
abbrev s__law_basket : Stmt := topS 23
abbrev N__law_basket : List Str := ["bag", "most", "high", "size", "some", "found", "turn"]
theorem S__law_basket : FnScope N__law_basket ["bag", "most", "high"] (defScope s__law_basket) := ⟨rfl, rfl, rfl, by decide +kernel, rfl, by decide +kernel, by decide +kernel⟩
abbrev s__law_choose : Stmt := topS 26
abbrev N__law_choose : List Str := ["many", "some", "found", "at"]
theorem S__law_choose : FnScope N__law_choose ["many", "some"] (defScope s__law_choose) := ⟨rfl, rfl, rfl, by decide +kernel, rfl, by decide +kernel, by decide +kernel⟩
abbrev s__law_offer : Stmt := topS 24
abbrev N__law_offer : List Str := ["bag"]
theorem S__law_offer : FnScope N__law_offer ["bag"] (defScope s__law_offer) := ⟨rfl, rfl, rfl, by decide +kernel, rfl, by decide +kernel, by decide +kernel⟩
abbrev s__law_table : Stmt := topS 25
abbrev N__law_table : List Str := ["offer", "basket", "known", "at", "price", "later", "size"]
theorem S__law_table : FnScope N__law_table ["offer", "basket"] (defScope s__law_table) := ⟨rfl, rfl, rfl, by decide +kernel, rfl, by decide +kernel, by decide +kernel⟩
abbrev s_binomial : Stmt := topS 15
abbrev N_binomial : List Str := ["many", "chosen", "found", "index"]
theorem S_binomial : FnScope N_binomial ["many", "chosen"] (defScope s_binomial) := ⟨rfl, rfl, rfl, by decide +kernel, rfl, by decide +kernel, by decide +kernel⟩
abbrev s_price_classes : Stmt := topS 14
abbrev N_price_classes : List Str := ["offer", "basket", "found", "seen", "price", "number"]
theorem S_price_classes : FnScope N_price_classes ["offer", "basket"] (defScope s_price_classes) := ⟨rfl, rfl, rfl, by decide +kernel, rfl, by decide +kernel, by decide +kernel⟩
abbrev s_counts : Stmt := topS 16
abbrev N_counts : List Str := ["offer", "basket", "found", "price", "number", "most", "later", "size", "ways", "more"]
theorem S_counts : FnScope N_counts ["offer", "basket"] (defScope s_counts) := ⟨rfl, rfl, rfl, by decide +kernel, rfl, by decide +kernel, by decide +kernel⟩
abbrev s_is_integer : Stmt := topS 7
abbrev N_is_integer : List Str := ["value", "low", "high"]
theorem S_is_integer : FnScope N_is_integer ["value", "low", "high"] (defScope s_is_integer) := ⟨rfl, rfl, rfl, by decide +kernel, rfl, by decide +kernel, by decide +kernel⟩
abbrev s_is_price : Stmt := topS 8
abbrev N_is_price : List Str := ["value"]
theorem S_is_price : FnScope N_is_price ["value"] (defScope s_is_price) := ⟨rfl, rfl, rfl, by decide +kernel, rfl, by decide +kernel, by decide +kernel⟩
abbrev s_are_prices : Stmt := topS 9
abbrev N_are_prices : List Str := ["value", "price"]
theorem S_are_prices : FnScope N_are_prices ["value"] (defScope s_are_prices) := ⟨rfl, rfl, rfl, by decide +kernel, rfl, by decide +kernel, by decide +kernel⟩
abbrev s_is_basket : Stmt := topS 10
abbrev N_is_basket : List Str := ["value", "one", "other"]
theorem S_is_basket : FnScope N_is_basket ["value"] (defScope s_is_basket) := ⟨rfl, rfl, rfl, by decide +kernel, rfl, by decide +kernel, by decide +kernel⟩
abbrev s_require_basket : Stmt := topS 12
abbrev N_require_basket : List Str := ["basket"]
theorem S_require_basket : FnScope N_require_basket ["basket"] (defScope s_require_basket) := ⟨rfl, rfl, rfl, by decide +kernel, rfl, by decide +kernel, by decide +kernel⟩
abbrev s_require_offer : Stmt := topS 11
abbrev N_require_offer : List Str := ["offer"]
theorem S_require_offer : FnScope N_require_offer ["offer"] (defScope s_require_offer) := ⟨rfl, rfl, rfl, by decide +kernel, rfl, by decide +kernel, by decide +kernel⟩
abbrev s_count_full : Stmt := topS 18
abbrev N_count_full : List Str := ["offer", "basket"]
theorem S_count_full : FnScope N_count_full ["offer", "basket"] (defScope s_count_full) := ⟨rfl, rfl, rfl, by decide +kernel, rfl, by decide +kernel, by decide +kernel⟩
abbrev s_count_sets : Stmt := topS 17
abbrev N_count_sets : List Str := ["offer", "basket"]
theorem S_count_sets : FnScope N_count_sets ["offer", "basket"] (defScope s_count_sets) := ⟨rfl, rfl, rfl, by decide +kernel, rfl, by decide +kernel, by decide +kernel⟩
abbrev s_law : Stmt := topS 27
abbrev N_law : List Str := ["script", "k", "bag", "turn", "basket", "offer", "known", "size", "unlike", "due", "at", "half", "part"]
theorem S_law : FnScope N_law ["script"] (defScope s_law) := ⟨rfl, rfl, rfl, by decide +kernel, rfl, by decide +kernel, by decide +kernel⟩
structure Tx (K : PySem.W.Frag) (mg : Str → Option Value) : Prop where
  b_all : mg "all" = none
  b_bool : mg "bool" = none
  b_enumerate : mg "enumerate" = none
  b_int : mg "int" = none
  b_isinstance : mg "isinstance" = none
  b_len : mg "len" = none
  b_min : mg "min" = none
  b_range : mg "range" = none
  b_sorted : mg "sorted" = none
  b_sum : mg "sum" = none
  b_tuple : mg "tuple" = none
  b_zip : mg "zip" = none
  i_HIGHEST : ∃ t, mg "HIGHEST" = some (.int 1000000 t)
  i_MOST : ∃ t, mg "MOST" = some (.int 30 t)
  x_InvalidBasket : (He.Fa.exc "InvalidBasket").ok K = true
  g_InvalidBasket : mg "InvalidBasket" = some (.ref (He.ga K "InvalidBasket"))
  x_InvalidOffer : (He.Fa.exc "InvalidOffer").ok K = true
  g_InvalidOffer : mg "InvalidOffer" = some (.ref (He.ga K "InvalidOffer"))
  g__law_bag : mg "_law_bag" = some (.ref (He.ga K "_law_bag"))
  g__law_take : mg "_law_take" = some (.ref (He.ga K "_law_take"))
  g__law_of : mg "_law_of" = some (.ref (He.ga K "_law_of"))
  g__law_basket : mg "_law_basket" = some (.ref (He.ga K "_law_basket"))
  g__law_choose : mg "_law_choose" = some (.ref (He.ga K "_law_choose"))
  g__law_offer : mg "_law_offer" = some (.ref (He.ga K "_law_offer"))
  g__law_table : mg "_law_table" = some (.ref (He.ga K "_law_table"))
  g_binomial : mg "binomial" = some (.ref (He.ga K "binomial"))
  g_price_classes : mg "price_classes" = some (.ref (He.ga K "price_classes"))
  g_counts : mg "counts" = some (.ref (He.ga K "counts"))
  g_is_integer : mg "is_integer" = some (.ref (He.ga K "is_integer"))
  g_is_price : mg "is_price" = some (.ref (He.ga K "is_price"))
  g_are_prices : mg "are_prices" = some (.ref (He.ga K "are_prices"))
  g_is_basket : mg "is_basket" = some (.ref (He.ga K "is_basket"))
  g_require_basket : mg "require_basket" = some (.ref (He.ga K "require_basket"))
  g_require_offer : mg "require_offer" = some (.ref (He.ga K "require_offer"))
  g_count_full : mg "count_full" = some (.ref (He.ga K "count_full"))
  g_count_sets : mg "count_sets" = some (.ref (He.ga K "count_sets"))
  g_law : mg "law" = some (.ref (He.ga K "law"))
  f__law_bag : ∃ fd, FunS K "_law_bag" "_law_bag" s__law_bag (He.ga K "_law_bag") fd
  f__law_take : ∃ fd, FunS K "_law_take" "_law_take" s__law_take (He.ga K "_law_take") fd
  f__law_of : ∃ fd, FunS K "_law_of" "_law_of" s__law_of (He.ga K "_law_of") fd
  f__law_basket : ∃ fd, FunS K "_law_basket" "_law_basket" s__law_basket (He.ga K "_law_basket") fd
  f__law_choose : ∃ fd, FunS K "_law_choose" "_law_choose" s__law_choose (He.ga K "_law_choose") fd
  f__law_offer : ∃ fd, FunS K "_law_offer" "_law_offer" s__law_offer (He.ga K "_law_offer") fd
  f__law_table : ∃ fd, FunS K "_law_table" "_law_table" s__law_table (He.ga K "_law_table") fd
  f_binomial : ∃ fd, FunS K "binomial" "binomial" s_binomial (He.ga K "binomial") fd
  f_price_classes : ∃ fd, FunS K "price_classes" "price_classes" s_price_classes (He.ga K "price_classes") fd
  f_counts : ∃ fd, FunS K "counts" "counts" s_counts (He.ga K "counts") fd
  f_is_integer : ∃ fd, FunS K "is_integer" "is_integer" s_is_integer (He.ga K "is_integer") fd
  f_is_price : ∃ fd, FunS K "is_price" "is_price" s_is_price (He.ga K "is_price") fd
  f_are_prices : ∃ fd, FunS K "are_prices" "are_prices" s_are_prices (He.ga K "are_prices") fd
  f_is_basket : ∃ fd, FunS K "is_basket" "is_basket" s_is_basket (He.ga K "is_basket") fd
  f_require_basket : ∃ fd, FunS K "require_basket" "require_basket" s_require_basket (He.ga K "require_basket") fd
  f_require_offer : ∃ fd, FunS K "require_offer" "require_offer" s_require_offer (He.ga K "require_offer") fd
  f_count_full : ∃ fd, FunS K "count_full" "count_full" s_count_full (He.ga K "count_full") fd
  f_count_sets : ∃ fd, FunS K "count_sets" "count_sets" s_count_sets (He.ga K "count_sets") fd
  f_law : ∃ fd, FunS K "law" "law" s_law (He.ga K "law") fd
section
variable {P : Program} {w : World} {K : PySem.W.Frag} {mg : Str → Option Value} {base : Heap}
theorem ok__law_bag (T : Tx K mg) : Good P w K mg base 1 "_law_bag" ["script", "k"] F__law_bag := by
  refine good_of (N := N__law_bag) (k := 0) T.g__law_bag T.f__law_bag S__law_bag (fun _ _ _ _ _ _ us hl => match us, hl with | [_, _], _ => rfl) fun f cdv A outer s H E hr => ?_
  have hu64 := unit64 hr
  have hu65 := unit65 hr
  exact (ds_cons (ds_asg (i := 2) S__law_bag.nd rfl (.inl rfl) (de_E de_int))
  (ds_cons (ds_if (dt_cmp od_lt (de_late 1 (pv 1)) (de_L (de_V (de_cb cd_len rfl T.b_len (by decide +kernel) (dl_cons (de_late 0 (pv 0)) dl_nil)))) (nomark _)) (ds_one (ds_asg (i := 2) S__law_bag.nd rfl (.inl rfl) (de_op od_mod (de_L (de_V (de_ix ix_D (de_late 0 (pv 0)) (de_late 1 (pv 1)) (fun _ _ => rfl)))) (de_L (de_V (de_op od_pow (de_L de_int) (de_L de_int))))))) ds_nil)
  (ds_cons (ds_asg (i := 3) S__law_bag.nd rfl (.inl rfl) (de_op od_addA (de_L de_int) (de_L (de_V (de_op od_mod (de_L (de_V (de_op od_addA (de_L (de_V (de_op od_addA (de_L (de_V (de_op od_addA (de_L (de_V (de_op od_mulA (de_L (de_V (de_op od_mod (de_late 2 (pv 2)) (de_L de_int)))) (de_L de_int)))) (de_L (de_V (de_op od_mulA (de_L (de_V (de_op od_mulA (de_L de_int) (de_late 1 (pv 1))))) (de_late 1 (pv 1)))))))) (de_L (de_V (de_op od_mulA (de_L de_int) (de_late 1 (pv 1)))))))) (de_L de_int)))) (de_L de_int))))))
  (ds_cons (ds_if (dt_cmp od_lt (de_late 2 (pv 2)) (de_L (de_V (de_op od_pow (de_L de_int) (de_L de_int)))) (nomark _)) (ds_one (ds_ret (de_lst (da_cons de_int (da_cons (de_var 3 (pv 3)) da_nil))))) ds_nil)
  (ds_one (ds_ret (de_lst (da_cons (de_var 2 (pv 2)) (da_cons (de_var 3 (pv 3)) da_nil)))))))))
theorem ok__law_take (T : Tx K mg) : Good P w K mg base 1 "_law_take" ["bag", "count"] F__law_take := by
  refine good_of (N := N__law_take) (k := 0) T.g__law_take T.f__law_take S__law_take (fun _ _ _ _ _ _ us hl => match us, hl with | [_, _], _ => rfl) fun f cdv A outer s H E hr => ?_
  have hu64 := unit64 hr
  have hu65 := unit65 hr
  exact (ds_cons (ds_if (dt_cmp od_gt (de_L (de_V (de_ix ix_D (de_late 0 (pv 0)) (de_L de_int) (fun _ _ => rfl)))) (de_L de_int) (nomark _)) (ds_cons (ds_asg (i := 2) S__law_take.nd rfl (.inl rfl) (de_op od_mod (de_L (de_V (de_ix ix_D (de_late 0 (pv 0)) (de_L de_int) (fun _ _ => rfl)))) (de_late 1 (pv 1))))
  (ds_cons (ds_set (pv 0) de_int (de_V (de_op od_div (de_L (de_V (de_ix ix_D (de_late 0 (pv 0)) (de_L de_int) (fun _ _ => rfl)))) (de_late 1 (pv 1)))))
  (ds_one (ds_ret (de_E (de_var 2 (pv 2))))))) ds_nil)
  (ds_cons (ds_set (pv 0) de_int (de_V (de_op od_mod (de_L (de_V (de_op od_mulA (de_L (de_V (de_ix ix_D (de_late 0 (pv 0)) (de_L de_int) (fun _ _ => rfl)))) (de_L de_int)))) (de_L de_int))))
  (ds_one (ds_ret (de_op od_mod (de_L (de_V (de_op od_div (de_L (de_V (de_op od_mod (de_L (de_V (de_op od_mulA (de_L (de_V (de_op od_div (de_L (de_V (de_ix ix_D (de_late 0 (pv 0)) (de_L de_int) (fun _ _ => rfl)))) (de_L de_int)))) (de_L (de_V (de_op od_addA (de_L (de_V (de_op od_mod (de_L (de_V (de_ix ix_D (de_late 0 (pv 0)) (de_L de_int) (fun _ _ => rfl)))) (de_L de_int)))) (de_L de_int))))))) (de_L de_int)))) (de_L de_int)))) (de_late 1 (pv 1)))))))
theorem ok__law_of (T : Tx K mg) : Good P w K mg base 2 "_law_of" ["bag", "some"] F__law_of := by
  refine good_of (N := N__law_of) (k := 1) T.g__law_of T.f__law_of S__law_of (fun _ _ _ _ _ _ us hl => match us, hl with | [_, _], _ => rfl) fun f cdv A outer s H E hr => ?_
  have G__law_take : Good P w K mg base 1 "_law_take" ["bag", "count"] F__law_take := ok__law_take T
  have hu64 := unit64 hr
  have hu65 := unit65 hr
  exact (ds_one (ds_ret (de_ix ix_D (de_late 1 (pv 1)) (de_L (de_V (de_callBG G__law_take hr (pv 0) (da_cons (de_V (de_cb cd_len rfl T.b_len (by decide +kernel) (dl_cons (de_late 1 (pv 1)) dl_nil))) da_nil) (aCons_len aNil_len)))) (fun _ _ => rfl))))
theorem ok__law_basket (T : Tx K mg) : Good P w K mg base 3 "_law_basket" ["bag", "most", "high"] F__law_basket := by
  refine good_of (N := N__law_basket) (k := 2) T.g__law_basket T.f__law_basket S__law_basket (fun _ _ _ _ _ _ us hl => match us, hl with | [_, _, _], _ => rfl) fun f cdv A outer s H E hr => ?_
  have G__law_of : Good P w K mg base 2 "_law_of" ["bag", "some"] F__law_of := ok__law_of T
  have G__law_take : Good P w K mg base 1 "_law_take" ["bag", "count"] F__law_take := ok__law_take T
  have hu64 := unit64 hr
  have hu65 := unit65 hr
  exact (ds_cons (ds_par (i := 3) (j := 4) rfl S__law_basket.nd rfl rfl (by decide) rfl rfl (de_op od_addA (de_L de_int) (de_L (de_V (de_callBG G__law_take (hr.mono (by decide)) (pv 0) (da_cons (de_var 1 (pv 1)) da_nil) (aCons_len aNil_len))))) (de_comp (own := [("turn", 6)]) (by decide) rfl S__law_basket.nd (di_range1 rfl T.b_range (dl_cons (de_L de_int) dl_nil)) (blkOk_by (N := N__law_basket) (sc := defScope s__law_basket) (own := [("turn", 6)]) (by decide +kernel)) (fun _ _ _ _ _ => (dg_name (i := 6) S__law_basket.nd rfl (by first | exact .inl rfl | exact .inr rfl))) (fun _ _ _ _ _ => dts_nil) (fun _ _ _ _ _ => (de_V (de_op od_addA (de_L de_int) (de_L (de_V (de_callBG G__law_take (hr.mono (by decide)) (pv 0) (da_cons (de_var 2 (pv 2)) da_nil) (aCons_len aNil_len)))))))) (by rfl))
  (ds_cons (ds_asg (i := 5) S__law_basket.nd rfl (.inl rfl) (de_lst da_nil))
  (ds_cons (ds_for rfl (di_range1 rfl T.b_range (dl_cons (de_late 3 (pv 3)) dl_nil)) (dg_name (i := 6) S__law_basket.nd rfl (.inl rfl))
  (ds_one (ds_drop (de_mut PySem.F.slot_list_append PySem.F.type_list_append mt_append mu_append (pv 5) (da_cons (de_V (de_callBG G__law_of hr (pv 0) (da_cons (de_V (de_op od_addA (de_late 4 (pv 4)) (de_L (de_V (de_op od_mulA (de_L (de_V (de_lst (da_cons (de_V (de_op od_addA (de_L de_int) (de_L (de_V (de_callBG G__law_take (hr.mono (by decide)) (pv 0) (da_cons (de_var 2 (pv 2)) da_nil) (aCons_len aNil_len)))))) da_nil)))) (de_L de_int)))))) da_nil) (aCons_len aNil_len))) da_nil)))))
  (ds_one (ds_ret (de_cty cd_tuple rfl T.b_tuple (by decide +kernel) (dl_cons (de_L (de_V (de_revL (de_L (de_V (de_cb (cd_sorted hu64) rfl T.b_sorted (by decide +kernel) (dl_cons (de_late 5 (pv 5)) dl_nil))))))) dl_nil)))))))
theorem ok__law_choose (T : Tx K mg) : Good P w K mg base 1 "_law_choose" ["many", "some"] F__law_choose := by
  refine good_of (N := N__law_choose) (k := 0) T.g__law_choose T.f__law_choose S__law_choose (fun _ _ _ _ _ _ us hl => match us, hl with | [_, _], _ => rfl) fun f cdv A outer s H E hr => ?_
  have hu64 := unit64 hr
  have hu65 := unit65 hr
  exact (ds_cons (ds_asg (i := 2) S__law_choose.nd rfl (.inl rfl) (de_E de_int))
  (ds_cons (ds_for rfl (di_range1 rfl T.b_range (dl_cons (de_late 1 (pv 1)) dl_nil)) (dg_name (i := 3) S__law_choose.nd rfl (.inl rfl))
  (ds_one (ds_asg (i := 2) S__law_choose.nd rfl (.inl rfl) (de_op od_div (de_L (de_V (de_op od_mulA (de_late 2 (pv 2)) (de_L (de_V (de_op od_sub (de_late 0 (pv 0)) (de_late 3 (pv 3)))))))) (de_L (de_V (de_op od_addA (de_late 3 (pv 3)) (de_L de_int))))))))
  (ds_one (ds_ret (de_E (de_var 2 (pv 2)))))))
theorem ok__law_offer (T : Tx K mg) : Good P w K mg base 3 "_law_offer" ["bag"] F__law_offer := by
  refine good_of (N := N__law_offer) (k := 2) T.g__law_offer T.f__law_offer S__law_offer (fun _ _ _ _ _ _ us hl => match us, hl with | [_], _ => rfl) fun f cdv A outer s H E hr => ?_
  have G__law_of : Good P w K mg base 2 "_law_of" ["bag", "some"] F__law_of := ok__law_of T
  have G__law_take : Good P w K mg base 1 "_law_take" ["bag", "count"] F__law_take := ok__law_take T
  have hu64 := unit64 hr
  have hu65 := unit65 hr
  exact (ds_one (ds_ret (de_callBG G__law_of hr (pv 0) (da_cons (de_V (de_lst (da_cons de_int (da_cons de_int (da_cons de_int (da_cons de_int (da_cons (de_V (de_op od_addA (de_L de_int) (de_L (de_V (de_callBG G__law_take (hr.mono (by decide)) (pv 0) (da_cons de_int da_nil) (aCons_len aNil_len)))))) da_nil))))))) da_nil) (aCons_len aNil_len))))
theorem ok__law_table (T : Tx K mg) : Good P w K mg base 1 "_law_table" ["offer", "basket"] F__law_table := by
  refine good_of (N := N__law_table) (k := 0) T.g__law_table T.f__law_table S__law_table (fun _ _ _ _ _ _ us hl => match us, hl with | [_, _], _ => rfl) fun f cdv A outer s H E hr => ?_
  have hu64 := unit64 hr
  have hu65 := unit65 hr
  exact (ds_cons (ds_asg (i := 2) S__law_table.nd rfl (.inl rfl) de_d1)
  (ds_cons (ds_for rfl (di_enum rfl T.b_enumerate (da_cons (de_var 1 (pv 1)) da_nil)) (dg_tup rfl (dgs_cons (dg_name (i := 3) S__law_table.nd rfl (.inl rfl)) (dgs_cons (dg_name (i := 4) S__law_table.nd rfl (.inl rfl)) dgs_nil)) (tgCons_len (tgCons_len tgNil_len)))
  (ds_cons (ds_asg (i := 5) S__law_table.nd rfl (.inl rfl) de_d0)
  (ds_cons (ds_for rfl (di_dkeys (pv 2)) (dg_name (i := 6) S__law_table.nd rfl (.inl rfl))
  (ds_cons (ds_dput (u1 hu64) (pv 5) (de_var 6 (pv 6)) (de_V (de_op od_addA (de_L (de_dget2 (u1 hu64) (pv 5) (de_var 6 (pv 6)) de_int ⟨rfl, rfl, rfl, rfl⟩)) (de_L (de_dix (u1 hu64) (pv 2) (de_var 6 (pv 6)) (fun _ _ => rfl))))))
  (ds_one (ds_dput (u1 hu64) (pv 5) (de_V (de_op od_addA (de_late 6 (pv 6)) (de_L de_int))) (de_V (de_op od_addA (de_L (de_dget2 (u1 hu64) (pv 5) (de_V (de_op od_addA (de_late 6 (pv 6)) (de_L de_int))) de_int ⟨rfl, rfl, rfl, rfl⟩)) (de_L (de_dix (u1 hu64) (pv 2) (de_var 6 (pv 6)) (fun _ _ => rfl)))))))))
  (ds_cons (ds_move (i := 2) (j := 5) S__law_table.nd rfl (.inl rfl) (pv 5))
  (ds_one (ds_if (PW.pt (dw_or (dt_cmp (od_eq hu64) (de_L (de_V (de_op od_addA (de_late 3 (pv 3)) (de_L de_int)))) (de_L (de_V (de_cb cd_len rfl T.b_len (by decide +kernel) (dl_cons (de_late 1 (pv 1)) dl_nil)))) (nomark _)) (dw_or1 (dt_cmp (od_ne hu64) (de_L (de_V (de_ix ix_D (de_late 1 (pv 1)) (de_L (de_V (de_op od_addA (de_late 3 (pv 3)) (de_L de_int)))) (fun _ _ => rfl)))) (de_late 4 (pv 4)) (nomark _))))) (ds_one (ds_for rfl (di_any (de_V (de_dsort rfl rfl T.b_sorted (pv 2)))) (dg_name (i := 6) S__law_table.nd rfl (.inl rfl))
  (ds_one (ds_if (dt_cmp od_gt (de_L (de_V (de_op od_mulA (de_late 6 (pv 6)) (de_late 0 (pv 0))))) (de_L (de_V (de_op od_addA (de_late 3 (pv 3)) (de_L de_int)))) (nomark _)) (ds_one (ds_drop (de_E (de_dpop (pv 2) (de_var 6 (pv 6)) ⟨rfl, rfl, rfl, rfl⟩)))) ds_nil)))) ds_nil))))))
  (ds_one (ds_ret (de_E (de_var 2 (pv 2)))))))
theorem ok_binomial (T : Tx K mg) : Good P w K mg base 1 "binomial" ["many", "chosen"] F_binomial := by
  refine good_of (N := N_binomial) (k := 0) T.g_binomial T.f_binomial S_binomial (fun _ _ _ _ _ _ us hl => match us, hl with | [_, _], _ => rfl) fun f cdv A outer s H E hr => ?_
  have hu64 := unit64 hr
  have hu65 := unit65 hr
  exact (ds_cons (ds_asg (i := 2) S_binomial.nd rfl (.inl rfl) (de_E de_int))
  (ds_cons (ds_for rfl (di_range1 rfl T.b_range (dl_cons (de_late 1 (pv 1)) dl_nil)) (dg_name (i := 3) S_binomial.nd rfl (.inl rfl))
  (ds_one (ds_asg (i := 2) S_binomial.nd rfl (.inl rfl) (de_op od_div (de_L (de_V (de_op od_mulA (de_late 2 (pv 2)) (de_L (de_V (de_op od_sub (de_late 0 (pv 0)) (de_late 3 (pv 3)))))))) (de_L (de_V (de_op od_addA (de_late 3 (pv 3)) (de_L de_int))))))))
  (ds_one (ds_ret (de_E (de_var 2 (pv 2)))))))
theorem ok_price_classes (T : Tx K mg) : Good P w K mg base 1 "price_classes" ["offer", "basket"] F_price_classes := by
  refine good_of (N := N_price_classes) (k := 0) T.g_price_classes T.f_price_classes S_price_classes (fun _ _ _ _ _ _ us hl => match us, hl with | [_, _], _ => rfl) fun f cdv A outer s H E hr => ?_
  have hu64 := unit64 hr
  have hu65 := unit65 hr
  exact (ds_cons (ds_par (i := 2) (j := 3) rfl S_price_classes.nd rfl rfl (by decide) rfl rfl (de_lst da_nil) (de_E de_int) (by rfl))
  (ds_cons (ds_while (dt_cmp od_lt (de_late 3 (pv 3)) (de_L (de_V (de_cb cd_len rfl T.b_len (by decide +kernel) (dl_cons (de_late 1 (pv 1)) dl_nil)))) (nomark _))
  (ds_cons (ds_asg (i := 4) S_price_classes.nd rfl (.inl rfl) (de_ix ix_D (de_late 1 (pv 1)) (de_late 3 (pv 3)) (fun _ _ => rfl)))
  (ds_cons (ds_asg (i := 5) S_price_classes.nd rfl (.inl rfl) (de_E (de_tcount (pv 1) (da_cons (de_var 4 (pv 4)) da_nil))))
  (ds_cons (ds_aug (i := 3) S_price_classes.nd rfl (.inl rfl) (de_late 5 (pv 5)) od_iadd)
  (ds_one (ds_drop (de_mut PySem.F.slot_list_append PySem.F.type_list_append mt_append mu_append (pv 2) (da_cons (de_tup (da_cons (de_var 4 (pv 4)) (da_cons (de_var 5 (pv 5)) (da_cons (de_V (de_op od_div (de_late 3 (pv 3)) (de_late 0 (pv 0)))) da_nil)))) da_nil))))))))
  (ds_one (ds_ret (de_E (de_var 2 (pv 2)))))))
theorem ok_counts (T : Tx K mg) : Good P w K mg base 2 "counts" ["offer", "basket"] F_counts := by
  refine good_of (N := N_counts) (k := 1) T.g_counts T.f_counts S_counts (fun _ _ _ _ _ _ us hl => match us, hl with | [_, _], _ => rfl) fun f cdv A outer s H E hr => ?_
  have G_binomial : Good P w K mg base 1 "binomial" ["many", "chosen"] F_binomial := ok_binomial T
  have G_price_classes : Good P w K mg base 1 "price_classes" ["offer", "basket"] F_price_classes := ok_price_classes T
  have hu64 := unit64 hr
  have hu65 := unit65 hr
  exact (ds_cons (ds_asg (i := 2) S_counts.nd rfl (.inl rfl) (de_op od_addA (de_L (de_V (de_lst (da_cons de_int da_nil)))) (de_L (de_V (de_op od_mulA (de_L (de_V (de_lst (da_cons de_int da_nil)))) (de_L (de_V (de_op od_div (de_L (de_V (de_cb cd_len rfl T.b_len (by decide +kernel) (dl_cons (de_late 1 (pv 1)) dl_nil)))) (de_late 0 (pv 0))))))))))
  (ds_cons (ds_for rfl (di_any (de_V (de_callG G_price_classes hr (da_cons (de_var 0 (pv 0)) (da_cons (de_var 1 (pv 1)) da_nil)) (aCons_len (aCons_len aNil_len))))) (dg_tup rfl (dgs_cons (dg_name (i := 3) S_counts.nd rfl (.inl rfl)) (dgs_cons (dg_name (i := 4) S_counts.nd rfl (.inl rfl)) (dgs_cons (dg_name (i := 5) S_counts.nd rfl (.inl rfl)) dgs_nil))) (tgCons_len (tgCons_len (tgCons_len tgNil_len))))
  (ds_cons (ds_asg (i := 6) S_counts.nd rfl (.inl rfl) (de_op od_mulA (de_L (de_V (de_lst (da_cons de_int da_nil)))) (de_L (de_V (de_cb cd_len rfl T.b_len (by decide +kernel) (dl_cons (de_late 2 (pv 2)) dl_nil))))))
  (ds_cons (ds_for rfl (di_enum rfl T.b_enumerate (da_cons (de_var 2 (pv 2)) da_nil)) (dg_tup rfl (dgs_cons (dg_name (i := 7) S_counts.nd rfl (.inl rfl)) (dgs_cons (dg_name (i := 8) S_counts.nd rfl (.inl rfl)) dgs_nil)) (tgCons_len (tgCons_len tgNil_len)))
  (ds_one (ds_for rfl (di_range1 rfl T.b_range (dl_cons (de_L (de_V (de_op od_addA (de_L (de_V (de_cb (cd_min rfl hu64) rfl T.b_min (by decide +kernel) (dl_cons (de_late 4 (pv 4)) (dl_cons (de_L (de_V (de_op od_sub (de_late 5 (pv 5)) (de_late 7 (pv 7))))) dl_nil))))) (de_L de_int)))) dl_nil)) (dg_name (i := 9) S_counts.nd rfl (.inl rfl))
  (ds_one (ds_augIx (pv 6) (de_V (de_op od_addA (de_late 7 (pv 7)) (de_late 9 (pv 9)))) (de_V (de_op od_mulA (de_late 8 (pv 8)) (de_L (de_V (de_callG G_binomial hr (da_cons (de_var 4 (pv 4)) (da_cons (de_var 9 (pv 9)) da_nil)) (aCons_len (aCons_len aNil_len))))))))))))
  (ds_one (ds_asg (i := 2) S_counts.nd rfl (.inl rfl) (de_E (de_var 6 (pv 6))))))))
  (ds_one (ds_ret (de_E (de_var 2 (pv 2)))))))
theorem ok_is_integer (T : Tx K mg) : Good P w K mg base 1 "is_integer" ["value", "low", "high"] F_is_integer := by
  refine good_of (N := N_is_integer) (k := 0) T.g_is_integer T.f_is_integer S_is_integer (fun _ _ _ _ _ _ us hl => match us, hl with | [_, _, _], _ => rfl) fun f cdv A outer s H E hr => ?_
  have hu64 := unit64 hr
  have hu65 := unit65 hr
  exact (ds_one (ds_ret (de_E (de_and (de_ofL (de_L (de_isi isi_int (de_late 0 (pv 0)) rfl T.b_isinstance rfl T.b_int (by decide +kernel)))) (de_and (de_not (de_ofL (de_L (de_isi isi_bool (de_late 0 (pv 0)) rfl T.b_isinstance rfl T.b_bool (by decide +kernel))))) (de_one (de_chain od_le od_le (de_late 1 (pv 1)) (de_late 0 (pv 0)) (de_late 2 (pv 2)))))))))
theorem ok_is_price (T : Tx K mg) : Good P w K mg base 2 "is_price" ["value"] F_is_price := by
  refine good_of (N := N_is_price) (k := 1) T.g_is_price T.f_is_price S_is_price (fun _ _ _ _ _ _ us hl => match us, hl with | [_], _ => rfl) fun f cdv A outer s H E hr => ?_
  have G_is_integer : Good P w K mg base 1 "is_integer" ["value", "low", "high"] F_is_integer := ok_is_integer T
  have hu64 := unit64 hr
  have hu65 := unit65 hr
  exact (ds_one (ds_ret (de_callG G_is_integer hr (da_cons (de_var 0 (pv 0)) (da_cons de_int (da_cons (de_globI rfl T.i_HIGHEST) da_nil))) (aCons_len (aCons_len (aCons_len aNil_len))))))
theorem ok_are_prices (T : Tx K mg) : Good P w K mg base 3 "are_prices" ["value"] F_are_prices := by
  refine good_of (N := N_are_prices) (k := 2) T.g_are_prices T.f_are_prices S_are_prices (fun _ _ _ _ _ _ us hl => match us, hl with | [_], _ => rfl) fun f cdv A outer s H E hr => ?_
  have G_is_price : Good P w K mg base 2 "is_price" ["value"] F_is_price := ok_is_price T
  have hu64 := unit64 hr
  have hu65 := unit65 hr
  exact (ds_one (ds_ret (de_E (de_and (de_ofL (de_L (de_isi isi_tuple (de_late 0 (pv 0)) rfl T.b_isinstance rfl T.b_tuple (by decide +kernel)))) (de_and (de_chain od_le od_le (de_L de_int) (de_L (de_V (de_cb cd_len rfl T.b_len (by decide +kernel) (dl_cons (de_late 0 (pv 0)) dl_nil)))) (de_L (de_globI rfl T.i_MOST))) (de_one (de_ofL (de_L (de_V (de_cb (cd_all rfl) rfl T.b_all (by decide +kernel) (dl_cons (de_L (de_V (de_comp (own := [("price", 1)]) (by decide) rfl S_are_prices.nd (di_any (de_var 0 (pv 0))) (blkOk_by (N := N_are_prices) (sc := defScope s_are_prices) (own := [("price", 1)]) (by decide +kernel)) (fun _ _ _ _ _ => (dg_name (i := 1) S_are_prices.nd rfl (by first | exact .inl rfl | exact .inr rfl))) (fun _ _ _ _ _ => dts_nil) (fun _ _ _ _ _ => (de_V (de_callG G_is_price hr (da_cons (de_var 1 (pv 1)) da_nil) (aCons_len aNil_len))))))) dl_nil)))))))))))
theorem ok_is_basket (T : Tx K mg) : Good P w K mg base 4 "is_basket" ["value"] F_is_basket := by
  refine good_of (N := N_is_basket) (k := 3) T.g_is_basket T.f_is_basket S_is_basket (fun _ _ _ _ _ _ us hl => match us, hl with | [_], _ => rfl) fun f cdv A outer s H E hr => ?_
  have G_are_prices : Good P w K mg base 3 "are_prices" ["value"] F_are_prices := ok_are_prices T
  have hu64 := unit64 hr
  have hu65 := unit65 hr
  exact (ds_one (ds_ret (de_E (de_and (de_ofL (de_L (de_V (de_callG G_are_prices hr (da_cons (de_var 0 (pv 0)) da_nil) (aCons_len aNil_len))))) (de_one (de_ofL (de_L (de_V (de_cb (cd_all rfl) rfl T.b_all (by decide +kernel) (dl_cons (de_L (de_V (de_comp (own := [("one", 1), ("other", 2)]) (by decide) rfl S_is_basket.nd (di_zip rfl T.b_zip (da_cons (de_var 0 (pv 0)) (da_cons (de_V (de_cut (de_late 0 (pv 0)) (do_some (de_L de_int)) do_none)) da_nil))) (blkOk_by (N := N_is_basket) (sc := defScope s_is_basket) (own := [("one", 1), ("other", 2)]) (by decide +kernel)) (fun _ _ _ _ _ => (dg_tup rfl (dgs_cons (dg_name (i := 1) S_is_basket.nd rfl (by first | exact .inl rfl | exact .inr rfl)) (dgs_cons (dg_name (i := 2) S_is_basket.nd rfl (by first | exact .inl rfl | exact .inr rfl)) dgs_nil)) (tgCons_len (tgCons_len tgNil_len)))) (fun _ _ _ _ _ => dts_nil) (fun _ _ _ _ _ => (de_V (de_cmp od_ge (de_late 1 (pv 1)) (de_late 2 (pv 2)) (nomark _))))))) dl_nil))))))))))
theorem ok_require_basket (T : Tx K mg) : Good P w K mg base 5 "require_basket" ["basket"] F_require_basket := by
  refine good_of (N := N_require_basket) (k := 4) T.g_require_basket T.f_require_basket S_require_basket (fun _ _ _ _ _ _ us hl => match us, hl with | [_], _ => rfl) fun f cdv A outer s H E hr => ?_
  have G_is_basket : Good P w K mg base 4 "is_basket" ["value"] F_is_basket := ok_is_basket T
  have hu64 := unit64 hr
  have hu65 := unit65 hr
  exact (ds_one (ds_if (dt_not (dt_tru (de_L (de_V (de_callG G_is_basket hr (da_cons (de_var 0 (pv 0)) da_nil) (aCons_len aNil_len)))))) (ds_one (ds_raiseG rfl (takes_of rfl rfl rfl rfl) T.x_InvalidBasket T.g_InvalidBasket rfl)) ds_nil))
theorem ok_require_offer (T : Tx K mg) : Good P w K mg base 2 "require_offer" ["offer"] F_require_offer := by
  refine good_of (N := N_require_offer) (k := 1) T.g_require_offer T.f_require_offer S_require_offer (fun _ _ _ _ _ _ us hl => match us, hl with | [_], _ => rfl) fun f cdv A outer s H E hr => ?_
  have G_is_integer : Good P w K mg base 1 "is_integer" ["value", "low", "high"] F_is_integer := ok_is_integer T
  have hu64 := unit64 hr
  have hu65 := unit65 hr
  exact (ds_one (ds_if (dt_not (dt_tru (de_L (de_V (de_callG G_is_integer hr (da_cons (de_var 0 (pv 0)) (da_cons de_int (da_cons de_int da_nil))) (aCons_len (aCons_len (aCons_len aNil_len)))))))) (ds_one (ds_raiseG rfl (takes_of rfl rfl rfl rfl) T.x_InvalidOffer T.g_InvalidOffer rfl)) ds_nil))
theorem ok_count_full (T : Tx K mg) : Good P w K mg base 6 "count_full" ["offer", "basket"] F_count_full := by
  refine good_of (N := N_count_full) (k := 5) T.g_count_full T.f_count_full S_count_full (fun _ _ _ _ _ _ us hl => match us, hl with | [_, _], _ => rfl) fun f cdv A outer s H E hr => ?_
  have G_counts : Good P w K mg base 2 "counts" ["offer", "basket"] F_counts := ok_counts T
  have G_require_basket : Good P w K mg base 5 "require_basket" ["basket"] F_require_basket := ok_require_basket T
  have G_require_offer : Good P w K mg base 2 "require_offer" ["offer"] F_require_offer := ok_require_offer T
  have hu64 := unit64 hr
  have hu65 := unit65 hr
  exact (ds_cons (ds_callXG G_require_offer (hr.mono (by decide)) (takes_of rfl rfl rfl rfl) (da_cons (de_var 0 (pv 0)) da_nil) rfl (aCons_len aNil_len))
  (ds_cons (ds_callXG G_require_basket hr (takes_of rfl rfl rfl rfl) (da_cons (de_var 1 (pv 1)) da_nil) rfl (aCons_len aNil_len))
  (ds_one (ds_ret (de_ix ix_D (de_L (de_V (de_callG G_counts (hr.mono (by decide)) (da_cons (de_var 0 (pv 0)) (da_cons (de_var 1 (pv 1)) da_nil)) (aCons_len (aCons_len aNil_len))))) (de_L (de_un od_neg (de_L de_int))) (fun _ _ => rfl))))))
theorem ok_count_sets (T : Tx K mg) : Good P w K mg base 6 "count_sets" ["offer", "basket"] F_count_sets := by
  refine good_of (N := N_count_sets) (k := 5) T.g_count_sets T.f_count_sets S_count_sets (fun _ _ _ _ _ _ us hl => match us, hl with | [_, _], _ => rfl) fun f cdv A outer s H E hr => ?_
  have G_counts : Good P w K mg base 2 "counts" ["offer", "basket"] F_counts := ok_counts T
  have G_require_basket : Good P w K mg base 5 "require_basket" ["basket"] F_require_basket := ok_require_basket T
  have G_require_offer : Good P w K mg base 2 "require_offer" ["offer"] F_require_offer := ok_require_offer T
  have hu64 := unit64 hr
  have hu65 := unit65 hr
  exact (ds_cons (ds_callXG G_require_offer (hr.mono (by decide)) (takes_of rfl rfl rfl rfl) (da_cons (de_var 0 (pv 0)) da_nil) rfl (aCons_len aNil_len))
  (ds_cons (ds_callXG G_require_basket hr (takes_of rfl rfl rfl rfl) (da_cons (de_var 1 (pv 1)) da_nil) rfl (aCons_len aNil_len))
  (ds_one (ds_ret (de_cb (cd_sum rfl) rfl T.b_sum (by decide +kernel) (dl_cons (de_L (de_V (de_callG G_counts (hr.mono (by decide)) (da_cons (de_var 0 (pv 0)) (da_cons (de_var 1 (pv 1)) da_nil)) (aCons_len (aCons_len aNil_len))))) dl_nil))))))
theorem ok_law (T : Tx K mg) (hlaw : ∀ ns : List Int, ns.length ≤ 63 → ∃ l, F_law [.fz (scrD ns)] = some (.ret (.fz (.bool true)) l)) : ∃ fd, FunS K "law" "law" s_law (He.ga K "law") fd ∧ FnOk P w K mg base CX0 7 (He.ga K "law") fd ["script"] (spLaw K) := by
  obtain ⟨fd, F⟩ := T.f_law
  refine ⟨fd, F, fn_law (N := N_law) (k := 6) (b := b_law) F S_law (fun cdv A outer s H E hr => ?_) hlaw⟩
  have G__law_bag : Good P w K mg base 1 "_law_bag" ["script", "k"] F__law_bag := ok__law_bag T
  have G__law_basket : Good P w K mg base 3 "_law_basket" ["bag", "most", "high"] F__law_basket := ok__law_basket T
  have G__law_choose : Good P w K mg base 1 "_law_choose" ["many", "some"] F__law_choose := ok__law_choose T
  have G__law_of : Good P w K mg base 2 "_law_of" ["bag", "some"] F__law_of := ok__law_of T
  have G__law_offer : Good P w K mg base 3 "_law_offer" ["bag"] F__law_offer := ok__law_offer T
  have G__law_table : Good P w K mg base 1 "_law_table" ["offer", "basket"] F__law_table := ok__law_table T
  have G__law_take : Good P w K mg base 1 "_law_take" ["bag", "count"] F__law_take := ok__law_take T
  have G_count_full : Good P w K mg base 6 "count_full" ["offer", "basket"] F_count_full := ok_count_full T
  have G_count_sets : Good P w K mg base 6 "count_sets" ["offer", "basket"] F_count_sets := ok_count_sets T
  have hu64 := unit64 hr
  have hu65 := unit65 hr
  exact (ds_cons (ds_for rfl (di_range1 rfl T.b_range (dl_cons (de_L (de_V (de_op od_addA (de_L (de_V (de_cb (cd_min rfl hu64) rfl T.b_min (by decide +kernel) (dl_cons (de_L (de_V (de_cb cd_len rfl T.b_len (by decide +kernel) (dl_cons (de_late 0 (pv 0)) dl_nil)))) (dl_cons (de_L de_int) dl_nil))))) (de_L de_int)))) dl_nil)) (dg_name (i := 1) S_law.nd rfl (.inl rfl))
  (ds_cons (ds_asg (i := 2) S_law.nd rfl (.inl rfl) (de_callG G__law_bag (hr.mono (by decide)) (da_cons (de_var 0 (pv 0)) (da_cons (de_var 1 (pv 1)) da_nil)) (aCons_len (aCons_len aNil_len))))
  (ds_cons (ds_for rfl (di_range1 rfl T.b_range (dl_cons (de_L de_int) dl_nil)) (dg_name (i := 3) S_law.nd rfl (.inl rfl))
  (ds_cons (ds_par (i := 4) (j := 5) rfl S_law.nd rfl rfl (by decide) rfl rfl (de_callBG G__law_basket (hr.mono (by decide)) (pv 2) (da_cons de_int (da_cons (de_V (de_callBG G__law_of (hr.mono (by decide)) (pv 2) (da_cons (de_V (de_lst (da_cons de_int (da_cons de_int (da_cons (de_V (de_op od_pow (de_L de_int) (de_L de_int))) da_nil))))) da_nil) (aCons_len aNil_len))) da_nil)) (aCons_len (aCons_len aNil_len))) (de_callBG G__law_offer (hr.mono (by decide)) (pv 2) da_nil aNil_len) (by rfl))
  (ds_cons (ds_asg (i := 6) S_law.nd rfl (.inr rfl) (de_callG G__law_table (hr.mono (by decide)) (da_cons (de_var 5 (pv 5)) (da_cons (de_var 4 (pv 4)) da_nil)) (aCons_len (aCons_len aNil_len))))
  (ds_cons (ds_if (dt_cmp (od_ne hu64) (de_L (de_V (de_callG G_count_sets hr (da_cons (de_var 5 (pv 5)) (da_cons (de_var 4 (pv 4)) da_nil)) (aCons_len (aCons_len aNil_len))))) (de_L (de_V (de_cb (cd_sum rfl) rfl T.b_sum (by decide +kernel) (dl_cons (de_L (de_V (de_comp (own := [("size", 7)]) (by decide) rfl S_law.nd (di_any (de_V (de_dsort rfl rfl T.b_sorted (pv 6)))) (blkOk_by (N := N_law) (sc := defScope s_law) (own := [("size", 7)]) (by decide +kernel)) (fun _ _ _ _ _ => (dg_name (i := 7) S_law.nd rfl (by first | exact .inl rfl | exact .inr rfl))) (fun _ _ _ _ _ => dts_nil) (fun _ _ _ _ _ => (de_dix (u1 hu64) (pv 6) (de_var 7 (pv 7)) (fun _ _ => rfl)))))) dl_nil)))) (nomark _)) (ds_one (ds_ret (de_E de_bl))) ds_nil)
  (ds_one (ds_if (dt_cmp (od_ne hu64) (de_L (de_V (de_callG G_count_full hr (da_cons (de_var 5 (pv 5)) (da_cons (de_var 4 (pv 4)) da_nil)) (aCons_len (aCons_len aNil_len))))) (de_L (de_dix (u1 hu64) (pv 6) (de_V (de_op od_div (de_L (de_V (de_cb cd_len rfl T.b_len (by decide +kernel) (dl_cons (de_late 4 (pv 4)) dl_nil)))) (de_late 5 (pv 5)))) (fun _ _ => rfl))) (nomark _)) (ds_one (ds_ret (de_E de_bl))) ds_nil))))))
  (ds_cons (ds_asg (i := 7) S_law.nd rfl (.inl rfl) (de_op od_addA (de_L de_int) (de_L (de_V (de_callBG G__law_take (hr.mono (by decide)) (pv 2) (da_cons de_int da_nil) (aCons_len aNil_len))))))
  (ds_cons (ds_asg (i := 8) S_law.nd rfl (.inl rfl) (de_cty cd_tuple rfl T.b_tuple (by decide +kernel) (dl_cons (de_L (de_V (de_comp (own := [("at", 10)]) (by decide) rfl S_law.nd (di_range1 rfl T.b_range (dl_cons (de_late 7 (pv 7)) dl_nil)) (blkOk_by (N := N_law) (sc := defScope s_law) (own := [("at", 10)]) (by decide +kernel)) (fun _ _ _ _ _ => (dg_name (i := 10) S_law.nd rfl (by first | exact .inl rfl | exact .inr rfl))) (fun _ _ _ _ _ => dts_nil) (fun _ _ _ _ _ => (de_V (de_op od_sub (de_L de_int) (de_L (de_V (de_op od_mulA (de_L de_int) (de_late 10 (pv 10))))))))))) dl_nil)))
  (ds_cons (ds_asg (i := 9) S_law.nd rfl (.inl rfl) (de_callG G__law_table (hr.mono (by decide)) (da_cons (de_var 5 (pv 5)) (da_cons (de_var 8 (pv 8)) da_nil)) (aCons_len (aCons_len aNil_len))))
  (ds_cons (ds_if (PW.pt (dw_or (dt_cmp (od_ne hu64) (de_L (de_V (de_callG G_count_full hr (da_cons (de_var 5 (pv 5)) (da_cons (de_var 8 (pv 8)) da_nil)) (aCons_len (aCons_len aNil_len))))) (de_L (de_dix (u1 hu64) (pv 9) (de_V (de_op od_div (de_late 7 (pv 7)) (de_late 5 (pv 5)))) (fun _ _ => rfl))) (nomark _)) (dw_or1 (dt_cmp (od_ne hu64) (de_L (de_V (de_callG G_count_sets hr (da_cons (de_var 5 (pv 5)) (da_cons (de_var 8 (pv 8)) da_nil)) (aCons_len (aCons_len aNil_len))))) (de_L (de_V (de_dsum rfl rfl T.b_sum (pv 9)))) (nomark _))))) (ds_one (ds_ret (de_E de_bl))) ds_nil)
  (ds_one (ds_if (dt_cmp (od_ne hu64) (de_L (de_V (de_callG G_count_full hr (da_cons (de_var 5 (pv 5)) (da_cons (de_V (de_op od_mulA (de_L (de_tup (da_cons de_int da_nil))) (de_late 7 (pv 7)))) da_nil)) (aCons_len (aCons_len aNil_len))))) (de_L (de_V (de_callG G__law_choose (hr.mono (by decide)) (da_cons (de_var 7 (pv 7)) (da_cons (de_V (de_op od_div (de_late 7 (pv 7)) (de_late 5 (pv 5)))) da_nil)) (aCons_len (aCons_len aNil_len))))) (nomark _)) (ds_one (ds_ret (de_E de_bl))) ds_nil)))))))))
  (ds_cons (ds_if (dt_cmp (od_ne hu64) (de_L (de_V (de_comp (own := [("half", 11)]) (by decide) rfl S_law.nd (di_any (de_tup (da_cons de_int (da_cons de_int (da_cons de_int (da_cons de_int da_nil)))))) (blkOk_by (N := N_law) (sc := defScope s_law) (own := [("half", 11)]) (by decide +kernel)) (fun _ _ _ _ _ => (dg_name (i := 11) S_law.nd rfl (by first | exact .inl rfl | exact .inr rfl))) (fun _ _ _ _ _ => dts_nil) (fun _ _ _ _ _ => (de_V (de_callG G_count_full hr (da_cons de_int (da_cons (de_tupR rfl rfl T.b_tuple (prc_3 rfl T.b_range (dl_cons (de_L (de_V (de_op od_mulA (de_L de_int) (de_late 11 (pv 11))))) (dl_cons (de_L de_int) (dl_cons (de_L (de_un od_neg (de_L de_int))) dl_nil))))) da_nil)) (aCons_len (aCons_len aNil_len)))))))) (de_L (de_V (de_lst (da_cons de_int (da_cons de_int (da_cons de_int (da_cons de_int da_nil))))))) (nomark _)) (ds_one (ds_ret (de_E de_bl))) ds_nil)
  (ds_one (ds_ret (de_cmp (od_eq hu64) (de_L (de_V (de_comp (own := [("part", 12)]) (by decide) rfl S_law.nd (di_any (de_tup (da_cons de_int (da_cons de_int (da_cons de_int (da_cons de_int da_nil)))))) (blkOk_by (N := N_law) (sc := defScope s_law) (own := [("part", 12)]) (by decide +kernel)) (fun _ _ _ _ _ => (dg_name (i := 12) S_law.nd rfl (by first | exact .inl rfl | exact .inr rfl))) (fun _ _ _ _ _ => dts_nil) (fun _ _ _ _ _ => (de_V (de_callG G_count_full hr (da_cons de_int (da_cons (de_tupR rfl rfl T.b_tuple (prc_3 rfl T.b_range (dl_cons (de_L (de_V (de_op od_mulA (de_L de_int) (de_late 12 (pv 12))))) (dl_cons (de_L de_int) (dl_cons (de_L (de_un od_neg (de_L de_int))) dl_nil))))) da_nil)) (aCons_len (aCons_len aNil_len)))))))) (de_L (de_V (de_lst (da_cons de_int (da_cons de_int (da_cons de_int (da_cons de_int da_nil))))))) (nomark _))))))
end
def d__law_bag : He.DefD := ⟨("_law_bag", none), "_law_bag", "_law_bag", defArgs s__law_bag, defBody s__law_bag, defScope s__law_bag, [], []⟩
def d__law_take : He.DefD := ⟨("_law_take", none), "_law_take", "_law_take", defArgs s__law_take, defBody s__law_take, defScope s__law_take, [], []⟩
def d__law_of : He.DefD := ⟨("_law_of", none), "_law_of", "_law_of", defArgs s__law_of, defBody s__law_of, defScope s__law_of, [], []⟩
def d__law_basket : He.DefD := ⟨("_law_basket", none), "_law_basket", "_law_basket", defArgs s__law_basket, defBody s__law_basket, defScope s__law_basket, [], []⟩
def d__law_choose : He.DefD := ⟨("_law_choose", none), "_law_choose", "_law_choose", defArgs s__law_choose, defBody s__law_choose, defScope s__law_choose, [], []⟩
def d__law_offer : He.DefD := ⟨("_law_offer", none), "_law_offer", "_law_offer", defArgs s__law_offer, defBody s__law_offer, defScope s__law_offer, [], []⟩
def d__law_table : He.DefD := ⟨("_law_table", none), "_law_table", "_law_table", defArgs s__law_table, defBody s__law_table, defScope s__law_table, [], []⟩
def d_binomial : He.DefD := ⟨("binomial", none), "binomial", "binomial", defArgs s_binomial, defBody s_binomial, defScope s_binomial, [], []⟩
def d_price_classes : He.DefD := ⟨("price_classes", none), "price_classes", "price_classes", defArgs s_price_classes, defBody s_price_classes, defScope s_price_classes, [], []⟩
def d_counts : He.DefD := ⟨("counts", none), "counts", "counts", defArgs s_counts, defBody s_counts, defScope s_counts, [], []⟩
def d_is_integer : He.DefD := ⟨("is_integer", none), "is_integer", "is_integer", defArgs s_is_integer, defBody s_is_integer, defScope s_is_integer, [], []⟩
def d_is_price : He.DefD := ⟨("is_price", none), "is_price", "is_price", defArgs s_is_price, defBody s_is_price, defScope s_is_price, [], []⟩
def d_are_prices : He.DefD := ⟨("are_prices", none), "are_prices", "are_prices", defArgs s_are_prices, defBody s_are_prices, defScope s_are_prices, [], []⟩
def d_is_basket : He.DefD := ⟨("is_basket", none), "is_basket", "is_basket", defArgs s_is_basket, defBody s_is_basket, defScope s_is_basket, [], []⟩
def d_require_basket : He.DefD := ⟨("require_basket", none), "require_basket", "require_basket", defArgs s_require_basket, defBody s_require_basket, defScope s_require_basket, [], []⟩
def d_require_offer : He.DefD := ⟨("require_offer", none), "require_offer", "require_offer", defArgs s_require_offer, defBody s_require_offer, defScope s_require_offer, [], []⟩
def d_count_full : He.DefD := ⟨("count_full", none), "count_full", "count_full", defArgs s_count_full, defBody s_count_full, defScope s_count_full, [], []⟩
def d_count_sets : He.DefD := ⟨("count_sets", none), "count_sets", "count_sets", defArgs s_count_sets, defBody s_count_sets, defScope s_count_sets, [], []⟩
def d_law : He.DefD := ⟨("law", none), "law", "law", defArgs s_law, defBody s_law, defScope s_law, [], []⟩
def fn : List He.DefD := [d__law_bag, d__law_take, d__law_of, d__law_basket, d__law_choose, d__law_offer, d__law_table, d_binomial, d_price_classes, d_counts, d_is_integer, d_is_price, d_are_prices, d_is_basket, d_require_basket, d_require_offer, d_count_full, d_count_sets, d_law]
def fa : List He.Fa := [.free "all", .free "bool", .free "enumerate", .free "int", .free "isinstance", .free "len", .free "min", .free "range", .free "sorted", .free "sum", .free "tuple", .free "zip", .int "HIGHEST" 1000000, .int "MOST" 30, .exc "InvalidBasket", .glo "InvalidBasket", .exc "InvalidOffer", .glo "InvalidOffer", .glo "_law_bag", .glo "_law_take", .glo "_law_of", .glo "_law_basket", .glo "_law_choose", .glo "_law_offer", .glo "_law_table", .glo "binomial", .glo "price_classes", .glo "counts", .glo "is_integer", .glo "is_price", .glo "are_prices", .glo "is_basket", .glo "require_basket", .glo "require_offer", .glo "count_full", .glo "count_sets", .glo "law"]
abbrev R : PySem.W.OpenRow := PySem.W.OpenLaw.row PySem.Challenge.rw_freethirds_k08_whole_counts_of_large_bas
abbrev hk : PySem.W.Hook := He.hookD 4 fa fn
def ob (s : PySem.W.SharedT) : He.AlD := He.obsDG 4 fa fn (HandSHeadRun.getT s)
theorem ob_eq (s : PySem.W.SharedT) : ob s = hk.obs s.abs := He.obsDG_eq (HandSHeadRun.getT_eq s)
def names : List PySem.Str := ["OfferError", "InvalidOffer", "InvalidBasket", "HIGHEST", "MOST", "is_integer", "is_price", "are_prices", "is_basket", "require_offer", "require_basket", "price_classes", "binomial", "counts", "count_sets", "count_full", "_law_bag", "_law_take", "_law_of", "_law_basket", "_law_offer", "_law_table", "_law_choose"]
theorem run (w : World) : HandSHeadRun.RunEq R (PySem.W.view R.prog [27]) hk ob 6000 names w := by
  intro os
  kernel_rfl
theorem tx_of {K : PySem.W.Frag} {h : Heap} {mg : Str → Option Value} (X : K.In h) (G : h.Ns mainGlobals mg) (c : He.SaysD fa fn K) : Tx K mg :=
  ⟨He.free_ok X G (c.fact 0 (f := .free "all") rfl), He.free_ok X G (c.fact 1 (f := .free "bool") rfl), He.free_ok X G (c.fact 2 (f := .free "enumerate") rfl), He.free_ok X G (c.fact 3 (f := .free "int") rfl), He.free_ok X G (c.fact 4 (f := .free "isinstance") rfl), He.free_ok X G (c.fact 5 (f := .free "len") rfl), He.free_ok X G (c.fact 6 (f := .free "min") rfl), He.free_ok X G (c.fact 7 (f := .free "range") rfl), He.free_ok X G (c.fact 8 (f := .free "sorted") rfl), He.free_ok X G (c.fact 9 (f := .free "sum") rfl), He.free_ok X G (c.fact 10 (f := .free "tuple") rfl), He.free_ok X G (c.fact 11 (f := .free "zip") rfl), He.int_ok X G (c.fact 12 (f := .int "HIGHEST" 1000000) rfl), He.int_ok X G (c.fact 13 (f := .int "MOST" 30) rfl), c.fact 14 (f := .exc "InvalidBasket") rfl, He.glo_ok X G (c.fact 15 (f := .glo "InvalidBasket") rfl), c.fact 16 (f := .exc "InvalidOffer") rfl, He.glo_ok X G (c.fact 17 (f := .glo "InvalidOffer") rfl), He.glo_ok X G (c.fact 18 (f := .glo "_law_bag") rfl), He.glo_ok X G (c.fact 19 (f := .glo "_law_take") rfl), He.glo_ok X G (c.fact 20 (f := .glo "_law_of") rfl), He.glo_ok X G (c.fact 21 (f := .glo "_law_basket") rfl), He.glo_ok X G (c.fact 22 (f := .glo "_law_choose") rfl), He.glo_ok X G (c.fact 23 (f := .glo "_law_offer") rfl), He.glo_ok X G (c.fact 24 (f := .glo "_law_table") rfl), He.glo_ok X G (c.fact 25 (f := .glo "binomial") rfl), He.glo_ok X G (c.fact 26 (f := .glo "price_classes") rfl), He.glo_ok X G (c.fact 27 (f := .glo "counts") rfl), He.glo_ok X G (c.fact 28 (f := .glo "is_integer") rfl), He.glo_ok X G (c.fact 29 (f := .glo "is_price") rfl), He.glo_ok X G (c.fact 30 (f := .glo "are_prices") rfl), He.glo_ok X G (c.fact 31 (f := .glo "is_basket") rfl), He.glo_ok X G (c.fact 32 (f := .glo "require_basket") rfl), He.glo_ok X G (c.fact 33 (f := .glo "require_offer") rfl), He.glo_ok X G (c.fact 34 (f := .glo "count_full") rfl), He.glo_ok X G (c.fact 35 (f := .glo "count_sets") rfl), He.glo_ok X G (c.fact 36 (f := .glo "law") rfl), c.def_ 0 (d := d__law_bag) rfl, c.def_ 1 (d := d__law_take) rfl, c.def_ 2 (d := d__law_of) rfl, c.def_ 3 (d := d__law_basket) rfl, c.def_ 4 (d := d__law_choose) rfl, c.def_ 5 (d := d__law_offer) rfl, c.def_ 6 (d := d__law_table) rfl, c.def_ 7 (d := d_binomial) rfl, c.def_ 8 (d := d_price_classes) rfl, c.def_ 9 (d := d_counts) rfl, c.def_ 10 (d := d_is_integer) rfl, c.def_ 11 (d := d_is_price) rfl, c.def_ 12 (d := d_are_prices) rfl, c.def_ 13 (d := d_is_basket) rfl, c.def_ 14 (d := d_require_basket) rfl, c.def_ 15 (d := d_require_offer) rfl, c.def_ 16 (d := d_count_full) rfl, c.def_ 17 (d := d_count_sets) rfl, c.def_ 18 (d := d_law) rfl⟩
theorem facts (hlaw : ∀ ns : List Int, ns.length ≤ 63 → ∃ l, F_law [.fz (scrD ns)] = some (.ret (.fz (.bool true)) l)) {P : Program} {w : World} {K : PySem.W.Frag} {h : Heap} {mg : Str → Option Value} {f : Addr} (X : K.In h) (G : h.Ns mainGlobals mg) (hfa : mg ("law" : Str) = some (.ref f)) (c : He.SaysD fa fn K) :
    ∃ fd : FuncData, (∀ (s : Shared) (v : Value), BindsTo s fd ⟨[v], []⟩ [("script", v)]) ∧ ∀ base : Heap, K.In base → base.Ns mainGlobals mg → FnOk P w K mg base CX0 7 f fd ["script"] (spLaw K) := by
  have T := tx_of X G c
  have e := hfa.symm.trans T.g_law
  cases e
  obtain ⟨fd, F⟩ := T.f_law
  have b := FunD.bindsA (ps := ["script"]) F fun _ _ _ _ _ _ us hl => match us, hl with | [_], _ => rfl
  refine ⟨fd, fun s v => b s [v] rfl, fun base _ _ => ?_⟩
  obtain ⟨fd', F', h⟩ := ok_law (P := P) (w := w) (base := base) T hlaw
  have efd : fd' = fd := by
    obtain ⟨_, _, _, _, _, _, _, _, _, _, _, lk, _⟩ := F.ex
    obtain ⟨_, _, _, _, _, _, _, _, _, _, _, lk', _⟩ := F'.ex
    rw [lk] at lk'
    cases lk'
    rfl
  subst efd
  exact h
end LawK08
set_option Elab.async false
set_option linter.all false
set_option maxRecDepth 100000
set_option maxHeartbeats 4000000
open PySem PySem.W PySem.Calls PyProof.Rows
theorem PySem.Challenge.cw_freethirds_k08_whole_counts_of_large_bas_holds : PySem.Challenge.rw_freethirds_k08_whole_counts_of_large_bas.Holds := by
  w_on; o_law
  refine HandSHeadRun.head_any (r := OpenLaw.row PySem.Challenge.rw_freethirds_k08_whole_counts_of_large_bas) (q := view (OpenLaw.row PySem.Challenge.rw_freethirds_k08_whole_counts_of_large_bas).prog [27]) (H := LawK08.hk) (ob := LawK08.ob) (M := 6000) (loose := LawK08.names) (d := HandSHeadRun.topDef (OpenLaw.row PySem.Challenge.rw_freethirds_k08_whole_counts_of_large_bas).prog 27) (kwd := []) LawK08.ob_eq
    (by kernel_rfl) (fun s => by kernel_rfl) LawK08.run (by kernel_rfl) (by kernel_rfl) (by kernel_rfl) (by rfl) (by first | assumption | decide +kernel) (by decide +kernel) ⟨rfl, rfl, rfl, rfl, rfl, by decide +kernel⟩ ?hw ?hc
  case hw => w_witness2
  case hc =>
    refine L2.walk_ofE (l := PySem.Challenge.rw_freethirds_k08_whole_counts_of_large_bas) (n := 63) (k := 7) (x := "script") (CX := L2.CX0) rfl (by decide) (by kernel_rfl) ⟨rfl, by decide, by decide⟩ ?F (fun _ _ _ _ z => z)
    intro w mg fa h Y G hmg0
    obtain ⟨K, KX, c⟩ := Y
    have hmg : mg ("law" : PySem.Str) = some (.ref fa) := by
      have e : (HandSHeadRun.topDef (OpenLaw.row PySem.Challenge.rw_freethirds_k08_whole_counts_of_large_bas).prog 27).name = ("law" : PySem.Str) := by kernel_rfl
      rw [← e]
      exact hmg0
    obtain ⟨fd, hb, hF⟩ := LawK08.facts LawK08.law_true (P := (PySem.Challenge.rw_freethirds_k08_whole_counts_of_large_bas).prog) (w := w) KX G hmg c
    exact ⟨K, fd, DL.spLaw K, KX, hb, fun H a ns hl _ hS => ⟨a, ns, rfl, hS, hl, fun _ => rfl⟩, hF⟩

