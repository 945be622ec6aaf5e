import PyProof.Rows.All
import Wide.All
import OpenK.AllK
import Wide.FinOn
import HandS.ForMost
import HandS.ForExc
import HandS.Style
import HandS.IsInst
import HandS.SortInts
import HandS.Deep
import HandS.Wide
import HandS.Conv
import HandS.SetFor
import HandS.Zip
import HandS.More
import HandS.Lambda
import HandS.Strs
import HandS.ExcIs
import KE.SortData
import HandS.EndTab
import HandS.CallLocal
import PySem.Challenge.RW_lostseat_k09_refused
set_option Elab.async false
set_option linter.all false
set_option maxRecDepth 100001
set_option maxHeartbeats 4000001
/-! LA: a small functional reading of the programs' Python: data, owned trees, environments, and the combinators. Plain Lean. -/
namespace LS
open PySem (Str PyData)

/-- data, whole -/
inductive Dat where
  | non | bl (b : Bool) | int (i : Int) | str (x : Str) | lst (ds : List Dat) | tup (ds : List Dat)
  | dct (ks : List Int) (ds : List Dat) | ins (c : Str) (ns : List Str) (ds : List Dat)
  | dtt (ps : List (List Int × Int)) | adr (a : Nat) | fn (x : Str)

/-- what a slot holds: shared data (k: 0 made since the entry, 1 any that stays, 2 as of now), or an owned object -/
inductive T where
  | leaf (k : Nat) (d : Dat) | lst (ts : List T) | tup (ts : List T) | ins (c : Str) (ns : List Str) (ts : List T)
  | dtt (ps : List (List Int × Int))

mutual
def datT : T → Dat
  | .leaf _ d => d
  | .lst ts => .lst (datTs ts)
  | .tup ts => .tup (datTs ts)
  | .ins c ns ts => .ins c ns (datTs ts)
  | .dtt ps => .dtt ps
def datTs : List T → List Dat
  | [] => []
  | t :: ts => datT t :: datTs ts
end
mutual
def kdT : T → Nat
  | .leaf k _ => k
  | .lst ts => kdTs ts
  | .tup ts => kdTs ts
  | .ins _ _ ts => kdTs ts
  | .dtt _ => 0
def kdTs : List T → Nat
  | [] => 0
  | t :: ts => max (kdT t) (kdTs ts)
end
def scal : Dat → Bool
  | .non => true
  | .bl _ => true
  | .int _ => true
  | .str _ => true
  | _ => false
def mk (k : Nat) (d : Dat) : T := .leaf (if scal d then 0 else k) d
/-- a name read: what is shared of it -/
def shr : T → T
  | .leaf k d => .leaf k d
  | t => .leaf 2 (datT t)
def isLeaf : T → Bool
  | .leaf _ _ => true
  | _ => false

/-- how an evaluation ends -/
inductive Re (α : Type) where
  | no | er (c : Str) | ok (a : α)
def Re.bind {α β : Type} (x : Re α) (f : α → Re β) : Re β := match x with
  | .no => .no
  | .er c => .er c
  | .ok a => f a
def ofO {α : Type} : Option α → Re α
  | some a => .ok a
  | none => .no

abbrev Env := List (Option T)
abbrev FE := Env → Re T
abbrev FA := Env → Re (List T)
abbrev FT := Env → Re Bool
abbrev FI := Env → Re (List T)
abbrev FG := T → Env → Re Env
inductive Out where
  | nx (e : Env) | rt (e : Env) (t : T) | bk (e : Env) | ct (e : Env)
abbrev FS := Env → Re Out

/-! ### operations on data -/
mutual
def eqvD : Dat → Dat → Bool
  | .non, .non => true
  | .bl a, .bl b => a == b
  | .bl a, .int j => (if a then 1 else 0) == j
  | .int i, .bl b => i == (if b then 1 else 0)
  | .int i, .int j => i == j
  | .lst xs, .lst ys => eqvDs xs ys
  | .tup xs, .tup ys => eqvDs xs ys
  | _, _ => false
def eqvDs : List Dat → List Dat → Bool
  | [], [] => true
  | x :: xs, y :: ys => eqvD x y && eqvDs xs ys
  | _, _ => false
end

mutual
def okD : Dat → Nat → Bool
  | .non, _ => true
  | .bl _, _ => true
  | .int _, _ => true
  | .lst ds, n + 1 => okDs ds n
  | .tup ds, n + 1 => okDs ds n
  | _, _ => false
def okDs : List Dat → Nat → Bool
  | [], _ => true
  | d :: ds, n => okD d n && okDs ds n
end
abbrev Op := List Dat → Option Dat
def oI2 (g : Int → Int → Int) : Op
  | [.int i, .int j] => some (.int (g i j))
  | _ => none
def oB2 (g : Int → Int → Bool) : Op
  | [.int i, .int j] => some (.bl (g i j))
  | _ => none
def oSub : Op := oI2 fun i j => i - j
def oAddI : Op := oI2 fun i j => i + j
def oLt : Op := oB2 fun i j => decide (i < j)
def oLe : Op := oB2 fun i j => decide (i ≤ j)
def oGt : Op := oB2 fun i j => decide (j < i)
def oGe : Op := oB2 fun i j => decide (j ≤ i)
def oMod : Op
  | [.int i, .int j] => if 0 < j then some (.int (i % j)) else none
  | _ => none
def oDiv : Op
  | [.int i, .int j] => if 0 < j ∧ j.natAbs.log2 < 9000 then some (.int (i / j)) else none
  | _ => none
def oMulI : Op
  | [.int i, .int j] => if i.natAbs.log2 + j.natAbs.log2 < 1000000 then some (.int (i * j)) else none
  | _ => none
def oMulS : Op
  | [.int i, .int j] => if j.natAbs < 1000000 then some (.int (i * j)) else none
  | _ => none
def oPow : Op
  | [.int i, .int j] => if 0 ≤ j ∧ j.toNat ≤ 1000000 ∧ i.natAbs < 18446744073709551616 then some (.int (i ^ j.toNat)) else none
  | _ => none
def oShl : Op
  | [.int i, .int j] => if 0 ≤ j ∧ j.toNat ≤ 1000000 ∧ i.natAbs < 18446744073709551616 then some (.int (i * 2 ^ j.toNat)) else none
  | _ => none
def oShr : Op
  | [.int i, .int j] => if 0 ≤ j then some (.int (i / 2 ^ j.toNat)) else none
  | _ => none
def oAnd : Op
  | [.int i, .int j] => if 0 ≤ i ∧ 0 ≤ j then some (.int ((i.toNat &&& j.toNat : Nat) : Int)) else none
  | _ => none
def oNeg : Op
  | [.int i] => some (.int (-i))
  | _ => none
def oEq : Op
  | [d, e] => if okD d 8 && okD e 8 then some (.bl (eqvD d e)) else none
  | _ => none
def oNe : Op
  | [d, e] => if okD d 8 && okD e 8 then some (.bl (!eqvD d e)) else none
  | _ => none
def oIn (neg : Bool) : Op
  | [d, .lst ds] => if okD d 8 && okDs ds 8 then some (.bl (neg ^^ ds.any fun z => eqvD z d)) else none
  | [d, .tup ds] => if okD d 0 && okDs ds 0 then some (.bl (neg ^^ ds.any fun z => eqvD z d)) else none
  | _ => none
def isN : Dat → Bool
  | .non => true
  | _ => false
def oIsN (neg : Bool) : Op
  | [d, .non] => some (.bl (neg ^^ isN d))
  | _ => none
def oIsB (neg : Bool) : Op
  | [.bl a, .bl b] => some (.bl (neg ^^ (a == b)))
  | _ => none
def oLen : Op
  | [.lst ds] => some (.int (ds.length : Int))
  | [.tup ds] => some (.int (ds.length : Int))
  | _ => none
def ixD (n : Nat) (i : Int) : Option Nat := if 0 ≤ i then (if i < n then some i.toNat else none) else if -(n : Int) ≤ i then some (i + n).toNat else none
def oIx : Op
  | [.lst ds, .int i] => match ixD ds.length i with
    | some j => ds[j]?
    | none => none
  | [.tup ds, .int i] => match ixD ds.length i with
    | some j => ds[j]?
    | none => none
  | _ => none
def oInt : Op
  | [.int i] => some (.int i)
  | [.bl b] => some (.int (if b then 1 else 0))
  | _ => none
def oMax : Op := oI2 fun i j => if j > i then j else i
def oMin : Op := oI2 fun i j => if j < i then j else i
def blsD : List Dat → Option (List Bool)
  | [] => some []
  | .bl b :: r => (blsD r).map (b :: ·)
  | _ => none
def oAll : Op
  | [.lst ds] => (blsD ds).map fun bs => .bl (bs.all id)
  | _ => none
def oAny : Op
  | [.lst ds] => (blsD ds).map fun bs => .bl (bs.any id)
  | _ => none
/-- the built-in class -/
def tyD : Dat → Option String
  | .non => some "NoneType"
  | .bl _ => some "bool"
  | .int _ => some "int"
  | .str _ => some "str"
  | .lst _ => some "list"
  | .tup _ => some "tuple"
  | .dct _ _ => some "dict"
  | .dtt _ => some "dict"
  | .adr _ => none
  | .fn _ => none
  | .ins _ _ _ => none
/-- isinstance(x, T), T one of int, bool, str, list, tuple -/
def oIsi (t : String) : Op
  | [d] => (tyD d).map fun u => .bl (u == t || (u == "bool" && t == "int"))
  | _ => none
abbrev OL := List Dat → Option (List Dat)
def lItems : OL
  | [.lst ds] => some ds
  | [.tup ds] => some ds
  | _ => none
def lAll : OL := fun ds => if ds.length ≤ 1000 then some ds else none
def lOnly : OL
  | [.lst ds] => some ds
  | _ => none
def sIxD (n d : Nat) : Option Int → Nat
  | none => d
  | some v => if v < 0 then (v + (n : Int)).toNat else min v.toNat n
def cutD {α : Type} (xs : List α) (lo hi : Option Int) : List α := (xs.drop (sIxD xs.length 0 lo)).take (sIxD xs.length xs.length hi - sIxD xs.length 0 lo)
def lSl10 : OL
  | [.lst ds, .int i] => some (cutD ds (some i) none)
  | _ => none
def lSl01 : OL
  | [.lst ds, .int j] => some (cutD ds none (some j))
  | _ => none
def lSl11 : OL
  | [.lst ds, .int i, .int j] => some (cutD ds (some i) (some j))
  | _ => none
def lRev : OL
  | [.lst ds] => some ds.reverse
  | _ => none
def insI (x : Int) : List Int → List Int
  | [] => [x]
  | y :: r => if x ≤ y then x :: y :: r else y :: insI x r
def isort : List Int → List Int
  | [] => []
  | x :: r => insI x (isort r)
def intsD : List Dat → Option (List Int)
  | [] => some []
  | .int i :: r => (intsD r).map (i :: ·)
  | _ => none
def lSorted : OL
  | [.lst ds] => (intsD ds).map fun ns => (isort ns).map .int
  | _ => none
def rgI (a b : Int) : List Int := (List.range (b - a).toNat).map fun i : Nat => a + (i : Int)
def lRg1 : OL
  | [.int n] => if n.natAbs ≤ 1000000 then some ((rgI 0 n).map .int) else none
  | _ => none
def lRg2 : OL
  | [.int a, .int n] => if n.natAbs ≤ 1000000 ∧ a.natAbs ≤ 1000000 then some ((rgI a n).map .int) else none
  | _ => none

/-- range(lo, n, c), c above 0 or -1: how many -/
def rsz (lo n c : Int) : Nat := if 0 < c then ((n - lo + c - 1) / c).toNat else (lo - n).toNat
def lRg3 : OL
  | [.int lo, .int n, .int c] => if n.natAbs < 1000000000 ∧ lo.natAbs < 1000000000 ∧ (c = -1 ∨ (0 < c ∧ c.natAbs < 1000000000)) ∧ rsz lo n c ≤ 1000000 then some ((List.range (rsz lo n c)).map fun k : Nat => .int (lo + (k : Int) * c)) else none
  | _ => none

/-! ### expressions -/
def fVar (i : Nat) : FE := fun e => match e[i]? with
  | some (some t) => .ok (shr t)
  | _ => .no
def fC (d : Dat) : FE := fun _ => .ok (.leaf 0 d)
def fA0 : FA := fun _ => .ok []
def fA1 (a : FE) (r : FA) : FA := fun e => (a e).bind fun t => (r e).bind fun ts => .ok (t :: ts)
/-- an operation that gives a datum or an item of one -/
def fI (op : List Dat → Option Dat) (a : FA) : FE := fun e => (a e).bind fun ts => match op (datTs ts) with
  | some d => .ok (mk (kdTs ts) d)
  | none => .no
/-- .. a new list -/
def fL (op : List Dat → Option (List Dat)) (a : FA) : FE := fun e => (a e).bind fun ts => match op (datTs ts) with
  | some ds => .ok (.lst (ds.map (mk (kdTs ts))))
  | none => .no
/-- .. a new tuple -/
def fU (op : List Dat → Option (List Dat)) (a : FA) : FE := fun e => (a e).bind fun ts => match op (datTs ts) with
  | some ds => .ok (.tup (ds.map (mk (kdTs ts))))
  | none => .no
def fLst (a : FA) : FE := fun e => (a e).bind fun ts => .ok (.lst ts)
def fTup (a : FA) : FE := fun e => (a e).bind fun ts => .ok (.tup ts)
/-- a + b, a * b: whole numbers, or lists -/
def addF : List T → Re T
  | [t, u] => match datT t, datT u with
    | .int i, .int j => .ok (.leaf 0 (.int (i + j)))
    | .lst ds, .lst es => if ds.length + es.length ≤ 1000000 then .ok (.lst ((ds ++ es).map (mk (kdTs [t, u])))) else .no
    | _, _ => .no
  | _ => .no
def fAdd (a b : FE) : FE := fun e => (fA1 a (fA1 b fA0) e).bind addF
def mulF : List T → Re T
  | [t, u] => match datT t, datT u with
    | .int i, .int j => if j.natAbs < 1000000 ∨ i.natAbs < 1000000 ∨ i.natAbs.log2 + j.natAbs.log2 < 1000000 then .ok (.leaf 0 (.int (i * j))) else .no
    | .lst ds, .int j => if ds.length * j.toNat ≤ 1000000 ∧ j.natAbs ≤ 1000000 then .ok (.lst ((List.replicate j.toNat ds).flatten.map (mk (kdTs [t, u])))) else .no
    | _, _ => .no
  | _ => .no
def fMul (a b : FE) : FE := fun e => (fA1 a (fA1 b fA0) e).bind mulF
/-- a call of a def -/
def fCall (F : List Dat → Re T) (a : FA) : FE := fun e => (a e).bind fun ts => F (datTs ts)
/-- a if t else b -/
def fIf (t : FT) (a b : FE) : FE := fun e => (t e).bind fun c => if c then a e else b e
/-- x and y, x or y, not x, as values -/
def fAndV (a b : FE) : FE := fun e => (a e).bind fun t => match datT t with
  | .bl true => b e
  | .bl false => .ok (.leaf 0 (.bl false))
  | _ => .no
def fOrV (a b : FE) : FE := fun e => (a e).bind fun t => match datT t with
  | .bl true => .ok (.leaf 0 (.bl true))
  | .bl false => b e
  | _ => .no

/-- a op b op' c -/
def fChain (p q : List Dat → Option Dat) (a b c : FE) : FE := fun e => (a e).bind fun x => (b e).bind fun y => match p [datT x, datT y] with
  | some (.bl true) => (c e).bind fun z => match q [datT y, datT z] with
    | some (.bl r) => .ok (.leaf 0 (.bl r))
    | _ => .no
  | some (.bl false) => .ok (.leaf 0 (.bl false))
  | _ => .no

/-! ### tests -/
def fT (a : FE) : FT := fun e => (a e).bind fun t => match datT t with
  | .bl b => .ok b
  | _ => .no
def fAnd (a b : FT) : FT := fun e => (a e).bind fun c => if c then b e else .ok false
def fOr (a b : FT) : FT := fun e => (a e).bind fun c => if c then .ok true else b e
def fNot (a : FT) : FT := fun e => (a e).bind fun c => .ok (!c)
def fYes : FT := fun _ => .ok true

/-! ### what is walked -/
def itemsD : Dat → Option (List Dat)
  | .lst ds => some ds
  | .tup ds => some ds
  | _ => none
/-- a list's, a tuple's items; the object stays as it is -/
def fItems (a : FE) : FI := fun e => (a e).bind fun t => match decide (2 ≤ kdT t), itemsD (datT t) with
  | false, some ds => .ok (ds.map (mk (kdT t)))
  | _, _ => .no
/-- small -/
def smI (n : Int) : Bool := decide (n.natAbs < 4000000000)
theorem smI_of {n : Int} (h : smI n = true) : n < 4000000000 ∧ -4000000000 ≤ n := by
  have h' : n.natAbs < 4000000000 := of_decide_eq_true h
  omega
theorem smI_in {n : Int} (h : n < 4000000000) (h2 : -4000000000 < n) : smI n = true := decide_eq_true (by omega)
def rng (lo c : Int) : Nat → Nat → List T
  | _, 0 => []
  | i, n + 1 => .leaf 0 (.int (lo + (i : Int) * c)) :: rng lo c (i + 1) n
def fRng1 (a : FA) : FI := fun e => (a e).bind fun ts => match datTs ts with
  | [.int n] => if smI n = true then .ok (rng 0 1 0 n.toNat) else .no
  | _ => .no
def fRng2 (a : FA) : FI := fun e => (a e).bind fun ts => match datTs ts with
  | [.int lo, .int n] => if smI n = true ∧ smI lo = true then .ok (rng lo 1 0 (n - lo).toNat) else .no
  | _ => .no
/-- range(lo, n, c) -/
def fRng3 (a : FA) : FI := fun e => (a e).bind fun ts => match datTs ts with
  | [.int lo, .int n, .int c] => if n.natAbs < 1000000000 ∧ lo.natAbs < 1000000000 ∧ (c = -1 ∨ (0 < c ∧ c.natAbs < 1000000000)) then .ok (rng lo c 0 (rsz lo n c)) else .no
  | _ => .no
def enumT (k : Nat) : Nat → List Dat → List T
  | _, [] => []
  | i, d :: ds => .tup [.leaf 0 (.int (i : Int)), mk k d] :: enumT k (i + 1) ds
def enumF : List T → Re (List T)
  | [t] => match decide (2 ≤ kdT t), datT t with
    | false, .lst ds => .ok (enumT (kdT t) 0 ds)
    | _, _ => .no
  | _ => .no
def fEnum (a : FA) : FI := fun e => (a e).bind enumF
def zipT (k j : Nat) : List Dat → List Dat → List T
  | d :: ds, c :: cs => .tup [mk k d, mk j c] :: zipT k j ds cs
  | _, _ => []
def zipF : List T → Re (List T)
  | [t, u] => match decide (2 ≤ kdT t) || decide (2 ≤ kdT u), datT t, datT u with
    | false, .lst ds, .lst cs => .ok (zipT (kdT t) (kdT u) ds cs)
    | _, _, _ => .no
  | _ => .no
def fZip (a : FA) : FI := fun e => (a e).bind zipF

/-! ### targets -/
def gN (i : Nat) : FG := fun t e => if kdT t ≤ 1 ∧ i < e.length then .ok (e.set i (some t)) else .no
def splitT : T → Option (List T)
  | .tup ts => some ts
  | .leaf k (.tup ds) => some (ds.map (mk k))
  | _ => none
def gEach : List FG → List T → Env → Re Env
  | [], [], e => .ok e
  | g :: gs, t :: ts, e => (g t e).bind fun e1 => gEach gs ts e1
  | _, _, _ => .no
def gT (gs : List FG) : FG := fun t e => match splitT t with
  | some ts => gEach gs ts e
  | none => .no

/-! ### comprehensions -/
def Re.nox {α : Type} : Re α → Re α
  | .er _ => .no
  | x => x
def lcT (g : FG) (c : FT) (el : FE) (e0 : Env) : List T → Re (List T)
  | [] => .ok []
  | t :: ts => (g t e0).bind fun e1 => (c e1).nox.bind fun b => if b then (el e1).nox.bind fun x => if kdT x ≤ 1 then (lcT g c el e0 ts).bind fun r => .ok (x :: r) else .no else lcT g c el e0 ts
def wipeE (e : Env) : List Nat → Env
  | [] => e
  | v :: vs => (wipeE e vs).set v none
def fLc (it : FI) (g : FG) (c : FT) (el : FE) (vs : List Nat) : FE := fun e => (it e).bind fun ts => if ts.length ≤ 1000000 then (lcT g c el (wipeE e vs) ts).bind fun r => .ok (.lst r) else .no

/-! ### statements -/
def sNext : FS := fun e => .ok (.nx e)
def sBrk : FS := fun e => .ok (.bk e)
def sCont : FS := fun e => .ok (.ct e)
def sSeq (a b : FS) : FS := fun e => (a e).bind fun o => match o with
  | .nx e1 => b e1
  | .rt e1 t => .ok (.rt e1 t)
  | .bk e1 => .ok (.bk e1)
  | .ct e1 => .ok (.ct e1)
def sAsg (a : FE) (g : FG) : FS := fun e => (a e).bind fun t => (g t e).bind fun e1 => .ok (.nx e1)
def sDrop (a : FE) : FS := fun e => (a e).bind fun _ => .ok (.nx e)
def sRet (a : FE) : FS := fun e => (a e).bind fun t => .ok (.rt e t)
def sIf (c : FT) (a b : FS) : FS := fun e => (c e).bind fun b' => if b' then a e else b e
def sNever : FS := fun _ => .no
/-- slot i is shared from now on -/
def sFrz (i : Nat) : FS := fun e => match e[i]? with
  | some (some t) => .ok (.nx (e.set i (some (.leaf (kdT t) (datT t)))))
  | _ => .ok (.nx e)
def forT (g : FG) (b : FS) : List T → Env → Re Out
  | [], e => .ok (.nx e)
  | t :: ts, e => (g t e).bind fun e1 => (b e1).bind fun o => match o with
    | .nx e2 => forT g b ts e2
    | .ct e2 => forT g b ts e2
    | .bk e2 => .ok (.nx e2)
    | .rt e2 t => .ok (.rt e2 t)
def sFor (it : FI) (g : FG) (b : FS) : FS := fun e => (it e).bind fun ts => forT g b ts e
def whT (c : FT) (b : FS) : Nat → Env → Re Out
  | 0, _ => .no
  | n + 1, e => (c e).bind fun x => if x then (b e).bind fun o => match o with
    | .nx e2 => whT c b n e2
    | .ct e2 => whT c b n e2
    | .bk e2 => .ok (.nx e2)
    | .rt e2 t => .ok (.rt e2 t)
    else .ok (.nx e)
def sWhile (n : Nat) (c : FT) (b : FS) : FS := fun e => whT c b n e
/-- name op= e -/
def sAug (i : Nat) (op : List Dat → Option Dat) (a : FE) : FS := fun e => match e[i]? with
  | some (some t) => (a e).bind fun u => match op [datT t, datT u] with
    | some d => if scal d then .ok (.nx (e.set i (some (.leaf 0 d)))) else .no
    | none => .no
  | _ => .no

/-! ### within a slot's tree -/
def kids : T → Option (List T)
  | .lst ts => some ts
  | .tup ts => some ts
  | .ins _ _ ts => some ts
  | .leaf _ _ => none
  | .dtt _ => none
def withKids : T → List T → T
  | .lst _, ts => .lst ts
  | .tup _, ts => .tup ts
  | .ins c ns _, ts => .ins c ns ts
  | t, _ => t
def getP : T → List Nat → Option T
  | t, [] => some t
  | t, j :: π => match kids t with
    | some ts => match ts[j]? with
      | some u => getP u π
      | none => none
    | none => none
def setP : T → List Nat → T → T
  | _, [], u => u
  | t, j :: π, u => match kids t with
    | some ts => match ts[j]? with
      | some v => withKids t (ts.set j (setP v π u))
      | none => t
    | none => t
abbrev FP := Env → Re (Nat × List Nat)
def slotP (e : Env) (i : Nat) (π : List Nat) : Option T := match e[i]? with
  | some (some t) => getP t π
  | _ => none
def pS (i : Nat) : FP := fun e => match e[i]? with
  | some (some _) => .ok (i, [])
  | _ => .no
def idxS (f : Str) : List Str → Option Nat
  | [] => none
  | g :: r => if g = f then some 0 else (idxS f r).map (· + 1)
def pF (c f : Str) (p : FP) : FP := fun e => (p e).bind fun q => match slotP e q.1 q.2 with
  | some (.ins c' ns _) => if c' = c then match idxS f ns with
    | some j => .ok (q.1, q.2 ++ [j])
    | none => .no
    else .no
  | _ => .no
def pI (a : FE) (p : FP) : FP := fun e => (p e).bind fun q => (a e).bind fun u => match slotP e q.1 q.2, datT u with
  | some (.lst ts), .int k => match ixD ts.length k with
    | some j => .ok (q.1, q.2 ++ [j])
    | none => .no
  | some (.tup ts), .int k => match ixD ts.length k with
    | some j => .ok (q.1, q.2 ++ [j])
    | none => .no
  | _, _ => .no
def leafs (ts : List T) : Bool := ts.all isLeaf
/-- a list's method that changes it: the items, the arguments; the new items, the answer -/
abbrev MO := List T → List T → Option (List T × T)
def tN : T := .leaf 0 .non
def mAppend : MO
  | ts, [x] => if ts.length < 1000000 then some (ts ++ [x], tN) else none
  | _, _ => none
def mInsert : MO
  | ts, [.leaf _ (.int i), x] => if ts.length < 1000000 ∧ 0 ≤ i ∧ i.toNat < 1000000 then some (ts.take i.toNat ++ [x] ++ ts.drop i.toNat, tN) else none
  | _, _ => none
def mExtend : MO
  | ts, [.leaf k (.lst ds)] => if ts.length + ds.length ≤ 1000000 then some (ts ++ ds.map (mk k), tN) else none
  | _, _ => none
def tI (i : Int) : T := .leaf 0 (.int i)
def mRemove : MO
  | ts, [.leaf _ (.int k)] => match intsD (datTs ts) with
    | some ns => if k ∈ ns then some ((ns.erase k).map tI, tN) else none
    | none => none
  | _, _ => none
def mPop : MO
  | ts, [] => match ts.getLast? with
    | some t => some (ts.dropLast, t)
    | none => none
  | _, _ => none
def mPopAt : MO
  | ts, [.leaf _ (.int i)] => match ixD ts.length i with
    | some j => match ts[j]? with
      | some t => if ts.length < 1000000 then some (ts.eraseIdx j, t) else none
      | none => none
    | none => none
  | _, _ => none
def mReverse : MO
  | ts, [] => some (ts.reverse, tN)
  | _, _ => none
def mClear : MO
  | _, [] => some ([], tN)
  | _, _ => none
def mutE (m : MO) (e : Env) (q : Nat × List Nat) (us : List T) : Option (Env × T) := match e[q.1]? with
  | some (some t) => match getP t q.2 with
    | some (.lst ts) => if leafs ts = true ∧ kdTs us ≤ 1 then match m ts ((datTs us).map (mk (kdTs us))) with
      | some (ts', u) => some (e.set q.1 (some (setP t q.2 (.lst ts'))), u)
      | none => none
      else none
    | _ => none
  | _ => none
def mutR (p : FP) (m : MO) (a : FA) (e : Env) : Re (Env × T) := (p e).bind fun q => match slotP e q.1 q.2 with
  | some (.lst _) => (a e).bind fun us => ofO (mutE m e q us)
  | _ => .no
/-- o.m(..) as a statement -/
def sMut (p : FP) (m : MO) (a : FA) : FS := fun e => (mutR p m a e).bind fun z => .ok (.nx z.1)
/-- x = o.m(..) -/
def sMutG (p : FP) (m : MO) (a : FA) (g : FG) : FS := fun e => (mutR p m a e).bind fun z => (g z.2 z.1).bind fun e2 => .ok (.nx e2)
/-- o[i] = .. -/
def mSet (j : Nat) (x : T) : MO := fun ts _ => if j < ts.length then some (ts.set j x, tN) else none
def setIx (p : FP) (a : FE) (x : T) : Env → Re Env := fun e => (p e).bind fun q => (a e).bind fun u => match slotP e q.1 q.2, datT u with
  | some (.lst ts), .int i => match ixD ts.length i with
    | some j => (ofO (mutE (mSet j x) e q [])).bind fun z => .ok z.1
    | none => .no
  | _, _ => .no
def sSetIx (p : FP) (a v : FE) : FS := fun e => (v e).bind fun t => if kdT t ≤ 1 then (setIx p a (mk (kdT t) (datT t)) e).bind fun e' => .ok (.nx e') else .no
/-- a[i], b[j] = x, y -/
def ix2F (p1 : FP) (a1 : FE) (p2 : FP) (a2 : FE) (e : Env) : T → Re Out
  | .tup [.leaf _ d1, .leaf _ d2] => if scal d1 = true ∧ scal d2 = true then (setIx p1 a1 (.leaf 0 d1) e).bind fun e1 => (setIx p2 a2 (.leaf 0 d2) e1).bind fun e2 => .ok (.nx e2) else .no
  | _ => .no
def sSetIx2 (p1 : FP) (a1 : FE) (p2 : FP) (a2 v : FE) : FS := fun e => (v e).bind (ix2F p1 a1 p2 a2 e)
/-- a, b = x, y; a, b, c = x, y, z -/
def parF (i j : Nat) (e : Env) : List T → Re Out
  | [t, u] => if kdT t ≤ 1 ∧ kdT u ≤ 1 ∧ i < e.length ∧ j < e.length then .ok (.nx ((e.set i (some t)).set j (some u))) else .no
  | _ => .no
def sPar (i j : Nat) (a : FA) : FS := fun e => (a e).bind (parF i j e)
def parF3 (i j k : Nat) (e : Env) : List T → Re Out
  | [t, u, v] => if kdT t ≤ 1 ∧ kdT u ≤ 1 ∧ kdT v ≤ 1 ∧ i < e.length ∧ j < e.length ∧ k < e.length then .ok (.nx (((e.set i (some t)).set j (some u)).set k (some v))) else .no
  | _ => .no
def sPar3 (i j k : Nat) (a : FA) : FS := fun e => (a e).bind (parF3 i j k e)
/-- o.f -/
def oFld (c f : Str) : Op
  | [.ins c' ns ds] => if c' = c then (match idxS f ns with
    | some j => ds[j]?
    | none => none) else none
  | _ => none
/-- self.f = e, a new attribute -/
def putS (c f : Str) (i : Nat) (e : Env) (u : T) : Re Env := match e[i]? with
  | some (some (.ins c' ns ts)) => if c' = c ∧ kdT u ≤ 1 ∧ ns.length < 100 ∧ idxS f ns = none then .ok (e.set i (some (.ins c (ns ++ [f]) (ts ++ [u])))) else .no
  | _ => .no
def sFldS (i : Nat) (c f : Str) (a : FE) : FS := fun e => (a e).bind fun u => (putS c f i e u).bind fun e' => .ok (.nx e')
/-- o.m(..), the object stays as it is -/
def methF (c m : Str) (F : List Dat → Re T) (a : FA) (e : Env) : Dat → Re T
  | .ins c' ns ds => if c' = c ∧ idxS m ns = none then (a e).bind fun ts => F (.ins c' ns ds :: datTs ts) else .no
  | _ => .no
def fMeth (c m : Str) (F : List Dat → Re T) (o : FE) (a : FA) : FE := fun e => (o e).bind fun s => methF c m F a e (datT s)

/-! ### a def -/
def startE (n : Nat) (ds : List Dat) : Env := (ds.map fun d => some (mk 1 d)) ++ List.replicate (n - ds.length) none
/-- n slots, p parameters -/
def runF (n p : Nat) (b : FS) (ds : List Dat) : Re T := if ds.length = p then (b (startE n ds)).bind fun o => match o with
    | .rt _ t => if kdT t = 0 then .ok t else .no
    | .nx _ => .ok (.leaf 0 .non)
    | _ => .no
  else .no
/-- C(..) by an __init__ of n slots, p parameters -/
def outM : Out → Re T
  | .nx e => match e[0]? with
    | some (some s) => if kdT s = 0 then .ok s else .no
    | _ => .no
  | _ => .no
def makeF (c : Str) (n p : Nat) (b : FS) (ds : List Dat) : Re T := if ds.length + 1 = p then (b (some (.ins c [] []) :: startE (n - 1) ds)).bind outM else .no
end LS

/-! LP: how the combinators compute, for simp. -/
namespace LS
@[simp] theorem bd_no {α β : Type} (f : α → Re β) : Re.bind .no f = .no := rfl
@[simp] theorem bd_er {α β : Type} (c : PySem.Str) (f : α → Re β) : Re.bind (.er c) f = .er c := rfl
@[simp] theorem bd_ok {α β : Type} (a : α) (f : α → Re β) : Re.bind (.ok a) f = f a := rfl
@[simp] theorem nx_no {α : Type} : Re.nox (.no : Re α) = .no := rfl
@[simp] theorem nx_ok {α : Type} (a : α) : Re.nox (.ok a) = .ok a := rfl
@[simp] theorem datT_leaf (k : Nat) (d : Dat) : datT (.leaf k d) = d := rfl
@[simp] theorem datT_lst (ts : List T) : datT (.lst ts) = .lst (datTs ts) := rfl
@[simp] theorem datT_tup (ts : List T) : datT (.tup ts) = .tup (datTs ts) := rfl
@[simp] theorem datT_ins (c : PySem.Str) (ns : List PySem.Str) (ts : List T) : datT (.ins c ns ts) = .ins c ns (datTs ts) := rfl
@[simp] theorem datTs_nil : datTs [] = [] := rfl
@[simp] theorem datTs_cons (t : T) (ts : List T) : datTs (t :: ts) = datT t :: datTs ts := rfl
@[simp] theorem kdT_leaf (k : Nat) (d : Dat) : kdT (.leaf k d) = k := rfl
@[simp] theorem kdT_lst (ts : List T) : kdT (.lst ts) = kdTs ts := rfl
@[simp] theorem kdT_tup (ts : List T) : kdT (.tup ts) = kdTs ts := rfl
@[simp] theorem kdT_ins (c : PySem.Str) (ns : List PySem.Str) (ts : List T) : kdT (.ins c ns ts) = kdTs ts := rfl
@[simp] theorem kdTs_nil : kdTs [] = 0 := rfl
@[simp] theorem kdTs_cons (t : T) (ts : List T) : kdTs (t :: ts) = max (kdT t) (kdTs ts) := rfl
@[simp] theorem scal_int (i : Int) : scal (.int i) = true := rfl
@[simp] theorem scal_bl (b : Bool) : scal (.bl b) = true := rfl
@[simp] theorem scal_non : scal .non = true := rfl
@[simp] theorem scal_str (x : PySem.Str) : scal (.str x) = true := rfl
@[simp] theorem scal_lst (ds : List Dat) : scal (.lst ds) = false := rfl
@[simp] theorem scal_tup (ds : List Dat) : scal (.tup ds) = false := rfl
@[simp] theorem scal_ins (c : PySem.Str) (ns : List PySem.Str) (ds : List Dat) : scal (.ins c ns ds) = false := rfl
@[simp] theorem mk_int (k : Nat) (i : Int) : mk k (.int i) = .leaf 0 (.int i) := rfl
@[simp] theorem mk_bl (k : Nat) (b : Bool) : mk k (.bl b) = .leaf 0 (.bl b) := rfl
@[simp] theorem mk_non (k : Nat) : mk k .non = .leaf 0 .non := rfl
@[simp] theorem mk_lst (k : Nat) (ds : List Dat) : mk k (.lst ds) = .leaf k (.lst ds) := rfl
@[simp] theorem mk_tup (k : Nat) (ds : List Dat) : mk k (.tup ds) = .leaf k (.tup ds) := rfl
@[simp] theorem mk_ins (k : Nat) (c : PySem.Str) (ns : List PySem.Str) (ds : List Dat) : mk k (.ins c ns ds) = .leaf k (.ins c ns ds) := rfl
@[simp] theorem mk0 (d : Dat) : mk 0 d = .leaf 0 d := by
  unfold mk
  split <;> rfl
@[simp] theorem shr_leaf (k : Nat) (d : Dat) : shr (.leaf k d) = .leaf k d := rfl
@[simp] theorem shr_lst (ts : List T) : shr (.lst ts) = .leaf 2 (.lst (datTs ts)) := rfl
@[simp] theorem shr_tup (ts : List T) : shr (.tup ts) = .leaf 2 (.tup (datTs ts)) := rfl
@[simp] theorem shr_ins (c : PySem.Str) (ns : List PySem.Str) (ts : List T) : shr (.ins c ns ts) = .leaf 2 (.ins c ns (datTs ts)) := rfl
@[simp] theorem leaf_ints (k : Nat) (ns : List Int) : (ns.map Dat.int).map (mk k) = ns.map tI := by
  induction ns with
  | nil => rfl
  | cons n r ih => simp [tI]
@[simp] theorem leaf_comp (k : Nat) (ns : List Int) : ns.map (mk k ∘ Dat.int) = ns.map tI := by
  rw [← List.map_map]
  exact leaf_ints k ns
@[simp] theorem datTs_tI (ns : List Int) : datTs (ns.map tI) = ns.map Dat.int := by
  induction ns with
  | nil => rfl
  | cons n r ih => simp [tI, ih]
@[simp] theorem kdTs_tI (ns : List Int) : kdTs (ns.map tI) = 0 := by
  induction ns with
  | nil => rfl
  | cons n r ih => simp [tI, ih]
@[simp] theorem leafs_tI (ns : List Int) : leafs (ns.map tI) = true := by
  induction ns with
  | nil => rfl
  | cons n r ih =>
    show (isLeaf (tI n) && leafs (r.map tI)) = true
    rw [ih]
    rfl
theorem intsD_map (ns : List Int) : intsD (ns.map Dat.int) = some ns := by
  induction ns with
  | nil => rfl
  | cons n r ih => simp [intsD, ih]
theorem okDs_ints (ns : List Int) (n : Nat) : okDs (ns.map Dat.int) n = true := by
  induction ns with
  | nil => simp [okDs]
  | cons k r ih => simp [okDs, okD, ih]
theorem okD_ints (ns : List Int) (n : Nat) : okD (.lst (ns.map Dat.int)) (n + 1) = true := by simp [okD, okDs_ints]
theorem eqvDs_ints : ∀ (xs ys : List Int), eqvDs (xs.map Dat.int) (ys.map Dat.int) = decide (xs = ys)
  | [], [] => by simp [eqvDs]
  | [], _ :: _ => by simp [eqvDs]
  | _ :: _, [] => by simp [eqvDs]
  | x :: xs, y :: ys => by
    simp only [List.map_cons, eqvDs, eqvD, eqvDs_ints xs ys, List.cons.injEq]
    by_cases h : x = y <;> simp [h]
theorem eqvD_ints (xs ys : List Int) : eqvD (.lst (xs.map Dat.int)) (.lst (ys.map Dat.int)) = decide (xs = ys) := by simp [eqvD, eqvDs_ints]
theorem any_ints (x : Int) : ∀ ns : List Int, ((ns.map Dat.int).any fun z => eqvD z (.int x)) = decide (x ∈ ns)
  | [] => by simp
  | n :: r => by
    rw [List.map_cons, List.any_cons, any_ints x r]
    show ((n == x) || decide (x ∈ r)) = _
    by_cases h : n = x
    · simp [h]
    · have h' : ¬ x = n := fun e => h e.symm
      simp [h, h']
/-- x in xs, x not in xs, of whole numbers -/
theorem in_ints (neg : Bool) (x : Int) (ns : List Int) : oIn neg [.int x, .lst (ns.map Dat.int)] = some (.bl (neg ^^ decide (x ∈ ns))) := by
  show (if okD (.int x) 8 && okDs (ns.map Dat.int) 8 then some (Dat.bl (neg ^^ (ns.map Dat.int).any fun z => eqvD z (.int x))) else none) = _
  rw [okDs_ints, any_ints]
  simp [okD]
theorem eq_ints (x y : Int) : oEq [.int x, .int y] = some (.bl (decide (x = y))) := by
  show (if okD (.int x) 8 && okD (.int y) 8 then some (Dat.bl (x == y)) else none) = _
  simp only [okD, Bool.and_self, if_true]
  by_cases h : x = y <;> simp [h]
theorem ne_ints (x y : Int) : oNe [.int x, .int y] = some (.bl (decide (x ≠ y))) := by
  show (if okD (.int x) 8 && okD (.int y) 8 then some (Dat.bl (!(x == y))) else none) = _
  simp only [okD, Bool.and_self, if_true]
  by_cases h : x = y <;> simp [h]
theorem ix_ints (ns : List Int) (i : Nat) (v : Int) (h : ns[i]? = some v) : oIx [.lst (ns.map Dat.int), .int (i : Int)] = some (.int v) := by
  have hl : i < ns.length := (List.getElem?_eq_some_iff.mp h).1
  have e1 : ixD (ns.map Dat.int).length (i : Int) = some i := by
    unfold ixD
    rw [if_pos (by omega), List.length_map, if_pos (by omega)]
    simp
  unfold oIx
  simp only [e1]
  rw [List.getElem?_map, h]
  rfl
theorem len_ints (ns : List Int) : oLen [.lst (ns.map Dat.int)] = some (.int (ns.length : Int)) := by simp [oLen]
theorem lt_ints (x y : Int) : oLt [.int x, .int y] = some (.bl (decide (x < y))) := rfl
theorem le_ints (x y : Int) : oLe [.int x, .int y] = some (.bl (decide (x ≤ y))) := rfl
theorem gt_ints (x y : Int) : oGt [.int x, .int y] = some (.bl (decide (y < x))) := rfl
theorem ge_ints (x y : Int) : oGe [.int x, .int y] = some (.bl (decide (y ≤ x))) := rfl
theorem sub_ints (x y : Int) : oSub [.int x, .int y] = some (.int (x - y)) := rfl
theorem mod_ints (x y : Int) (h : 0 < y) : oMod [.int x, .int y] = some (.int (x % y)) := by simp [oMod, h]
theorem neg_ints (x : Int) : oNeg [.int x] = some (.int (-x)) := rfl
/-! ### methods that change a list of whole numbers -/
theorem app_ints (xs : List Int) (k : Nat) (x : Int) (h : xs.length < 1000000) : mAppend (xs.map tI) [.leaf k (.int x)] = some ((xs ++ [x]).map tI, tN) ∨ k ≠ 0 := by
  by_cases hk : k = 0
  · left
    subst hk
    show (if (xs.map tI).length < 1000000 then some (xs.map tI ++ [T.leaf 0 (.int x)], tN) else none) = _
    rw [List.length_map, if_pos h, List.map_append]
    rfl
  · exact .inr hk
theorem app_int (xs : List Int) (x : Int) (h : xs.length < 1000000) : mAppend (xs.map tI) [.leaf 0 (.int x)] = some ((xs ++ [x]).map tI, tN) := (app_ints xs 0 x h).elim id fun z => absurd rfl z
theorem ins_int (xs : List Int) (i : Nat) (x : Int) (h : xs.length < 1000000) (hi : i < 1000000) : mInsert (xs.map tI) [.leaf 0 (.int (i : Int)), .leaf 0 (.int x)] = some ((xs.take i ++ [x] ++ xs.drop i).map tI, tN) := by
  show (if (xs.map tI).length < 1000000 ∧ (0 : Int) ≤ (i : Int) ∧ (i : Int).toNat < 1000000 then some ((xs.map tI).take (i : Int).toNat ++ [T.leaf 0 (.int x)] ++ (xs.map tI).drop (i : Int).toNat, tN) else none) = _
  rw [List.length_map, if_pos ⟨h, by omega, by omega⟩, Int.toNat_natCast, List.map_append, List.map_append, List.map_take, List.map_drop]
  rfl
theorem rem_int (xs : List Int) (x : Int) (h : x ∈ xs) : mRemove (xs.map tI) [.leaf 0 (.int x)] = some ((xs.erase x).map tI, tN) := by
  show (match intsD (datTs (xs.map tI)) with
    | some ns => if x ∈ ns then some ((ns.erase x).map tI, tN) else none
    | none => none) = _
  rw [datTs_tI, intsD_map]
  exact if_pos h
theorem set_int (xs : List Int) (i : Nat) (x : Int) (h : i < xs.length) : mSet i (.leaf 0 (.int x)) (xs.map tI) [] = some ((xs.set i x).map tI, tN) := by
  unfold mSet
  rw [List.length_map, if_pos h, List.map_set]
  rfl
theorem getP_nil (t : T) : getP t [] = some t := by
  unfold getP
  rfl
theorem setP_nil (t u : T) : setP t [] u = u := by
  unfold setP
  rfl
theorem seq_ok {a b : FS} {e e1 : Env} (h : a e = .ok (.nx e1)) : sSeq a b e = b e1 := by
  unfold sSeq
  rw [h]
  rfl
theorem seq_rt {a b : FS} {e e1 : Env} {t : T} (h : a e = .ok (.rt e1 t)) : sSeq a b e = .ok (.rt e1 t) := by
  unfold sSeq
  rw [h]
  rfl
theorem if_ok {c : FT} {a b : FS} {e : Env} {x : Bool} (h : c e = .ok x) : sIf c a b e = if x then a e else b e := by
  unfold sIf
  rw [h]
  rfl
theorem rng1_ok {a : FA} {e : Env} {k : Nat} (m : Nat) (h : a e = .ok [.leaf k (.int m)]) (hm : m ≤ 1000000) : fRng1 a e = .ok (rng 0 1 0 m) := by
  unfold fRng1
  rw [h]
  simp only [bd_ok, datTs_cons, datTs_nil, datT_leaf]
  rw [if_pos (smI_in (by omega) (by omega)), Int.toNat_natCast]
/-- a method on slot i, a list of whole numbers -/
theorem mut_slot (i : Nat) (m : MO) (a : FA) (e : Env) (xs ys : List Int) (us : List T) (h : e[i]? = some (some (.lst (xs.map tI)))) (ha : a e = .ok us) (hk : kdTs us ≤ 1) (hm : m (xs.map tI) ((datTs us).map (mk (kdTs us))) = some (ys.map tI, tN)) :
    sMut (pS i) m a e = .ok (.nx (e.set i (some (.lst (ys.map tI))))) := by
  unfold sMut mutR pS
  rw [h]
  show ((match slotP e i [] with
    | some (.lst _) => (a e).bind fun us => ofO (mutE m e (i, []) us)
    | _ => Re.no).bind fun z => Re.ok (Out.nx z.1)) = _
  unfold slotP
  rw [h]
  show ((match getP (T.lst (xs.map tI)) [] with
    | some (.lst _) => (a e).bind fun us => ofO (mutE m e (i, []) us)
    | _ => Re.no).bind fun z => Re.ok (Out.nx z.1)) = _
  rw [getP_nil, ha]
  show ((ofO (mutE m e (i, []) us)).bind fun z => Re.ok (Out.nx z.1)) = _
  have e1 : mutE m e (i, []) us = some (e.set i (some (.lst (ys.map tI))), tN) := by
    unfold mutE
    show (match e[i]? with
      | some (some t) => match getP t [] with
        | some (.lst ts) => if leafs ts = true ∧ kdTs us ≤ 1 then match m ts ((datTs us).map (mk (kdTs us))) with
          | some (ts', u) => some (e.set i (some (setP t [] (.lst ts'))), u)
          | none => none
          else none
        | _ => none
      | _ => none) = _
    rw [h]
    simp only [getP_nil, leafs_tI, hk, and_self, if_true, hm, setP_nil]
  rw [e1]
  rfl
theorem setIx_slot (i : Nat) (a : FE) (e : Env) (xs : List Int) (j k : Nat) (x : Int) (h : e[i]? = some (some (.lst (xs.map tI)))) (ha : a e = .ok (.leaf k (.int j))) (hj : j < xs.length) : setIx (pS i) a (.leaf 0 (.int x)) e = .ok (e.set i (some (.lst ((xs.set j x).map tI)))) := by
  have hix : ixD (xs.map tI).length (j : Int) = some j := by
    unfold ixD
    rw [if_pos (by omega), List.length_map, if_pos (by omega), Int.toNat_natCast]
  have e1 : mutE (mSet j (.leaf 0 (.int x))) e (i, []) [] = some (e.set i (some (.lst ((xs.set j x).map tI))), tN) := by
    unfold mutE
    simp only [h, getP_nil, leafs_tI, kdTs_nil, Nat.zero_le, and_self, if_true, datTs_nil, List.map_nil, set_int xs j x hj, setP_nil]
  unfold setIx pS
  simp only [h, bd_ok, ha, slotP, getP_nil, datT_leaf, hix, e1, ofO]
theorem sSetIx_slot (i : Nat) (a v : FE) (e : Env) (xs : List Int) (j k l : Nat) (x : Int) (h : e[i]? = some (some (.lst (xs.map tI)))) (hv : v e = .ok (.leaf l (.int x))) (hl : l ≤ 1) (ha : a e = .ok (.leaf k (.int j))) (hj : j < xs.length) :
    sSetIx (pS i) a v e = .ok (.nx (e.set i (some (.lst ((xs.set j x).map tI))))) := by
  unfold sSetIx
  simp only [hv, bd_ok, kdT_leaf, hl, if_true, datT_leaf, mk_int, setIx_slot i a e xs j k x h ha hj]
theorem ixD_nat {n j : Nat} (h : j < n) : ixD n (j : Int) = some j := by
  unfold ixD
  rw [if_pos (by omega), if_pos (by omega), Int.toNat_natCast]
theorem set_perm : ∀ (xs : List Int) (i : Nat) (a : Int), i < xs.length → (xs.set i a).Perm (a :: xs.eraseIdx i)
  | [], i, a, h => absurd h (Nat.not_lt_zero _)
  | x :: xs, 0, a, h => .refl _
  | x :: xs, i + 1, a, h => ((set_perm xs i a (by simpa using h)).cons x).trans (.swap ..)
theorem get_perm (xs : List Int) (i : Nat) (h : i < xs.length) : xs.Perm (xs[i] :: xs.eraseIdx i) := by
  have := set_perm xs i xs[i] h
  rwa [List.set_getElem_self] at this
theorem swap_perm (xs : List Int) (i j : Nat) (hi : i < xs.length) (hj : j < xs.length) : ((xs.set i xs[j]).set j xs[i]).Perm xs := by
  by_cases e : i = j
  · subst e
    rw [List.set_set, List.set_getElem_self]
  · have hj' : j < (xs.set i xs[j]).length := by rw [List.length_set]; exact hj
    have p1 := set_perm (xs.set i xs[j]) j xs[i] hj'
    have p2 := get_perm (xs.set i xs[j]) j hj'
    rw [List.getElem_set_ne e] at p2
    have p3 := set_perm xs i xs[j] hi
    have p4 := (List.perm_cons _).mp (p2.symm.trans p3)
    exact p1.trans ((p4.cons _).trans (get_perm xs i hi).symm)
/-- an item, 0 where there is none -/
def atL (xs : List Int) (x : Int) : Int := xs.getD x.toNat 0
theorem atL_get {xs : List Int} {i : Nat} (h : i < xs.length) : atL xs (i : Int) = xs[i] := by
  unfold atL
  rw [Int.toNat_natCast, List.getD_eq_getElem?_getD, List.getElem?_eq_getElem h]
  rfl
theorem atL_some {xs : List Int} {i : Nat} (h : i < xs.length) : xs[i]? = some (atL xs (i : Int)) := by rw [atL_get h, List.getElem?_eq_getElem h]
theorem atL_set_ne {xs : List Int} {i : Nat} {x v : Int} (h : x.toNat ≠ i) : atL (xs.set i v) x = atL xs x := by
  unfold atL
  rw [List.getD_eq_getElem?_getD, List.getD_eq_getElem?_getD, List.getElem?_set_ne (Ne.symm h)]
theorem atL_set_self {xs : List Int} {i : Nat} {v : Int} (h : i < xs.length) : atL (xs.set i v) (i : Int) = v := by
  rw [atL_get (by rw [List.length_set]; exact h), List.getElem_set_self]
/-- a list of whole numbers, shared -/
def tL (cs : List Int) : T := .leaf 0 (.lst (cs.map .int))
def dL (cs : List Int) : Dat := .lst (cs.map .int)
theorem datTs_tL : ∀ css : List (List Int), datTs (css.map tL) = css.map dL
  | [] => rfl
  | c :: r => by
    rw [List.map_cons, datTs_cons, datTs_tL r]
    rfl
theorem kdTs_tL : ∀ css : List (List Int), kdTs (css.map tL) = 0
  | [] => rfl
  | c :: r => by
    rw [List.map_cons, kdTs_cons, kdTs_tL r]
    rfl
theorem leafs_tL : ∀ css : List (List Int), leafs (css.map tL) = true
  | [] => rfl
  | c :: r => by
    show (isLeaf (tL c) && leafs (r.map tL)) = true
    rw [leafs_tL r]
    rfl
theorem mk0_dL (css : List (List Int)) : (css.map dL).map (mk 0) = css.map tL := by
  rw [List.map_map]
  exact List.map_congr_left fun c _ => rfl
theorem mut_gen (i : Nat) (m : MO) (a : FA) (e : Env) (ts ts' : List T) (us : List T) (u : T) (h : e[i]? = some (some (.lst ts))) (hl : leafs ts = true) (ha : a e = .ok us) (hk : kdTs us ≤ 1) (hm : m ts ((datTs us).map (mk (kdTs us))) = some (ts', u)) :
    sMut (pS i) m a e = .ok (.nx (e.set i (some (.lst ts')))) := by
  have e1 : mutE m e (i, []) us = some (e.set i (some (.lst ts')), u) := by
    unfold mutE
    simp only [h, getP_nil, hl, hk, and_self, if_true, hm, setP_nil]
  unfold sMut mutR pS
  simp only [h, bd_ok, slotP, getP_nil, ha, e1, ofO]
theorem app_L (css : List (List Int)) (xs : List Int) (h : css.length < 1000000) : mAppend (css.map tL) [tL xs] = some ((css ++ [xs]).map tL, tN) := by
  show (if (css.map tL).length < 1000000 then some (css.map tL ++ [tL xs], tN) else none) = _
  rw [List.length_map, if_pos h, List.map_append]
  rfl
theorem add_L (t u : T) (xs ys : List Int) (ht : datT t = .lst (xs.map .int)) (hu : datT u = .lst (ys.map .int)) (h : xs.length + ys.length ≤ 1000000) : addF [t, u] = .ok (.lst ((xs ++ ys).map tI)) := by
  unfold addF
  simp only [ht, hu, List.length_map]
  rw [if_pos h, ← List.map_append, leaf_ints]
theorem lcT_true (i : Nat) (el : FE) (e : Env) (hi : i < e.length) : ∀ ts : List T, (∀ t ∈ ts, kdT t ≤ 1 ∧ el (e.set i (some t)) = .ok (.leaf 0 (.bl true))) → lcT (gN i) fYes el (e.set i none) ts = .ok (ts.map fun _ => .leaf 0 (.bl true))
  | [], _ => rfl
  | t :: ts, h => by
    obtain ⟨k, he⟩ := h t List.mem_cons_self
    have ih := lcT_true i el e hi ts fun u hu => h u (List.mem_cons_of_mem _ hu)
    have eg : gN i t (e.set i none) = .ok (e.set i (some t)) := by
      unfold gN
      rw [if_pos ⟨k, by rw [List.length_set]; exact hi⟩, List.set_set]
    show ((gN i t (e.set i none)).bind fun e1 => ((fYes e1).nox).bind fun b => if b then ((el e1).nox).bind fun x => if kdT x ≤ 1 then (lcT (gN i) fYes el (e.set i none) ts).bind fun r => .ok (x :: r) else .no else lcT (gN i) fYes el (e.set i none) ts) = _
    rw [eg, bd_ok]
    simp only [fYes, nx_ok, bd_ok, if_true, he, kdT_leaf, Nat.zero_le, ih, List.map_cons]
theorem bls_true : ∀ ts : List T, blsD (datTs (ts.map fun _ => T.leaf 0 (.bl true))) = some (ts.map fun _ => true)
  | [] => rfl
  | t :: ts => by
    show (blsD (datTs (ts.map fun _ => T.leaf 0 (.bl true)))).map (true :: ·) = _
    rw [bls_true ts]
    rfl
theorem all_true (it : FI) (el : FE) (i : Nat) (e : Env) (ts : List T) (hi : it e = .ok ts) (hlen : ts.length ≤ 1000000) (hb : i < e.length) (h : ∀ t ∈ ts, kdT t ≤ 1 ∧ el (e.set i (some t)) = .ok (.leaf 0 (.bl true))) :
    fI oAll (fA1 (fLc it (gN i) fYes el [i]) fA0) e = .ok (.leaf 0 (.bl true)) := by
  have e1 : fLc it (gN i) fYes el [i] e = .ok (.lst (ts.map fun _ => .leaf 0 (.bl true))) := by
    unfold fLc
    rw [hi, bd_ok, if_pos hlen]
    show ((lcT (gN i) fYes el (e.set i none) ts).bind fun r => Re.ok (T.lst r)) = _
    rw [lcT_true i el e hb ts h]
    rfl
  unfold fI fA1 fA0
  rw [e1]
  have e2 : oAll [.lst (datTs (ts.map fun _ => T.leaf 0 (.bl true)))] = some (.bl true) := by
    show (blsD (datTs (ts.map fun _ => T.leaf 0 (.bl true)))).map _ = _
    rw [bls_true]
    simp
  simp only [bd_ok, datTs_cons, datT_lst, datTs_nil, e2, mk_bl]
theorem dat_tI (xs : List Int) : datT (.lst (xs.map tI)) = .lst (xs.map .int) := by rw [datT_lst, datTs_tI]
theorem fA1_ok {a : FE} {r : FA} {e : Env} {t : T} {ts : List T} (h : a e = .ok t) (h2 : r e = .ok ts) : fA1 a r e = .ok (t :: ts) := by
  unfold fA1
  rw [h, bd_ok, h2]
  rfl
theorem fAdd_ok {a b : FE} {e : Env} {t u : T} (h : a e = .ok t) (h2 : b e = .ok u) : fAdd a b e = addF [t, u] := by
  unfold fAdd
  rw [fA1_ok h (fA1_ok h2 rfl)]
  rfl
theorem rng2_ok {a : FA} {e : Env} {k l : Nat} (lo n : Int) (h : a e = .ok [.leaf k (.int lo), .leaf l (.int n)]) (h1 : n.natAbs ≤ 1000000) (h2 : lo.natAbs ≤ 1000000) : fRng2 a e = .ok (rng lo 1 0 (n - lo).toNat) := by
  unfold fRng2
  rw [h]
  simp only [bd_ok, datTs_cons, datTs_nil, datT_leaf]
  rw [if_pos ⟨smI_in (by omega) (by omega), smI_in (by omega) (by omega)⟩]
theorem rng_int (lo c : Int) : ∀ (n i : Nat) (t : T), t ∈ rng lo c i n → ∃ x, t = .leaf 0 (.int x)
  | 0, i, t, h => nomatch h
  | n + 1, i, t, h => by
    rcases List.mem_cons.mp h with z | z
    · exact ⟨_, z⟩
    · exact rng_int lo c n (i + 1) t z
theorem rng_size (lo c : Int) : ∀ (n i : Nat), (rng lo c i n).length = n
  | 0, i => rfl
  | n + 1, i => congrArg (· + 1) (rng_size lo c n (i + 1))
theorem fL_ok {op : List Dat → Option (List Dat)} {a : FA} {e : Env} {ts : List T} {ds : List Dat} (h : a e = .ok ts) (h2 : op (datTs ts) = some ds) : fL op a e = .ok (.lst (ds.map (mk (kdTs ts)))) := by
  unfold fL
  rw [h, bd_ok, h2]
theorem fI_ok {op : List Dat → Option Dat} {a : FA} {e : Env} {ts : List T} {d : Dat} (h : a e = .ok ts) (h2 : op (datTs ts) = some d) : fI op a e = .ok (mk (kdTs ts) d) := by
  unfold fI
  rw [h, bd_ok, h2]
theorem fCall_ok {F : List Dat → Re T} {a : FA} {e : Env} {ts : List T} {r : Re T} (h : a e = .ok ts) (h2 : F (datTs ts) = r) : fCall F a e = r := by
  unfold fCall
  rw [h, bd_ok, h2]
theorem fVar_ok {i : Nat} {e : Env} {t : T} (h : e[i]? = some (some t)) : fVar i e = .ok (shr t) := by
  unfold fVar
  rw [h]
theorem asg_ok {a : FE} {i : Nat} {e : Env} {t : T} (h : a e = .ok t) (hk : kdT t ≤ 1) (hi : i < e.length) : sAsg a (gN i) e = .ok (.nx (e.set i (some t))) := by
  unfold sAsg gN
  rw [h, bd_ok, if_pos ⟨hk, hi⟩]
  rfl
theorem fA0_ok (e : Env) : fA0 e = .ok [] := rfl
end LS

/-! LB: the reading of LA against the hand layer: what a term of rules does to data. -/
namespace LS
open PySem PySem.Spec
open PyProof.Rows L2

/-! ### data in a heap -/
def kvz (ks : List Int) (vs : List V) : List (Key × V) := (ks.map Sum.inl).zip vs
/-- a dict of tuples of whole numbers, its values whole numbers -/
def kvt (ps : List (List Int × Int)) : List (List Key × V) := ps.map fun p => (p.1.map Sum.inl, V.int p.2)
mutual
inductive R (mg : Str → Option Value) (H : Hp) : V → Dat → Prop
  | non : R mg H .non .non
  | bl (b : Bool) : R mg H (.bl b) (.bl b)
  | int (i : Int) : R mg H (.int i) (.int i)
  | str (x : Str) : R mg H (.str x) (.str x)
  | lst {a : Addr} {vs : List V} {ds : List Dat} : H a = some (.lst vs) → Rs mg H vs ds → R mg H (.ref a) (.lst ds)
  | tup {a : Addr} {vs : List V} {ds : List Dat} : H a = some (.tup vs) → Rs mg H vs ds → R mg H (.ref a) (.tup ds)
  | dct {a : Addr} {ks : List Int} {vs : List V} {ds : List Dat} : H a = some (.dK (kvz ks vs)) → ks.length = vs.length → Rs mg H vs ds → R mg H (.ref a) (.dct ks ds)
  | ins {a C dx : Addr} {c : Str} {ns : List Str} {vs : List V} {ds : List Dat} : mg c = some (.ref C) → H a = some (.ins C dx (ns.zip vs)) → ns.length = vs.length → Rs mg H vs ds → R mg H (.ref a) (.ins c ns ds)
  | dtt {a : Addr} {ps : List (List Int × Int)} : H a = some (.dT (kvt ps)) → R mg H (.ref a) (.dtt ps)
  | adr (a : Addr) : R mg H (.ref a) (.adr a)
  | fn {a : Addr} {x : Str} : mg x = some (.ref a) → R mg H (.ref a) (.fn x)
inductive Rs (mg : Str → Option Value) (H : Hp) : List V → List Dat → Prop
  | nil : Rs mg H [] []
  | cons {v : V} {vs : List V} {d : Dat} {ds : List Dat} : R mg H v d → Rs mg H vs ds → Rs mg H (v :: vs) (d :: ds)
end
/-- no table of code objects -/
def nt : HO → Bool
  | .tbl _ => false
  | _ => true
/-- it stays; a table may grow -/
def LeO (o : HO) (x : Option HO) : Prop := x = some o ∨ ∃ ps ps' : Array Value, o = .tbl ps ∧ x = some (.tbl ps')
theorem LeO.is {o : HO} {x : Option HO} (h : LeO o x) (n : nt o = true := by rfl) : x = some o := by
  rcases h with h | ⟨ps, ps', e, _⟩
  · exact h
  · subst e
    cases n
theorem LeO.ex {o : HO} {x : Option HO} (h : LeO o x) : ∃ o', x = some o' := by
  rcases h with h | ⟨ps, ps', _, e⟩
  · exact ⟨_, h⟩
  · exact ⟨_, e⟩
def Ex (A B : Hp) : Prop := ∀ p o, A p = some o → LeO o (B p)
theorem Ex.of {A B : Hp} (h : ∀ p o, A p = some o → B p = some o) : Ex A B := fun p o q => .inl (h p o q)
theorem Ex.refl (A : Hp) : Ex A A := fun _ _ q => .inl q
theorem LeO.trans {o : HO} {C : Hp} {p : Addr} {B : Hp} (h : LeO o (B p)) (g : Ex B C) : LeO o (C p) := by
  rcases h with h | ⟨ps, ps', e, h⟩
  · exact g p o h
  · rcases g p _ h with k | ⟨qs, qs', e1, k⟩
    · exact .inr ⟨ps, ps', e, k⟩
    · exact .inr ⟨ps, qs', e, k⟩
theorem Ex.trans {A B C : Hp} (f : Ex A B) (g : Ex B C) : Ex A C := fun p o q => (f p o q).trans g
theorem Ex.new {A : Hp} {p : Addr} {o : HO} (n : A p = none) : Ex A (upd A p o) := fun b u q => by
  rw [upd_ne (ne_of_none q n)]
  exact .inl q
theorem none_back {H H' : Hp} {p : Addr} (e : Ex H H') (h : H' p = none) : H p = none := by
  cases h1 : H p with
  | none => rfl
  | some o =>
    obtain ⟨o', z⟩ := (e p o h1).ex
    rw [z] at h
    cases h
theorem Ex.sm {A B : Hp} (e : Ex A B) {p : Addr} (h : (A p).isSome = true) : (B p).isSome = true := by
  cases h1 : A p with
  | none => rw [h1] at h; cases h
  | some o =>
    obtain ⟨o', z⟩ := (e p o h1).ex
    rw [z]
    rfl
theorem Ex.no {A B : Hp} (e : Ex A B) {p : Addr} {o : HO} (h : A p = some o) (n : B p = none) : False := by
  rw [none_back e n] at h
  cases h
/-- tables that are right stay right -/
class TabI where
  ts : List (Addr × Str)
def TB [TabI] (H H' : Hp) : Prop := ∀ p ∈ TabI.ts, LamX.TabS H p.1 p.2 → LamX.TabS H' p.1 p.2
theorem TB.refl [TabI] (H : Hp) : TB H H := fun _ _ h => h
theorem TB.trans [TabI] {A B C : Hp} (f : TB A B) (g : TB B C) : TB A C := fun p m h => g p m (f p m h)
theorem TB.of [TabI] {H H' : Hp} (e : ∀ b o, H b = some o → H' b = some o) : TB H H' := fun p _ h => h.ext e
theorem TB.new [TabI] {H : Hp} {p : Addr} {o : HO} (n : H p = none) : TB H (upd H p o) := TB.of fun b u q => by
  rw [upd_ne (ne_of_none q n)]
  exact q
/-- an object that is no table and no code object is written -/
def pl : HO → Bool
  | .tbl _ => false
  | .ext _ => false
  | _ => true
theorem TB.upd [TabI] {H : Hp} {p : Addr} {o u : HO} (h : H p = some u) (n : pl u = true := by rfl) : TB H (upd H p o) := fun ⟨P, q⟩ _ t => by
  obtain ⟨ps, h1, h2, h3⟩ := t
  have ne : ∀ b v, H b = some v → pl v = false → b ≠ p := fun b v e z w => by
    rw [w, h] at e
    cases e
    rw [n] at z
    cases z
  refine ⟨ps, by rw [upd_ne (ne P _ h1 rfl)]; exact h1, h2, fun pos cv hc => ?_⟩
  obtain ⟨c, e1, e2⟩ := h3 pos cv hc
  exact ⟨c, e1, by rw [upd_ne (ne c _ e2 rfl)]; exact e2⟩
section
variable {mg : Str → Option Value} {H H' : Hp}
mutual
theorem R.mono (e : Ex H H') : ∀ {v : V} {d : Dat}, R mg H v d → R mg H' v d
  | _, _, .non => .non
  | _, _, .bl b => .bl b
  | _, _, .int i => .int i
  | _, _, .str x => .str x
  | _, _, .lst h r => .lst (e _ _ h).is (Rs.mono e r)
  | _, _, .tup h r => .tup (e _ _ h).is (Rs.mono e r)
  | _, _, .dct h l r => .dct (e _ _ h).is l (Rs.mono e r)
  | _, _, .ins m h l r => .ins m (e _ _ h).is l (Rs.mono e r)
  | _, _, .dtt h => .dtt (e _ _ h).is
  | _, _, .adr a => .adr a
  | _, _, .fn m => .fn m
theorem Rs.mono (e : Ex H H') : ∀ {vs : List V} {ds : List Dat}, Rs mg H vs ds → Rs mg H' vs ds
  | _, _, .nil => .nil
  | _, _, .cons h r => .cons (R.mono e h) (Rs.mono e r)
end
theorem Rs.length : ∀ {vs : List V} {ds : List Dat}, Rs mg H vs ds → vs.length = ds.length
  | _, _, .nil => rfl
  | _, _, .cons _ r => congrArg (· + 1) (Rs.length r)
theorem Rs.get : ∀ {vs : List V} {ds : List Dat} {i : Nat} {d : Dat}, Rs mg H vs ds → ds[i]? = some d → ∃ v, vs[i]? = some v ∧ R mg H v d
  | _, _, i, d, .nil, e => by simp at e
  | _, _, 0, d, .cons h _, e => by
    have e' := Option.some.inj (by simpa using e)
    subst e'
    exact ⟨_, rfl, h⟩
  | _, _, i + 1, d, .cons _ r, e => by
    obtain ⟨v, h1, h2⟩ := Rs.get (i := i) (d := d) r (by simpa using e)
    exact ⟨v, by simpa using h1, h2⟩
theorem Rs.getV : ∀ {vs : List V} {ds : List Dat} {i : Nat} {v : V}, Rs mg H vs ds → vs[i]? = some v → ∃ d, ds[i]? = some d ∧ R mg H v d
  | _, _, i, d, .nil, e => by simp at e
  | _, _, 0, d, .cons h _, e => by
    have e' := Option.some.inj (by simpa using e)
    subst e'
    exact ⟨_, rfl, h⟩
  | _, _, i + 1, d, .cons _ r, e => by
    obtain ⟨v, h1, h2⟩ := Rs.getV (i := i) (v := d) r (by simpa using e)
    exact ⟨v, by simpa using h1, h2⟩
theorem Rs.append : ∀ {vs ws : List V} {ds es : List Dat}, Rs mg H vs ds → Rs mg H ws es → Rs mg H (vs ++ ws) (ds ++ es)
  | _, _, _, _, .nil, s => s
  | _, _, _, _, .cons h r, s => .cons h (Rs.append r s)
theorem Rs.take : ∀ {vs : List V} {ds : List Dat} (n : Nat), Rs mg H vs ds → Rs mg H (vs.take n) (ds.take n)
  | _, _, 0, _ => .nil
  | _, _, _ + 1, .nil => .nil
  | _, _, n + 1, .cons h r => .cons h (Rs.take n r)
theorem Rs.drop : ∀ {vs : List V} {ds : List Dat} (n : Nat), Rs mg H vs ds → Rs mg H (vs.drop n) (ds.drop n)
  | _, _, 0, r => r
  | _, _, _ + 1, .nil => .nil
  | _, _, n + 1, .cons _ r => Rs.drop n r
theorem Rs.reverse : ∀ {vs : List V} {ds : List Dat}, Rs mg H vs ds → Rs mg H vs.reverse ds.reverse
  | _, _, .nil => .nil
  | _, _, .cons h r => by
    rw [List.reverse_cons, List.reverse_cons]
    exact Rs.append (Rs.reverse r) (.cons h .nil)
theorem Rs.ints : ∀ {vs : List V} {ns : List Int}, Rs mg H vs (ns.map Dat.int) → vs = ns.map V.int
  | [], [], _ => rfl
  | _ :: _, [], h => nomatch h
  | [], _ :: _, h => nomatch h
  | v :: vs, n :: ns, .cons h r => by
    cases h
    rw [Rs.ints r]
    rfl
theorem Rs.ofInts : ∀ (ns : List Int), Rs mg H (ns.map V.int) (ns.map Dat.int)
  | [] => .nil
  | n :: ns => .cons (.int n) (Rs.ofInts ns)
/-- a scalar's value -/
def vS : Dat → V
  | .bl b => .bl b
  | .int i => .int i
  | .str x => .str x
  | _ => .non
theorem R.isS {v : V} {d : Dat} (h : R mg H v d) (s : LS.scal d = true) : v = vS d := by
  cases h <;> first | rfl | cases s
theorem R.ofS {d : Dat} (s : LS.scal d = true) : R mg H (vS d) d := by
  cases d <;> first | exact .non | exact .bl _ | exact .int _ | exact .str _ | cases s
end

/-! ### owned trees -/
def hk (N G H : Hp) : Nat → Hp
  | 0 => N
  | 1 => G
  | _ => H
mutual
inductive Own (mg : Str → Option Value) (N G H : Hp) : V → T → List Addr → Prop
  | leaf {k : Nat} {v : V} {d : Dat} : R mg (hk N G H k) v d → Own mg N G H v (.leaf k d) []
  | lst {a : Addr} {vs : List V} {ts : List T} {fp : List Addr} : H a = some (.lst vs) → Owns mg N G H vs ts fp → Own mg N G H (.ref a) (.lst ts) (a :: fp)
  | tup {a : Addr} {vs : List V} {ts : List T} {fp : List Addr} : H a = some (.tup vs) → Owns mg N G H vs ts fp → Own mg N G H (.ref a) (.tup ts) (a :: fp)
  | ins {a C dx : Addr} {c : Str} {ns : List Str} {vs : List V} {ts : List T} {fp : List Addr} : mg c = some (.ref C) → H a = some (.ins C dx (ns.zip vs)) → ns.length = vs.length → Owns mg N G H vs ts fp →
      Own mg N G H (.ref a) (.ins c ns ts) (a :: fp)
  | dtt {a : Addr} {ps : List (List Int × Int)} : H a = some (.dT (kvt ps)) → Own mg N G H (.ref a) (.dtt ps) [a]
inductive Owns (mg : Str → Option Value) (N G H : Hp) : List V → List T → List Addr → Prop
  | nil : Owns mg N G H [] [] []
  | cons {v : V} {vs : List V} {t : T} {ts : List T} {f fs : List Addr} : Own mg N G H v t f → Owns mg N G H vs ts fs → Owns mg N G H (v :: vs) (t :: ts) (f ++ fs)
end
section
variable {mg : Str → Option Value} {N G H N' G' H' : Hp}
theorem hk_mono (a : Ex N N') (b : Ex G G') (c : Ex H H') : ∀ k, Ex (hk N G H k) (hk N' G' H' k)
  | 0 => a
  | 1 => b
  | _ + 2 => c
theorem hk_sub (a : Ex N G) (b : Ex G H) : ∀ k, Ex (hk N G H k) H
  | 0 => a.trans b
  | 1 => b
  | _ + 2 => Ex.refl H
theorem hk_up (a : Ex N G) (b : Ex G H) : ∀ {j k : Nat}, j ≤ k → Ex (hk N G H j) (hk N G H k)
  | 0, 0, _ => Ex.refl _
  | 0, 1, _ => a
  | 0, _ + 2, _ => a.trans b
  | 1, 0, h => absurd h (by omega)
  | 1, 1, _ => Ex.refl _
  | 1, _ + 2, _ => b
  | _ + 2, 0, h => absurd h (by omega)
  | _ + 2, 1, h => absurd h (by omega)
  | _ + 2, _ + 2, _ => Ex.refl _
mutual
theorem Own.mono (a : Ex N N') (b : Ex G G') (c : Ex H H') : ∀ {v : V} {t : T} {f : List Addr}, Own mg N G H v t f → Own mg N' G' H' v t f
  | _, _, _, .leaf (k := k) h => .leaf (h.mono (hk_mono a b c k))
  | _, _, _, .lst h r => .lst (c _ _ h).is (Owns.mono a b c r)
  | _, _, _, .tup h r => .tup (c _ _ h).is (Owns.mono a b c r)
  | _, _, _, .ins m h l r => .ins m (c _ _ h).is l (Owns.mono a b c r)
  | _, _, _, .dtt h => .dtt (c _ _ h).is
theorem Owns.mono (a : Ex N N') (b : Ex G G') (c : Ex H H') : ∀ {vs : List V} {ts : List T} {f : List Addr}, Owns mg N G H vs ts f → Owns mg N' G' H' vs ts f
  | _, _, _, .nil => .nil
  | _, _, _, .cons h r => .cons (Own.mono a b c h) (Owns.mono a b c r)
end
mutual
theorem Own.dom : ∀ {v : V} {t : T} {f : List Addr}, Own mg N G H v t f → ∀ p ∈ f, ∃ o, H p = some o
  | _, _, _, .leaf _ => fun p hp => nomatch hp
  | _, _, _, .lst h r => fun p hp => (List.mem_cons.mp hp).elim (fun e => by rw [e]; exact ⟨_, h⟩) (Owns.dom r p)
  | _, _, _, .tup h r => fun p hp => (List.mem_cons.mp hp).elim (fun e => by rw [e]; exact ⟨_, h⟩) (Owns.dom r p)
  | _, _, _, .ins _ h _ r => fun p hp => (List.mem_cons.mp hp).elim (fun e => by rw [e]; exact ⟨_, h⟩) (Owns.dom r p)
  | _, _, _, .dtt h => fun p hp => by
    rw [List.mem_singleton.mp hp]
    exact ⟨_, h⟩
theorem Owns.dom : ∀ {vs : List V} {ts : List T} {f : List Addr}, Owns mg N G H vs ts f → ∀ p ∈ f, ∃ o, H p = some o
  | _, _, _, .nil => fun p hp => nomatch hp
  | _, _, _, .cons h r => fun p hp => (List.mem_append.mp hp).elim (Own.dom h p) (Owns.dom r p)
end
mutual
theorem Own.to {X : Hp} : ∀ {v : V} {t : T} {f : List Addr}, Own mg N G H v t f → (∀ j, j ≤ kdT t → Ex (hk N G H j) X) → (∀ p ∈ f, ∀ o, H p = some o → X p = some o) → R mg X v (datT t)
  | _, _, _, .leaf (k := k) h, hl, hp => h.mono (hl k (by simp [kdT]))
  | _, _, _, .lst h r, hl, hp => .lst (hp _ List.mem_cons_self _ h) (Owns.to r (fun j hj => hl j (by simpa [kdT] using hj)) fun p m => hp p (List.mem_cons_of_mem _ m))
  | _, _, _, .tup h r, hl, hp => .tup (hp _ List.mem_cons_self _ h) (Owns.to r (fun j hj => hl j (by simpa [kdT] using hj)) fun p m => hp p (List.mem_cons_of_mem _ m))
  | _, _, _, .ins m h l r, hl, hp => .ins m (hp _ List.mem_cons_self _ h) l (Owns.to r (fun j hj => hl j (by simpa [kdT] using hj)) fun p m => hp p (List.mem_cons_of_mem _ m))
  | _, _, _, .dtt h, hl, hp => .dtt (hp _ List.mem_cons_self _ h)
theorem Owns.to {X : Hp} : ∀ {vs : List V} {ts : List T} {f : List Addr}, Owns mg N G H vs ts f → (∀ j, j ≤ kdTs ts → Ex (hk N G H j) X) → (∀ p ∈ f, ∀ o, H p = some o → X p = some o) → Rs mg X vs (datTs ts)
  | _, _, _, .nil, _, _ => .nil
  | _, _, _, .cons h r, hl, hp => .cons (Own.to h (fun j hj => hl j (by simp only [kdTs]; omega)) fun p m => hp p (List.mem_append_left _ m)) (Owns.to r (fun j hj => hl j (by simp only [kdTs]; omega)) fun p m => hp p (List.mem_append_right _ m))
end
theorem Own.now (a : Ex N G) (b : Ex G H) {v : V} {t : T} {f : List Addr} (h : Own mg N G H v t f) : R mg H v (datT t) := h.to (fun j _ => hk_sub a b j) fun _ _ _ q => q
theorem Owns.now (a : Ex N G) (b : Ex G H) {vs : List V} {ts : List T} {f : List Addr} (h : Owns mg N G H vs ts f) : Rs mg H vs (datTs ts) := h.to (fun j _ => hk_sub a b j) fun _ _ _ q => q
mutual
theorem Own.off {p : Addr} {o : HO} : ∀ {v : V} {t : T} {f : List Addr}, Own mg N G H v t f → p ∉ f → kdT t ≤ 1 → Own mg N G (upd H p o) v t f
  | _, _, _, .leaf (k := 0) h, _, _ => .leaf h
  | _, _, _, .leaf (k := 1) h, _, _ => .leaf h
  | _, _, _, .leaf (k := k + 2) h, _, hk => absurd hk (by simp only [kdT]; omega)
  | _, _, _, .lst h r, hp, hk => .lst (by rw [upd_ne fun e => hp (by rw [← e]; exact List.mem_cons_self)]; exact h) (Owns.off r (fun m => hp (List.mem_cons_of_mem _ m)) (by simpa [kdT] using hk))
  | _, _, _, .tup h r, hp, hk => .tup (by rw [upd_ne fun e => hp (by rw [← e]; exact List.mem_cons_self)]; exact h) (Owns.off r (fun m => hp (List.mem_cons_of_mem _ m)) (by simpa [kdT] using hk))
  | _, _, _, .ins m h l r, hp, hk => .ins m (by rw [upd_ne fun e => hp (by rw [← e]; exact List.mem_cons_self)]; exact h) l (Owns.off r (fun m => hp (List.mem_cons_of_mem _ m)) (by simpa [kdT] using hk))
  | _, _, _, .dtt h, hp, hk => .dtt (by rw [upd_ne fun e => hp (by rw [← e]; exact List.mem_cons_self)]; exact h)
theorem Owns.off {p : Addr} {o : HO} : ∀ {vs : List V} {ts : List T} {f : List Addr}, Owns mg N G H vs ts f → p ∉ f → kdTs ts ≤ 1 → Owns mg N G (upd H p o) vs ts f
  | _, _, _, .nil, _, _ => .nil
  | _, _, _, .cons h r, hp, hk => .cons (Own.off h (fun m => hp (List.mem_append_left _ m)) (by simp only [kdTs] at hk; omega)) (Owns.off r (fun m => hp (List.mem_append_right _ m)) (by simp only [kdTs] at hk; omega))
end
theorem Owns.length : ∀ {vs : List V} {ts : List T} {f : List Addr}, Owns mg N G H vs ts f → vs.length = ts.length
  | _, _, _, .nil => rfl
  | _, _, _, .cons _ r => congrArg (· + 1) (Owns.length r)
theorem kd_mk (k : Nat) (d : Dat) : kdT (mk k d) ≤ k := by
  unfold mk
  split <;> simp [kdT]
theorem dat_mk (k : Nat) (d : Dat) : datT (mk k d) = d := rfl
theorem dats_mk (k : Nat) : ∀ ds : List Dat, datTs (ds.map (mk k)) = ds
  | [] => rfl
  | d :: ds => congrArg (d :: ·) (dats_mk k ds)
theorem kds_mk (k : Nat) : ∀ ds : List Dat, kdTs (ds.map (mk k)) ≤ k
  | [] => Nat.zero_le _
  | d :: ds => by
    show max (kdT (mk k d)) (kdTs (ds.map (mk k))) ≤ k
    have h1 := kd_mk k d
    have h2 := kds_mk k ds
    omega
/-- shared data as a leaf -/
theorem own_mk {k : Nat} {v : V} {d : Dat} (h : R mg (hk N G H k) v d) : Own mg N G H v (mk k d) [] := by
  unfold mk
  by_cases s : LS.scal d = true
  · rw [if_pos s]
    rw [h.isS s]
    exact .leaf (R.ofS s)
  · rw [if_neg s]
    exact .leaf h
theorem owns_mk {k : Nat} : ∀ {vs : List V} {ds : List Dat}, Rs mg (hk N G H k) vs ds → Owns mg N G H vs (ds.map (mk k)) []
  | _, _, .nil => .nil
  | _, _, .cons h r => .cons (own_mk h) (owns_mk r)
end

/-! ### the state -/
/-- what is in G beyond H -/
def nw (H G : Hp) : Hp := fun p => if (H p).isSome = true then none else G p
theorem nw_sub {H G : Hp} : Ex (nw H G) G := Ex.of fun p o h => by
  unfold nw at h
  split at h
  · cases h
  · exact h
theorem nw_mono {H G G' : Hp} (e : Ex G G') : Ex (nw H G) (nw H G') := fun p o h => by
  unfold nw at h ⊢
  split at h
  · cases h
  · rename_i q
    rw [if_neg q]
    exact e p o h
theorem nw_some {H G : Hp} {p : Addr} {o : HO} (h : H p = none) (g : G p = some o) : nw H G p = some o := by
  unfold nw
  rw [h]
  exact g
inductive Sl (mg : Str → Option Value) (N G H : Hp) : L2.St → Env → List Addr → Prop
  | n0 : Sl mg N G H [] [] []
  | no {x : Option V} {σ : L2.St} {e : Env} {fp : List Addr} : Sl mg N G H σ e fp → Sl mg N G H (x :: σ) (none :: e) fp
  | so {v : V} {t : T} {σ : L2.St} {e : Env} {f fp : List Addr} : Own mg N G H v t f → kdT t ≤ 1 → Sl mg N G H σ e fp → Sl mg N G H (some v :: σ) (some t :: e) (f ++ fp)
/-- the tables of code objects that a law keeps -/
def TBT [TabI] (H0 H : Hp) : Prop := TB H0 H ∧ LamX.Tabs TabI.ts H
theorem TBT.trans [TabI] {A B C : Hp} (f : TBT A B) (g : TB B C) : TBT A C := ⟨f.1.trans g, fun p m => g p m (f.2 p m)⟩
variable [TabI]
structure Stt (mg : Str → Option Value) (H0 G H : Hp) (σ : L2.St) (e : Env) (fp : List Addr) : Prop where
  tb : TBT H0 H
  h0 : Ex H0 G
  gh : Ex G H
  sl : Sl mg (nw H0 G) G H σ e fp
  nd : fp.Nodup
  out : ∀ p ∈ fp, G p = none
structure Grow (G H G' H' : Hp) : Prop where
  tb : TB H H'
  hh : Ex H H'
  gg : Ex G G'
  gh : Ex G' H'
  fr : ∀ p o, G' p = some o → G p = none → H p = none
theorem Grow.refl {G H : Hp} (e : Ex G H) : Grow G H G H := ⟨TB.refl _, Ex.refl _, Ex.refl _, e, fun p o h n => by rw [h] at n; cases n⟩
theorem Grow.trans {G H G1 H1 G2 H2 : Hp} (a : Grow G H G1 H1) (b : Grow G1 H1 G2 H2) : Grow G H G2 H2 := ⟨a.tb.trans b.tb, a.hh.trans b.hh, a.gg.trans b.gg, b.gh, fun p o h n => by
  cases e : G1 p with
  | none => exact none_back a.hh (b.fr p o h e)
  | some u => exact a.fr p u e n⟩
/-- p stays out of the shared part -/
theorem Grow.keep {G H G' H' : Hp} (g : Grow G H G' H') {p : Addr} {o : HO} (h : H p = some o) (n : G p = none) : G' p = none := by
  cases e : G' p with
  | none => rfl
  | some u =>
    rw [g.fr p u e n] at h
    cases h
section
variable {mg : Str → Option Value} {H0 N G H N' G' H' : Hp} {σ : L2.St} {e : Env} {fp : List Addr}
theorem Sl.mono (a : Ex N N') (b : Ex G G') (c : Ex H H') : ∀ {σ : L2.St} {e : Env} {fp : List Addr}, Sl mg N G H σ e fp → Sl mg N' G' H' σ e fp
  | _, _, _, .n0 => .n0
  | _, _, _, .no r => .no (Sl.mono a b c r)
  | _, _, _, .so h k r => .so (h.mono a b c) k (Sl.mono a b c r)
theorem Sl.dom : ∀ {σ : L2.St} {e : Env} {fp : List Addr}, Sl mg N G H σ e fp → ∀ p ∈ fp, ∃ o, H p = some o
  | _, _, _, .n0 => fun p hp => nomatch hp
  | _, _, _, .no r => Sl.dom r
  | _, _, _, .so h _ r => fun p hp => (List.mem_append.mp hp).elim (h.dom p) (Sl.dom r p)
theorem Sl.len : ∀ {σ : L2.St} {e : Env} {fp : List Addr}, Sl mg N G H σ e fp → σ.length = e.length
  | _, _, _, .n0 => rfl
  | _, _, _, .no r => congrArg (· + 1) (Sl.len r)
  | _, _, _, .so _ _ r => congrArg (· + 1) (Sl.len r)
theorem Sl.get : ∀ {σ : L2.St} {e : Env} {fp : List Addr} {i : Nat} {t : T}, Sl mg N G H σ e fp → e[i]? = some (some t) → ∃ v f, σ[i]? = some (some v) ∧ Own mg N G H v t f ∧ kdT t ≤ 1 ∧ (∀ p ∈ f, p ∈ fp) ∧ (fp.Nodup → f.Nodup)
  | _, _, _, i, t, .n0, h => by simp at h
  | _, _, _, 0, t, .no r, h => by simp at h
  | _, _, _, i + 1, t, .no r, h => by
    obtain ⟨v, f, h1, h2⟩ := Sl.get (i := i) (t := t) r (by simpa using h)
    exact ⟨v, f, by simpa using h1, h2⟩
  | _, _, _, 0, t, .so o k r, h => by
    have q : some _ = some t := Option.some.inj h
    cases q
    exact ⟨_, _, rfl, o, k, fun p hp => List.mem_append_left _ hp, fun n => (List.nodup_append.mp n).1⟩
  | _, _, _, i + 1, t, .so o k r, h => by
    obtain ⟨v, f, h1, h2, h3, h4, h5⟩ := Sl.get (i := i) (t := t) r (by simpa using h)
    exact ⟨v, f, by simpa using h1, h2, h3, fun p hp => List.mem_append_right _ (h4 p hp), fun n => h5 (List.nodup_append.mp n).2.1⟩
/-- a slot is stored -/
theorem Sl.set : ∀ {σ : L2.St} {e : Env} {fp : List Addr} {i : Nat} {v : V} {t : T} {f : List Addr}, Sl mg N G H σ e fp → Own mg N G H v t f → kdT t ≤ 1 → i < e.length → (∀ p ∈ fp, p ∉ f) → fp.Nodup → f.Nodup →
    ∃ fp', Sl mg N G H (σ.set i (some v)) (e.set i (some t)) fp' ∧ fp'.Nodup ∧ ∀ p ∈ fp', p ∈ fp ∨ p ∈ f
  | _, _, _, i, v, t, f, .n0, _, _, h, _, _, _ => by simp at h
  | _, _, _, 0, v, t, f, .no (fp := fp) r, o, k, _, hd, h1, h2 => ⟨f ++ fp, .so o k r, List.nodup_append.mpr ⟨h2, h1, fun a ha b hb e => hd b hb (e ▸ ha)⟩, fun p hp => (List.mem_append.mp hp).symm⟩
  | _, _, _, 0, v, t, f, .so (f := g) (fp := fp) q _ r, o, k, _, hd, h1, h2 => by
    have h1' := List.nodup_append.mp h1
    refine ⟨f ++ fp, .so o k r, List.nodup_append.mpr ⟨h2, h1'.2.1, fun a ha b hb e => hd b (List.mem_append_right _ hb) (e ▸ ha)⟩, fun p hp => ?_⟩
    rcases List.mem_append.mp hp with z | z
    · exact .inr z
    · exact .inl (List.mem_append_right _ z)
  | _, _, _, i + 1, v, t, f, .no r, o, k, hi, hd, h1, h2 => by
    obtain ⟨fp', a, b, c⟩ := Sl.set (i := i) r o k (by simpa using hi) hd h1 h2
    exact ⟨fp', .no a, b, c⟩
  | _, _, _, i + 1, v, t, f, .so (f := g) (fp := fp) q kq r, o, k, hi, hd, h1, h2 => by
    have h1' := List.nodup_append.mp h1
    obtain ⟨fp', a, b, c⟩ := Sl.set (i := i) r o k (by simpa using hi) (fun p hp => hd p (List.mem_append_right _ hp)) h1'.2.1 h2
    refine ⟨g ++ fp', .so q kq a, List.nodup_append.mpr ⟨h1'.1, b, fun x hx y hy e => ?_⟩, fun p hp => ?_⟩
    · rcases c y hy with z | z
      · exact h1'.2.2 x hx y z e
      · exact hd x (List.mem_append_left _ hx) (e ▸ z)
    · rcases List.mem_append.mp hp with z | z
      · exact .inl (List.mem_append_left _ z)
      · rcases c p z with w | w
        · exact .inl (List.mem_append_right _ w)
        · exact .inr w
/-- a slot is forgotten -/
theorem Sl.forget : ∀ {σ : L2.St} {e : Env} {fp : List Addr} (i : Nat) (x : Option V), Sl mg N G H σ e fp → ∃ fp', Sl mg N G H (σ.set i x) (e.set i none) fp' ∧ (fp.Nodup → fp'.Nodup) ∧ ∀ p ∈ fp', p ∈ fp
  | _, _, _, i, x, .n0 => ⟨[], by simpa using Sl.n0, id, fun _ h => h⟩
  | _, _, _, 0, x, .no r => ⟨_, .no r, id, fun _ h => h⟩
  | _, _, _, 0, x, .so q k r => ⟨_, .no r, fun n => (List.nodup_append.mp n).2.1, fun p h => List.mem_append_right _ h⟩
  | _, _, _, i + 1, x, .no r => by
    obtain ⟨fp', a, b, c⟩ := Sl.forget i x r
    exact ⟨fp', .no a, b, c⟩
  | _, _, _, i + 1, x, .so (f := g) q k r => by
    obtain ⟨fp', a, b, c⟩ := Sl.forget i x r
    refine ⟨g ++ fp', .so q k a, fun n => ?_, fun p hp => ?_⟩
    · have n' := List.nodup_append.mp n
      exact List.nodup_append.mpr ⟨n'.1, b n'.2.1, fun x hx y hy e => n'.2.2 x hx y (c y hy) e⟩
    · exact (List.mem_append.mp hp).elim (fun z => List.mem_append_left _ z) fun z => List.mem_append_right _ (c p z)
theorem Sl.off {p : Addr} {o : HO} : ∀ {σ : L2.St} {e : Env} {fp : List Addr}, Sl mg N G H σ e fp → p ∉ fp → Sl mg N G (upd H p o) σ e fp
  | _, _, _, .n0, _ => .n0
  | _, _, _, .no r, h => .no (Sl.off r h)
  | _, _, _, .so q k r, h => .so (q.off (fun m => h (List.mem_append_left _ m)) k) k (Sl.off r fun m => h (List.mem_append_right _ m))
/-- an object within slot i is written -/
theorem Sl.mut {p : Addr} {o : HO} : ∀ {σ : L2.St} {e : Env} {fp : List Addr} {i : Nat} {t t' : T}, Sl mg N G H σ e fp → fp.Nodup → e[i]? = some (some t) → kdT t' ≤ 1 →
    (∀ v f, σ[i]? = some (some v) → Own mg N G H v t f → f.Nodup → p ∈ f ∧ Own mg N G (upd H p o) v t' f) → Sl mg N G (upd H p o) σ (e.set i (some t')) fp
  | _, _, _, i, t, t', .n0, _, h, _, _ => by simp at h
  | _, _, _, 0, t, t', .no r, _, h, _, _ => by simp at h
  | _, _, _, i + 1, t, t', .no r, nd, h, hk, hq => .no (Sl.mut (i := i) (t := t) r nd (by simpa using h) hk (by simpa using hq))
  | _, _, _, 0, t, t', .so (f := f) q k r, nd, h, hk, hq => by
    have z : some _ = some t := Option.some.inj h
    cases z
    have nd' := List.nodup_append.mp nd
    obtain ⟨a, b⟩ := hq _ f rfl q nd'.1
    exact .so b hk (r.off fun m => nd'.2.2 p a p m rfl)
  | _, _, _, i + 1, t, t', .so (f := f) q k r, nd, h, hk, hq => by
    have nd' := List.nodup_append.mp nd
    obtain ⟨v, g, e1, o1, _, sub, gn⟩ := r.get (i := i) (t := t) (by simpa using h)
    obtain ⟨a, _⟩ := hq v g (by simpa using e1) o1 (gn nd'.2.1)
    exact .so (q.off (fun m => nd'.2.2 p m p (sub p a) rfl) k) k (Sl.mut (i := i) (t := t) r nd'.2.1 (by simpa using h) hk (fun v f e => hq v f (by simpa using e)))
end
end LS

/-! LC: the judgements: a term of rules (TE, TS ..) does what a combinator of LA says. -/
namespace LS
open PySem PySem.Spec
open PyProof.Rows L2
variable [TabI]

def Frs (f : List Addr) (G' H : Hp) : Prop := f.Nodup ∧ ∀ p ∈ f, H p = none ∧ G' p = none
theorem Frs.nil {G H : Hp} : Frs [] G H := ⟨List.nodup_nil, fun _ h => nomatch h⟩
def Er (mg : Str → Option Value) (E : XK) (G H : Hp) (c : Str) : Prop := ∀ C G' H', mg c = some (.ref C) → Grow G H G' H' → E (.ref C) none H'
def Pe (mg : Str → Option Value) (E : XK) (H0 G H : Hp) (Q : VK) : Re T → Prop
  | .no => False
  | .er c => Er mg E G H c
  | .ok t => ∀ v G' H' f, Grow G H G' H' → Own mg (nw H0 G') G' H' v t f → Frs f G' H → Q v H'
def Pa (mg : Str → Option Value) (E : XK) (H0 G H : Hp) (Q : List V → Hp → Prop) : Re (List T) → Prop
  | .no => False
  | .er c => Er mg E G H c
  | .ok ts => ∀ vs G' H' f, Grow G H G' H' → Owns mg (nw H0 G') G' H' vs ts f → Frs f G' H → Q vs H'
def Pt (mg : Str → Option Value) (E : XK) (G H : Hp) (Q : Bool → Hp → Prop) : Re Bool → Prop
  | .no => False
  | .er c => Er mg E G H c
  | .ok b => ∀ G' H', Grow G H G' H' → Q b H'
theorem Er.grow {mg : Str → Option Value} {E : XK} {G H G' H' : Hp} {c : Str} (h : Er mg E G H c) (g : Grow G H G' H') : Er mg E G' H' c := fun C G2 H2 m g2 => h C G2 H2 m (g.trans g2)
def SE (mg : Str → Option Value) (E : XK) (te : TE) (fe : FE) : Prop := ∀ H0 G H σ e fp Q, Stt mg H0 G H σ e fp → Pe mg E H0 G H Q (fe e) → te σ H Q
def SA (mg : Str → Option Value) (E : XK) (ta : TA) (fa : FA) : Prop := ∀ H0 G H σ e fp Q, Stt mg H0 G H σ e fp → Pa mg E H0 G H Q (fa e) → ta σ H Q
def ST (mg : Str → Option Value) (E : XK) (tt : TT) (ft : FT) : Prop := ∀ H0 G H σ e fp Q, Stt mg H0 G H σ e fp → Pt mg E G H Q (ft e) → tt σ H Q
section
variable {mg : Str → Option Value} {E : XK} {H0 G H G' H' : Hp} {σ : L2.St} {e : Env} {fp : List Addr}
theorem Stt.grow (st : Stt mg H0 G H σ e fp) (g : Grow G H G' H') : Stt mg H0 G' H' σ e fp :=
  ⟨st.tb.trans g.tb, st.h0.trans g.gg, g.gh, st.sl.mono (nw_mono g.gg) g.gg g.hh, st.nd, fun p hp => let ⟨_, h⟩ := st.sl.dom p hp; g.keep h (st.out p hp)⟩
theorem Own.grow {v : V} {t : T} {f : List Addr} (o : Own mg (nw H0 G) G H v t f) (g : Grow G H G' H') : Own mg (nw H0 G') G' H' v t f := o.mono (nw_mono g.gg) g.gg g.hh
theorem Owns.grow {v : List V} {t : List T} {f : List Addr} (o : Owns mg (nw H0 G) G H v t f) (g : Grow G H G' H') : Owns mg (nw H0 G') G' H' v t f := o.mono (nw_mono g.gg) g.gg g.hh
/-- two fresh parts, one after the other -/
theorem Frs.add {G1 H1 G2 H2 : Hp} {f1 f2 : List Addr} (a : Frs f1 G1 H) (d : ∀ p ∈ f1, ∃ o, H1 p = some o) (g : Grow G H G1 H1) (g2 : Grow G1 H1 G2 H2) (b : Frs f2 G2 H1) : Frs (f1 ++ f2) G2 H :=
  ⟨List.nodup_append.mpr ⟨a.1, b.1, fun x hx y hy e => by
      subst e
      obtain ⟨o, ho⟩ := d x hx
      rw [(b.2 x hy).1] at ho
      cases ho⟩, fun p hp => (List.mem_append.mp hp).elim (fun h => ⟨(a.2 p h).1, let ⟨_, ho⟩ := d p h; g2.keep ho (a.2 p h).2⟩) fun h => ⟨none_back g.hh (b.2 p h).1, (b.2 p h).2⟩⟩

/-! ### names, constants, arguments -/
theorem own_shr (a : Ex (nw H0 G) G) (b : Ex G H) {v : V} {t : T} {f : List Addr} (o : Own mg (nw H0 G) G H v t f) : Own mg (nw H0 G) G H v (shr t) [] := by
  have n := o.now a b
  cases o with
  | leaf h => exact .leaf h
  | lst h r => exact .leaf (k := 2) n
  | tup h r => exact .leaf (k := 2) n
  | ins m h l r => exact .leaf (k := 2) n
  | dtt h => exact .leaf (k := 2) n
theorem se_var (i : Nat) : SE mg E (tVar i) (fVar i) := by
  intro H0 G H σ e fp Q st h
  unfold fVar at h
  cases q : e[i]? with
  | none =>
    rw [q] at h
    exact h.elim
  | some x =>
    cases x with
    | none =>
      rw [q] at h
      exact h.elim
    | some t =>
      rw [q] at h
      obtain ⟨v, f, e1, o, _⟩ := st.sl.get q
      exact ⟨v, e1, h v G H [] (Grow.refl st.gh) (own_shr nw_sub st.gh o) Frs.nil⟩
theorem se_c {v : V} {d : Dat} (s : scal d = true) (ev : v = vS d) : SE mg E (tC v) (fC d) := by
  intro H0 G H σ e fp Q st h
  exact h v G H [] (Grow.refl st.gh) (.leaf (by rw [ev]; exact R.ofS s)) Frs.nil
theorem sa_nil : SA mg E tNil fA0 := fun H0 G H σ e fp Q st h => h [] G H [] (Grow.refl st.gh) .nil Frs.nil
theorem sa_cons {ta : TE} {fa : FE} {tr : TA} {fr : FA} (ha : SE mg E ta fa) (hr : SA mg E tr fr) : SA mg E (tCons ta tr) (fA1 fa fr) := by
  intro H0 G H σ e fp Q st h
  refine ha H0 G H σ e fp _ st ?_
  unfold fA1 at h
  cases q : fa e with
  | no =>
    rw [q] at h
    exact h.elim
  | er c =>
    rw [q] at h
    exact h
  | ok t =>
    rw [q] at h
    intro v G1 H1 f1 g1 o1 r1
    refine hr H0 G1 H1 σ e fp _ (st.grow g1) ?_
    have h' : Pa mg E H0 G H Q ((fr e).bind fun ts => .ok (t :: ts)) := h
    cases q2 : fr e with
    | no =>
      rw [q2] at h'
      exact h'.elim
    | er c =>
      rw [q2] at h'
      exact Er.grow h' g1
    | ok ts =>
      rw [q2] at h'
      intro vs G2 H2 f2 g2 o2 r2
      exact h' (v :: vs) G2 H2 (f1 ++ f2) (g1.trans g2) (.cons (o1.grow g2) o2) (r1.add o1.dom g1 g2 r2)
/-- two in a row -/
theorem ev2 {ta tb : TE} {fa fb : FE} {K : V → V → Hp → Prop} (ha : SE mg E ta fa) (hb : SE mg E tb fb) (st : Stt mg H0 G H σ e fp)
    (h : Pa mg E H0 G H (fun vs H' => ∀ x y, vs = [x, y] → K x y H') (fA1 fa (fA1 fb fA0) e)) : ta σ H fun x H1 => tb σ H1 fun y H2 => K x y H2 := by
  refine ha H0 G H σ e fp _ st ?_
  unfold fA1 at h
  cases q : fa e with
  | no =>
    rw [q] at h
    exact h.elim
  | er c =>
    rw [q] at h
    exact h
  | ok t =>
    rw [q] at h
    intro v G1 H1 f1 g1 o1 r1
    refine hb H0 G1 H1 σ e fp _ (st.grow g1) ?_
    have h' : Pa mg E H0 G H _ (((fb e).bind fun u => .ok [u]).bind fun ts => .ok (t :: ts)) := h
    cases q2 : fb e with
    | no =>
      rw [q2] at h'
      exact h'.elim
    | er c =>
      rw [q2] at h'
      exact Er.grow h' g1
    | ok u =>
      rw [q2] at h'
      intro w G2 H2 f2 g2 o2 r2
      refine h' [v, w] G2 H2 (f1 ++ (f2 ++ [])) (g1.trans g2) (.cons (o1.grow g2) (.cons o2 .nil)) ?_ v w rfl
      rw [List.append_nil]
      exact r1.add o1.dom g1 g2 r2
theorem ev1 {ta : TE} {fa : FE} {K : V → Hp → Prop} (ha : SE mg E ta fa) (st : Stt mg H0 G H σ e fp)
    (h : Pa mg E H0 G H (fun vs H' => ∀ x, vs = [x] → K x H') (fA1 fa fA0 e)) : ta σ H K := by
  refine ha H0 G H σ e fp _ st ?_
  unfold fA1 at h
  cases q : fa e with
  | no =>
    rw [q] at h
    exact h.elim
  | er c =>
    rw [q] at h
    exact h
  | ok t =>
    rw [q] at h
    intro v G1 H1 f1 g1 o1 r1
    refine h [v] G1 H1 (f1 ++ []) g1 (.cons o1 .nil) ?_ v rfl
    rw [List.append_nil]
    exact r1

/-! ### operations -/
/-- what was made on the way is shared -/
theorem frzG {f : List Addr} (h0 : Ex H0 G) (gh : Ex G H) (g : Grow G H G' H') (r : Frs f G' H) : ∃ G2, Grow G H G2 H' ∧ Ex G' G2 ∧ (∀ p ∈ f, G2 p = H' p) ∧ ∀ p ∈ f, nw H0 G2 p = H' p := by
  have e2 : Ex G' (fun p => if p ∈ f then H' p else G' p) := Ex.of fun p o h => by
    by_cases m : p ∈ f
    · rw [(r.2 p m).2] at h
      cases h
    · show (if p ∈ f then H' p else G' p) = some o
      rw [if_neg m]
      exact h
  have e3 : Ex (fun p => if p ∈ f then H' p else G' p) H' := fun p o h => by
    by_cases m : p ∈ f
    · have h' : (if p ∈ f then H' p else G' p) = some o := h
      rw [if_pos m] at h'
      exact .inl h'
    · have h' : (if p ∈ f then H' p else G' p) = some o := h
      rw [if_neg m] at h'
      exact g.gh p o h'
  refine ⟨fun p => if p ∈ f then H' p else G' p, ⟨g.tb, g.hh, g.gg.trans e2, e3, fun p o h n => ?_⟩, e2, fun p m => if_pos m, fun p m => ?_⟩
  · by_cases m : p ∈ f
    · exact (r.2 p m).1
    · have h' : (if p ∈ f then H' p else G' p) = some o := h
      rw [if_neg m] at h'
      exact g.fr p o h' n
  · unfold nw
    rw [none_back (h0.trans gh) (r.2 p m).1]
    exact if_pos m
theorem frz_hk {G2 : Hp} {f : List Addr} (e : Ex G' G2) (g2 : Ex G2 H') (a : ∀ p ∈ f, G2 p = H' p) (b : ∀ p ∈ f, nw H0 G2 p = H' p) (k : Nat) :
    (∀ j, j ≤ k → Ex (hk (nw H0 G') G' H' j) (hk (nw H0 G2) G2 H' k)) ∧ ∀ p ∈ f, ∀ o, H' p = some o → hk (nw H0 G2) G2 H' k p = some o :=
  ⟨fun j hj => (hk_mono (nw_mono e) e (Ex.refl H') j).trans (hk_up nw_sub g2 hj), fun p m o h => by
    match k with
    | 0 => exact (b p m).trans h
    | 1 => exact (a p m).trans h
    | _ + 2 => exact h⟩
theorem frzs {vs : List V} {ts : List T} {f : List Addr} (h0 : Ex H0 G) (gh : Ex G H) (g : Grow G H G' H') (o : Owns mg (nw H0 G') G' H' vs ts f) (r : Frs f G' H) :
    ∃ G2, Grow G H G2 H' ∧ Rs mg (hk (nw H0 G2) G2 H' (kdTs ts)) vs (datTs ts) := by
  obtain ⟨G2, g2, e, a, b⟩ := frzG h0 gh g r
  obtain ⟨h1, h2⟩ := frz_hk e g2.gh a b (kdTs ts)
  exact ⟨G2, g2, o.to h1 h2⟩
def RI (mg : Str → Option Value) (r : List V → Hp → VK → Prop) (op : List Dat → Option Dat) : Prop := ∀ X H vs ds d, Ex X H → Rs mg X vs ds → op ds = some d → ∃ v, R mg X v d ∧ ∀ Q : VK, Q v H → r vs H Q
def RL (mg : Str → Option Value) (r : List V → Hp → VK → Prop) (op : List Dat → Option (List Dat)) : Prop := ∀ X H vs ds ds', Ex X H → Rs mg X vs ds → op ds = some ds' →
  ∃ ws, Rs mg X ws ds' ∧ ∀ Q : VK, (∀ p, H p = none → Q (.ref p) (upd H p (.lst ws))) → r vs H Q
def RU (mg : Str → Option Value) (r : List V → Hp → VK → Prop) (op : List Dat → Option (List Dat)) : Prop := ∀ X H vs ds ds', Ex X H → Rs mg X vs ds → op ds = some ds' →
  ∃ ws, Rs mg X ws ds' ∧ ∀ Q : VK, (∀ p, H p = none → Q (.ref p) (upd H p (.tup ws))) → r vs H Q
theorem pa_I {r : List V → Hp → VK → Prop} {op : List Dat → Option Dat} {fa : FA} {Q : VK} (hr : RI mg r op) (st : Stt mg H0 G H σ e fp) (h : Pe mg E H0 G H Q (fI op fa e)) : Pa mg E H0 G H (fun vs H1 => r vs H1 Q) (fa e) := by
  unfold fI at h
  cases q : fa e with
  | no =>
    rw [q] at h
    exact h.elim
  | er c =>
    rw [q] at h
    exact h
  | ok ts =>
    rw [q] at h
    intro vs G1 H1 f g o fr
    have h' : Pe mg E H0 G H Q (match op (datTs ts) with | some d => .ok (mk (kdTs ts) d) | none => .no) := h
    cases q2 : op (datTs ts) with
    | none =>
      rw [q2] at h'
      exact h'.elim
    | some d =>
      rw [q2] at h'
      obtain ⟨G2, g2, rs⟩ := frzs st.h0 st.gh g o fr
      obtain ⟨v, rv, hv⟩ := hr _ H1 vs _ d (hk_sub nw_sub g2.gh _) rs q2
      exact hv Q (h' v G2 H1 [] g2 (own_mk rv) Frs.nil)
theorem Grow.upd {G H G' H' : Hp} (g : Grow G H G' H') {p : Addr} {o : HO} (h : H' p = none) : Grow G H G' (upd H' p o) := ⟨g.tb.trans (TB.new h), g.hh.trans (Ex.new h), g.gg, g.gh.trans (Ex.new h), g.fr⟩
theorem frs_one {p : Addr} (g : Grow G H G' H') (h : H' p = none) : Frs [p] G' H := ⟨List.nodup_cons.mpr ⟨fun m => (nomatch m), List.nodup_nil⟩, fun q hq => by
  have e : q = p := by simpa using hq
  rw [e]
  exact ⟨none_back g.hh h, none_back g.gh h⟩⟩
theorem pa_L {r : List V → Hp → VK → Prop} {op : List Dat → Option (List Dat)} {fa : FA} {Q : VK} (hr : RL mg r op) (st : Stt mg H0 G H σ e fp) (h : Pe mg E H0 G H Q (fL op fa e)) : Pa mg E H0 G H (fun vs H1 => r vs H1 Q) (fa e) := by
  unfold fL at h
  cases q : fa e with
  | no =>
    rw [q] at h
    exact h.elim
  | er c =>
    rw [q] at h
    exact h
  | ok ts =>
    rw [q] at h
    intro vs G1 H1 f g o fr
    have h' : Pe mg E H0 G H Q (match op (datTs ts) with | some ds => .ok (.lst (ds.map (mk (kdTs ts)))) | none => .no) := h
    cases q2 : op (datTs ts) with
    | none =>
      rw [q2] at h'
      exact h'.elim
    | some d =>
      rw [q2] at h'
      obtain ⟨G2, g2, rs⟩ := frzs st.h0 st.gh g o fr
      obtain ⟨ws, rw', hv⟩ := hr _ H1 vs _ d (hk_sub nw_sub g2.gh _) rs q2
      refine hv Q fun p hp => h' (.ref p) G2 _ (p :: []) (g2.upd hp) (.lst upd_same (owns_mk (rw'.mono (hk_mono (Ex.refl _) (Ex.refl _) (Ex.new hp) _)))) (frs_one g2 hp)
theorem pa_U {r : List V → Hp → VK → Prop} {op : List Dat → Option (List Dat)} {fa : FA} {Q : VK} (hr : RU mg r op) (st : Stt mg H0 G H σ e fp) (h : Pe mg E H0 G H Q (fU op fa e)) : Pa mg E H0 G H (fun vs H1 => r vs H1 Q) (fa e) := by
  unfold fU at h
  cases q : fa e with
  | no =>
    rw [q] at h
    exact h.elim
  | er c =>
    rw [q] at h
    exact h
  | ok ts =>
    rw [q] at h
    intro vs G1 H1 f g o fr
    have h' : Pe mg E H0 G H Q (match op (datTs ts) with | some ds => .ok (.tup (ds.map (mk (kdTs ts)))) | none => .no) := h
    cases q2 : op (datTs ts) with
    | none =>
      rw [q2] at h'
      exact h'.elim
    | some d =>
      rw [q2] at h'
      obtain ⟨G2, g2, rs⟩ := frzs st.h0 st.gh g o fr
      obtain ⟨ws, rw', hv⟩ := hr _ H1 vs _ d (hk_sub nw_sub g2.gh _) rs q2
      refine hv Q fun p hp => h' (.ref p) G2 _ (p :: []) (g2.upd hp) (.tup upd_same (owns_mk (rw'.mono (hk_mono (Ex.refl _) (Ex.refl _) (Ex.new hp) _)))) (frs_one g2 hp)
theorem Pa.imp {Q Q' : List V → Hp → Prop} (i : ∀ vs H', Q vs H' → Q' vs H') : ∀ {x : Re (List T)}, Pa mg E H0 G H Q x → Pa mg E H0 G H Q' x
  | .no, h => h
  | .er _, h => h
  | .ok _, h => fun vs G' H' f g o r => i _ _ (h vs G' H' f g o r)
section
variable {r : List V → Hp → VK → Prop} {r2 : R2} {op : List Dat → Option Dat} {opl : List Dat → Option (List Dat)} {ta : TA} {fa : FA} {tx ty : TE} {fx fy : FE}
theorem se_I (ha : SA mg E ta fa) (hr : RI mg r op) : SE mg E (tCB r ta) (fI op fa) := fun H0 G H σ e fp Q st h => ha H0 G H σ e fp _ st (pa_I hr st h)
theorem se_L (ha : SA mg E ta fa) (hr : RL mg r opl) : SE mg E (tCB r ta) (fL opl fa) := fun H0 G H σ e fp Q st h => ha H0 G H σ e fp _ st (pa_L hr st h)
theorem se_U (ha : SA mg E ta fa) (hr : RU mg r opl) : SE mg E (tCB r ta) (fU opl fa) := fun H0 G H σ e fp Q st h => ha H0 G H σ e fp _ st (pa_U hr st h)
/-- a two-place rule as one of a list -/
def l2 (r2 : R2) : List V → Hp → VK → Prop := fun vs H Q => ∀ x y, vs = [x, y] → r2 x y H Q
def l1 (r1 : V → Hp → VK → Prop) : List V → Hp → VK → Prop := fun vs H Q => ∀ x, vs = [x] → r1 x H Q
theorem se_op2 (hx : SE mg E tx fx) (hy : SE mg E ty fy) (hr : RI mg (l2 r2) op) : SE mg E (tOp r2 tx ty) (fI op (fA1 fx (fA1 fy fA0))) := fun H0 G H σ e fp Q st h => ev2 hx hy st (pa_I hr st h)
theorem se_opL (hx : SE mg E tx fx) (hy : SE mg E ty fy) (hr : RL mg (l2 r2) opl) : SE mg E (tOp r2 tx ty) (fL opl (fA1 fx (fA1 fy fA0))) := fun H0 G H σ e fp Q st h => ev2 hx hy st (pa_L hr st h)
theorem se_op1 {r1 : V → Hp → VK → Prop} (hx : SE mg E tx fx) (hr : RI mg (l1 r1) op) : SE mg E (fun σ H Q => tx σ H fun x H1 => r1 x H1 Q) (fI op (fA1 fx fA0)) := fun H0 G H σ e fp Q st h => ev1 hx st (pa_I hr st h)
theorem se_op1L {r1 : V → Hp → VK → Prop} (hx : SE mg E tx fx) (hr : RL mg (l1 r1) opl) : SE mg E (fun σ H Q => tx σ H fun x H1 => r1 x H1 Q) (fL opl (fA1 fx fA0)) := fun H0 G H σ e fp Q st h => ev1 hx st (pa_L hr st h)
end
/-! ### displays -/
def FAn (n : Nat) (fa : FA) : Prop := ∀ e ts, fa e = .ok ts → ts.length = n
theorem fan0 : FAn 0 fA0 := fun e ts h => by
  cases h
  rfl
theorem fanS {n : Nat} {fa : FE} {fr : FA} (h : FAn n fr) : FAn (n + 1) (fA1 fa fr) := fun e ts q => by
  unfold fA1 at q
  cases q1 : fa e with
  | no => rw [q1] at q; cases q
  | er c => rw [q1] at q; cases q
  | ok t =>
    rw [q1] at q
    have q' : ((fr e).bind fun ts => Re.ok (t :: ts)) = .ok ts := q
    cases q2 : fr e with
    | no => rw [q2] at q'; cases q'
    | er c => rw [q2] at q'; cases q'
    | ok us =>
      rw [q2] at q'
      cases q'
      show us.length + 1 = n + 1
      rw [h e us q2]
theorem se_lst {n : Nat} {ta : TA} {fa : FA} (ha : SA mg E ta fa) (hl : FAn n fa) (hn : n ≤ 1000) : SE mg E (tLst ta) (fLst fa) := by
  intro H0 G H σ e fp Q st h
  refine ha H0 G H σ e fp _ st ?_
  unfold fLst at h
  cases q : fa e with
  | no => rw [q] at h; exact h.elim
  | er c => rw [q] at h; exact h
  | ok ts =>
    rw [q] at h
    have h' : Pe mg E H0 G H Q (.ok (.lst ts)) := h
    intro vs G1 H1 f g o fr
    refine ⟨?_, fun p hp => h' (.ref p) G1 _ (p :: f) (g.upd hp) (.lst upd_same (o.mono (Ex.refl _) (Ex.refl _) (Ex.new hp))) ?_⟩
    · rw [o.length, hl e ts q]
      exact Nat.le_of_lt (small1000 hn)
    · refine ⟨List.nodup_cons.mpr ⟨fun m => ?_, fr.1⟩, fun q hq => ?_⟩
      · obtain ⟨u, hu⟩ := o.dom p m
        rw [hp] at hu
        cases hu
      · rcases List.mem_cons.mp hq with z | z
        · rw [z]
          exact ⟨none_back g.hh hp, none_back g.gh hp⟩
        · exact fr.2 q z
theorem se_tup {n : Nat} {ta : TA} {fa : FA} (ha : SA mg E ta fa) (hl : FAn n fa) (hn : n ≤ 1000) : SE mg E (tTup ta) (fTup fa) := by
  intro H0 G H σ e fp Q st h
  refine ha H0 G H σ e fp _ st ?_
  unfold fTup at h
  cases q : fa e with
  | no => rw [q] at h; exact h.elim
  | er c => rw [q] at h; exact h
  | ok ts =>
    rw [q] at h
    have h' : Pe mg E H0 G H Q (.ok (.tup ts)) := h
    intro vs G1 H1 f g o fr
    refine ⟨?_, fun p hp => h' (.ref p) G1 _ (p :: f) (g.upd hp) (.tup upd_same (o.mono (Ex.refl _) (Ex.refl _) (Ex.new hp))) ?_⟩
    · rw [o.length, hl e ts q]
      exact Nat.le_of_lt (small1000 hn)
    · refine ⟨List.nodup_cons.mpr ⟨fun m => ?_, fr.1⟩, fun q hq => ?_⟩
      · obtain ⟨u, hu⟩ := o.dom p m
        rw [hp] at hu
        cases hu
      · rcases List.mem_cons.mp hq with z | z
        · rw [z]
          exact ⟨none_back g.hh hp, none_back g.gh hp⟩
        · exact fr.2 q z

/-! ### tests, a if t else b -/
theorem own_bl (a : Ex (nw H0 G) G) (b : Ex G H) {v : V} {t : T} {f : List Addr} {c : Bool} (o : Own mg (nw H0 G) G H v t f) (q : datT t = .bl c) : v = .bl c := by
  have n := o.now a b
  rw [q] at n
  cases n
  rfl
theorem st_test {te : TE} {fe : FE} (h : SE mg E te fe) : ST mg E (tTest te) (fT fe) := by
  intro H0 G H σ e fp Q st hh
  refine h H0 G H σ e fp _ st ?_
  unfold fT at hh
  cases q : fe e with
  | no => rw [q] at hh; exact hh.elim
  | er c => rw [q] at hh; exact hh
  | ok t =>
    rw [q] at hh
    have h' : Pt mg E G H Q (match datT t with | .bl b => .ok b | _ => .no) := hh
    intro v G1 H1 f g o fr
    split at h'
    · rename_i b qb
      exact ⟨b, own_bl nw_sub g.gh o qb, h' G1 H1 g⟩
    · exact h'.elim
theorem st_B {te : TE} {fe : FE} (h : SE mg E te fe) : ST mg E (tB te) (fT fe) := st_test h
theorem Pt.grow {Q : Bool → Hp → Prop} {x : Re Bool} (g : Grow G H G' H') (h : Pt mg E G H Q x) : Pt mg E G' H' Q x := by
  cases x with
  | no => exact h
  | er c => exact Er.grow h g
  | ok b => exact fun G2 H2 g2 => h G2 H2 (g.trans g2)
theorem Pe.grow {Q : VK} {x : Re T} (g : Grow G H G' H') (h : Pe mg E H0 G H Q x) : Pe mg E H0 G' H' Q x := by
  cases x with
  | no => exact h
  | er c => exact Er.grow h g
  | ok b => exact fun v G2 H2 f g2 o r => h v G2 H2 f (g.trans g2) o ⟨r.1, fun p hp => ⟨none_back g.hh (r.2 p hp).1, (r.2 p hp).2⟩⟩
theorem st_and {t u : TT} {f g : FT} (h1 : ST mg E t f) (h2 : ST mg E u g) : ST mg E (tAnd t u) (fAnd f g) := by
  intro H0 G H σ e fp Q st hh
  refine h1 H0 G H σ e fp _ st ?_
  unfold fAnd at hh
  cases q : f e with
  | no => rw [q] at hh; exact hh.elim
  | er c => rw [q] at hh; exact hh
  | ok b =>
    rw [q] at hh
    intro G1 H1 g1
    cases b with
    | true => exact h2 H0 G1 H1 σ e fp _ (st.grow g1) (Pt.grow g1 hh)
    | false => exact hh G1 H1 g1
theorem st_or {t u : TT} {f g : FT} (h1 : ST mg E t f) (h2 : ST mg E u g) : ST mg E (tOr t u) (fOr f g) := by
  intro H0 G H σ e fp Q st hh
  refine h1 H0 G H σ e fp _ st ?_
  unfold fOr at hh
  cases q : f e with
  | no => rw [q] at hh; exact hh.elim
  | er c => rw [q] at hh; exact hh
  | ok b =>
    rw [q] at hh
    intro G1 H1 g1
    cases b with
    | true => exact hh G1 H1 g1
    | false => exact h2 H0 G1 H1 σ e fp _ (st.grow g1) (Pt.grow g1 hh)
theorem st_not {t : TT} {f : FT} (h1 : ST mg E t f) : ST mg E (tNot t) (fNot f) := by
  intro H0 G H σ e fp Q st hh
  refine h1 H0 G H σ e fp _ st ?_
  unfold fNot at hh
  cases q : f e with
  | no => rw [q] at hh; exact hh.elim
  | er c => rw [q] at hh; exact hh
  | ok b =>
    rw [q] at hh
    exact fun G1 H1 g1 => hh G1 H1 g1
theorem st_yes : ST mg E tYes fYes := fun H0 G H σ e fp Q st hh => hh G H (Grow.refl st.gh)
theorem se_if {t : TT} {ta tb : TE} {f : FT} {fa fb : FE} (h : ST mg E t f) (ha : SE mg E ta fa) (hb : SE mg E tb fb) : SE mg E (tIf t ta tb) (fIf f fa fb) := by
  intro H0 G H σ e fp Q st hh
  refine h H0 G H σ e fp _ st ?_
  unfold fIf at hh
  cases q : f e with
  | no => rw [q] at hh; exact hh.elim
  | er c => rw [q] at hh; exact hh
  | ok b =>
    rw [q] at hh
    intro G1 H1 g1
    cases b with
    | true => exact ha H0 G1 H1 σ e fp _ (st.grow g1) (Pe.grow g1 hh)
    | false => exact hb H0 G1 H1 σ e fp _ (st.grow g1) (Pe.grow g1 hh)
theorem se_and {ta tb : TE} {fa fb : FE} (ha : SE mg E ta fa) (hb : SE mg E tb fb) : SE mg E (tAndV ta tb) (fAndV fa fb) := by
  intro H0 G H σ e fp Q st hh
  refine ha H0 G H σ e fp _ st ?_
  unfold fAndV at hh
  cases q : fa e with
  | no => rw [q] at hh; exact hh.elim
  | er c => rw [q] at hh; exact hh
  | ok t =>
    rw [q] at hh
    intro v G1 H1 f g o fr
    have h' : Pe mg E H0 G H Q (match datT t with | .bl true => fb e | .bl false => .ok (.leaf 0 (.bl false)) | _ => .no) := hh
    split at h'
    · rename_i qb
      exact ⟨true, own_bl nw_sub g.gh o qb, hb H0 G1 H1 σ e fp _ (st.grow g) (Pe.grow g h')⟩
    · rename_i qb
      exact ⟨false, own_bl nw_sub g.gh o qb, h' (.bl false) G1 H1 [] g (.leaf (.bl false)) Frs.nil⟩
    · exact h'.elim
theorem se_or {ta tb : TE} {fa fb : FE} (ha : SE mg E ta fa) (hb : SE mg E tb fb) : SE mg E (tOrV ta tb) (fOrV fa fb) := by
  intro H0 G H σ e fp Q st hh
  refine ha H0 G H σ e fp _ st ?_
  unfold fOrV at hh
  cases q : fa e with
  | no => rw [q] at hh; exact hh.elim
  | er c => rw [q] at hh; exact hh
  | ok t =>
    rw [q] at hh
    intro v G1 H1 f g o fr
    have h' : Pe mg E H0 G H Q (match datT t with | .bl true => .ok (.leaf 0 (.bl true)) | .bl false => fb e | _ => .no) := hh
    split at h'
    · rename_i qb
      exact ⟨true, own_bl nw_sub g.gh o qb, h' (.bl true) G1 H1 [] g (.leaf (.bl true)) Frs.nil⟩
    · rename_i qb
      exact ⟨false, own_bl nw_sub g.gh o qb, hb H0 G1 H1 σ e fp _ (st.grow g) (Pe.grow g h')⟩
    · exact h'.elim
theorem ri1 {X : Hp} {vs : List V} {ds : List Dat} (rs : Rs mg X vs ds) (n : ds ≠ []) (m : ∀ a b c, ds ≠ a :: b :: c) : ∃ v d, vs = [v] ∧ ds = [d] ∧ R mg X v d := by
  cases rs with
  | nil => exact absurd rfl n
  | cons h r =>
    cases r with
    | nil => exact ⟨_, _, rfl, rfl, h⟩
    | cons h2 r2 => exact absurd rfl (m _ _ _)
theorem ri2 {X : Hp} {vs : List V} {ds : List Dat} (rs : Rs mg X vs ds) (n : ds ≠ []) (n1 : ∀ a, ds ≠ [a]) (m : ∀ a b c r, ds ≠ a :: b :: c :: r) : ∃ v w d d', vs = [v, w] ∧ ds = [d, d'] ∧ R mg X v d ∧ R mg X w d' := by
  cases rs with
  | nil => exact absurd rfl n
  | cons h r =>
    cases r with
    | nil => exact absurd rfl (n1 _)
    | cons h2 r2 =>
      cases r2 with
      | nil => exact ⟨_, _, _, _, rfl, rfl, h, h2⟩
      | cons h3 r3 => exact absurd rfl (m _ _ _ _)
/-- not x, as a value -/
def opNot : List Dat → Option Dat
  | [.bl b] => some (.bl (!b))
  | _ => none
theorem se_not {ta : TE} {fa : FE} (ha : SE mg E ta fa) : SE mg E (tNotV ta) (fI opNot (fA1 fa fA0)) := se_op1 (r1 := fun x H Q => ∃ c, x = .bl c ∧ Q (.bl (!c)) H) ha fun X H vs ds d ex rs q => by
  obtain ⟨v, x, rfl, rfl, h⟩ := ri1 rs (by rintro rfl; simp [opNot] at q) (by rintro a b c rfl; simp [opNot] at q)
  cases h with
  | bl b =>
    cases q
    exact ⟨.bl (!b), .bl _, fun Q hq x ex => by
      cases ex
      exact ⟨b, rfl, hq⟩⟩
  | _ => cases q
/-- a op b op' c -/
theorem se_chain {r r' : R2} {ta tb tc : TE} {fa fb fc : FE} {p q : List Dat → Option Dat} (ha : SE mg E ta fa) (hb : SE mg E tb fb) (hc : SE mg E tc fc) (hp : RI mg (l2 r) p) (hq : RI mg (l2 r') q) : SE mg E (tChain r r' ta tb tc) (fChain p q fa fb fc) := by
  intro H0 G H σ e fp Q st hh
  refine ha H0 G H σ e fp _ st ?_
  unfold fChain at hh
  cases q1 : fa e with
  | no => rw [q1] at hh; exact hh.elim
  | er c => rw [q1] at hh; exact hh
  | ok x =>
    rw [q1] at hh
    intro v G1 H1 f g o fr
    refine hb H0 G1 H1 σ e fp _ (st.grow g) ?_
    have h' : Pe mg E H0 G H Q ((fb e).bind fun y => match p [datT x, datT y] with
      | some (.bl true) => (fc e).bind fun z => match q [datT y, datT z] with
        | some (.bl r) => .ok (.leaf 0 (.bl r))
        | _ => .no
      | some (.bl false) => .ok (.leaf 0 (.bl false))
      | _ => .no) := hh
    cases q2 : fb e with
    | no => rw [q2] at h'; exact h'.elim
    | er c => rw [q2] at h'; exact Er.grow h' g
    | ok y =>
      rw [q2] at h'
      intro w G2 H2 f2 g2 o2 fr2
      have rx : R mg H2 v (datT x) := (o.now nw_sub g.gh).mono g2.hh
      have ry : R mg H2 w (datT y) := o2.now nw_sub g2.gh
      have h2 : Pe mg E H0 G H Q (match p [datT x, datT y] with
        | some (.bl true) => (fc e).bind fun z => match q [datT y, datT z] with
          | some (.bl r) => .ok (.leaf 0 (.bl r))
          | _ => .no
        | some (.bl false) => .ok (.leaf 0 (.bl false))
        | _ => .no) := h'
      split at h2
      · rename_i qp
        obtain ⟨u, ru, hu⟩ := hp H2 H2 [v, w] _ _ (Ex.refl _) (.cons rx (.cons ry .nil)) qp
        cases ru
        refine hu (fun z H3 => ∃ k, z = .bl k ∧ (if k = true then tc σ H3 fun w' H4 => r' w w' H4 Q else Q (.bl false) H3)) ⟨true, rfl, ?_⟩ v w rfl
        rw [if_pos rfl]
        refine hc H0 G2 H2 σ e fp _ ((st.grow g).grow g2) ?_
        cases q3 : fc e with
        | no => rw [q3] at h2; exact h2.elim
        | er c => rw [q3] at h2; exact Er.grow h2 (g.trans g2)
        | ok z =>
          rw [q3] at h2
          have h3 : Pe mg E H0 G H Q (match q [datT y, datT z] with
            | some (.bl r) => .ok (.leaf 0 (.bl r))
            | _ => .no) := h2
          intro w' G3 H3 f3 g3 o3 fr3
          split at h3
          · rename_i b qq
            obtain ⟨u, ru, hu⟩ := hq H3 H3 [w, w'] _ _ (Ex.refl _) (.cons (ry.mono g3.hh) (.cons (o3.now nw_sub g3.gh) .nil)) qq
            cases ru
            exact hu Q (h3 (.bl b) G3 H3 [] ((g.trans g2).trans g3) (.leaf (.bl b)) Frs.nil) w w' rfl
          · exact h3.elim
      · rename_i qp
        obtain ⟨u, ru, hu⟩ := hp H2 H2 [v, w] _ _ (Ex.refl _) (.cons rx (.cons ry .nil)) qp
        cases ru
        refine hu (fun z H3 => ∃ k, z = .bl k ∧ (if k = true then tc σ H3 fun w' H4 => r' w w' H4 Q else Q (.bl false) H3)) ⟨false, rfl, ?_⟩ v w rfl
        rw [if_neg Bool.false_ne_true]
        exact h2 (.bl false) G2 H2 [] (g.trans g2) (.leaf (.bl false)) Frs.nil
      · exact h2.elim
/-! ### a call of a def -/
def PeF (mg : Str → Option Value) (E : XK) (H : Hp) (Q : VK) : Re T → Prop := Pe mg E H H H Q
def spF (mg : Str → Option Value) (F : List Dat → Re T) : Sp := fun vs H Q E => LamX.Tabs TabI.ts H ∧ ∃ ds, Rs mg H vs ds ∧ Pe mg E H H H Q (F ds)
def KdF (F : List Dat → Re T) : Prop := ∀ ds t, F ds = .ok t → kdT t = 0
theorem call_post {F : List Dat → Re T} (kd : KdF F) {Q : VK} {ds : List Dat} (h0 : Ex H0 G) (gh : Ex G H) (g : Grow G H G' H') (h : Pe mg E H0 G H Q (F ds)) : Pe mg E H' H' H' Q (F ds) := by
  cases q : F ds with
  | no => rw [q] at h; exact h
  | er c =>
    rw [q] at h
    intro C G2 H2 m g2
    exact h C G' H2 m ⟨g.tb.trans g2.tb, g.hh.trans g2.hh, g.gg, g.gh.trans g2.hh, g.fr⟩
  | ok t =>
    rw [q] at h
    intro v G2 H2 f g2 o r
    have k0 := kd ds t q
    -- what the callee has made, beside G'
    have e1 : Ex G' fun p => if (H' p).isSome then G' p else G2 p := Ex.of fun p u hu => by
      have hs : (H' p).isSome = true := g.gh.sm (by rw [hu]; rfl)
      show (if (H' p).isSome then G' p else G2 p) = some u
      rw [if_pos hs]
      exact hu
    have e2 : Ex (fun p => if (H' p).isSome then G' p else G2 p) H2 := fun p u hu => by
      have hu' : (if (H' p).isSome then G' p else G2 p) = some u := hu
      split at hu'
      · exact (g.gh p u hu').trans g2.hh
      · exact g2.gh p u hu'
    have gn : Grow G H (fun p => if (H' p).isSome then G' p else G2 p) H2 := ⟨g.tb.trans g2.tb, g.hh.trans g2.hh, g.gg.trans e1, e2, fun p u hu n => by
      have hu' : (if (H' p).isSome then G' p else G2 p) = some u := hu
      split at hu'
      · exact g.fr p u hu' n
      · rename_i hs
        have : H' p = none := by
          cases z : H' p with
          | none => rfl
          | some y =>
            rw [z] at hs
            exact absurd rfl hs
        exact none_back g.hh this⟩
    refine h v _ H2 f gn ?_ ⟨r.1, fun p hp => ⟨none_back g.hh (r.2 p hp).1, ?_⟩⟩
    · refine own0 o k0 (Ex.of fun p u hu => ?_)
      unfold nw at hu
      split at hu
      · cases hu
      · rename_i hs
        have hn : H' p = none := by
          cases z : H' p with
          | none => rfl
          | some y =>
            rw [z] at hs
            exact absurd rfl hs
        refine nw_some (none_back ((h0.trans gh).trans g.hh) hn) ?_
        show (if (H' p).isSome then G' p else G2 p) = some u
        rw [if_neg hs]
        exact hu
    · show (if (H' p).isSome then G' p else G2 p) = none
      rw [(r.2 p hp).1]
      exact (r.2 p hp).2
where
  own0 : ∀ {N G N' G' H : Hp} {v : V} {t : T} {f : List Addr}, Own mg N G H v t f → kdT t = 0 → Ex N N' → Own mg N' G' H v t f
    | N, G, N', G', H, _, _, _, .leaf (k := 0) h, _, a => .leaf (h.mono a)
    | N, G, N', G', H, _, _, _, .leaf (k := k + 1) h, q, _ => absurd q (by simp [kdT])
    | N, G, N', G', H, _, _, _, .lst h r, q, a => .lst h (owns0 r (by simpa [kdT] using q) a)
    | N, G, N', G', H, _, _, _, .tup h r, q, a => .tup h (owns0 r (by simpa [kdT] using q) a)
    | N, G, N', G', H, _, _, _, .ins m h l r, q, a => .ins m h l (owns0 r (by simpa [kdT] using q) a)
    | N, G, N', G', H, _, _, _, .dtt h, q, a => .dtt h
  owns0 : ∀ {N G N' G' H : Hp} {vs : List V} {ts : List T} {f : List Addr}, Owns mg N G H vs ts f → kdTs ts = 0 → Ex N N' → Owns mg N' G' H vs ts f
    | N, G, N', G', H, _, _, _, .nil, _, _ => .nil
    | N, G, N', G', H, _, _, _, .cons h r, q, a => .cons (own0 h (by simp only [kdTs] at q; omega) a) (owns0 r (by simp only [kdTs] at q; omega) a)
theorem se_call {F : List Dat → Re T} {ta : TA} {fa : FA} (kd : KdF F) (ha : SA mg E ta fa) : SE mg E (tCall (spF mg F) [] E ta) (fCall F fa) := by
  intro H0 G H σ e fp Q st h
  refine ha H0 G H σ e fp _ st ?_
  unfold fCall at h
  cases q : fa e with
  | no => rw [q] at h; exact h.elim
  | er c => rw [q] at h; exact h
  | ok ts =>
    rw [q] at h
    have h' : Pe mg E H0 G H Q (F (datTs ts)) := h
    intro vs G1 H1 f g o r
    refine ⟨(st.grow g).tb.2, datTs ts, ?_, call_post kd st.h0 st.gh g h'⟩
    rw [List.append_nil]
    exact o.now nw_sub g.gh
end
end LS

/-! LD: what is walked, targets, comprehensions, statements, loops, defs. -/
namespace LS
open PySem PySem.Spec
open PyProof.Rows L2
variable [TabI]

/-! ### a list or a tuple is walked -/
def iSeq (K : PySem.W.Frag) (tl : TE) : TI := fun σ H R => tl σ H fun x H1 => ∃ a, x = .ref a ∧ (((∃ xs, SqL K H1 a xs) ∧ R (Itl K a) H1) ∨ ((∃ xs, SqT K H1 a xs) ∧ R (Itt K a) H1))
theorem pi_seq {X : Cx} {tg l : Expr} {tl : TE} (hl : PE X l tl) : PI X tg l (iSeq X.K tl) :=
  ⟨fun pn sh τ Hh Z inv hz => thn (hl.run pn sh τ Hh _ inv hz) fun vv sa ⟨xx, Ha, inva, rel, a, hxx, alt⟩ => by
    subst hxx
    cases rel
    rcases alt with ⟨⟨ys, sq⟩, rest⟩ | ⟨⟨ys, sq⟩, rest⟩
    · obtain ⟨its, _, lst, _⟩ := inva.list sq
      exact wpAny_pyIter_list lst.isList ⟨_, [_], _, _, Ha, rfl, inva.kept (t' := sa.toks) fun b ob hb => Heap.get?_push_of_some _ hb, turn_list a _, ⟨_, Heap.get?_push_size _ rfl, rfl, rfl⟩, fun b hb => by
        rw [List.mem_singleton.mp hb]
        exact inva.fpOk (Nat.le_refl _) (inva.hok.fresh (Nat.le_refl _)), rest⟩
    · obtain ⟨its, _, tpl, _⟩ := inva.tuple sq
      exact wpAny_pyIter_tuple (show sa.heap.IsTuple a its.toArray from tpl) ⟨_, [_], _, _, Ha, rfl, inva.kept (t' := sa.toks) fun b ob hb => Heap.get?_push_of_some _ hb, turn_tuple a _, ⟨_, Heap.get?_push_size _ rfl, rfl, rfl⟩, fun b hb => by
        rw [List.mem_singleton.mp hb]
        exact inva.fpOk (Nat.le_refl _) (inva.hok.fresh (Nat.le_refl _)), rest⟩⟩
structure Wk (mg : Str → Option Value) (H0 : Hp) (J : It) (G : Hp) (ts : List T) : Prop where
  go : ∀ i Hc, i < ts.length → Ex G Hc → J.go i Hc
  stop : ∀ Hc, Ex G Hc → J.stop ts.length Hc
  yld : ∀ i Hc x H2 G1 t, Ex G G1 → Ex G1 Hc → J.yld i Hc x H2 → ts[i]? = some t → ∃ f, Grow G1 Hc G1 H2 ∧ Own mg (nw H0 G1) G1 H2 x t f ∧ Frs f G1 Hc
def Pi (mg : Str → Option Value) (E : XK) (H0 G H : Hp) (Q : It → Hp → Prop) : Re (List T) → Prop
  | .no => False
  | .er c => Er mg E G H c
  | .ok ts => ∀ J G' H', Grow G H G' H' → Wk mg H0 J G' ts → Q J H'
def SI (mg : Str → Option Value) (E : XK) (wi : TI) (fi : FI) : Prop := ∀ H0 G H σ e fp Q, Stt mg H0 G H σ e fp → Pi mg E H0 G H Q (fi e) → wi σ H Q
section
variable {mg : Str → Option Value} {E : XK} {K : PySem.W.Frag} {H0 G H G' H' : Hp} {σ : L2.St} {e : Env} {fp : List Addr}
theorem frz1 {v : V} {t : T} {f : List Addr} (h0 : Ex H0 G) (gh : Ex G H) (g : Grow G H G' H') (o : Own mg (nw H0 G') G' H' v t f) (r : Frs f G' H) :
    ∃ G2, Grow G H G2 H' ∧ R mg (hk (nw H0 G2) G2 H' (kdT t)) v (datT t) := by
  obtain ⟨G2, g2, rs⟩ := frzs h0 gh g (Owns.cons o .nil) (by rw [List.append_nil]; exact r)
  have e : kdTs [t] = kdT t := by
    show max (kdT t) 0 = kdT t
    omega
  rw [e] at rs
  cases rs with
  | cons h _ => exact ⟨G2, g2, h⟩
theorem rng_len : ∀ (lo c : Int) (i n : Nat), (rng lo c i n).length = n
  | _, _, _, 0 => rfl
  | lo, c, i, n + 1 => congrArg (· + 1) (rng_len lo c (i + 1) n)
theorem rng_get : ∀ (lo c : Int) (i n j : Nat) (t : T), (rng lo c i n)[j]? = some t → t = .leaf 0 (.int (lo + ((i + j : Nat) : Int) * c))
  | _, _, _, 0, j, t, h => by simp [rng] at h
  | lo, c, i, n + 1, 0, t, h => (Option.some.inj h).symm
  | lo, c, i, n + 1, j + 1, t, h => by
    have h' := rng_get lo c (i + 1) n j t (by simpa [rng] using h)
    rw [h', show i + 1 + j = i + (j + 1) by omega]
theorem si_items {tl : TE} {fl : FE} (h : SE mg E tl fl) : SI mg E (iSeq K tl) (fItems fl) := by
  intro H0 G H σ e fp Q st hh
  refine h H0 G H σ e fp _ st ?_
  unfold fItems at hh
  cases q : fl e with
  | no => rw [q] at hh; exact hh.elim
  | er c => rw [q] at hh; exact hh
  | ok t =>
    rw [q] at hh
    have h' : Pi mg E H0 G H Q (match decide (2 ≤ kdT t), itemsD (datT t) with | false, some ds => .ok (ds.map (mk (kdT t))) | _, _ => .no) := hh
    intro v G1 H1 f g o fr
    obtain ⟨G2, g2, r⟩ := frz1 st.h0 st.gh g o fr
    split at h'
    · rename_i ds hk2 hd
      have k1 : kdT t ≤ 1 := by
        have := of_decide_eq_false hk2
        omega
      have sub : ∀ {G3 : Hp} (Hc : Hp), Ex G2 G3 → Ex (hk (nw H0 G2) G2 H1 (kdT t)) (hk (nw H0 G3) G3 Hc (kdT t)) := fun {G3} Hc e3 => by
        have : kdT t = 0 ∨ kdT t = 1 := by omega
        rcases this with z | z
        · rw [z]; exact nw_mono e3
        · rw [z]; exact e3
      have sub2 : Ex (hk (nw H0 G2) G2 H1 (kdT t)) G2 := by
        have : kdT t = 0 ∨ kdT t = 1 := by omega
        rcases this with z | z
        · rw [z]; exact nw_sub
        · rw [z]; exact Ex.refl _
      generalize hdt : datT t = dd at r hd
      cases r with
      | @lst a vs ds' hv rs =>
        cases hd
        have ha := (sub2 _ _ hv).is
        have hl := rs.length
        refine ⟨a, rfl, .inl ⟨⟨vs, .of (g2.gh _ _ ha).is⟩, h' _ G2 H1 g2 ⟨fun i Hc hi ex => ?_, fun Hc ex => ?_, fun i Hc x H2 G3 u e1 e2 y hu => ?_⟩⟩⟩
        · rw [List.length_map, ← hl] at hi
          exact ⟨vs, vs[i], .of (ex _ _ ha).is, List.getElem?_eq_getElem hi⟩
        · exact ⟨vs, .of (ex _ _ ha).is, by rw [List.length_map, hl]; exact Nat.le_refl _⟩
        · obtain ⟨rfl, y⟩ := y
          have hx := y vs (.of ((e2 _ _ (e1 _ _ ha).is).is))
          obtain ⟨d, hd, rd⟩ := rs.getV hx
          rw [List.getElem?_map, hd] at hu
          cases hu
          exact ⟨[], Grow.refl e2, own_mk (rd.mono (sub _ e1)), Frs.nil⟩
      | @tup a vs ds' hv rs =>
        cases hd
        have ha := (sub2 _ _ hv).is
        have hl := rs.length
        refine ⟨a, rfl, .inr ⟨⟨vs, .of (g2.gh _ _ ha).is⟩, h' _ G2 H1 g2 ⟨fun i Hc hi ex => ?_, fun Hc ex => ?_, fun i Hc x H2 G3 u e1 e2 y hu => ?_⟩⟩⟩
        · rw [List.length_map, ← hl] at hi
          exact ⟨vs, vs[i], .of (ex _ _ ha).is, List.getElem?_eq_getElem hi⟩
        · exact ⟨vs, .of (ex _ _ ha).is, by rw [List.length_map, hl]; exact Nat.le_refl _⟩
        · obtain ⟨rfl, y⟩ := y
          have hx := y vs (.of ((e2 _ _ (e1 _ _ ha).is).is))
          obtain ⟨d, hd, rd⟩ := rs.getV hx
          rw [List.getElem?_map, hd] at hu
          cases hu
          exact ⟨[], Grow.refl e2, own_mk (rd.mono (sub _ e1)), Frs.nil⟩
      | _ => cases hd
    · exact h'.elim
/-- whole numbers by steps -/
theorem wk_rng {lo c : Int} {n : Nat} (J : It) (hg : ∀ i H, i < n → J.go i H) (hs : ∀ H, J.stop n H) (hy : ∀ i H x H', J.yld i H x H' → H' = H ∧ x = .int (lo + (i : Int) * c)) : Wk mg H0 J G (rng lo c 0 n) := by
  refine ⟨fun i Hc hi _ => hg i Hc (by rw [rng_len] at hi; exact hi), fun Hc _ => by rw [rng_len]; exact hs Hc, fun i Hc x H2 G1 t e1 e2 y ht => ?_⟩
  obtain ⟨rfl, rfl⟩ := hy i Hc x H2 y
  have ht' := rng_get _ _ _ _ _ _ ht
  rw [ht', Nat.zero_add]
  exact ⟨[], Grow.refl e2, .leaf (.int _), Frs.nil⟩
theorem si_rng1 {ta : TA} {fa : FA} (h : SA mg E ta fa) : SI mg E (iRng1 ta) (fRng1 fa) := by
  intro H0 G H σ e fp Q st hh
  refine h H0 G H σ e fp _ st ?_
  unfold fRng1 at hh
  cases q : fa e with
  | no => rw [q] at hh; exact hh.elim
  | er c => rw [q] at hh; exact hh
  | ok ts =>
    rw [q] at hh
    have h' : Pi mg E H0 G H Q (match datTs ts with
      | [.int n] => if smI n = true then .ok (rng 0 1 0 n.toNat) else .no
      | _ => .no) := hh
    intro vs G1 H1 f g o fr
    have rs := o.now nw_sub g.gh
    split at h'
    · rename_i n hd
      rw [hd] at rs
      cases rs with
      | cons r rr =>
        cases rr
        cases r
        split at h'
        · rename_i hb
          have hb := smI_of hb
          refine ⟨n, rfl, by omega, by omega, h' _ G1 H1 g (wk_rng _ (fun i _ hi => hi) (fun _ => Nat.le_refl _) fun i Hc x H2 y => ⟨y.1, by rw [y.2, Int.mul_one]⟩)⟩
        · exact h'.elim
    · exact h'.elim
theorem si_rng2 {ta : TA} {fa : FA} (h : SA mg E ta fa) : SI mg E (iRng2 ta) (fRng2 fa) := by
  intro H0 G H σ e fp Q st hh
  refine h H0 G H σ e fp _ st ?_
  unfold fRng2 at hh
  cases q : fa e with
  | no => rw [q] at hh; exact hh.elim
  | er c => rw [q] at hh; exact hh
  | ok ts =>
    rw [q] at hh
    have h' : Pi mg E H0 G H Q (match datTs ts with
      | [.int lo, .int n] => if smI n = true ∧ smI lo = true then .ok (rng lo 1 0 (n - lo).toNat) else .no
      | _ => .no) := hh
    intro vs G1 H1 f g o fr
    have rs := o.now nw_sub g.gh
    split at h'
    · rename_i lo n hd
      rw [hd] at rs
      cases rs with
      | cons r rr =>
        cases rr with
        | cons r2 rr =>
          cases rr
          cases r
          cases r2
          split at h'
          · rename_i hb
            have h1 := smI_of hb.1
            have h2 := smI_of hb.2
            refine ⟨lo, n, rfl, ⟨by omega, by omega, by omega, by omega⟩, h' _ G1 H1 g (wk_rng _ (fun i _ hi => hi) (fun _ => Nat.le_refl _) fun i Hc x H2 y => ⟨y.1, by rw [y.2, Int.mul_one]⟩)⟩
          · exact h'.elim
    · exact h'.elim
theorem rgC_pos {lo n c : Int} (h1 : n < 1000000000) (h2 : -1000000000 ≤ n) (h3 : lo < 1000000000) (h4 : -1000000000 ≤ lo) (h5 : 0 < c) (h6 : c < 1000000000) : RgC lo n c (rsz lo n c) := by
  have hz : Builtin.Range.rangeSize lo n c = ((rsz lo n c : Nat) : Int) := by
    unfold Builtin.Range.rangeSize rsz
    rw [if_pos h5, if_pos h5]
    split
    · rename_i hlt
      have e : n - lo + c - 1 = (n - lo - 1) + 1 * c := by omega
      rw [e, Int.add_mul_ediv_right _ _ (by omega)]
      have : 0 ≤ (n - lo - 1) / c := Int.ediv_nonneg (by omega) (by omega)
      omega
    · rename_i hge
      have : (n - lo + c - 1) / c < 1 := Int.ediv_lt_of_lt_mul h5 (by omega)
      omega
  have hs : ((rsz lo n c : Nat) : Int) ≤ 2000000000 := by
    unfold rsz
    rw [if_pos h5]
    have : (n - lo + c - 1) / c ≤ n - lo + c - 1 ∨ (n - lo + c - 1) / c ≤ 0 := by
      by_cases q : 0 ≤ n - lo + c - 1
      · exact .inl (Int.ediv_le_self _ q)
      · right
        have := Int.ediv_lt_of_lt_mul (a := n - lo + c - 1) (b := 1) h5 (by omega)
        omega
    have h7 : n - lo ≤ 2000000000 := by omega
    rcases this with z | z
    · by_cases q : 0 ≤ n - lo
      · have hb : (n - lo + c - 1) / c ≤ n - lo := by
          refine Int.le_of_lt_add_one (Int.ediv_lt_of_lt_mul h5 ?_)
          have : (n - lo) * 1 ≤ (n - lo) * c := Int.mul_le_mul_of_nonneg_left (by omega) q
          rw [Int.add_mul]
          omega
        omega
      · have hb : (n - lo + c - 1) / c < 1 := Int.ediv_lt_of_lt_mul h5 (by omega)
        omega
    · omega
  refine ⟨by omega, by omega, ?_, hz⟩
  unfold Builtin.Range.small
  rw [hz]
  simp only [Builtin.Range.rangeFitsLong, Bool.and_eq_true, Bool.or_eq_true, decide_eq_true_eq, beq_iff_eq, h5, if_true]
  omega
theorem si_rng3 {ta : TA} {fa : FA} (h : SA mg E ta fa) : SI mg E (iRng3 ta) (fRng3 fa) := by
  intro H0 G H σ e fp Q st hh
  refine h H0 G H σ e fp _ st ?_
  unfold fRng3 at hh
  cases q : fa e with
  | no => rw [q] at hh; exact hh.elim
  | er c => rw [q] at hh; exact hh
  | ok ts =>
    rw [q] at hh
    have h' : Pi mg E H0 G H Q (match datTs ts with
      | [.int lo, .int n, .int c] => if n.natAbs < 1000000000 ∧ lo.natAbs < 1000000000 ∧ (c = -1 ∨ (0 < c ∧ c.natAbs < 1000000000)) then .ok (rng lo c 0 (rsz lo n c)) else .no
      | _ => .no) := hh
    intro vs G1 H1 f g o fr
    have rs := o.now nw_sub g.gh
    split at h'
    · rename_i lo n c hd
      rw [hd] at rs
      cases rs with
      | cons r rr =>
        cases rr with
        | cons r2 rr =>
          cases rr with
          | cons r3 rr =>
            cases rr
            cases r
            cases r2
            cases r3
            split at h'
            · rename_i hb
              have hc : RgC lo n c (rsz lo n c) := by
                rcases hb.2.2 with z | z
                · rw [z]
                  exact RgC.neg (by omega) (by omega) (by omega) (by omega)
                · exact rgC_pos (by omega) (by omega) (by omega) (by omega) z.1 (by omega)
              exact ⟨lo, n, c, _, rfl, hc, h' _ G1 H1 g (wk_rng _ (fun i _ hi => hi) (fun _ => Nat.le_refl _) fun i Hc x H2 y => y)⟩
            · exact h'.elim
    · exact h'.elim
theorem enum_len (k : Nat) : ∀ (i : Nat) (ds : List Dat), (enumT k i ds).length = ds.length
  | _, [] => rfl
  | i, d :: ds => congrArg (· + 1) (enum_len k (i + 1) ds)
theorem enum_get (k : Nat) : ∀ (i : Nat) (ds : List Dat) (j : Nat) (t : T), (enumT k i ds)[j]? = some t → ∃ d, ds[j]? = some d ∧ t = .tup [.leaf 0 (.int ((i + j : Nat) : Int)), mk k d]
  | _, [], j, t, h => by simp [enumT] at h
  | i, d :: ds, 0, t, h => ⟨d, rfl, (Option.some.inj h).symm⟩
  | i, d :: ds, j + 1, t, h => by
    obtain ⟨d', h1, h2⟩ := enum_get k (i + 1) ds j t (by simpa [enumT] using h)
    exact ⟨d', by simpa using h1, by rw [h2, show i + 1 + j = i + (j + 1) by omega]⟩
theorem si_enum {ta : TA} {fa : FA} (h : SA mg E ta fa) : SI mg E (iEnum K ta) (fEnum fa) := by
  intro H0 G H σ e fp Q st hh
  refine h H0 G H σ e fp _ st ?_
  unfold fEnum at hh
  cases q : fa e with
  | no => rw [q] at hh; exact hh.elim
  | er c => rw [q] at hh; exact hh
  | ok ts =>
    rw [q] at hh
    have h' : Pi mg E H0 G H Q (enumF ts) := hh
    intro vs G1 H1 f g o fr
    match ts, o, h' with
    | [], _, h' => exact h'.elim
    | _ :: _ :: _, _, h' => exact h'.elim
    | [t], .cons (v := v) (f := f1) o .nil, h' =>
      have h2 : Pi mg E H0 G H Q (match decide (2 ≤ kdT t), datT t with
        | false, .lst ds => .ok (enumT (kdT t) 0 ds)
        | _, _ => .no) := h'
      rw [List.append_nil] at fr
      obtain ⟨G2, g2, r⟩ := frz1 st.h0 st.gh g o fr
      split at h2
      · rename_i ds hk2 hd
        have k1 : kdT t ≤ 1 := by
          have := of_decide_eq_false hk2
          omega
        rw [hd] at r
        cases r with
        | @lst a vs ds' hv rs =>
          have sub2 : Ex (hk (nw H0 G2) G2 H1 (kdT t)) G2 := by
            have : kdT t = 0 ∨ kdT t = 1 := by omega
            rcases this with z | z
            · rw [z]; exact nw_sub
            · rw [z]; exact Ex.refl _
          have sub : ∀ {G3 : Hp} (Hc : Hp), Ex G2 G3 → Ex (hk (nw H0 G2) G2 H1 (kdT t)) (hk (nw H0 G3) G3 Hc (kdT t)) := fun {G3} Hc e3 => by
            have : kdT t = 0 ∨ kdT t = 1 := by omega
            rcases this with z | z
            · rw [z]; exact nw_mono e3
            · rw [z]; exact e3
          have ha := (sub2 _ _ hv).is
          have hl := rs.length
          refine ⟨a, vs, rfl, .of (g2.gh _ _ ha).is, h2 _ G2 H1 g2 ⟨fun i Hc hi ex => ?_, fun Hc ex => ?_, fun i Hc x H2 G3 u e1 e2 y hu => ?_⟩⟩
          · rw [enum_len, ← hl] at hi
            exact ⟨vs, vs[i], .of (ex _ _ ha).is, List.getElem?_eq_getElem hi⟩
          · exact ⟨vs, .of (ex _ _ ha).is, by rw [enum_len, hl]; exact Nat.le_refl _⟩
          · obtain ⟨p, w, rfl, hp, rfl, y⟩ := y
            have hx := y vs (.of ((e2 _ _ (e1 _ _ ha).is).is))
            obtain ⟨d, hd, rd⟩ := rs.getV hx
            obtain ⟨d', h3, rfl⟩ := enum_get _ _ _ _ _ hu
            rw [hd] at h3
            cases h3
            refine ⟨p :: ([] ++ ([] ++ [])), (Grow.refl e2).upd hp, .tup upd_same (.cons (.leaf ?_) (.cons (own_mk (rd.mono (sub _ e1))) .nil)), frs_one (Grow.refl e2) hp⟩
            rw [Nat.zero_add]
            exact .int _
      · exact h2.elim
theorem zip_get (k j : Nat) : ∀ (ds cs : List Dat) (i : Nat) (t : T), (zipT k j ds cs)[i]? = some t → ∃ d c, ds[i]? = some d ∧ cs[i]? = some c ∧ t = .tup [mk k d, mk j c]
  | [], cs, i, t, h => by simp [zipT] at h
  | d :: ds, [], i, t, h => by simp [zipT] at h
  | d :: ds, c :: cs, 0, t, h => ⟨d, c, rfl, rfl, (Option.some.inj h).symm⟩
  | d :: ds, c :: cs, i + 1, t, h => by
    obtain ⟨d', c', h1, h2, h3⟩ := zip_get k j ds cs i t (by simpa [zipT] using h)
    exact ⟨d', c', by simpa using h1, by simpa using h2, h3⟩
theorem zip_len (k j : Nat) : ∀ (ds cs : List Dat), (zipT k j ds cs).length = min ds.length cs.length
  | [], cs => by simp [zipT]
  | d :: ds, [] => by simp [zipT]
  | d :: ds, c :: cs => by
    show (zipT k j ds cs).length + 1 = min (ds.length + 1) (cs.length + 1)
    rw [zip_len k j ds cs]
    omega
theorem si_zip {ta : TA} {fa : FA} (h : SA mg E ta fa) : SI mg E (iZip K ta) (fZip fa) := by
  intro H0 G H σ e fp Q st hh
  refine h H0 G H σ e fp _ st ?_
  unfold fZip at hh
  cases q : fa e with
  | no => rw [q] at hh; exact hh.elim
  | er c => rw [q] at hh; exact hh
  | ok ts =>
    rw [q] at hh
    have h' : Pi mg E H0 G H Q (zipF ts) := hh
    intro vs G1 H1 f g o fr
    match ts, o, h' with
    | [], _, h' => exact h'.elim
    | [_], _, h' => exact h'.elim
    | _ :: _ :: _ :: _, _, h' => exact h'.elim
    | [t, u], o, h' =>
      have h2 : Pi mg E H0 G H Q (match decide (2 ≤ kdT t) || decide (2 ≤ kdT u), datT t, datT u with
        | false, .lst ds, .lst cs => .ok (zipT (kdT t) (kdT u) ds cs)
        | _, _, _ => .no) := h'
      split at h2
      · rename_i ds cs hk2 hd hc
        have k1 : kdT t ≤ 1 ∧ kdT u ≤ 1 := by
          rw [Bool.or_eq_false_iff] at hk2
          have := of_decide_eq_false hk2.1
          have := of_decide_eq_false hk2.2
          omega
        obtain ⟨G2, g2, v, w, hvw, rt, ru⟩ := frz2 st.h0 st.gh g o fr k1.1 k1.2
        subst hvw
        rw [hd] at rt
        rw [hc] at ru
        cases rt with
        | @lst a vs ds' hv rs =>
        cases ru with
        | @lst b ws cs' hw rs2 =>
          have sub2 : ∀ k, k ≤ 1 → Ex (hk (nw H0 G2) G2 H1 k) G2 := fun k hk => by
            have : k = 0 ∨ k = 1 := by omega
            rcases this with z | z
            · rw [z]; exact nw_sub
            · rw [z]; exact Ex.refl _
          have sub : ∀ {G3 : Hp} (Hc : Hp) k, k ≤ 1 → Ex G2 G3 → Ex (hk (nw H0 G2) G2 H1 k) (hk (nw H0 G3) G3 Hc k) := fun {G3} Hc k hk e3 => by
            have : k = 0 ∨ k = 1 := by omega
            rcases this with z | z
            · rw [z]; exact nw_mono e3
            · rw [z]; exact e3
          have ha := (sub2 _ k1.1 _ _ hv).is
          have hb := (sub2 _ k1.2 _ _ hw).is
          have hl := rs.length
          have hl2 := rs2.length
          refine ⟨a, b, vs, ws, rfl, .of (g2.gh _ _ ha).is, .of (g2.gh _ _ hb).is, h2 _ G2 H1 g2 ⟨fun i Hc hi ex => ?_, fun Hc ex => ?_, fun i Hc x H2 G3 z e1 e2 y hu => ?_⟩⟩
          · rw [zip_len, ← hl, ← hl2] at hi
            exact ⟨vs, ws, vs[i]'(by omega), ws[i]'(by omega), .of (ex _ _ ha).is, .of (ex _ _ hb).is, List.getElem?_eq_getElem (by omega), List.getElem?_eq_getElem (by omega)⟩
          · refine ⟨vs, ws, .of (ex _ _ ha).is, .of (ex _ _ hb).is, ?_⟩
            rw [zip_len, hl, hl2]
            omega
          · obtain ⟨p, x1, x2, rfl, hp, rfl, y1, y2⟩ := y
            have hx1 := y1 vs (.of ((e2 _ _ (e1 _ _ ha).is).is))
            have hx2 := y2 ws (.of ((e2 _ _ (e1 _ _ hb).is).is))
            obtain ⟨d, hd, rd⟩ := rs.getV hx1
            obtain ⟨c, hc, rc⟩ := rs2.getV hx2
            obtain ⟨d', c', h3, h4, rfl⟩ := zip_get _ _ _ _ _ _ hu
            rw [hd] at h3
            cases h3
            rw [hc] at h4
            cases h4
            exact ⟨p :: ([] ++ ([] ++ [])), (Grow.refl e2).upd hp, .tup upd_same (.cons (own_mk (rd.mono (sub _ _ k1.1 e1))) (.cons (own_mk (rc.mono (sub _ _ k1.2 e1))) .nil)), frs_one (Grow.refl e2) hp⟩
      · exact h2.elim
where
  frz2 : ∀ {H0 G H G' H' : Hp} {vs : List V} {t u : T} {f : List Addr}, Ex H0 G → Ex G H → Grow G H G' H' → Owns mg (nw H0 G') G' H' vs [t, u] f → Frs f G' H → kdT t ≤ 1 → kdT u ≤ 1 →
      ∃ G2, Grow G H G2 H' ∧ ∃ v w, vs = [v, w] ∧ R mg (hk (nw H0 G2) G2 H' (kdT t)) v (datT t) ∧ R mg (hk (nw H0 G2) G2 H' (kdT u)) w (datT u) := by
    intro H0 G H G' H' vs t u f h0 gh g o r k1 k2
    obtain ⟨G2, g2, e, a, b⟩ := frzG h0 gh g r
    cases o with
    | cons o1 o =>
      cases o with
      | cons o2 o =>
        cases o
        obtain ⟨h1, h2⟩ := frz_hk (H0 := H0) e g2.gh a b (kdT t)
        obtain ⟨h3, h4⟩ := frz_hk (H0 := H0) e g2.gh a b (kdT u)
        exact ⟨G2, g2, _, _, rfl, o1.to h1 fun p m => h2 p (List.mem_append_left _ m), o2.to h3 fun p m => h4 p (List.mem_append_right _ (List.mem_append_left _ m))⟩
end
end LS

/-! LE: targets, comprehensions, statements, loops, defs. -/
namespace LS
open PySem PySem.Spec
open PyProof.Rows L2
variable [TabI]

/-! ### targets -/
def Pg (mg : Str → Option Value) (H0 G H : Hp) (σ : L2.St) (fp f : List Addr) (js : List Nat) (Q : L2.St → Hp → Prop) : Re Env → Prop
  | .no => False
  | .er _ => False
  | .ok e' => ∀ σ' fp', Stt mg H0 G H σ' e' fp' → (∀ p ∈ fp', p ∈ fp ∨ p ∈ f) → (∀ vs : List Nat, (∀ j ∈ js, j ∈ vs) → wipe σ' vs = wipe σ vs) → Q σ' H
def SG (mg : Str → Option Value) (js : List Nat) (tg : TG) (fg : FG) : Prop := ∀ H0 G H σ e fp v t f Q, Stt mg H0 G H σ e fp → Own mg (nw H0 G) G H v t f → f.Nodup → (∀ p ∈ f, G p = none ∧ p ∉ fp) → Pg mg H0 G H σ fp f js Q (fg t e) → tg v σ H Q
def SGs (mg : Str → Option Value) (js : List Nat) (tg : TGs) (fgs : List FG) : Prop := ∀ H0 G H σ e fp vs ts f Q, Stt mg H0 G H σ e fp → Owns mg (nw H0 G) G H vs ts f → f.Nodup → (∀ p ∈ f, G p = none ∧ p ∉ fp) → Pg mg H0 G H σ fp f js Q (gEach fgs ts e) → tg vs σ H Q
section
variable {mg : Str → Option Value} {E : XK} {K : PySem.W.Frag} {H0 G H G' H' : Hp} {σ : L2.St} {e : Env} {fp : List Addr}
theorem wipe_set {x : Option V} {i : Nat} : ∀ {vs : List Nat} {σ : L2.St}, i ∈ vs → wipe (σ.set i x) vs = wipe σ vs := fun {vs σ} h => by
  apply List.ext_getElem?
  intro j
  by_cases hj : j ∈ vs
  · have n1 : ∀ τ : L2.St, τ.length = σ.length → ∀ y, (wipe τ vs)[j]? = some (some y) → False := fun τ _ y q => (wipe_some q).2 hj
    have l1 : (wipe (σ.set i x) vs).length = σ.length := by rw [wipe_length, List.length_set]
    have l2 : (wipe σ vs).length = σ.length := wipe_length _ _
    by_cases hl : j < σ.length
    · have a : (wipe (σ.set i x) vs)[j]? = some none := by
        rw [List.getElem?_eq_getElem (by rw [l1]; exact hl)]
        cases q : (wipe (σ.set i x) vs)[j]'(by rw [l1]; exact hl) with
        | none => rfl
        | some y => exact (n1 (σ.set i x) List.length_set y (by rw [List.getElem?_eq_getElem (by rw [l1]; exact hl), q])).elim
      have b : (wipe σ vs)[j]? = some none := by
        rw [List.getElem?_eq_getElem (by rw [l2]; exact hl)]
        cases q : (wipe σ vs)[j]'(by rw [l2]; exact hl) with
        | none => rfl
        | some y => exact (n1 _ rfl y (by rw [List.getElem?_eq_getElem (by rw [l2]; exact hl), q])).elim
      rw [a, b]
    · rw [List.getElem?_eq_none (by rw [l1]; omega), List.getElem?_eq_none (by rw [l2]; omega)]
  · rw [wipe_out hj, wipe_out hj, List.getElem?_set_ne]
    exact fun q => hj (q ▸ h)
theorem wipe_wipe {vs : List Nat} {σ : L2.St} : wipe (wipe σ vs) vs = wipe σ vs := by
  have go : ∀ us : List Nat, (∀ u ∈ us, u ∈ vs) → wipe (wipe σ us) vs = wipe σ vs := fun us => by
    induction us with
    | nil => intro _; rfl
    | cons u us ih =>
      intro h
      show wipe ((wipe σ us).set u none) vs = wipe σ vs
      rw [wipe_set (h u List.mem_cons_self)]
      exact ih fun w m => h w (List.mem_cons_of_mem _ m)
  exact go vs fun _ h => h
theorem sg_n (i : Nat) : SG mg [i] (gName i) (gN i) := by
  intro H0 G H σ e fp v t f Q st o nd ho h
  unfold gN at h
  by_cases hc : kdT t ≤ 1 ∧ i < e.length
  · rw [if_pos hc] at h
    obtain ⟨fp', s, n, sub⟩ := st.sl.set o hc.1 hc.2 (fun p hp hf => (ho p hf).2 hp) st.nd nd
    refine h (σ.set i (some v)) fp' ⟨st.tb, st.h0, st.gh, s, n, fun p hp => ?_⟩ sub fun vs hj => wipe_set (hj i (by simp))
    rcases sub p hp with z | z
    · exact st.out p z
    · exact (ho p z).1
  · rw [if_neg hc] at h
    exact h.elim
theorem sgs_nil : SGs mg [] gNil [] := by
  intro H0 G H σ e fp vs ts f Q st o nd ho h
  cases o with
  | nil => exact ⟨rfl, h σ fp st (fun p hp => .inl hp) fun _ _ => rfl⟩
  | cons o os => exact h.elim
theorem sgs_cons {js ks : List Nat} {t : TG} {fg : FG} {ts : TGs} {fgs : List FG} (h1 : SG mg js t fg) (h2 : SGs mg ks ts fgs) : SGs mg (js ++ ks) (gCons t ts) (fg :: fgs) := by
  intro H0 G H σ e fp vs us f Q st o nd ho h
  cases o with
  | nil => exact h.elim
  | @cons v vs t ts f fs o os =>
    refine ⟨v, vs, rfl, ?_⟩
    have nd' := List.nodup_append.mp nd
    refine h1 H0 G H σ e fp v t f _ st o nd'.1 (fun p hp => ho p (List.mem_append_left _ hp)) ?_
    have h' : Pg mg H0 G H σ fp (f ++ fs) (js ++ ks) Q ((fg t e).bind fun e1 => gEach fgs ts e1) := h
    cases q : fg t e with
    | no => rw [q] at h'; exact h'.elim
    | er c => rw [q] at h'; exact h'.elim
    | ok e1 =>
      rw [q] at h'
      intro σ1 fp1 st1 sub1 w1
      refine h2 H0 G H σ1 e1 fp1 vs ts fs _ st1 os nd'.2.1 (fun p hp => ⟨(ho p (List.mem_append_right _ hp)).1, fun m => ?_⟩) ?_
      · rcases sub1 p m with z | z
        · exact (ho p (List.mem_append_right _ hp)).2 z
        · exact nd'.2.2 p z p hp rfl
      · have h2' : Pg mg H0 G H σ fp (f ++ fs) (js ++ ks) Q (gEach fgs ts e1) := h'
        cases q2 : gEach fgs ts e1 with
        | no => rw [q2] at h2'; exact h2'.elim
        | er c => rw [q2] at h2'; exact h2'.elim
        | ok e2 =>
          rw [q2] at h2'
          intro σ2 fp2 st2 sub2 w2
          refine h2' σ2 fp2 st2 (fun p hp => ?_) fun vs hj => (w2 vs fun j m => hj j (List.mem_append_right _ m)).trans (w1 vs fun j m => hj j (List.mem_append_left _ m))
          rcases sub2 p hp with z | z
          · rcases sub1 p z with w | w
            · exact .inl w
            · exact .inr (List.mem_append_left _ w)
          · exact .inr (List.mem_append_right _ z)
theorem each_len : ∀ (gs : List FG) (ts : List T) (e e' : Env), gEach gs ts e = .ok e' → ts.length = gs.length
  | [], [], _, _, _ => rfl
  | [], _ :: _, _, _, h => nomatch h
  | _ :: _, [], _, _, h => nomatch h
  | g :: gs, t :: ts, e, e', h => by
    have h' : ((g t e).bind fun e1 => gEach gs ts e1) = .ok e' := h
    cases q : g t e with
    | no => rw [q] at h'; cases h'
    | er c => rw [q] at h'; cases h'
    | ok e1 =>
      rw [q] at h'
      exact congrArg (· + 1) (each_len gs ts e1 e' h')
theorem sg_t {js : List Nat} {n : Nat} {ts : TGs} {fgs : List FG} (h : SGs mg js ts fgs) (hn : fgs.length = n) : SG mg js (gTup K n ts) (gT fgs) := by
  intro H0 G H σ e fp v t f Q st o nd ho hh
  unfold gT at hh
  have hl : ∀ us : List T, Pg mg H0 G H σ fp f js Q (gEach fgs us e) → us.length = n := fun us z => by
    cases q : gEach fgs us e with
    | no => rw [q] at z; exact z.elim
    | er c => rw [q] at z; exact z.elim
    | ok e' => exact (each_len _ _ _ _ q).trans hn
  cases o with
  | tup ha os =>
    refine ⟨_, _, rfl, .of ha, ?_, ?_⟩
    · rw [os.length]
      exact hl _ hh
    · refine h H0 G H σ e fp _ _ _ _ st os (List.nodup_cons.mp nd).2 (fun p hp => ho p (List.mem_cons_of_mem _ hp)) ?_
      have hh' : Pg mg H0 G H σ fp _ js Q (gEach fgs _ e) := hh
      cases q : gEach fgs _ e with
      | no => rw [q] at hh'; exact hh'.elim
      | er c => rw [q] at hh'; exact hh'.elim
      | ok e2 =>
        rw [q] at hh'
        exact fun σ2 fp2 st2 sub2 w2 => hh' σ2 fp2 st2 (fun p hp => (sub2 p hp).imp id (List.mem_cons_of_mem _)) w2
  | @leaf k v d r =>
    cases r with
    | tup ha rs =>
      refine ⟨_, _, rfl, .of (hk_sub nw_sub st.gh k _ _ ha).is, ?_, h H0 G H σ e fp _ _ _ _ st (owns_mk rs) nd ho hh⟩
      rw [rs.length]
      have := hl _ hh
      rw [List.length_map] at this
      exact this
    | _ => exact hh.elim
  | lst _ _ => exact hh.elim
  | ins _ _ _ _ => exact hh.elim
  | dtt _ => exact hh.elim

theorem gn_er (i : Nat) : ∀ t e x, gN i t e ≠ .er x := fun t e x h => by
  unfold gN at h
  split at h <;> cases h
theorem gt_er {gs : List FG} (hg : ∀ g ∈ gs, ∀ t e x, g t e ≠ .er x) : ∀ t e x, gT gs t e ≠ .er x := fun t e x h => by
  have go : ∀ (gs : List FG), (∀ g ∈ gs, ∀ t e x, g t e ≠ .er x) → ∀ ts e, gEach gs ts e ≠ .er x := fun gs => by
    induction gs with
    | nil =>
      intro _ ts e h
      cases ts <;> cases h
    | cons g gs ih =>
      intro hg ts e h
      cases ts with
      | nil => cases h
      | cons t ts =>
        have h' : ((g t e).bind fun e1 => gEach gs ts e1) = .er x := h
        cases q : g t e with
        | no => rw [q] at h'; cases h'
        | er c => exact hg g List.mem_cons_self _ _ _ q
        | ok e1 =>
          rw [q] at h'
          exact ih (fun g m => hg g (List.mem_cons_of_mem _ m)) ts e1 h'
  unfold gT at h
  split at h
  · exact go gs hg _ _ h
  · cases h

/-! ### comprehensions -/
theorem sl_wipe : ∀ (vs : List Nat) {σ : L2.St} {e : Env} {fp : List Addr}, Sl mg (nw H0 G) G H σ e fp → ∃ fp', Sl mg (nw H0 G) G H (wipe σ vs) (wipeE e vs) fp' ∧ (fp.Nodup → fp'.Nodup) ∧ ∀ p ∈ fp', p ∈ fp
  | [], _, _, _, s => ⟨_, s, id, fun _ h => h⟩
  | v :: vs, _, _, _, s => by
    obtain ⟨fp1, s1, n1, b1⟩ := sl_wipe vs s
    obtain ⟨fp2, s2, n2, b2⟩ := s1.forget v none
    exact ⟨fp2, s2, fun n => n2 (n1 n), fun p hp => b1 p (b2 p hp)⟩
theorem Stt.wipe (st : Stt mg H0 G H σ e fp) (vs : List Nat) : ∃ fp', Stt mg H0 G H (wipe σ vs) (wipeE e vs) fp' ∧ ∀ p ∈ fp', p ∈ fp := by
  obtain ⟨fp', s, n, b⟩ := sl_wipe vs st.sl
  exact ⟨fp', ⟨st.tb, st.h0, st.gh, s, n st.nd, fun p hp => st.out p (b p hp)⟩, b⟩
theorem owns_app {N G H : Hp} : ∀ {vs ws : List V} {ts us : List T} {f g : List Addr}, Owns mg N G H vs ts f → Owns mg N G H ws us g → Owns mg N G H (vs ++ ws) (ts ++ us) (f ++ g)
  | _, _, _, _, _, _, .nil, o => o
  | _, _, _, _, _, _, .cons h r, o => by
    rw [List.cons_append, List.cons_append, List.append_assoc]
    exact .cons h (owns_app r o)
theorem kds_app : ∀ ts us : List T, kdTs (ts ++ us) = max (kdTs ts) (kdTs us)
  | [], us => by simp [kdTs]
  | t :: ts, us => by
    show max (kdT t) (kdTs (ts ++ us)) = max (max (kdT t) (kdTs ts)) (kdTs us)
    rw [kds_app ts us]
    omega
theorem se_lc {wi : TI} {fi : FI} {js vs : List Nat} {tg : TG} {fg : FG} {tt : TT} {ft : FT} {te : TE} {fe : FE} (hi : SI mg E wi fi) (hg : SG mg js tg fg) (hj : ∀ j ∈ js, j ∈ vs) (ht : ST mg E0 tt ft) (he : SE mg E0 te fe) (hx : ∀ t e x, fg t e ≠ .er x) :
    SE mg E (tLc wi tg tt te vs) (fLc fi fg ft fe vs) := by
  intro H0 G H σ e fp Q st hh
  refine hi H0 G H σ e fp _ st ?_
  unfold fLc at hh
  cases q : fi e with
  | no => rw [q] at hh; exact hh.elim
  | er c => rw [q] at hh; exact hh
  | ok ts =>
    rw [q] at hh
    have h' : Pe mg E H0 G H Q (if ts.length ≤ 1000000 then (lcT fg ft fe (wipeE e vs) ts).bind fun r => .ok (.lst r) else .no) := hh
    by_cases hlen : ts.length ≤ 1000000
    case neg =>
      rw [if_neg hlen] at h'
      exact h'.elim
    rw [if_pos hlen] at h'
    intro J G1 H1 g1 W1 D hD
    -- what is wanted behind the last turn
    cases qr : lcT fg ft fe (wipeE e vs) ts with
    | no => rw [qr] at h'; exact h'.elim
    | er c => exact (noer fg hx _ _ _ _ _ qr).elim
    | ok rtot =>
    rw [qr] at h'
    have h2 : Pe mg E H0 G H Q (.ok (.lst rtot)) := h'
    refine ⟨fun i m Hc => m = ts.length - i ∧ i ≤ ts.length ∧ ∃ G2 acc tacc fa, Grow G H G2 Hc ∧ Ex G1 G2 ∧ Ex H1 Hc ∧ (∀ p o, G2 p = some o → G1 p = none → H1 p = none) ∧ Hc D = some (.lst acc) ∧ G2 D = none ∧ Owns mg (nw H0 G2) G2 Hc acc tacc fa ∧ kdTs tacc ≤ 1 ∧ fa.Nodup ∧ tacc.length ≤ i ∧
      (∀ p ∈ fa, H1 p = none ∧ G2 p = none ∧ p ≠ D) ∧ ∃ r, lcT fg ft fe (wipeE e vs) (ts.drop i) = .ok r ∧ tacc ++ r = rtot, ⟨ts.length, by simp, Nat.zero_le _, G1, [], [], [], g1.upd hD, Ex.refl _, Ex.new hD, fun p o h n => (by rw [h] at n; cases n), upd_same, none_back g1.gh hD, .nil, Nat.zero_le _, List.nodup_nil, Nat.le_refl _, (fun p hp => nomatch hp), rtot, qr, rfl⟩, ?_⟩
    rintro i m Hc ⟨rfl, hi, G2, acc, tacc, fa, gr, eG, eH, hfr, hDc, hDG, oa, ka, na, la, hfa, r, hr, hrr⟩
    have exG : Ex G1 Hc := eG.trans gr.gh
    by_cases hlt : i < ts.length
    · refine .inr ⟨W1.go i Hc hlt exG, _, fun H' w => ⟨ts.length - (i + 1), by omega, w⟩, fun x H2 y => ?_⟩
      obtain ⟨f, g2, ox, fx⟩ := W1.yld i Hc x H2 G2 ts[i] eG gr.gh y (List.getElem?_eq_getElem hlt)
      have hdrop : ts.drop i = ts[i] :: ts.drop (i + 1) := List.drop_eq_getElem_cons hlt
      rw [hdrop] at hr
      have hr' : ((fg ts[i] (wipeE e vs)).bind fun e1 => (ft e1).nox.bind fun b => if b then (fe e1).nox.bind fun x => if kdT x ≤ 1 then (lcT fg ft fe (wipeE e vs) (ts.drop (i + 1))).bind fun r => .ok (x :: r) else .no else lcT fg ft fe (wipeE e vs) (ts.drop (i + 1))) = .ok r := hr
      have stc : Stt mg H0 G2 H2 σ e fp := (st.grow gr).grow g2
      obtain ⟨fpw, stw, subw⟩ := stc.wipe vs
      have eH2 : Ex H1 H2 := eH.trans g2.hh
      have hD2 : H2 D = some (.lst acc) := (g2.hh _ _ hDc).is
      refine hg H0 G2 H2 _ (wipeE e vs) fpw x ts[i] f _ stw ox fx.1 (fun p hp => ⟨(fx.2 p hp).2, fun m => ?_⟩) ?_
      · obtain ⟨u, hu⟩ := st.sl.dom p (subw p m)
        have z := (fx.2 p hp).1
        exact (gr.hh.no hu z).elim
      cases qg : fg ts[i] (wipeE e vs) with
      | no => rw [qg] at hr'; cases hr'
      | er c => rw [qg] at hr'; cases hr'
      | ok e1 =>
      rw [qg] at hr'
      have hr1 : ((ft e1).nox.bind fun b => if b then (fe e1).nox.bind fun x => if kdT x ≤ 1 then (lcT fg ft fe (wipeE e vs) (ts.drop (i + 1))).bind fun r => .ok (x :: r) else .no else lcT fg ft fe (wipeE e vs) (ts.drop (i + 1))) = .ok r := hr'
      intro σ1 fp1 st1 sub1 w1
      refine ⟨(w1 vs hj).trans wipe_wipe, ht H0 G2 H2 σ1 e1 fp1 _ st1 ?_⟩
      cases qt : ft e1 with
      | no => rw [qt] at hr1; cases hr1
      | er c => rw [qt] at hr1; cases hr1
      | ok b =>
      rw [qt] at hr1
      have hr2 : (if b then (fe e1).nox.bind fun x => if kdT x ≤ 1 then (lcT fg ft fe (wipeE e vs) (ts.drop (i + 1))).bind fun r => .ok (x :: r) else .no else lcT fg ft fe (wipeE e vs) (ts.drop (i + 1))) = .ok r := hr1
      intro G3 H3 g3
      have gr3 : Grow G H G3 H3 := (gr.trans g2).trans g3
      have eG3 : Ex G1 G3 := eG.trans g3.gg
      have eH3 : Ex H1 H3 := eH2.trans g3.hh
      have hD3 : H3 D = some (.lst acc) := (g3.hh _ _ hD2).is
      have hDG3 : G3 D = none := g3.keep hD2 hDG
      have hfr3 : ∀ p o, G3 p = some o → G1 p = none → H1 p = none := fun p o h n => by
        cases z : G2 p with
        | none => exact none_back eH2 (g3.fr p o h z)
        | some u => exact hfr p u z n
      have oa3 : Owns mg (nw H0 G3) G3 H3 acc tacc fa := (oa.grow g2).grow g3
      have hfa3 : ∀ p ∈ fa, H1 p = none ∧ G3 p = none ∧ p ≠ D := fun p hp => ⟨(hfa p hp).1, by
        obtain ⟨u, hu⟩ := oa.dom p hp
        obtain ⟨u', hu'⟩ := (g2.hh p u hu).ex
        exact g3.keep hu' (hfa p hp).2.1, (hfa p hp).2.2⟩
      cases b with
      | false =>
        show _ ∧ _
        exact ⟨rfl, hlt, G3, acc, tacc, fa, gr3, eG3, eH3, hfr3, hD3, hDG3, oa3, ka, na, by omega, hfa3, r, hr2, hrr⟩
      | true =>
        show te σ1 H3 _
        refine he H0 G3 H3 σ1 e1 fp1 _ (st1.grow g3) ?_
        cases qe : fe e1 with
        | no => rw [qe] at hr2; cases hr2
        | er c => rw [qe] at hr2; cases hr2
        | ok z =>
        rw [qe] at hr2
        have hr3 : (if kdT z ≤ 1 then (lcT fg ft fe (wipeE e vs) (ts.drop (i + 1))).bind fun r => .ok (z :: r) else .no) = .ok r := hr2
        intro v G4 H4 fz g4 oz rz
        by_cases hkz : kdT z ≤ 1
        case neg =>
          rw [if_neg hkz] at hr3
          cases hr3
        rw [if_pos hkz] at hr3
        have hD4 : H4 D = some (.lst acc) := (g4.hh _ _ hD3).is
        have hDG4 : G4 D = none := g4.keep hD3 hDG3
        have nDz : D ∉ fz := fun m => by
          rw [(rz.2 D m).1] at hD3
          cases hD3
        have nDa : D ∉ fa := fun m => (hfa D m).2.2 rfl
        refine ⟨acc, hD4, ?_, rfl, hlt, G4, acc ++ [v], tacc ++ [z], fa ++ (fz ++ []), ?_, eG3.trans g4.gg, ?_, ?_, upd_same, hDG4, owns_app ((oa3.grow g4).off nDa ka) (.cons (oz.off nDz hkz) .nil), ?_, ?_, by rw [List.length_append, List.length_singleton]; omega, ?_, ?_⟩
        · rw [oa.length]
          exact Nat.lt_of_le_of_lt (Nat.le_trans la (Nat.le_trans (Nat.le_of_lt hlt) hlen)) (by decide)
        · have := gr3.trans g4
          exact ⟨this.tb.trans (TB.upd hD4), fun p o h => by
            have nD : p ≠ D := fun z => by
              rw [z] at h
              rw [none_back g1.hh hD] at h
              cases h
            rw [upd_ne nD]
            exact this.hh p o h, this.gg, fun p o h => by
            have nD : p ≠ D := fun z => by
              rw [z, hDG4] at h
              cases h
            rw [upd_ne nD]
            exact this.gh p o h, this.fr⟩
        · exact fun p o h => by
            have nD : p ≠ D := fun z => by
              rw [z, hD] at h
              cases h
            rw [upd_ne nD]
            exact (eH3 p o h).trans g4.hh
        · exact fun p o h n => by
            cases z : G3 p with
            | none => exact none_back eH3 (g4.fr p o h z)
            | some u => exact hfr3 p u z n
        · rw [kds_app]
          show max (kdTs tacc) (max (kdT z) 0) ≤ 1
          omega
        · rw [List.append_nil]
          refine List.nodup_append.mpr ⟨na, rz.1, fun a ha b hb q => ?_⟩
          obtain ⟨u, hu⟩ := oa3.dom a ha
          rw [q, (rz.2 b hb).1] at hu
          cases hu
        · intro p hp
          rw [List.append_nil] at hp
          rcases List.mem_append.mp hp with m | m
          · obtain ⟨u, hu⟩ := oa3.dom p m
            exact ⟨(hfa3 p m).1, g4.keep hu (hfa3 p m).2.1, (hfa3 p m).2.2⟩
          · exact ⟨none_back eH3 (rz.2 p m).1, (rz.2 p m).2, fun q => nDz (q ▸ m)⟩
        · have hr4 : ((lcT fg ft fe (wipeE e vs) (ts.drop (i + 1))).bind fun r => Re.ok (z :: r)) = .ok r := hr3
          cases q5 : lcT fg ft fe (wipeE e vs) (ts.drop (i + 1)) with
          | no => rw [q5] at hr4; cases hr4
          | er c => rw [q5] at hr4; cases hr4
          | ok r5 =>
            rw [q5] at hr4
            cases hr4
            exact ⟨r5, rfl, by rw [← hrr]; simp⟩
    · have ei : i = ts.length := by omega
      subst ei
      refine .inl ⟨W1.stop Hc exG, ?_⟩
      rw [List.drop_length] at hr
      cases hr
      rw [List.append_nil] at hrr
      rw [← hrr] at h2
      refine h2 (.ref D) G2 Hc (D :: fa) gr (.lst hDc oa) ⟨List.nodup_cons.mpr ⟨fun m => (hfa D m).2.2 rfl, na⟩, fun p hp => ?_⟩
      rcases List.mem_cons.mp hp with z | z
      · rw [z]
        exact ⟨none_back g1.hh hD, hDG⟩
      · exact ⟨none_back g1.hh (hfa p z).1, (hfa p z).2.1⟩
where
  noer : ∀ (g : FG) (hg : ∀ t e x, g t e ≠ .er x) (c : FT) (el : FE) (e0 : Env) (ts : List T) (x : Str), lcT g c el e0 ts = .er x → False
    | g, hg, c, el, e0, [], x, h => nomatch h
    | g, hg, c, el, e0, t :: ts, x, h => by
      have h1 : ((g t e0).bind fun e1 => (c e1).nox.bind fun b => if b then (el e1).nox.bind fun x => if kdT x ≤ 1 then (lcT g c el e0 ts).bind fun r => .ok (x :: r) else .no else lcT g c el e0 ts) = .er x := h
      cases q1 : g t e0 with
      | no => rw [q1] at h1; cases h1
      | er c => exact hg _ _ _ q1
      | ok e1 =>
      rw [q1] at h1
      have h2 : ((c e1).nox.bind fun b => if b then (el e1).nox.bind fun x => if kdT x ≤ 1 then (lcT g c el e0 ts).bind fun r => .ok (x :: r) else .no else lcT g c el e0 ts) = .er x := h1
      cases q2 : c e1 with
      | no => rw [q2] at h2; cases h2
      | er c => rw [q2] at h2; cases h2
      | ok b =>
      rw [q2] at h2
      have h3 : (if b then (el e1).nox.bind fun x => if kdT x ≤ 1 then (lcT g c el e0 ts).bind fun r => .ok (x :: r) else .no else lcT g c el e0 ts) = .er x := h2
      cases b with
      | false => exact noer g hg c el e0 ts x h3
      | true =>
      have h4 : ((el e1).nox.bind fun x => if kdT x ≤ 1 then (lcT g c el e0 ts).bind fun r => .ok (x :: r) else .no) = .er x := h3
      cases q3 : el e1 with
      | no => rw [q3] at h4; cases h4
      | er c => rw [q3] at h4; cases h4
      | ok z =>
      rw [q3] at h4
      have h5 : (if kdT z ≤ 1 then (lcT g c el e0 ts).bind fun r => .ok (z :: r) else .no) = .er x := h4
      split at h5
      · cases q4 : lcT g c el e0 ts with
        | no => rw [q4] at h5; cases h5
        | er c' =>
          exact noer g hg c el e0 ts c' q4
        | ok r => rw [q4] at h5; cases h5
      · cases h5
end
end LS

/-! LF: statements, loops, defs. -/
namespace LS
open PySem PySem.Spec
open PyProof.Rows L2
variable [TabI]

def Ps (mg : Str → Option Value) (E : XK) (H0 G : Hp) (D : Ends) : Re Out → Prop
  | .no => False
  | .er c => ∀ C H', mg c = some (.ref C) → Ex H0 H' → TB H0 H' → E (.ref C) none H'
  | .ok (.nx e) => ∀ σ' G' H' fp, Ex G G' → Stt mg H0 G' H' σ' e fp → D.nx σ' H'
  | .ok (.bk e) => ∀ σ' G' H' fp, Ex G G' → Stt mg H0 G' H' σ' e fp → D.bk σ' H'
  | .ok (.ct e) => ∀ σ' G' H' fp, Ex G G' → Stt mg H0 G' H' σ' e fp → D.ct σ' H'
  | .ok (.rt e t) => ∀ σ' v G' H' fp f, Ex G G' → Stt mg H0 G' H' σ' e fp → Own mg (nw H0 G') G' H' v t f → f.Nodup → (∀ p ∈ f, G' p = none ∧ p ∉ fp) → D.rt v H'
def SS (mg : Str → Option Value) (E : XK) (ts : TS) (fs : FS) : Prop := ∀ H0 G H σ e fp D, Stt mg H0 G H σ e fp → Ps mg E H0 G D (fs e) → ts D σ H
section
variable {mg : Str → Option Value} {E : XK} {K : PySem.W.Frag} {H0 G H G' H' : Hp} {σ : L2.St} {e : Env} {fp : List Addr} {D : Ends}
theorem Ps.up (x : Ex G G') : ∀ {r : Re Out}, Ps mg E H0 G D r → Ps mg E H0 G' D r
  | .no, h => h
  | .er _, h => h
  | .ok (.nx _), h => fun σ' G2 H2 fp a st => h σ' G2 H2 fp (x.trans a) st
  | .ok (.bk _), h => fun σ' G2 H2 fp a st => h σ' G2 H2 fp (x.trans a) st
  | .ok (.ct _), h => fun σ' G2 H2 fp a st => h σ' G2 H2 fp (x.trans a) st
  | .ok (.rt _ _), h => fun σ' v G2 H2 fp f a st => h σ' v G2 H2 fp f (x.trans a) st
/-- a raise within an expression -/
theorem er_of {c : Str} (st : Stt mg H0 G H σ e fp) (h : ∀ C H', mg c = some (.ref C) → Ex H0 H' → TB H0 H' → E (.ref C) none H') : Er mg E G H c := fun C G2 H2 m g => h C H2 m ((st.h0.trans st.gh).trans g.hh) (st.tb.trans g.tb).1
theorem s_next : SS mg E tNext sNext := fun H0 G H σ e fp D st h => h σ G H fp (Ex.refl _) st
theorem s_brk : SS mg E tBreak sBrk := fun H0 G H σ e fp D st h => h σ G H fp (Ex.refl _) st
theorem s_cont : SS mg E tCont sCont := fun H0 G H σ e fp D st h => h σ G H fp (Ex.refl _) st
theorem s_never : SS mg E tNever sNever := fun H0 G H σ e fp D st h => h
theorem s_seq {t u : TS} {a b : FS} (h1 : SS mg E t a) (h2 : SS mg E u b) : SS mg E (tSeq t u) (sSeq a b) := by
  intro H0 G H σ e fp D st h
  refine h1 H0 G H σ e fp _ st ?_
  unfold sSeq at h
  cases q : a e with
  | no => rw [q] at h; exact h.elim
  | er c => rw [q] at h; exact h
  | ok o =>
    rw [q] at h
    cases o with
    | nx e1 => exact fun σ' G' H' fp' x st' => h2 H0 G' H' σ' e1 fp' D st' (Ps.up x h)
    | rt e1 t => exact h
    | bk e1 => exact h
    | ct e1 => exact h
theorem s_asg {te : TE} {fe : FE} {js : List Nat} {tg : TG} {fg : FG} (he : SE mg E te fe) (hg : SG mg js tg fg) (hx : ∀ t e x, fg t e ≠ .er x) : SS mg E (tAsg te tg) (sAsg fe fg) := by
  intro H0 G H σ e fp D st h
  refine he H0 G H σ e fp _ st ?_
  unfold sAsg at h
  cases q : fe e with
  | no => rw [q] at h; exact h.elim
  | er c => rw [q] at h; exact er_of st h
  | ok t =>
    rw [q] at h
    intro v G1 H1 f g o r
    have st1 := st.grow g
    refine hg H0 G1 H1 σ e fp v t f _ st1 o r.1 (fun p hp => ⟨(r.2 p hp).2, fun m => ?_⟩) ?_
    · obtain ⟨u, hu⟩ := st.sl.dom p m
      rw [(r.2 p hp).1] at hu
      cases hu
    · have h' : Ps mg E H0 G D ((fg t e).bind fun e1 => .ok (.nx e1)) := h
      cases q2 : fg t e with
      | no => rw [q2] at h'; exact h'.elim
      | er c => exact (hx _ _ _ q2).elim
      | ok e1 =>
        rw [q2] at h'
        exact fun σ' fp' st' _ _ => h' σ' G1 H1 fp' g.gg st'
theorem s_drop {te : TE} {fe : FE} (he : SE mg E te fe) : SS mg E (tDrop te) (sDrop fe) := by
  intro H0 G H σ e fp D st h
  refine he H0 G H σ e fp _ st ?_
  unfold sDrop at h
  cases q : fe e with
  | no => rw [q] at h; exact h.elim
  | er c => rw [q] at h; exact er_of st h
  | ok t =>
    rw [q] at h
    exact fun v G1 H1 f g o r => h σ G1 H1 fp g.gg (st.grow g)
theorem s_ret {te : TE} {fe : FE} (he : SE mg E te fe) : SS mg E (tRet te) (sRet fe) := by
  intro H0 G H σ e fp D st h
  refine he H0 G H σ e fp _ st ?_
  unfold sRet at h
  cases q : fe e with
  | no => rw [q] at h; exact h.elim
  | er c => rw [q] at h; exact er_of st h
  | ok t =>
    rw [q] at h
    refine fun v G1 H1 f g o r => h σ v G1 H1 fp f g.gg (st.grow g) o r.1 fun p hp => ⟨(r.2 p hp).2, fun m => ?_⟩
    obtain ⟨u, hu⟩ := st.sl.dom p m
    rw [(r.2 p hp).1] at hu
    cases hu
theorem s_retN : SS mg E tRetN (sRet (fC .non)) := fun H0 G H σ e fp D st h => h σ .non G H fp [] (Ex.refl _) st (.leaf .non) List.nodup_nil fun p hp => nomatch hp
theorem s_if {c : TT} {fc : FT} {t u : TS} {a b : FS} (hc : ST mg E c fc) (h1 : SS mg E t a) (h2 : SS mg E u b) : SS mg E (tIfS c t u) (sIf fc a b) := by
  intro H0 G H σ e fp D st h
  refine hc H0 G H σ e fp _ st ?_
  unfold sIf at h
  cases q : fc e with
  | no => rw [q] at h; exact h.elim
  | er c => rw [q] at h; exact er_of st h
  | ok x =>
    rw [q] at h
    intro G1 H1 g
    cases x with
    | true => exact h1 H0 G1 H1 σ e fp D (st.grow g) (Ps.up g.gg h)
    | false => exact h2 H0 G1 H1 σ e fp D (st.grow g) (Ps.up g.gg h)
/-- slot i is shared -/
theorem Sl.frz {N G H : Hp} : ∀ {σ : L2.St} {e : Env} {fp : List Addr} {i : Nat} {t : T}, Sl mg N G H σ e fp → fp.Nodup → e[i]? = some (some t) → ∃ v f fp', σ[i]? = some (some v) ∧ Own mg N G H v t f ∧ kdT t ≤ 1 ∧ (∀ p ∈ f, p ∈ fp) ∧ (∀ p ∈ fp', p ∈ fp ∧ p ∉ f) ∧ fp'.Nodup ∧
    ∀ N' G' H', Ex N N' → Ex G G' → Ex H H' → ∀ u, Own mg N' G' H' v u [] → kdT u ≤ 1 → Sl mg N' G' H' σ (e.set i (some u)) fp'
  | _, _, _, i, t, .n0, _, h => by simp at h
  | _, _, _, 0, t, .no r, _, h => by simp at h
  | _, _, _, i + 1, t, .no r, nd, h => by
    obtain ⟨v, f, fp', h1, h2, h3, h4, h5, h6, h7⟩ := Sl.frz (i := i) (t := t) r nd (by simpa using h)
    exact ⟨v, f, fp', by simpa using h1, h2, h3, h4, h5, h6, fun N' G' H' a b c u ou ku => .no (h7 N' G' H' a b c u ou ku)⟩
  | _, _, _, 0, t, .so (f := f) (fp := fp) q k r, nd, h => by
    have z : some _ = some t := Option.some.inj h
    cases z
    have nd' := List.nodup_append.mp nd
    exact ⟨_, f, fp, rfl, q, k, fun p hp => List.mem_append_left _ hp, fun p hp => ⟨List.mem_append_right _ hp, fun m => nd'.2.2 p m p hp rfl⟩, nd'.2.1, fun N' G' H' a b c u ou ku => .so (f := []) ou ku (r.mono a b c)⟩
  | _, _, _, i + 1, t, .so (f := g) q k r, nd, h => by
    have nd' := List.nodup_append.mp nd
    obtain ⟨v, f, fp', h1, h2, h3, h4, h5, h6, h7⟩ := Sl.frz (i := i) (t := t) r nd'.2.1 (by simpa using h)
    refine ⟨v, f, g ++ fp', by simpa using h1, h2, h3, fun p hp => List.mem_append_right _ (h4 p hp), fun p hp => ?_, List.nodup_append.mpr ⟨nd'.1, h6, fun x hx y hy z => nd'.2.2 x hx y (h5 y hy).1 z⟩, fun N' G' H' a b c u ou ku => .so (q.mono a b c) k (h7 N' G' H' a b c u ou ku)⟩
    rcases List.mem_append.mp hp with m | m
    · exact ⟨List.mem_append_left _ m, fun m2 => nd'.2.2 p m p (h4 p m2) rfl⟩
    · exact ⟨List.mem_append_right _ (h5 p m).1, (h5 p m).2⟩
theorem Stt.frz {i : Nat} {t : T} (st : Stt mg H0 G H σ e fp) (h : e[i]? = some (some t)) : ∃ G' fp', Ex G G' ∧ Stt mg H0 G' H σ (e.set i (some (.leaf (kdT t) (datT t)))) fp' := by
  obtain ⟨v, f, fp', h1, h2, h3, h4, h5, h6, h7⟩ := st.sl.frz st.nd h
  have e2 : Ex G (fun p => if p ∈ f then H p else G p) := Ex.of fun p o h => by
    by_cases m : p ∈ f
    · rw [st.out p (h4 p m)] at h
      cases h
    · show (if p ∈ f then H p else G p) = some o
      rw [if_neg m]
      exact h
  have e3 : Ex (fun p => if p ∈ f then H p else G p) H := fun p o h => by
    have h' : (if p ∈ f then H p else G p) = some o := h
    by_cases m : p ∈ f
    · rw [if_pos m] at h'
      exact .inl h'
    · rw [if_neg m] at h'
      exact st.gh p o h'
  obtain ⟨k1, k2⟩ := frz_hk (H0 := H0) (H' := H) (f := f) e2 e3 (fun p m => if_pos m) (fun p m => by
    unfold nw
    rw [none_back st.h0 (st.out p (h4 p m))]
    exact if_pos m) (kdT t)
  refine ⟨_, fp', e2, ⟨st.tb, st.h0.trans e2, e3, h7 _ _ H (nw_mono e2) e2 (Ex.refl _) _ (.leaf (h2.to k1 k2)) (by simpa [kdT] using h3), h6, fun p hp => ?_⟩⟩
  show (if p ∈ f then H p else G p) = none
  rw [if_neg (h5 p hp).2]
  exact st.out p (h5 p hp).1
theorem s_frz {i : Nat} {ts : TS} {fs : FS} (h : SS mg E ts fs) : SS mg E ts (sSeq (sFrz i) fs) := by
  intro H0 G H σ e fp D st hh
  unfold sSeq sFrz at hh
  cases q : e[i]? with
  | none => rw [q] at hh; exact h H0 G H σ e fp D st hh
  | some x =>
    cases x with
    | none => rw [q] at hh; exact h H0 G H σ e fp D st hh
    | some t =>
      rw [q] at hh
      obtain ⟨G', fp', e2, st'⟩ := st.frz q
      exact h H0 G' H σ _ fp' D st' (Ps.up e2 hh)
/-- for -/
theorem s_for {wi : TI} {fi : FI} {js : List Nat} {tg : TG} {fg : FG} {tb : TS} {fb : FS} (hi : SI mg E wi fi) (hg : SG mg js tg fg) (hx : ∀ t e x, fg t e ≠ .er x) (hb : SS mg E tb fb) : SS mg E (tFor wi tg tb) (sFor fi fg fb) := by
  intro H0 G H σ e fp D st h
  refine hi H0 G H σ e fp _ st ?_
  unfold sFor at h
  cases q : fi e with
  | no => rw [q] at h; exact h.elim
  | er c => rw [q] at h; exact er_of st h
  | ok ts =>
    rw [q] at h
    intro J G1 H1 g1 W1
    refine ⟨fun i m σ H => m = ts.length - i ∧ i ≤ ts.length ∧ ∃ G2 e2 fp2, Ex G1 G2 ∧ Stt mg H0 G2 H σ e2 fp2 ∧ Ps mg E H0 G2 D (forT fg fb (ts.drop i) e2), ⟨ts.length, by simp, Nat.zero_le _, G1, e, fp, Ex.refl _, st.grow g1, Ps.up g1.gg h⟩, ?_⟩
    rintro i m σ2 Hc ⟨rfl, hle, G2, e2, fp2, x12, st2, h2⟩
    by_cases hlt : i < ts.length
    · refine .inr ⟨W1.go i Hc hlt (x12.trans st2.gh), _, fun σ' H' w => ⟨ts.length - (i + 1), by omega, w⟩, fun x H3 y => ?_⟩
      obtain ⟨f, g3, ox, fx⟩ := W1.yld i Hc x H3 G2 ts[i] x12 st2.gh y (List.getElem?_eq_getElem hlt)
      rw [List.drop_eq_getElem_cons hlt] at h2
      have h3 : Ps mg E H0 G2 D ((fg ts[i] e2).bind fun e1 => (fb e1).bind fun o => match o with
        | .nx e2 => forT fg fb (ts.drop (i + 1)) e2
        | .ct e2 => forT fg fb (ts.drop (i + 1)) e2
        | .bk e2 => .ok (.nx e2)
        | .rt e2 t => .ok (.rt e2 t)) := h2
      refine hg H0 G2 H3 σ2 e2 fp2 x ts[i] f _ (st2.grow g3) ox fx.1 (fun p hp => ⟨(fx.2 p hp).2, fun m => ?_⟩) ?_
      · obtain ⟨u, hu⟩ := st2.sl.dom p m
        rw [(fx.2 p hp).1] at hu
        cases hu
      cases qg : fg ts[i] e2 with
      | no => rw [qg] at h3; exact h3.elim
      | er c => exact (hx _ _ _ qg).elim
      | ok e3 =>
      rw [qg] at h3
      have h4 : Ps mg E H0 G2 D ((fb e3).bind fun o => match o with
        | .nx e2 => forT fg fb (ts.drop (i + 1)) e2
        | .ct e2 => forT fg fb (ts.drop (i + 1)) e2
        | .bk e2 => .ok (.nx e2)
        | .rt e2 t => .ok (.rt e2 t)) := h3
      intro σ3 fp3 st3 _ _
      refine hb H0 G2 H3 σ3 e3 fp3 _ st3 ?_
      cases qb : fb e3 with
      | no => rw [qb] at h4; exact h4.elim
      | er c => rw [qb] at h4; exact h4
      | ok o =>
      rw [qb] at h4
      cases o with
      | nx e4 => exact fun σ' G' H' fp' xg st' => ⟨rfl, hlt, G', e4, fp', x12.trans xg, st', Ps.up xg h4⟩
      | ct e4 => exact fun σ' G' H' fp' xg st' => ⟨rfl, hlt, G', e4, fp', x12.trans xg, st', Ps.up xg h4⟩
      | bk e4 => exact h4
      | rt e4 t => exact h4
    · have ei : i = ts.length := by omega
      subst ei
      rw [List.drop_length] at h2
      exact .inl ⟨W1.stop Hc (x12.trans st2.gh), h2 σ2 G2 Hc fp2 (Ex.refl _) st2⟩
/-- while -/
theorem s_while {c : TT} {fc : FT} {tb : TS} {fb : FS} {n : Nat} (hc : ST mg E c fc) (hb : SS mg E tb fb) : SS mg E (tWhile c tb) (sWhile n fc fb) := by
  intro H0 G H σ e fp D st h
  refine ⟨fun m σ H => ∃ G2 e2 fp2, Stt mg H0 G2 H σ e2 fp2 ∧ Ps mg E H0 G2 D (whT fc fb m e2), ⟨n, G, e, fp, st, h⟩, ?_⟩
  rintro m σ2 Hc ⟨G2, e2, fp2, st2, h2⟩
  cases m with
  | zero => exact h2.elim
  | succ m =>
    have h3 : Ps mg E H0 G2 D ((fc e2).bind fun x => if x then (fb e2).bind fun o => match o with
      | .nx e2 => whT fc fb m e2
      | .ct e2 => whT fc fb m e2
      | .bk e2 => .ok (.nx e2)
      | .rt e2 t => .ok (.rt e2 t)
      else .ok (.nx e2)) := h2
    refine hc H0 G2 Hc σ2 e2 fp2 _ st2 ?_
    cases q : fc e2 with
    | no => rw [q] at h3; exact h3.elim
    | er c => rw [q] at h3; exact er_of st2 h3
    | ok x =>
      rw [q] at h3
      intro G3 H3 g3
      cases x with
      | false => exact h3 σ2 G3 H3 fp2 g3.gg (st2.grow g3)
      | true =>
        have h4 : Ps mg E H0 G2 D ((fb e2).bind fun o => match o with
          | .nx e2 => whT fc fb m e2
          | .ct e2 => whT fc fb m e2
          | .bk e2 => .ok (.nx e2)
          | .rt e2 t => .ok (.rt e2 t)) := h3
        refine ⟨fun σ H => ∃ G2 e2 fp2, Stt mg H0 G2 H σ e2 fp2 ∧ Ps mg E H0 G2 D (whT fc fb m e2), fun σ' H' w => ⟨m, Nat.lt_succ_self m, w⟩, hb H0 G3 H3 σ2 e2 fp2 _ (st2.grow g3) ?_⟩
        cases qb : fb e2 with
        | no => rw [qb] at h4; exact h4.elim
        | er c => rw [qb] at h4; exact h4
        | ok o =>
        rw [qb] at h4
        cases o with
        | nx e4 => exact fun σ' G' H' fp' xg st' => ⟨G', e4, fp', st', Ps.up (g3.gg.trans xg) h4⟩
        | ct e4 => exact fun σ' G' H' fp' xg st' => ⟨G', e4, fp', st', Ps.up (g3.gg.trans xg) h4⟩
        | bk e4 => exact Ps.up g3.gg h4
        | rt e4 t => exact Ps.up g3.gg h4
theorem s_aug {i : Nat} {te : TE} {fe : FE} {ti : TIp} {op : List Dat → Option Dat} (he : SE mg E te fe) (hr : RI mg (l2 ti) op) : SS mg E (tAug i te ti) (sAug i op fe) := by
  intro H0 G H σ e fp D st h
  unfold sAug at h
  cases q : e[i]? with
  | none => rw [q] at h; exact h.elim
  | some x =>
    cases x with
    | none => rw [q] at h; exact h.elim
    | some t =>
      rw [q] at h
      obtain ⟨v, f, e1, o, k, sub, _⟩ := st.sl.get q
      refine ⟨v, e1, he H0 G H σ e fp _ st ?_⟩
      have h' : Ps mg E H0 G D ((fe e).bind fun u => match op [datT t, datT u] with
        | some d => if scal d then .ok (.nx (e.set i (some (.leaf 0 d)))) else .no
        | none => .no) := h
      cases q2 : fe e with
      | no => rw [q2] at h'; exact h'.elim
      | er c => rw [q2] at h'; exact er_of st h'
      | ok u =>
        rw [q2] at h'
        have h2 : Ps mg E H0 G D (match op [datT t, datT u] with
          | some d => if scal d then .ok (.nx (e.set i (some (.leaf 0 d)))) else .no
          | none => .no) := h'
        intro w G1 H1 f1 g o1 r1
        split at h2
        · rename_i d qd
          split at h2
          · rename_i sc
            obtain ⟨z, rz, hz⟩ := hr H1 H1 [v, w] _ d (Ex.refl _) (.cons ((o.now nw_sub st.gh).mono g.hh) (.cons (o1.now nw_sub g.gh) .nil)) qd
            have st1 := st.grow g
            have hi : i < e.length := (List.getElem?_eq_some_iff.mp q).1
            obtain ⟨fp', s, n, sb⟩ := st1.sl.set (v := z) (t := .leaf 0 d) (f := []) (.leaf (by rw [rz.isS sc]; exact R.ofS sc)) (by simp [kdT]) hi (fun p _ m => nomatch m) st1.nd List.nodup_nil
            refine hz _ (h2 (σ.set i (some z)) G1 H1 fp' g.gg ⟨st1.tb, st1.h0, st1.gh, s, n, fun p hp => ?_⟩) v w rfl
            rcases sb p hp with m | m
            · exact st1.out p m
            · exact nomatch m
          · exact h2.elim
        · exact h2.elim
end

/-! ### defs -/
section
variable {mg : Str → Option Value} {H : Hp}
theorem sl_start : ∀ {vs : List V} {ds : List Dat} (n : Nat), Rs mg H vs ds → Sl mg (nw H H) H H (vs.map some ++ List.replicate n none) ((ds.map fun d => some (mk 1 d)) ++ List.replicate n none) []
  | _, _, 0, .nil => .n0
  | _, _, n + 1, .nil => .no (sl_start n (vs := []) (ds := []) .nil)
  | _, _, n, .cons h r => .so (f := []) (fp := []) (own_mk (k := 1) h) (kd_mk 1 _) (sl_start n r)
theorem stt_start {N : List Str} {n : Nat} (tb : LamX.Tabs TabI.ts H) (hn : N.length = n) {vs : List V} {ds : List Dat} (r : Rs mg H vs ds) : Stt mg H H H (L2.start N vs) (startE n ds) [] := by
  refine ⟨⟨TB.refl _, tb⟩, Ex.refl _, Ex.refl _, ?_, List.nodup_nil, fun p hp => nomatch hp⟩
  unfold L2.start startE
  rw [hn, r.length]
  exact sl_start _ r
theorem run_post {E : XK} {fs : FS} {n p : Nat} {ds : List Dat} {Q : VK} (hd : ds.length = p) (h : Pe mg E H H H Q (runF n p fs ds)) : Ps mg E H H { nx := fun _ H' => Q .non H', rt := Q } (fs (startE n ds)) := by
  unfold runF at h
  rw [if_pos hd] at h
  cases q : fs (startE n ds) with
  | no => rw [q] at h; exact h.elim
  | er c => rw [q] at h; exact fun C H' m x y => h C H H' m ⟨y, x, Ex.refl _, x, fun p o a b => by rw [a] at b; cases b⟩
  | ok o =>
    rw [q] at h
    cases o with
    | nx e => exact fun σ' G' H' fp x st => h .non G' H' [] ⟨st.tb.1, st.h0.trans st.gh, x, st.gh, fun p o a b => b⟩ (.leaf .non) Frs.nil
    | bk e => exact h.elim
    | ct e => exact h.elim
    | rt e t =>
      have h' : Pe mg E H H H Q (if kdT t = 0 then .ok t else .no) := h
      split at h'
      · exact fun σ' v G' H' fp f x st o nd ho => h' v G' H' f ⟨st.tb.1, st.h0.trans st.gh, x, st.gh, fun p o a b => b⟩ o ⟨nd, fun p hp => ⟨none_back st.h0 (ho p hp).1, (ho p hp).1⟩⟩
      · exact h'.elim
theorem run_kd (n p : Nat) (fs : FS) : KdF (runF n p fs) := fun ds t h => by
  unfold runF at h
  split at h
  · cases q : fs (startE n ds) with
    | no => rw [q] at h; cases h
    | er c => rw [q] at h; cases h
    | ok o =>
      rw [q] at h
      cases o with
      | nx e => cases h; rfl
      | bk e => cases h
      | ct e => cases h
      | rt e t =>
        have h' : (if kdT t = 0 then Re.ok t else .no) = .ok _ := h
        split at h'
        · cases h'
          assumption
        · cases h'
  · cases h
theorem run_len {n p : Nat} {fs : FS} {ds : List Dat} {E : XK} {Q : VK} (h : Pe mg E H H H Q (runF n p fs ds)) : ds.length = p := by
  unfold runF at h
  split at h
  · assumption
  · exact h.elim
end
section
variable {w : World} {P : Program} {K : PySem.W.Frag} {mg : Str → Option Value} {base : Heap}
/-- a def keeps its reading -/
theorem Fun.okF {x qual : Str} {st : Stmt} {f : Addr} {fd : FuncData} {N ps : List Str} {k n p : Nat} {fs : FS} (F : Fun K x qual st f fd) (S : FnScope N ps (defScope st)) (hn : N.length = n) (hp : ps.length = p)
    (hb : ∀ (cdv : Value) (A : Around) (outer : List PySem.Env) (s : Shared) (H : Hp) (E : XK), Room k (A.deeper (envOfC qual (defScope st) s.heap.objs.size f cdv)) →
      ∃ t, PSs (cxOf (L2.CX P w) P w K mg base N qual (defScope st) f cdv A outer s H E) (defBody st) t ∧ SS mg E t fs) :
    FnOk P w K mg base (L2.CX P w) (k + 1) f fd ps (spF mg (runF n p fs)) := by
  refine F.okX S (fun vs H Q E h => ?_) (fun cdv A outer s H vs Q E hr h => ?_)
  · obtain ⟨tb, ds, r, h⟩ := h
    rw [r.length, run_len h, hp]
  · obtain ⟨tb, ds, r, h⟩ := h
    obtain ⟨t, hps, hss⟩ := hb cdv A outer s H E hr
    exact ⟨t, hps, hss H H H _ _ [] _ (stt_start tb hn r) (run_post (run_len h) h)⟩
/-- in a def's body: a call may let out what the def may -/
theorem passD {N : List Str} {qual : Str} {scope : Scope} {f : Addr} {cd : Value} {A : Around} {outer : List PySem.Env} {s : Shared} {H : Hp} {E : XK} :
    Passes (L2.CX P w) (cxOf (L2.CX P w) P w K mg base N qual scope f cd A outer s H E) E := passes_call (takes_of rfl rfl rfl rfl) fun _ _ _ _ h => h
end
end LS

/-! LG: what changes objects: paths into a slot's tree, methods of lists, items, attributes, objects made. -/
namespace LS
open PySem PySem.Spec
open PyProof.Rows L2
variable [TabI]

/-! ### a place in a tree -/
def valsO : HO → Option (List V)
  | .lst vs => some vs
  | .tup vs => some vs
  | .ins _ _ fs => some (fs.map (·.2))
  | _ => none
theorem vals_nt {o : HO} {vs : List V} (h : valsO o = some vs) : nt o = true := by
  cases o <;> first | rfl | cases h
def atV (H : Hp) : V → List Nat → Option V
  | v, [] => some v
  | .ref a, j :: π => match H a with
    | some o => match valsO o with
      | some vs => match vs[j]? with
        | some w => atV H w π
        | none => none
      | none => none
    | none => none
  | _, _ :: _ => none
section
variable {mg : Str → Option Value} {E : XK} {K : PySem.W.Frag} {N H0 G H G' H' : Hp} {σ : L2.St} {e : Env} {fp : List Addr} {D : Ends}
theorem at_cons {a : Addr} {o : HO} {vs : List V} {j : Nat} {w : V} {π : List Nat} (h : H a = some o) (h2 : valsO o = some vs) (h3 : vs[j]? = some w) : atV H (.ref a) (j :: π) = atV H w π := by
  simp [atV, h, h2, h3]
theorem zip_snd {ns : List Str} {vs : List V} (h : ns.length = vs.length) : (ns.zip vs).map (·.2) = vs := by
  induction ns generalizing vs with
  | nil =>
    cases vs with
    | nil => rfl
    | cons v vs => cases h
  | cons n ns ih =>
    cases vs with
    | nil => cases h
    | cons v vs =>
      show v :: (ns.zip vs).map (·.2) = v :: vs
      rw [ih (by simpa using h)]
theorem zip_fst {ns : List Str} {vs : List V} (h : ns.length = vs.length) : (ns.zip vs).map (·.1) = ns := by
  induction ns generalizing vs with
  | nil => rfl
  | cons n ns ih =>
    cases vs with
    | nil => cases h
    | cons v vs =>
      show n :: (ns.zip vs).map (·.1) = n :: ns
      rw [ih (by simpa using h)]
/-- the node's object and its children -/
theorem own_kids {v : V} {t : T} {f : List Addr} {ts : List T} (o : Own mg N G H v t f) (k : kids t = some ts) : ∃ a ob vs g, v = .ref a ∧ H a = some ob ∧ valsO ob = some vs ∧ Owns mg N G H vs ts g ∧ f = a :: g := by
  cases o with
  | leaf h => cases k
  | dtt h => cases k
  | lst h r => cases k; exact ⟨_, _, _, _, rfl, h, rfl, r, rfl⟩
  | tup h r => cases k; exact ⟨_, _, _, _, rfl, h, rfl, r, rfl⟩
  | ins m h l r =>
    cases k
    exact ⟨_, _, _, _, rfl, h, congrArg some (zip_snd l), r, rfl⟩
theorem owns_at : ∀ {vs : List V} {ts : List T} {f : List Addr} {j : Nat} {u : T}, Owns mg N G H vs ts f → ts[j]? = some u → ∃ w g, vs[j]? = some w ∧ Own mg N G H w u g ∧ (∀ p ∈ g, p ∈ f) ∧ (f.Nodup → g.Nodup)
  | _, _, _, j, u, .nil, h => by simp at h
  | _, _, _, 0, u, .cons o r, h => by
    cases Option.some.inj h
    exact ⟨_, _, rfl, o, fun p hp => List.mem_append_left _ hp, fun n => (List.nodup_append.mp n).1⟩
  | _, _, _, j + 1, u, .cons o r, h => by
    obtain ⟨w, g, h1, h2, h3, h4⟩ := owns_at (j := j) (u := u) r (by simpa using h)
    exact ⟨w, g, by simpa using h1, h2, fun p hp => List.mem_append_right _ (h3 p hp), fun n => h4 (List.nodup_append.mp n).2.1⟩
theorem own_at : ∀ {π : List Nat} {v : V} {t u : T} {f : List Addr}, Own mg N G H v t f → getP t π = some u → ∃ w g, atV H v π = some w ∧ Own mg N G H w u g ∧ (∀ p ∈ g, p ∈ f) ∧ (f.Nodup → g.Nodup)
  | [], v, t, u, f, o, h => by
    cases Option.some.inj h
    exact ⟨v, f, by cases v <;> rfl, o, fun p hp => hp, id⟩
  | j :: π, v, t, u, f, o, h => by
    cases hk : kids t with
    | none => simp [getP, hk] at h
    | some ts =>
      cases hj : ts[j]? with
      | none => simp [getP, hk, hj] at h
      | some x =>
        have h' : getP x π = some u := by simpa [getP, hk, hj] using h
        obtain ⟨a, ob, vs, g, rfl, ha, hv, os, rfl⟩ := own_kids o hk
        obtain ⟨y, g1, hy, oy, sub, nd⟩ := owns_at os hj
        obtain ⟨w, g2, hw, ow, sub2, nd2⟩ := own_at oy h'
        refine ⟨w, g2, ?_, ow, fun p hp => List.mem_cons_of_mem _ (sub p (sub2 p hp)), fun n => nd2 (nd (List.nodup_cons.mp n).2)⟩
        exact (at_cons ha hv hy).trans hw
theorem atV_mono (x : Ex H H') : ∀ {π : List Nat} {v w : V}, atV H v π = some w → atV H' v π = some w
  | [], v, w, h => by
    cases v <;> exact h
  | j :: π, .ref a, w, h => by
    cases q : H a with
    | none => simp [atV, q] at h
    | some o =>
      cases q2 : valsO o with
      | none => simp [atV, q, q2] at h
      | some vs =>
        cases q3 : vs[j]? with
        | none => simp [atV, q, q2, q3] at h
        | some y =>
          have h' : atV H y π = some w := by simpa [atV, q, q2, q3] using h
          have := atV_mono x h'
          simpa [atV, (x a o q).is (vals_nt q2), q2, q3] using this
  | j :: π, .non, w, h => by cases h
  | j :: π, .bl _, w, h => by cases h
  | j :: π, .int _, w, h => by cases h
  | j :: π, .str _, w, h => by cases h
  | j :: π, .byt _, w, h => by cases h
  | j :: π, .flt _, w, h => by cases h
  | j :: π, .ty _, w, h => by cases h
/-- the node at a place is written, its footprint kept -/
theorem owns_set {q : Addr} {o' : HO} : ∀ {vs : List V} {ts : List T} {f : List Addr} {j : Nat} {u u' : T}, Owns mg N G H vs ts f → f.Nodup → kdTs ts ≤ 1 → ts[j]? = some u →
    (∀ w g, vs[j]? = some w → Own mg N G H w u g → g.Nodup → q ∈ g ∧ Own mg N G (upd H q o') w u' g) → Owns mg N G (upd H q o') vs (ts.set j u') f ∧ q ∈ f
  | _, _, _, j, u, u', .nil, _, _, h, _ => by simp at h
  | _, _, _, 0, u, u', .cons (f := f) o r, nd, hk, h, hq => by
    cases Option.some.inj h
    have nd' := List.nodup_append.mp nd
    obtain ⟨a, b⟩ := hq _ f rfl o nd'.1
    exact ⟨.cons b (r.off (fun m => nd'.2.2 q a q m rfl) (by simp only [kdTs] at hk; omega)), List.mem_append_left _ a⟩
  | _, _, _, j + 1, u, u', .cons (f := f) o r, nd, hk, h, hq => by
    have nd' := List.nodup_append.mp nd
    obtain ⟨a, b⟩ := owns_set (j := j) (u := u) r nd'.2.1 (by simp only [kdTs] at hk; omega) (by simpa using h) (fun w g e => hq w g (by simpa using e))
    exact ⟨.cons (o.off (fun m => nd'.2.2 q m q b rfl) (by simp only [kdTs] at hk; omega)) a, List.mem_append_right _ b⟩
theorem kid_le : ∀ {ts : List T} {j : Nat} {u : T}, ts[j]? = some u → kdT u ≤ kdTs ts
  | [], j, u, h => by simp at h
  | t :: ts, 0, u, h => by
    cases Option.some.inj h
    show kdT t ≤ max (kdT t) (kdTs ts)
    omega
  | t :: ts, j + 1, u, h => by
    have := kid_le (ts := ts) (j := j) (u := u) (by simpa using h)
    show kdT u ≤ max (kdT t) (kdTs ts)
    omega
theorem kds_kids {t : T} {ts : List T} (h : kids t = some ts) : kdT t = kdTs ts := by
  cases t <;> cases h <;> rfl
theorem kds_set : ∀ {ts : List T} {j : Nat} {u : T} {n : Nat}, kdTs ts ≤ n → kdT u ≤ n → kdTs (ts.set j u) ≤ n
  | [], j, u, n, h, _ => by simpa using h
  | t :: ts, 0, u, n, h, h2 => by
    show max (kdT u) (kdTs ts) ≤ n
    simp only [kdTs] at h
    omega
  | t :: ts, j + 1, u, n, h, h2 => by
    have := kds_set (ts := ts) (j := j) (u := u) (n := n) (by simp only [kdTs] at h; omega) h2
    show max (kdT t) (kdTs (ts.set j u)) ≤ n
    simp only [kdTs] at h
    omega
theorem kd_with {t : T} {ts us : List T} (h : kids t = some ts) : kdT (withKids t us) = kdTs us := by
  cases t <;> cases h <;> rfl
theorem kd_setP : ∀ {π : List Nat} {t u : T} {n : Nat}, kdT t ≤ n → kdT u ≤ n → kdT (setP t π u) ≤ n
  | [], t, u, n, _, h => h
  | j :: π, t, u, n, h, h2 => by
    cases hk : kids t with
    | none => simpa [setP, hk] using h
    | some ts =>
      cases hj : ts[j]? with
      | none => simpa [setP, hk, hj] using h
      | some x =>
        have e : setP t (j :: π) u = withKids t (ts.set j (setP x π u)) := by simp [setP, hk, hj]
        rw [e, kd_with hk]
        rw [kds_kids hk] at h
        exact kds_set h (kd_setP (Nat.le_trans (kid_le hj) h) h2)
theorem hd_ne {a q : Addr} {g : List Addr} (nd : (a :: g).Nodup) (b : q ∈ g) : a ≠ q := fun z => by
  rw [z] at nd
  exact (List.nodup_cons.mp nd).1 b
theorem own_upd {q : Addr} {o' : HO} {u' : T} : ∀ {π : List Nat} {v : V} {t u : T} {f : List Addr}, Own mg N G H v t f → f.Nodup → kdT t ≤ 1 → getP t π = some u → atV H v π = some (.ref q) →
    (∀ g, Own mg N G H (.ref q) u g → q ∈ g ∧ Own mg N G (upd H q o') (.ref q) u' g) → Own mg N G (upd H q o') v (setP t π u') f ∧ q ∈ f
  | [], v, t, u, f, o, nd, hk, h, ha, hu => by
    cases Option.some.inj h
    have : v = .ref q := by
      cases v <;> exact Option.some.inj ha
    rw [this] at o ⊢
    exact ⟨(hu f o).2, (hu f o).1⟩
  | j :: π, v, t, u, f, o, nd, hk, h, ha, hu => by
    cases hki : kids t with
    | none => simp [getP, hki] at h
    | some ts =>
      cases hj : ts[j]? with
      | none => simp [getP, hki, hj] at h
      | some x =>
        have h' : getP x π = some u := by simpa [getP, hki, hj] using h
        have e : setP t (j :: π) u' = withKids t (ts.set j (setP x π u')) := by simp [setP, hki, hj]
        rw [e]
        have hkk := kds_kids hki
        have step : ∀ {a : Addr} {ob : HO} {vs : List V} {g : List Addr}, H a = some ob → valsO ob = some vs → Owns mg N G H vs ts g → v = .ref a → (a :: g).Nodup → Owns mg N G (upd H q o') vs (ts.set j (setP x π u')) g ∧ q ∈ g := fun {a ob vs g} h1 h2 os ev ndg => by
          subst ev
          refine owns_set os (List.nodup_cons.mp ndg).2 (by omega) hj fun w g1 hw ow ng => ?_
          have hat : atV H w π = some (.ref q) := by simpa [atV, h1, h2, hw] using ha
          exact (own_upd ow ng (Nat.le_trans (kid_le hj) (by omega)) h' hat hu).symm
        cases o with
        | leaf _ => cases hki
        | dtt _ => cases hki
        | lst h1 os =>
          cases hki
          obtain ⟨a, b⟩ := step h1 rfl os rfl nd
          exact ⟨.lst (by rw [upd_ne (hd_ne nd b)]; exact h1) a, List.mem_cons_of_mem _ b⟩
        | tup h1 os =>
          cases hki
          obtain ⟨a, b⟩ := step h1 rfl os rfl nd
          exact ⟨.tup (by rw [upd_ne (hd_ne nd b)]; exact h1) a, List.mem_cons_of_mem _ b⟩
        | ins m h1 l os =>
          cases hki
          obtain ⟨a, b⟩ := step h1 (congrArg some (zip_snd l)) os rfl nd
          exact ⟨.ins m (by rw [upd_ne (hd_ne nd b)]; exact h1) l a, List.mem_cons_of_mem _ b⟩

/-! ### paths -/
def Pp (mg : Str → Option Value) (E : XK) (G H : Hp) (σ : L2.St) (Q : VK) : Re (Nat × List Nat) → Prop
  | .no => False
  | .er c => Er mg E G H c
  | .ok q => ∀ v w G' H', Grow G H G' H' → σ[q.1]? = some (some v) → atV H' v q.2 = some w → Q w H'
def SP (mg : Str → Option Value) (E : XK) (te : TE) (fp : FP) : Prop := ∀ H0 G H σ e f Q, Stt mg H0 G H σ e f → Pp mg E G H σ Q (fp e) → te σ H Q
theorem slot_own {i : Nat} {π : List Nat} {u : T} (st : Stt mg H0 G H σ e fp) (h : slotP e i π = some u) : ∃ v t f w g, e[i]? = some (some t) ∧ getP t π = some u ∧ σ[i]? = some (some v) ∧ Own mg (nw H0 G) G H v t f ∧ kdT t ≤ 1 ∧ f.Nodup ∧ (∀ p ∈ f, p ∈ fp) ∧
    atV H v π = some w ∧ Own mg (nw H0 G) G H w u g := by
  unfold slotP at h
  cases q : e[i]? with
  | none => rw [q] at h; cases h
  | some x =>
    cases x with
    | none => rw [q] at h; cases h
    | some t =>
      rw [q] at h
      obtain ⟨v, f, e1, o, k, sub, nd⟩ := st.sl.get q
      obtain ⟨w, g, hw, ow, _⟩ := own_at o h
      exact ⟨v, t, f, w, g, rfl, h, e1, o, k, nd st.nd, sub, hw, ow⟩
theorem sp_s (i : Nat) : SP mg E (tVar i) (pS i) := by
  intro H0 G H σ e f Q st h
  unfold pS at h
  cases q : e[i]? with
  | none => rw [q] at h; exact h.elim
  | some x =>
    cases x with
    | none => rw [q] at h; exact h.elim
    | some t =>
      rw [q] at h
      obtain ⟨v, f, e1, o, k, sub, nd⟩ := st.sl.get q
      exact ⟨v, e1, h v v G H (Grow.refl st.gh) e1 (by cases v <;> rfl)⟩
theorem getP_app : ∀ {π ρ : List Nat} {t u : T}, getP t π = some u → getP t (π ++ ρ) = getP u ρ
  | [], ρ, t, u, h => by
    cases Option.some.inj h
    rfl
  | j :: π, ρ, t, u, h => by
    cases hk : kids t with
    | none => simp [getP, hk] at h
    | some ts =>
      cases hj : ts[j]? with
      | none => simp [getP, hk, hj] at h
      | some x =>
        have h' : getP x π = some u := by simpa [getP, hk, hj] using h
        have := getP_app (ρ := ρ) h'
        simpa [getP, hk, hj] using this
theorem atV_app : ∀ {π ρ : List Nat} {v w : V}, atV H v π = some w → atV H v (π ++ ρ) = atV H w ρ
  | [], ρ, v, w, h => by
    have : v = w := by
      cases v <;> exact Option.some.inj h
    rw [this]
    rfl
  | j :: π, ρ, .ref a, w, h => by
    cases q : H a with
    | none => simp [atV, q] at h
    | some o =>
      cases q2 : valsO o with
      | none => simp [atV, q, q2] at h
      | some vs =>
        cases q3 : vs[j]? with
        | none => simp [atV, q, q2, q3] at h
        | some y =>
          have h' : atV H y π = some w := by simpa [atV, q, q2, q3] using h
          have := atV_app (ρ := ρ) h'
          simpa [atV, q, q2, q3] using this
  | j :: π, ρ, .non, w, h => by cases h
  | j :: π, ρ, .bl _, w, h => by cases h
  | j :: π, ρ, .int _, w, h => by cases h
  | j :: π, ρ, .str _, w, h => by cases h
  | j :: π, ρ, .byt _, w, h => by cases h
  | j :: π, ρ, .flt _, w, h => by cases h
  | j :: π, ρ, .ty _, w, h => by cases h
/-- e.f of an instance, its value -/
theorem idx_lookup : ∀ {ns : List Str} {vs : List V} {f : Str} {j : Nat}, idxS f ns = some j → ns.length = vs.length → ∃ w, vs[j]? = some w ∧ (ns.zip vs).lookup f = some w
  | [], vs, f, j, h, l => by cases h
  | n :: ns, [], f, j, h, l => by cases l
  | n :: ns, v :: vs, f, j, h, l => by
    by_cases hn : n = f
    · have hj : j = 0 := by
        simp [idxS, hn] at h
        exact h.symm
      subst hj
      refine ⟨v, rfl, ?_⟩
      have hb : (f == n) = true := beq_iff_eq.mpr hn.symm
      show (match f == n with | true => some v | false => List.lookup f (ns.zip vs)) = some v
      rw [hb]
    · cases q : idxS f ns with
      | none => simp [idxS, hn, q] at h
      | some i =>
        have hj : i + 1 = j := by simpa [idxS, hn, q] using h
        subst hj
        obtain ⟨w, h1, h2⟩ := idx_lookup q (by simpa using l)
        refine ⟨w, by simpa using h1, ?_⟩
        have hb : (f == n) = false := beq_eq_false_iff_ne.mpr (Ne.symm hn)
        show (match f == n with | true => some v | false => List.lookup f (ns.zip vs)) = some w
        rw [hb]
        exact h2
theorem idx_none : ∀ {ns : List Str} {vs : List V} {f : Str}, idxS f ns = none → f ∉ ns ∧ (ns.zip vs).lookup f = none
  | [], vs, f, h => ⟨fun m => (nomatch m), rfl⟩
  | n :: ns, [], f, h => by
    by_cases hn : n = f
    · simp [idxS, hn] at h
    · have q : idxS f ns = none := by
        cases q : idxS f ns with
        | none => rfl
        | some i => simp [idxS, hn, q] at h
      obtain ⟨h1, _⟩ := idx_none (vs := []) q
      exact ⟨fun m => (List.mem_cons.mp m).elim (fun z => hn z.symm) h1, rfl⟩
  | n :: ns, v :: vs, f, h => by
    by_cases hn : n = f
    · simp [idxS, hn] at h
    · have q : idxS f ns = none := by
        cases q : idxS f ns with
        | none => rfl
        | some i => simp [idxS, hn, q] at h
      obtain ⟨h1, h2⟩ := idx_none (vs := vs) q
      refine ⟨fun m => (List.mem_cons.mp m).elim (fun z => hn z.symm) h1, ?_⟩
      have hb : (f == n) = false := beq_eq_false_iff_ne.mpr (Ne.symm hn)
      show (match f == n with | true => some v | false => List.lookup f (ns.zip vs)) = none
      rw [hb]
      exact h2
/-- what is known of a class's attribute -/
structure FldOk (K : PySem.W.Frag) (mg : Str → Option Value) (c f : Str) : Prop where
  ok : ∀ C, mg c = some (.ref C) → Cls K C ∧ NoAttr K C f
theorem sp_f {c f : Str} {te : TE} {p : FP} (F : FldOk K mg c f) (h : SP mg E te p) : SP mg E (tFld K te f) (pF c f p) := by
  intro H0 G H σ e fp Q st hh
  refine h H0 G H σ e fp _ st ?_
  unfold pF at hh
  cases q : p e with
  | no => rw [q] at hh; exact hh.elim
  | er c => rw [q] at hh; exact hh
  | ok r =>
    rw [q] at hh
    have h' : Pp mg E G H σ Q (match slotP e r.1 r.2 with
      | some (.ins c' ns _) => if c' = c then match idxS f ns with
        | some j => .ok (r.1, r.2 ++ [j])
        | none => .no
        else .no
      | _ => .no) := hh
    intro v w G1 H1 g hv hw
    split at h'
    · rename_i c' ns ts hs
      split at h'
      · rename_i hc
        subst hc
        split at h'
        · rename_i j hj
          obtain ⟨v', t, f1, w', g1, e1, e2, e3, o, k, nd, sub, hw', ow⟩ := slot_own (st.grow g) hs
          rw [hv] at e3
          cases e3
          rw [hw] at hw'
          cases hw'
          cases ow with
          | @ins a C dx _ _ vs _ fp m ha l os =>
            obtain ⟨x, hx, hl⟩ := idx_lookup hj l
            obtain ⟨cl, na⟩ := F.ok C m
            refine ⟨a, C, dx, _, x, rfl, ha, cl, na, hl, h' v x G1 H1 g hv ?_⟩
            rw [atV_app hw, at_cons ha (congrArg some (zip_snd l)) hx]
            cases x <;> rfl
        · exact h'.elim
      · exact h'.elim
    · exact h'.elim
theorem ix_eq (n : Nat) (i : Int) : ixD n i = ixN n i := rfl
theorem sp_i {ta tb : TE} {p : FP} {fb : FE} (h : SP mg E ta p) (hb : SE mg E tb fb) : SP mg E (tOp (rIx K) ta tb) (pI fb p) := by
  intro H0 G H σ e fp Q st hh
  refine h H0 G H σ e fp _ st ?_
  unfold pI at hh
  cases q : p e with
  | no => rw [q] at hh; exact hh.elim
  | er c => rw [q] at hh; exact hh
  | ok r =>
    rw [q] at hh
    have h1 : Pp mg E G H σ Q ((fb e).bind fun u => match slotP e r.1 r.2, datT u with
      | some (.lst ts), .int k => match ixD ts.length k with
        | some j => .ok (r.1, r.2 ++ [j])
        | none => .no
      | some (.tup ts), .int k => match ixD ts.length k with
        | some j => .ok (r.1, r.2 ++ [j])
        | none => .no
      | _, _ => .no) := hh
    intro v w G1 H1 g hv hw
    refine hb H0 G1 H1 σ e fp _ (st.grow g) ?_
    cases q2 : fb e with
    | no => rw [q2] at h1; exact h1.elim
    | er c => rw [q2] at h1; exact Er.grow h1 g
    | ok u =>
      rw [q2] at h1
      have h2 : Pp mg E G H σ Q (match slotP e r.1 r.2, datT u with
        | some (.lst ts), .int k => match ixD ts.length k with
          | some j => .ok (r.1, r.2 ++ [j])
          | none => .no
        | some (.tup ts), .int k => match ixD ts.length k with
          | some j => .ok (r.1, r.2 ++ [j])
          | none => .no
        | _, _ => .no) := h1
      intro z G2 H2 f2 g2 o2 r2
      have rz := o2.now nw_sub g2.gh
      have hw2 := atV_mono g2.hh hw
      split at h2
      · rename_i ts k hs hk
        rw [hk] at rz
        cases rz
        split at h2
        · rename_i j hj
          obtain ⟨v', t, f1, w', g1, e1, e2, e3, o, kk, nd, sub, hw', ow⟩ := slot_own ((st.grow g).grow g2) hs
          rw [hv] at e3
          cases e3
          rw [hw2] at hw'
          cases hw'
          cases ow with
          | @lst a vs _ fp ha os =>
            have hl := os.length
            rw [← hl] at hj
            have hjl := (ixN_seq hj).2.1
            have hx : vs[j]? = some vs[j] := List.getElem?_eq_getElem hjl
            refine .inl ⟨a, vs, k, vs[j], rfl, rfl, .of ha, ?_, h2 v vs[j] G2 H2 (g.trans g2) hv ?_⟩
            · unfold atI
              rw [show ixN vs.length k = some j from hj]
              exact hx
            · rw [atV_app hw2, at_cons ha rfl hx]
              cases vs[j] <;> rfl
        · exact h2.elim
      · rename_i ts k hs hk
        rw [hk] at rz
        cases rz
        split at h2
        · rename_i j hj
          obtain ⟨v', t, f1, w', g1, e1, e2, e3, o, kk, nd, sub, hw', ow⟩ := slot_own ((st.grow g).grow g2) hs
          rw [hv] at e3
          cases e3
          rw [hw2] at hw'
          cases hw'
          cases ow with
          | @tup a vs _ fp ha os =>
            have hl := os.length
            rw [← hl] at hj
            have hjl := (ixN_seq hj).2.1
            have hx : vs[j]? = some vs[j] := List.getElem?_eq_getElem hjl
            refine .inr (.inl ⟨a, vs, k, vs[j], rfl, rfl, .of ha, ?_, h2 v vs[j] G2 H2 (g.trans g2) hv ?_⟩)
            · unfold atI
              rw [show ixN vs.length k = some j from hj]
              exact hx
            · rw [atV_app hw2, at_cons ha rfl hx]
              cases vs[j] <;> rfl
        · exact h2.elim
      · exact h2.elim

/-! ### methods that change a list -/
/-- leaves that stay, whatever is written -/
structure Lf (mg : Str → Option Value) (N G H : Hp) (vs : List V) (ts : List T) : Prop where
  ow : Owns mg N G H vs ts []
  lf : leafs ts = true
  kd : kdTs ts ≤ 1
theorem leafs_own : ∀ {vs : List V} {ts : List T} {f : List Addr}, Owns mg N G H vs ts f → leafs ts = true → Owns mg N G H vs ts [] ∧ f = []
  | _, _, _, .nil, _ => ⟨.nil, rfl⟩
  | _, _, _, .cons (t := t) (ts := tr) o r, h => by
    have h' : isLeaf t = true ∧ leafs tr = true := by
      unfold leafs at h
      rw [List.all_cons, Bool.and_eq_true] at h
      exact h
    cases t with
    | leaf k d =>
      cases o with
      | leaf q =>
        obtain ⟨a, b⟩ := leafs_own r h'.2
        subst b
        exact ⟨Owns.cons (f := []) (fs := []) (Own.leaf q) a, rfl⟩
    | lst _ => exact absurd h'.1 Bool.false_ne_true
    | tup _ => exact absurd h'.1 Bool.false_ne_true
    | ins _ _ _ => exact absurd h'.1 Bool.false_ne_true
    | dtt _ => exact absurd h'.1 Bool.false_ne_true
theorem Lf.off {q : Addr} {o : HO} {vs : List V} {ts : List T} (h : Lf mg N G H vs ts) : Lf mg N G (upd H q o) vs ts := ⟨h.ow.off (fun m => nomatch m) h.kd, h.lf, h.kd⟩
def RM (mg : Str → Option Value) (r : V → List V → Hp → VK → Prop) (m : MO) : Prop := ∀ N G H q vs ts ws us ts' u, Ex N G → Ex G H → H q = some (.lst vs) → Lf mg N G H vs ts → Lf mg N G H ws us → m ts us = some (ts', u) →
  ∃ vs' v, Lf mg N G H vs' ts' ∧ Lf mg N G H [v] [u] ∧ ∀ Q : VK, Q v (upd H q (.lst vs')) → r (.ref q) ws H Q
theorem leafs_mk (k : Nat) : ∀ ds : List Dat, leafs (ds.map (mk k)) = true
  | [] => rfl
  | d :: ds => by
    show (isLeaf (mk k d) && leafs (ds.map (mk k))) = true
    rw [leafs_mk k ds]
    rfl
theorem lf_mk {k : Nat} {vs : List V} {ds : List Dat} (hk1 : k ≤ 1) (h : Rs mg (hk N G H k) vs ds) : Lf mg N G H vs (ds.map (mk k)) := ⟨owns_mk h, leafs_mk k ds, Nat.le_trans (kds_mk k ds) hk1⟩
/-- the state behind such a method -/
theorem mut_core {m : MO} {q : Nat × List Nat} {us : List T} {e' : Env} {u : T} {v w : V} (st : Stt mg H0 G H σ e fp) (hv : σ[q.1]? = some (some v)) (hw : atV H v q.2 = some w) (h : mutE m e q us = some (e', u)) :
    ∃ a vs ts ts', w = .ref a ∧ H a = some (.lst vs) ∧ slotP e q.1 q.2 = some (.lst ts) ∧ Lf mg (nw H0 G) G H vs ts ∧ kdTs us ≤ 1 ∧ m ts ((datTs us).map (mk (kdTs us))) = some (ts', u) ∧
      ∀ vs', Lf mg (nw H0 G) G H vs' ts' → Stt mg H0 G (upd H a (.lst vs')) σ e' fp := by
  unfold mutE at h
  cases q1 : e[q.1]? with
  | none => rw [q1] at h; cases h
  | some y =>
    cases y with
    | none => rw [q1] at h; cases h
    | some t =>
      rw [q1] at h
      have h1 : (match getP t q.2 with
        | some (.lst ts) => if leafs ts = true ∧ kdTs us ≤ 1 then match m ts ((datTs us).map (mk (kdTs us))) with
          | some (ts', u) => some (e.set q.1 (some (setP t q.2 (.lst ts'))), u)
          | none => none
          else none
        | _ => none) = some (e', u) := h
      split at h1
      · rename_i ts hg
        split at h1
        · rename_i hc
          split at h1
          · rename_i ts' u' hm
            cases h1
            have hsl : slotP e q.1 q.2 = some (.lst ts) := by
              unfold slotP
              rw [q1]
              exact hg
            obtain ⟨v', t2, f, w', g, e1, e2, e3, o, k, nd, sub, hw', ow⟩ := slot_own (i := q.1) (π := q.2) (u := .lst ts) st hsl
            rw [hv] at e3
            cases e3
            rw [hw] at hw'
            cases hw'
            rw [q1] at e1
            cases e1
            cases ow with
            | @lst a vs _ fpl ha os =>
              obtain ⟨o0, e0⟩ := leafs_own os hc.1
              have kts : kdTs ts ≤ 1 := by
                have : kdT (T.lst ts) ≤ kdT t := kd_get hg
                simp only [kdT] at this ⊢
                omega
              refine ⟨a, vs, ts, ts', rfl, ha, hsl, ⟨o0, hc.1, kts⟩, hc.2, hm, fun vs' l1 => ?_⟩
              have hS := st.sl.mut (p := a) (o := .lst vs') (i := q.1) (t := t) (t' := setP t q.2 (.lst ts')) st.nd q1 (kd_setP k (by simp only [kdT]; exact l1.kd)) fun v2 f2 ev ov ndf => by
                rw [hv] at ev
                cases ev
                obtain ⟨b1, b2⟩ := own_upd (q := a) (o' := .lst vs') (u' := .lst ts') ov ndf k hg hw fun g2 og => by
                  cases og with
                  | lst ha2 os2 =>
                    rw [ha] at ha2
                    cases ha2
                    obtain ⟨_, e5⟩ := leafs_own os2 hc.1
                    subst e5
                    exact ⟨List.mem_cons_self, .lst upd_same l1.off.ow⟩
                exact ⟨b2, b1⟩
              have hGa : G a = none := by
                obtain ⟨b1, b2⟩ := own_upd (q := a) (o' := .lst vs') (u' := .lst ts') o nd k hg hw fun g2 og => by
                  cases og with
                  | lst ha2 os2 =>
                    rw [ha] at ha2
                    cases ha2
                    obtain ⟨_, e5⟩ := leafs_own os2 hc.1
                    subst e5
                    exact ⟨List.mem_cons_self, .lst upd_same l1.off.ow⟩
                exact st.out a (sub a b2)
              exact ⟨st.tb.trans (TB.upd ha), st.h0, fun p u hp => by
                rw [upd_ne fun z => by rw [z, hGa] at hp; cases hp]
                exact st.gh p u hp, hS, st.nd, st.out⟩
          · cases h1
        · cases h1
      · cases h1
where
  kd_get : ∀ {π : List Nat} {t u : T}, getP t π = some u → kdT u ≤ kdT t
    | [], t, u, h => by
      cases Option.some.inj h
      exact Nat.le_refl _
    | j :: π, t, u, h => by
      cases hk : kids t with
      | none => simp [getP, hk] at h
      | some ts =>
        cases hj : ts[j]? with
        | none => simp [getP, hk, hj] at h
        | some x =>
          have h' : getP x π = some u := by simpa [getP, hk, hj] using h
          have := kd_get h'
          have := kid_le hj
          rw [kds_kids hk]
          omega
theorem mut_st {m : MO} {q : Nat × List Nat} {us : List T} {e' : Env} {u : T} {v w : V} {ws : List V} {r : V → List V → Hp → VK → Prop} (st : Stt mg H0 G H σ e fp) (hr : RM mg r m) (hv : σ[q.1]? = some (some v)) (hw : atV H v q.2 = some w)
    (hu : kdTs us ≤ 1 → Lf mg (nw H0 G) G H ws ((datTs us).map (mk (kdTs us)))) (h : mutE m e q us = some (e', u)) :
    ∃ a vs, w = .ref a ∧ H a = some (.lst vs) ∧ ∃ vs' x, (Stt mg H0 G (upd H a (.lst vs')) σ e' fp) ∧ Lf mg (nw H0 G) G (upd H a (.lst vs')) [x] [u] ∧ ∀ Q : VK, Q x (upd H a (.lst vs')) → r (.ref a) ws H Q := by
  obtain ⟨a, vs, ts, ts', rfl, ha, _, l, ku, hm, hst⟩ := mut_core st hv hw h
  obtain ⟨vs', x, l1, l2, hq⟩ := hr _ _ H a vs ts ws _ ts' u nw_sub st.gh ha l (hu ku) hm
  exact ⟨a, vs, rfl, ha, vs', x, hst vs' l1, l2.off, hq⟩
end
end LS

/-! LH: statements that change lists, items, attributes; objects made; methods. -/
namespace LS
open PySem PySem.Spec
open PyProof.Rows L2
variable [TabI]
section
variable {mg : Str → Option Value} {E : XK} {K : PySem.W.Frag} {N H0 G H G' H' : Hp} {σ : L2.St} {e : Env} {fp : List Addr} {D : Ends}
theorem lf_args {G2 : Hp} {vs : List V} {us : List T} (h : Rs mg (hk (nw H0 G2) G2 H (kdTs us)) vs (datTs us)) : kdTs us ≤ 1 → Lf mg (nw H0 G2) G2 H vs ((datTs us).map (mk (kdTs us))) := fun k => lf_mk k h
def Pm (mg : Str → Option Value) (E : XK) (H0 G H : Hp) (σ : L2.St) (fp : List Addr) (Q : VK) : Re (Env × T) → Prop
  | .no => False
  | .er c => Er mg E G H c
  | .ok z => ∀ G3 H3 x, Ex G G3 → Stt mg H0 G3 H3 σ z.1 fp → Lf mg (nw H0 G3) G3 H3 [x] [z.2] → Q x H3
theorem lf_own {N G H : Hp} {v : V} {t : T} (h : Lf mg N G H [v] [t]) : Own mg N G H v t [] := by
  have ow := h.ow
  generalize hfs : ([] : List Addr) = fs at ow
  cases ow with
  | @cons _ _ _ _ f fs o r =>
    cases r
    rw [List.append_nil]
    exact o
section
variable {r : V → List V → Hp → VK → Prop} {m : MO} {to : TE} {p : FP} {ta : TA} {fa : FA}
/-- what stands ahead of a changing method's own step -/
theorem mut_go {Q : VK} (hr : RM mg r m) (ho : SP mg E to p) (ha : SA mg E ta fa) (st : Stt mg H0 G H σ e fp) (h : Pm mg E H0 G H σ fp Q (mutR p m fa e)) : tBM K "list" r to ta σ H Q := by
  refine ho H0 G H σ e fp _ st ?_
  unfold mutR at h
  cases q1 : p e with
  | no => rw [q1] at h; exact h.elim
  | er c => rw [q1] at h; exact h
  | ok q =>
    rw [q1] at h
    have h1 : Pm mg E H0 G H σ fp Q (match slotP e q.1 q.2 with
      | some (.lst _) => (fa e).bind fun us => ofO (mutE m e q us)
      | _ => .no) := h
    intro v w G1 H1 g hv hw
    split at h1
    · rename_i ts hs
      obtain ⟨v', t2, f, w', g4, e1, e2, e3, o, k, nd, sub, hw', ow⟩ := slot_own (st.grow g) hs
      rw [hv] at e3
      cases e3
      rw [hw] at hw'
      cases hw'
      cases ow with
      | lst hl os =>
        refine ⟨.inl ⟨rfl, _, .of hl⟩, ha H0 G1 H1 σ e fp _ (st.grow g) ?_⟩
        cases q2 : fa e with
        | no => rw [q2] at h1; exact h1.elim
        | er c => rw [q2] at h1; exact Er.grow h1 g
        | ok us =>
          rw [q2] at h1
          have h2 : Pm mg E H0 G H σ fp Q (ofO (mutE m e q us)) := h1
          cases q3 : mutE m e q us with
          | none => rw [q3] at h2; exact h2.elim
          | some z =>
            rw [q3] at h2
            intro vs G2 H2 f g2 o fr
            obtain ⟨G3, g3, rs⟩ := frzs (st.h0.trans g.gg) g.gh g2 o fr
            obtain ⟨a, vs0, ea, hl, vs', x, st', lx, hq⟩ := mut_st ((st.grow g).grow g3) hr hv (atV_mono g3.hh hw) (lf_args rs) q3
            cases ea
            exact hq Q (h2 G3 _ x (g.gg.trans g3.gg) st' lx)
    · exact h1.elim
theorem mut_go0 {Q : VK} (hr : RM mg r m) (ho : SP mg E to p) (st : Stt mg H0 G H σ e fp) (h : Pm mg E H0 G H σ fp Q (mutR p m fA0 e)) : tBM0 K "list" r to σ H Q := by
  refine ho H0 G H σ e fp _ st ?_
  unfold mutR at h
  cases q1 : p e with
  | no => rw [q1] at h; exact h.elim
  | er c => rw [q1] at h; exact h
  | ok q =>
    rw [q1] at h
    have h1 : Pm mg E H0 G H σ fp Q (match slotP e q.1 q.2 with
      | some (.lst _) => ofO (mutE m e q [])
      | _ => .no) := h
    intro v w G1 H1 g hv hw
    split at h1
    · rename_i ts hs
      obtain ⟨v', t2, f, w', g4, e1, e2, e3, o, k, nd, sub, hw', ow⟩ := slot_own (st.grow g) hs
      rw [hv] at e3
      cases e3
      rw [hw] at hw'
      cases hw'
      cases ow with
      | lst hl os =>
        refine ⟨.inl ⟨rfl, _, .of hl⟩, ?_⟩
        cases q3 : mutE m e q [] with
        | none => rw [q3] at h1; exact h1.elim
        | some z =>
          rw [q3] at h1
          obtain ⟨a, vs0, ea, hl, vs', x, st', lx, hq⟩ := mut_st (ws := []) (st.grow g) hr hv hw (fun _ => ⟨.nil, rfl, Nat.zero_le _⟩) q3
          cases ea
          exact hq Q (h1 G1 _ x g.gg st' lx)
    · exact h1.elim
theorem pm_of {Q : VK} {fg : Env × T → Re Out} {x : Re (Env × T)} (st : Stt mg H0 G H σ e fp) (h : Ps mg E H0 G D (x.bind fg)) (hq : ∀ z, x = .ok z → Ps mg E H0 G D (fg z) → ∀ G3 H3 x, Ex G G3 → Stt mg H0 G3 H3 σ z.1 fp → Lf mg (nw H0 G3) G3 H3 [x] [z.2] → Q x H3) :
    Pm mg E H0 G H σ fp Q x := by
  cases x with
  | no => exact h
  | er c => exact er_of st h
  | ok z => exact hq z rfl h
theorem s_mut (hr : RM mg r m) (ho : SP mg E to p) (ha : SA mg E ta fa) : SS mg E (tDrop (tBM K "list" r to ta)) (sMut p m fa) := fun H0 G H σ e fp D st h =>
  mut_go hr ho ha st (pm_of (fg := fun z => .ok (.nx z.1)) st h fun z _ hz G3 H3 x eg st' _ => hz σ G3 H3 fp eg st')
theorem s_mut0 (hr : RM mg r m) (ho : SP mg E to p) : SS mg E (tDrop (tBM0 K "list" r to)) (sMut p m fA0) := fun H0 G H σ e fp D st h =>
  mut_go0 hr ho st (pm_of (fg := fun z => .ok (.nx z.1)) st h fun z _ hz G3 H3 x eg st' _ => hz σ G3 H3 fp eg st')
theorem asg_mut {js : List Nat} {tg : TG} {fg : FG} {z : Env × T} {x : V} {G3 H3 : Hp} (hg : SG mg js tg fg) (hx : ∀ t e x, fg t e ≠ .er x) (eg : Ex G G3) (st : Stt mg H0 G3 H3 σ z.1 fp) (lx : Lf mg (nw H0 G3) G3 H3 [x] [z.2])
    (h : Ps mg E H0 G D ((fg z.2 z.1).bind fun e2 => .ok (.nx e2))) : tg x σ H3 D.nx := by
  have o := lf_own lx
  refine hg H0 G3 H3 σ z.1 fp x z.2 [] _ st o List.nodup_nil (fun p hp => nomatch hp) ?_
  cases q : fg z.2 z.1 with
  | no => rw [q] at h; exact h.elim
  | er c => exact (hx _ _ _ q).elim
  | ok e2 =>
    rw [q] at h
    exact fun σ' fp' st' _ _ => h σ' G3 H3 fp' eg st'
theorem s_mutG {js : List Nat} {tg : TG} {fg : FG} (hr : RM mg r m) (ho : SP mg E to p) (ha : SA mg E ta fa) (hg : SG mg js tg fg) (hx : ∀ t e x, fg t e ≠ .er x) : SS mg E (tAsg (tBM K "list" r to ta) tg) (sMutG p m fa fg) := fun H0 G H σ e fp D st h =>
  mut_go hr ho ha st (pm_of (fg := fun z => (fg z.2 z.1).bind fun e2 => .ok (.nx e2)) st h fun z _ hz G3 H3 x eg st' lx => asg_mut hg hx eg st' lx hz)
theorem s_mutG0 {js : List Nat} {tg : TG} {fg : FG} (hr : RM mg r m) (ho : SP mg E to p) (hg : SG mg js tg fg) (hx : ∀ t e x, fg t e ≠ .er x) : SS mg E (tAsg (tBM0 K "list" r to) tg) (sMutG p m fA0 fg) := fun H0 G H σ e fp D st h =>
  mut_go0 hr ho st (pm_of (fg := fun z => (fg z.2 z.1).bind fun e2 => .ok (.nx e2)) st h fun z _ hz G3 H3 x eg st' lx => asg_mut hg hx eg st' lx hz)
end

/-! ### the methods themselves -/
theorem lf_len {N G H : Hp} {vs : List V} {ts : List T} (h : Lf mg N G H vs ts) : vs.length = ts.length := h.ow.length
theorem lf_app {N G H : Hp} {vs ws : List V} {ts us : List T} (h : Lf mg N G H vs ts) (h2 : Lf mg N G H ws us) : Lf mg N G H (vs ++ ws) (ts ++ us) := ⟨by
  have := owns_app h.ow h2.ow
  exact this, by
  unfold leafs
  rw [List.all_append, Bool.and_eq_true]
  exact ⟨h.lf, h2.lf⟩, by rw [kds_app]; exact Nat.max_le.mpr ⟨h.kd, h2.kd⟩⟩
theorem lf_nil {N G H : Hp} : Lf mg N G H [] [] := ⟨.nil, rfl, Nat.zero_le _⟩
theorem lf_tN {N G H : Hp} : Lf mg N G H [V.non] [tN] := ⟨.cons (f := []) (fs := []) (.leaf .non) .nil, rfl, Nat.le_succ 0⟩
theorem lf_cons {N G H : Hp} {v : V} {vs : List V} {t : T} {ts : List T} (h : Lf mg N G H (v :: vs) (t :: ts)) : Lf mg N G H [v] [t] ∧ Lf mg N G H vs ts := by
  have h1 : isLeaf t = true ∧ leafs ts = true := by
    have := h.lf
    unfold leafs at this
    rw [List.all_cons, Bool.and_eq_true] at this
    exact this
  have hk := h.kd
  simp only [kdTs] at hk
  have ow := h.ow
  generalize hfs : ([] : List Addr) = fs at ow
  cases ow with
  | @cons _ _ _ _ f fs o r =>
    have e := List.append_eq_nil_iff.mp hfs.symm
    obtain ⟨e1, e2⟩ := e
    subst e1
    subst e2
    exact ⟨⟨.cons (f := []) (fs := []) o .nil, by simp [leafs, h1.1], by simp only [kdTs]; omega⟩, ⟨r, h1.2, by omega⟩⟩
theorem lf_of_cons {N G H : Hp} {v : V} {vs : List V} {t : T} {ts : List T} (h1 : Lf mg N G H [v] [t]) (h2 : Lf mg N G H vs ts) : Lf mg N G H (v :: vs) (t :: ts) := lf_app h1 h2
theorem lf_take {N G H : Hp} : ∀ {vs : List V} {ts : List T} (n : Nat), Lf mg N G H vs ts → Lf mg N G H (vs.take n) (ts.take n)
  | [], [], n, h => by simpa using lf_nil
  | [], _ :: _, n, h => nomatch h.ow
  | _ :: _, [], n, h => nomatch h.ow
  | v :: vs, t :: ts, 0, h => lf_nil
  | v :: vs, t :: ts, n + 1, h => lf_of_cons (lf_cons h).1 (lf_take n (lf_cons h).2)
theorem lf_drop {N G H : Hp} : ∀ {vs : List V} {ts : List T} (n : Nat), Lf mg N G H vs ts → Lf mg N G H (vs.drop n) (ts.drop n)
  | [], [], n, h => by simpa using lf_nil
  | [], _ :: _, n, h => nomatch h.ow
  | _ :: _, [], n, h => nomatch h.ow
  | v :: vs, t :: ts, 0, h => h
  | v :: vs, t :: ts, n + 1, h => lf_drop n (lf_cons h).2
theorem lf_get {N G H : Hp} : ∀ {vs : List V} {ts : List T} {j : Nat} {t : T}, Lf mg N G H vs ts → ts[j]? = some t → ∃ v, vs[j]? = some v ∧ Lf mg N G H [v] [t]
  | [], [], j, t, h, e => by simp at e
  | [], _ :: _, j, t, h, e => nomatch h.ow
  | _ :: _, [], j, t, h, e => nomatch h.ow
  | v :: vs, u :: ts, 0, t, h, e => by
    cases Option.some.inj e
    exact ⟨v, rfl, (lf_cons h).1⟩
  | v :: vs, u :: ts, j + 1, t, h, e => by
    obtain ⟨w, h1, h2⟩ := lf_get (j := j) (t := t) (lf_cons h).2 (by simpa using e)
    exact ⟨w, by simpa using h1, h2⟩
theorem lf_set {N G H : Hp} : ∀ {vs : List V} {ts : List T} (j : Nat) {v : V} {t : T}, Lf mg N G H vs ts → Lf mg N G H [v] [t] → Lf mg N G H (vs.set j v) (ts.set j t)
  | [], [], j, v, t, h, _ => by simpa using lf_nil
  | [], _ :: _, j, v, t, h, _ => nomatch h.ow
  | _ :: _, [], j, v, t, h, _ => nomatch h.ow
  | w :: vs, u :: ts, 0, v, t, h, h2 => lf_of_cons h2 (lf_cons h).2
  | w :: vs, u :: ts, j + 1, v, t, h, h2 => lf_of_cons (lf_cons h).1 (lf_set j (lf_cons h).2 h2)
theorem lf_rev {N G H : Hp} : ∀ {vs : List V} {ts : List T}, Lf mg N G H vs ts → Lf mg N G H vs.reverse ts.reverse
  | [], [], h => lf_nil
  | [], _ :: _, h => nomatch h.ow
  | _ :: _, [], h => nomatch h.ow
  | v :: vs, t :: ts, h => by
    rw [List.reverse_cons, List.reverse_cons]
    exact lf_app (lf_rev (lf_cons h).2) (lf_cons h).1
theorem lf_erase {N G H : Hp} {vs : List V} {ts : List T} (j : Nat) (h : Lf mg N G H vs ts) : Lf mg N G H (vs.eraseIdx j) (ts.eraseIdx j) := by
  rw [List.eraseIdx_eq_take_drop_succ, List.eraseIdx_eq_take_drop_succ]
  exact lf_app (lf_take j h) (lf_drop (j + 1) h)
theorem lf_R {N G H : Hp} (a : Ex N G) (b : Ex G H) {v : V} {t : T} (h : Lf mg N G H [v] [t]) : R mg H v (datT t) := by
  exact (lf_own h).now a b
theorem lf_Rs {N G H : Hp} (a : Ex N G) (b : Ex G H) {v : List V} {t : List T} (h : Lf mg N G H v t) : Rs mg H v (datTs t) := h.ow.now a b
theorem lf_one {N G H : Hp} {ws : List V} {t : T} (h : Lf mg N G H ws [t]) : ∃ w, ws = [w] := by
  have := lf_len h
  match ws, this with
  | [w], _ => exact ⟨w, rfl⟩
theorem lf_two {N G H : Hp} {ws : List V} {t u : T} (h : Lf mg N G H ws [t, u]) : ∃ w x, ws = [w, x] := by
  have := lf_len h
  match ws, this with
  | [w, x], _ => exact ⟨w, x, rfl⟩
theorem sz {n : Nat} (h : n ≤ 1000000) : n ≤ sizeLine := Nat.le_trans h (by decide)
theorem szl {n : Nat} (h : n < 1000000) : n < sizeLine := Nat.lt_of_lt_of_le h (by decide)
theorem rm_append : RM mg rAppend mAppend := by
  intro N G H q vs ts ws us ts' u a b hq l lu h
  match us, h, lu with
  | [x], h, lu =>
    have h' : (if ts.length < 1000000 then some (ts ++ [x], tN) else none) = some (ts', u) := h
    split at h'
    · rename_i hz
      cases h'
      obtain ⟨w, rfl⟩ := lf_one lu
      exact ⟨vs ++ [w], .non, lf_app l lu, lf_tN, fun Q hQ => ⟨q, vs, w, rfl, rfl, hq, by rw [lf_len l]; exact szl hz, hQ⟩⟩
    · cases h'
theorem rm_insert : RM mg (fun x vs H Q => ∃ (l : Addr) (xs : List V) (i : Int) (y : V), x = .ref l ∧ vs = [.int i, y] ∧ H l = some (.lst xs) ∧ xs.length < sizeLine ∧ 0 ≤ i ∧ i < 2 ^ 63 ∧ Q .non (upd H l (.lst (xs.take i.toNat ++ [y] ++ xs.drop i.toNat)))) mInsert := by
  intro N G H q vs ts ws us ts' u a b hq l lu h
  match us, h, lu with
  | [.leaf k (.int i), x], h, lu =>
    have h' : (if ts.length < 1000000 ∧ 0 ≤ i ∧ i.toNat < 1000000 then some (ts.take i.toNat ++ [x] ++ ts.drop i.toNat, tN) else none) = some (ts', u) := h
    split at h'
    · rename_i hz
      cases h'
      obtain ⟨w, y, rfl⟩ := lf_two lu
      have r1 := lf_R a b (lf_cons lu).1
      cases r1
      exact ⟨vs.take i.toNat ++ [y] ++ vs.drop i.toNat, .non, lf_app (lf_app (lf_take _ l) (lf_cons lu).2) (lf_drop _ l), lf_tN, fun Q hQ => ⟨q, vs, i, y, rfl, rfl, hq, by rw [lf_len l]; exact szl hz.1, hz.2.1, by omega, hQ⟩⟩
    · cases h'
theorem rm_extend : RM mg rExtend mExtend := by
  intro N G H q vs ts ws us ts' u a b hq l lu h
  match us, h, lu with
  | [.leaf k (.lst ds)], h, lu =>
    have h' : (if ts.length + ds.length ≤ 1000000 then some (ts ++ ds.map (mk k), tN) else none) = some (ts', u) := h
    split at h'
    · rename_i hz
      cases h'
      obtain ⟨w, rfl⟩ := lf_one lu
      have hk1 : k ≤ 1 := by
        have := lu.kd
        simp only [kdTs, kdT] at this
        omega
      have o := lf_own lu
      cases o with
      | leaf r1 =>
          cases r1 with
          | lst hb rs =>
            have hb' := (hk_sub a b k _ _ hb).is
            exact ⟨vs ++ _, .non, lf_app l (lf_mk hk1 rs), lf_tN, fun Q hQ => ⟨q, _, vs, _, rfl, rfl, hq, hb', by rw [lf_len l, rs.length]; exact sz hz, hQ⟩⟩
    · cases h'
theorem ints_of : ∀ {ds : List Dat} {ns : List Int}, intsD ds = some ns → ds = ns.map Dat.int
  | [], ns, h => by
    cases h
    rfl
  | .int i :: r, ns, h => by
    cases q : intsD r with
    | none => simp [intsD, q] at h
    | some ms =>
      have : i :: ms = ns := by simpa [intsD, q] using h
      rw [← this, ints_of q]
      rfl
  | .non :: _, _, h => by cases h
  | .bl _ :: _, _, h => by cases h
  | .str _ :: _, _, h => by cases h
  | .lst _ :: _, _, h => by cases h
  | .tup _ :: _, _, h => by cases h
  | .dct _ _ :: _, _, h => by cases h
  | .ins _ _ _ :: _, _, h => by cases h
theorem first_ix : ∀ {ns : List Int} {k : Int}, k ∈ ns → ∃ j : Nat, ns[j]? = some k ∧ (∀ m : Nat, m < j → ns[m]? ≠ some k) ∧ ns.eraseIdx j = ns.erase k
  | [], k, h => nomatch h
  | n :: ns, k, h => by
    by_cases e : n = k
    · subst e
      exact ⟨0, rfl, fun m hm => absurd hm (Nat.not_lt_zero m), by simp⟩
    · have h' : k ∈ ns := (List.mem_cons.mp h).elim (fun z => absurd z.symm e) id
      obtain ⟨j, h1, h2, h3⟩ := first_ix h'
      refine ⟨j + 1, by simpa using h1, fun m hm => ?_, ?_⟩
      · cases m with
        | zero => simpa using e
        | succ m => simpa using h2 m (Nat.lt_of_succ_lt_succ hm)
      · rw [List.eraseIdx_cons_succ, h3, List.erase_cons_tail (by simpa using e)]
theorem lf_ints {N G H : Hp} : ∀ ns : List Int, Lf mg N G H (ns.map V.int) (ns.map tI)
  | [] => lf_nil
  | n :: ns => lf_of_cons ⟨.cons (f := []) (fs := []) (.leaf (.int n)) .nil, rfl, by simp [kdTs, kdT, tI]⟩ (lf_ints ns)
theorem rm_remove : RM mg rRemI mRemove := by
  intro N G H q vs ts ws us ts' u a b hq l lu h
  match us, h, lu with
  | [.leaf kk (.int k)], h, lu =>
    have h' : (match intsD (datTs ts) with
      | some ns => if k ∈ ns then some ((ns.erase k).map tI, tN) else none
      | none => none) = some (ts', u) := h
    split at h'
    · rename_i ns hn
      split at h'
      · rename_i hm
        cases h'
        obtain ⟨w, rfl⟩ := lf_one lu
        have r1 := lf_R a b lu
        cases r1
        have rs := lf_Rs a b l
        rw [ints_of hn] at rs
        have hv := rs.ints
        subst hv
        obtain ⟨j, h1, h2, h3⟩ := first_ix hm
        exact ⟨(ns.erase k).map V.int, .non, lf_ints _, lf_tN, fun Q hQ => ⟨q, ns, k, j, rfl, rfl, hq, h1, h2, by rw [h3]; exact hQ⟩⟩
      · cases h'
    · cases h'
theorem rm_pop : RM mg rPop mPop := by
  intro N G H q vs ts ws us ts' u a b hq l lu h
  match us, h, lu with
  | [], h, lu =>
    have h' : (match ts.getLast? with
      | some t => some (ts.dropLast, t)
      | none => none) = some (ts', u) := h
    split at h'
    · rename_i t ht
      cases h'
      have hw : ws = [] := by
        have := lf_len lu
        cases ws with
        | nil => rfl
        | cons _ _ => cases this
      rw [List.getLast?_eq_getElem?] at ht
      obtain ⟨v, h1, h2⟩ := lf_get l ht
      rw [← lf_len l] at h1
      refine ⟨vs.dropLast, v, ?_, h2, fun Q hQ => ⟨q, vs, v, rfl, hw, hq, h1, hQ⟩⟩
      rw [List.dropLast_eq_take, List.dropLast_eq_take, lf_len l]
      exact lf_take _ l
    · cases h'
theorem rm_popAt : RM mg rPopAt mPopAt := by
  intro N G H q vs ts ws us ts' u a b hq l lu h
  match us, h, lu with
  | [.leaf kk (.int i)], h, lu =>
    have h' : (match ixD ts.length i with
      | some j => match ts[j]? with
        | some t => if ts.length < 1000000 then some (ts.eraseIdx j, t) else none
        | none => none
      | none => none) = some (ts', u) := h
    split at h'
    · rename_i j hj
      split at h'
      · rename_i t ht
        split at h'
        · rename_i hz
          cases h'
          obtain ⟨w, rfl⟩ := lf_one lu
          have r1 := lf_R a b lu
          cases r1
          obtain ⟨v, h1, h2⟩ := lf_get l ht
          obtain ⟨e1, e2, e3, e4⟩ := ixN_seq (show ixN ts.length i = some j from hj)
          exact ⟨vs.eraseIdx j, v, lf_erase j l, h2, fun Q hQ => ⟨q, vs, i, j, v, rfl, rfl, hq, by omega, by omega, by rw [lf_len l]; exact e1, h1, hQ⟩⟩
        · cases h'
      · cases h'
    · cases h'
theorem rm_reverse : RM mg rReverse mReverse := by
  intro N G H q vs ts ws us ts' u a b hq l lu h
  match us, h, lu with
  | [], h, lu =>
    have h' : some (ts.reverse, tN) = some (ts', u) := h
    cases h'
    have hw : ws = [] := by
      have := lf_len lu
      cases ws with
      | nil => rfl
      | cons _ _ => cases this
    exact ⟨vs.reverse, .non, lf_rev l, lf_tN, fun Q hQ => ⟨q, vs, rfl, hw, hq, hQ⟩⟩
theorem rm_clear : RM mg rClear mClear := by
  intro N G H q vs ts ws us ts' u a b hq l lu h
  match us, h, lu with
  | [], h, lu =>
    have h' : some ([], tN) = some (ts', u) := h
    cases h'
    have hw : ws = [] := by
      have := lf_len lu
      cases ws with
      | nil => rfl
      | cons _ _ => cases this
    exact ⟨[], .non, lf_nil, lf_tN, fun Q hQ => ⟨q, vs, rfl, hw, hq, hQ⟩⟩
end
end LS

/-! LI: the operations' rules. -/
namespace LS
open PySem PySem.Spec
open PyProof.Rows L2
variable [TabI]
section
variable {mg : Str → Option Value} {E : XK} {K : PySem.W.Frag} {X H : Hp}
/-! ### whole numbers -/
theorem ri_I2 {C : Int → Int → Prop} {g : Int → Int → Int} {op : Op} (h : ∀ ds d, op ds = some d → ∃ i j, ds = [.int i, .int j] ∧ d = .int (g i j) ∧ C i j) : RI mg (l2 (rI C fun i j => .int (g i j))) op := by
  intro X H vs ds d ex rs q
  obtain ⟨i, j, rfl, rfl, hc⟩ := h ds d q
  cases rs with
  | cons r1 rr =>
    cases rr with
    | cons r2 rr =>
      cases rr
      cases r1
      cases r2
      exact ⟨.int (g i j), .int _, fun Q hq x y e => by
        cases e
        exact ⟨i, j, rfl, rfl, hc, hq⟩⟩
theorem oI2_of {g : Int → Int → Int} {ds : List Dat} {d : Dat} (h : oI2 g ds = some d) : ∃ i j, ds = [.int i, .int j] ∧ d = .int (g i j) := by
  unfold oI2 at h
  split at h
  · cases h
    exact ⟨_, _, rfl, rfl⟩
  · cases h
theorem ri_I20 {g : Int → Int → Int} : RI mg (l2 (rI0 fun i j => .int (g i j))) (oI2 g) := by
  intro X H vs ds d ex rs q
  obtain ⟨i, j, rfl, rfl⟩ := oI2_of q
  cases rs with
  | cons r1 rr =>
    cases rr with
    | cons r2 rr =>
      cases rr
      cases r1
      cases r2
      exact ⟨.int (g i j), .int _, fun Q hq x y e => by
        cases e
        exact ⟨i, j, rfl, rfl, hq⟩⟩
theorem ri_B20 {g : Int → Int → Bool} : RI mg (l2 (rI0 fun i j => .bl (g i j))) (oB2 g) := by
  intro X H vs ds d ex rs q
  unfold oB2 at q
  split at q
  · rename_i i j
    cases q
    cases rs with
    | cons r1 rr =>
      cases rr with
      | cons r2 rr =>
        cases rr
        cases r1
        cases r2
        exact ⟨.bl (g i j), .bl _, fun Q hq x y e => by
          cases e
          exact ⟨i, j, rfl, rfl, hq⟩⟩
  · cases q
theorem ri_sub : RI mg (l2 (rI0 fun i j => .int (i - j))) oSub := ri_I20
theorem ri_addI : RI mg (l2 (rI0 fun i j => .int (i + j))) oAddI := ri_I20
theorem ri_lt : RI mg (l2 (rI0 fun i j => .bl (decide (i < j)))) oLt := ri_B20
theorem ri_le : RI mg (l2 (rI0 fun i j => .bl (decide (i ≤ j)))) oLe := ri_B20
theorem ri_gt : RI mg (l2 (rI0 fun i j => .bl (decide (j < i)))) oGt := ri_B20
theorem ri_ge : RI mg (l2 (rI0 fun i j => .bl (decide (j ≤ i)))) oGe := ri_B20
theorem ri_mod : RI mg (l2 (rI (fun _ j => 0 < j) fun i j => .int (i % j))) oMod := ri_I2 (g := fun i j => i % j) fun ds d h => by
  unfold oMod at h
  split at h
  · split at h
    · cases h
      exact ⟨_, _, rfl, rfl, by assumption⟩
    · cases h
  · cases h
theorem ri_div : RI mg (l2 (rI CDivW fun i j => .int (i / j))) oDiv := ri_I2 (g := fun i j => i / j) fun ds d h => by
  unfold oDiv at h
  split at h
  · split at h
    · rename_i hc
      cases h
      exact ⟨_, _, rfl, rfl, hc⟩
    · cases h
  · cases h
theorem ri_pow : RI mg (l2 (rI CPow fun i j => .int (i ^ j.toNat))) oPow := ri_I2 (g := fun i j => i ^ j.toNat) fun ds d h => by
  unfold oPow at h
  split at h
  · split at h
    · rename_i hc
      cases h
      exact ⟨_, _, rfl, rfl, hc.1, by omega, hc.2.2⟩
    · cases h
  · cases h
theorem ri_shl : RI mg (l2 (rI CPow fun i j => .int (i * 2 ^ j.toNat))) oShl := ri_I2 (g := fun i j => i * 2 ^ j.toNat) fun ds d h => by
  unfold oShl at h
  split at h
  · split at h
    · rename_i hc
      cases h
      exact ⟨_, _, rfl, rfl, hc.1, by omega, hc.2.2⟩
    · cases h
  · cases h
theorem ri_shr : RI mg (l2 (rI (fun _ j => 0 ≤ j) fun i j => .int (i / 2 ^ j.toNat))) oShr := ri_I2 (g := fun i j => i / 2 ^ j.toNat) fun ds d h => by
  unfold oShr at h
  split at h
  · split at h
    · rename_i hc
      cases h
      exact ⟨_, _, rfl, rfl, hc⟩
    · cases h
  · cases h
theorem ri_and : RI mg (l2 (rI0 fun i j => .int (Builtin.bitAnd i j))) oAnd := by
  intro X H vs ds d ex rs q
  unfold oAnd at q
  split at q
  · rename_i i j
    split at q
    · rename_i hc
      cases q
      cases rs with
      | cons r1 rr =>
        cases rr with
        | cons r2 rr =>
          cases rr
          cases r1
          cases r2
          refine ⟨_, .int _, fun Q hq x y e => ?_⟩
          cases e
          refine ⟨i, j, rfl, rfl, ?_⟩
          have e : Builtin.bitAnd i j = ((i.toNat &&& j.toNat : Nat) : Int) := by
            unfold Builtin.bitAnd
            rw [decide_eq_true hc.1, decide_eq_true hc.2]
          show Q (.int (Builtin.bitAnd i j)) H
          rw [e]
          exact hq
    · cases q
  · cases q
theorem ri_neg : RI mg (l1 (rU fun i => .int (-i))) oNeg := by
  intro X H vs ds d ex rs q
  unfold oNeg at q
  split at q
  · cases q
    cases rs with
    | cons r1 rr =>
      cases rr
      cases r1
      exact ⟨_, .int _, fun Q hq x e => by
        cases e
        exact ⟨_, rfl, hq⟩⟩
  · cases q

/-! ### equality -/
mutual
def toPy : Dat → PyData
  | .non => .none
  | .bl b => .bool b
  | .int i => .int i
  | .str x => .str x
  | .lst ds => .list (toPys ds)
  | .tup ds => .tuple (toPys ds)
  | .dct _ _ => .none
  | .ins _ _ _ => .none
  | .dtt _ => .none
  | .adr _ => .none
  | .fn _ => .none
def toPys : List Dat → List PyData
  | [] => []
  | d :: ds => toPy d :: toPys ds
end
mutual
theorem dp_of : ∀ {v : V} {d : Dat} (n : Nat), R mg H v d → okD d n = true → Dp K H v (toPy d)
  | _, _, _, .non, _ => .non
  | _, _, _, .bl b, _ => .bl b
  | _, _, _, .int i, _ => .int i
  | _, _, _, .str x, h => by simp [okD] at h
  | _, _, 0, .lst _ _, h => by simp [okD] at h
  | _, _, n + 1, .lst h r, ok => .lst (.of h) (dps_of n r (by simpa [okD] using ok))
  | _, _, 0, .tup _ _, h => by simp [okD] at h
  | _, _, n + 1, .tup h r, ok => .tup (.of h) (dps_of n r (by simpa [okD] using ok))
  | _, _, n, .dct _ _ _, h => by cases n <;> simp [okD] at h
  | _, _, n, .ins _ _ _ _, h => by cases n <;> simp [okD] at h
theorem dps_of : ∀ {vs : List V} {ds : List Dat} (n : Nat), Rs mg H vs ds → okDs ds n = true → DpAll K H vs (toPys ds)
  | _, _, _, .nil, _ => .nil
  | _, _, n, .cons h r, ok => by
    simp only [okDs, Bool.and_eq_true] at ok
    exact .cons (dp_of n h ok.1) (dps_of n r ok.2)
end
mutual
theorem lay_of : ∀ (d : Dat) (n : Nat), okD d n = true → (toPy d).canLay0 = true ∧ (toPy d).depth ≤ n
  | .non, n, _ => ⟨by simp [toPy, PyData.canLay0], by simp [toPy, PyData.depth]⟩
  | .bl _, n, _ => ⟨by simp [toPy, PyData.canLay0], by simp [toPy, PyData.depth]⟩
  | .int _, n, _ => ⟨by simp [toPy, PyData.canLay0], by simp [toPy, PyData.depth]⟩
  | .str _, n, h => by cases n <;> simp [okD] at h
  | .lst ds, 0, h => by simp [okD] at h
  | .lst ds, n + 1, h => by
    obtain ⟨a, b⟩ := lays_of ds n (by simpa [okD] using h)
    exact ⟨by simpa [toPy, PyData.canLay0] using a, by simp only [toPy, PyData.depth]; omega⟩
  | .tup ds, 0, h => by simp [okD] at h
  | .tup ds, n + 1, h => by
    obtain ⟨a, b⟩ := lays_of ds n (by simpa [okD] using h)
    exact ⟨by simpa [toPy, PyData.canLay0] using a, by simp only [toPy, PyData.depth]; omega⟩
  | .dct _ _, n, h => by cases n <;> simp [okD] at h
  | .ins _ _ _, n, h => by cases n <;> simp [okD] at h
theorem lays_of : ∀ (ds : List Dat) (n : Nat), okDs ds n = true → PyData.canLayAll0 (toPys ds) = true ∧ PyData.depthAll (toPys ds) ≤ n
  | [], n, _ => ⟨by simp [toPys, PyData.canLayAll0], by simp [toPys, PyData.depthAll]⟩
  | d :: ds, n, h => by
    simp only [okDs, Bool.and_eq_true] at h
    obtain ⟨a, b⟩ := lay_of d n h.1
    obtain ⟨c, e⟩ := lays_of ds n h.2
    exact ⟨by simp [toPys, PyData.canLayAll0, a, c], by simp only [toPys, PyData.depthAll]; omega⟩
end
theorem shaped_of {d : Dat} {n : Nat} (h : okD d n = true) (hn : n ≤ 64) : SeqAt.shaped (toPy d) = true := by
  obtain ⟨a, b⟩ := lay_of d n h
  unfold SeqAt.shaped
  rw [a, Bool.true_and, decide_eq_true]
  omega
mutual
theorem eqv_of : ∀ (d e : Dat) (n m : Nat), okD d n = true → okD e m = true → PyData.eqv (toPy d) (toPy e) = eqvD d e
  | .str _, _, n, _, h, _ => by cases n <;> simp [okD] at h
  | .dct _ _, _, n, _, h, _ => by cases n <;> simp [okD] at h
  | .ins _ _ _, _, n, _, h, _ => by cases n <;> simp [okD] at h
  | _, .str _, _, n, _, h => by cases n <;> simp [okD] at h
  | _, .dct _ _, _, n, _, h => by cases n <;> simp [okD] at h
  | _, .ins _ _ _, _, n, _, h => by cases n <;> simp [okD] at h
  | .lst _, _, 0, _, h, _ => by simp [okD] at h
  | .tup _, _, 0, _, h, _ => by simp [okD] at h
  | _, .lst _, _, 0, _, h => by simp [okD] at h
  | _, .tup _, _, 0, _, h => by simp [okD] at h
  | .lst ds, .lst es, n + 1, m + 1, h, h2 => by
    have := eqvs_of ds es n m (by simpa [okD] using h) (by simpa [okD] using h2)
    simpa [toPy, PyData.eqv, eqvD] using this
  | .tup ds, .tup es, n + 1, m + 1, h, h2 => by
    have := eqvs_of ds es n m (by simpa [okD] using h) (by simpa [okD] using h2)
    simpa [toPy, PyData.eqv, eqvD] using this
  | .lst ds, .tup es, n + 1, m + 1, h, h2 => by simp [toPy, PyData.eqv, eqvD]
  | .tup ds, .lst es, n + 1, m + 1, h, h2 => by simp [toPy, PyData.eqv, eqvD]
  | .lst ds, .non, n + 1, m, h, h2 => by simp [toPy, PyData.eqv, eqvD]
  | .lst ds, .bl _, n + 1, m, h, h2 => by simp [toPy, PyData.eqv, eqvD]
  | .lst ds, .int _, n + 1, m, h, h2 => by simp [toPy, PyData.eqv, eqvD]
  | .tup ds, .non, n + 1, m, h, h2 => by simp [toPy, PyData.eqv, eqvD]
  | .tup ds, .bl _, n + 1, m, h, h2 => by simp [toPy, PyData.eqv, eqvD]
  | .tup ds, .int _, n + 1, m, h, h2 => by simp [toPy, PyData.eqv, eqvD]
  | .non, .lst ds, n, m + 1, h, h2 => by simp [toPy, PyData.eqv, eqvD]
  | .bl _, .lst ds, n, m + 1, h, h2 => by simp [toPy, PyData.eqv, eqvD]
  | .int _, .lst ds, n, m + 1, h, h2 => by simp [toPy, PyData.eqv, eqvD]
  | .non, .tup ds, n, m + 1, h, h2 => by simp [toPy, PyData.eqv, eqvD]
  | .bl _, .tup ds, n, m + 1, h, h2 => by simp [toPy, PyData.eqv, eqvD]
  | .int _, .tup ds, n, m + 1, h, h2 => by simp [toPy, PyData.eqv, eqvD]
  | .non, .non, _, _, _, _ => by simp [toPy, PyData.eqv, eqvD]
  | .non, .bl _, _, _, _, _ => by simp [toPy, PyData.eqv, eqvD]
  | .non, .int _, _, _, _, _ => by simp [toPy, PyData.eqv, eqvD]
  | .bl _, .non, _, _, _, _ => by simp [toPy, PyData.eqv, eqvD]
  | .bl _, .bl _, _, _, _, _ => by simp [toPy, PyData.eqv, eqvD]
  | .bl _, .int _, _, _, _, _ => by simp [toPy, PyData.eqv, eqvD]
  | .int _, .non, _, _, _, _ => by simp [toPy, PyData.eqv, eqvD]
  | .int _, .bl _, _, _, _, _ => by simp [toPy, PyData.eqv, eqvD]
  | .int _, .int _, _, _, _, _ => by simp [toPy, PyData.eqv, eqvD]
theorem eqvs_of : ∀ (ds es : List Dat) (n m : Nat), okDs ds n = true → okDs es m = true → PyData.eqvAll (toPys ds) (toPys es) = eqvDs ds es
  | [], [], _, _, _, _ => by simp [toPys, PyData.eqvAll, eqvDs]
  | [], _ :: _, _, _, _, _ => by simp [toPys, PyData.eqvAll, eqvDs]
  | _ :: _, [], _, _, _, _ => by simp [toPys, PyData.eqvAll, eqvDs]
  | d :: ds, e :: es, n, m, h, h2 => by
    simp only [okDs, Bool.and_eq_true] at h h2
    simp only [toPys, PyData.eqvAll, eqvDs, eqv_of d e n m h.1 h2.1, eqvs_of ds es n m h.2 h2.2]
end
theorem ri_eq : RI mg (l2 (rEqD K)) oEq := by
  intro X H vs ds d ex rs q
  unfold oEq at q
  split at q
  · rename_i a b
    split at q
    · rename_i ok
      cases q
      rw [Bool.and_eq_true] at ok
      cases rs with
      | cons r1 rr =>
        cases rr with
        | cons r2 rr =>
          cases rr
          refine ⟨.bl _, .bl _, fun Q hq x y e => ?_⟩
          cases e
          exact ⟨_, _, dp_of 8 (r1.mono ex) ok.1, dp_of 8 (r2.mono ex) ok.2, shaped_of ok.1 (by decide), shaped_of ok.2 (by decide), by rw [eqv_of a b 8 8 ok.1 ok.2]; exact hq⟩
    · cases q
  · cases q
theorem ri_ne : RI mg (l2 (rNeD K)) oNe := by
  intro X H vs ds d ex rs q
  unfold oNe at q
  split at q
  · rename_i a b
    split at q
    · rename_i ok
      cases q
      rw [Bool.and_eq_true] at ok
      cases rs with
      | cons r1 rr =>
        cases rr with
        | cons r2 rr =>
          cases rr
          refine ⟨.bl _, .bl _, fun Q hq x y e => ?_⟩
          cases e
          exact ⟨_, _, dp_of 8 (r1.mono ex) ok.1, dp_of 8 (r2.mono ex) ok.2, shaped_of ok.1 (by decide), shaped_of ok.2 (by decide), by rw [eqv_of a b 8 8 ok.1 ok.2]; exact hq⟩
    · cases q
  · cases q
/-- x in xs: data of any depth in a list, flat ones in a tuple -/
def rInA (K : PySem.W.Frag) : R2 := fun x y H Q => rInD K x y H Q ∨ rIn K false x y H Q
def rNotInA (K : PySem.W.Frag) : R2 := fun x y H Q => rNotInD K x y H Q ∨ rIn K true x y H Q
theorem op_inA {X : Cx} (hu : X.A.units + 65 < cLine) : OpR X (compareOp .In) (rInA X.K) := (op_inD hu).or op_in_seq
theorem op_notInA {X : Cx} (hu : X.A.units + 65 < cLine) : OpR X (compareOp .NotIn) (rNotInA X.K) := (op_notInD hu).or op_notIn_seq
theorem any_of : ∀ (ds : List Dat) (d : Dat) (n m : Nat), okDs ds n = true → okD d m = true → ((toPys ds).any fun z => PyData.eqv z (toPy d)) = ds.any fun z => eqvD z d
  | [], _, _, _, _, _ => rfl
  | z :: ds, d, n, m, h, h2 => by
    simp only [okDs, Bool.and_eq_true] at h
    show (PyData.eqv (toPy z) (toPy d) || (toPys ds).any fun z => PyData.eqv z (toPy d)) = (eqvD z d || ds.any fun z => eqvD z d)
    rw [eqv_of z d n m h.1 h2, any_of ds d n m h.2 h2]
theorem flat_of {v : V} {d : Dat} (h : R mg H v d) (ok : okD d 0 = true) : flatV v = true ∧ ∀ {w : V} {e : Dat}, R mg H w e → okD e 0 = true → eqV w v = eqvD e d := by
  cases h with
  | non => exact ⟨rfl, fun r o => by cases r <;> simp_all [okD, eqV, eqvD]⟩
  | bl b => exact ⟨rfl, fun r o => by cases r <;> simp_all [okD, eqV, eqvD]⟩
  | int i => exact ⟨rfl, fun r o => by cases r <;> simp_all [okD, eqV, eqvD]⟩
  | str x => simp [okD] at ok
  | lst _ _ => simp [okD] at ok
  | tup _ _ => simp [okD] at ok
  | dct _ _ _ => simp [okD] at ok
  | ins _ _ _ _ => simp [okD] at ok
  | dtt _ => simp [okD] at ok
  | adr _ => simp [okD] at ok
  | fn _ => simp [okD] at ok
theorem flats_of {x : V} {d : Dat} (hx : R mg H x d) (okx : okD d 0 = true) : ∀ {vs : List V} {ds : List Dat}, Rs mg H vs ds → okDs ds 0 = true → vs.all flatV = true ∧ inV x vs = ds.any fun z => eqvD z d
  | _, _, .nil, _ => ⟨rfl, rfl⟩
  | _, _, .cons h r, ok => by
    simp only [okDs, Bool.and_eq_true] at ok
    obtain ⟨a, b⟩ := flats_of hx okx r ok.2
    refine ⟨by rw [List.all_cons, (flat_of h ok.1).1, a] <;> rfl, ?_⟩
    show (eqV _ x || inV x _) = _
    rw [b, (flat_of hx okx).2 h ok.1]
    rfl
theorem ri_in : RI mg (l2 (rInA K)) (oIn false) := by
  intro X H vs ds d ex rs q
  unfold oIn at q
  split at q
  · rename_i a es
    split at q
    · rename_i ok
      cases q
      rw [Bool.and_eq_true] at ok
      cases rs with
      | cons r1 rr =>
        cases rr with
        | cons r2 rr =>
          cases rr
          refine ⟨.bl _, .bl _, fun Q hq x y e => ?_⟩
          cases e
          have ok2 : okD (.lst es) 9 = true := by simpa [okD] using ok.2
          exact .inl ⟨_, toPys es, dp_of 8 (r1.mono ex) ok.1, dp_of 9 (r2.mono ex) ok2, shaped_of ok.1 (by decide), shaped_of (d := .lst es) ok2 (by decide), by
            rw [any_of es a 8 8 ok.2 ok.1]
            simpa using hq⟩
    · cases q
  · rename_i a es
    split at q
    · rename_i ok
      cases q
      rw [Bool.and_eq_true] at ok
      cases rs with
      | cons r1 rr =>
        cases rr with
        | cons r2 rr =>
          cases rr
          cases r2 with
          | tup ht rt =>
            refine ⟨.bl _, .bl _, fun Q hq x y e => ?_⟩
            cases e
            obtain ⟨h1, h2⟩ := flats_of r1 ok.1 rt ok.2
            refine .inr ⟨_, _, rfl, .inr (.of (ex _ _ ht).is), (flat_of r1 ok.1).1, h1, ?_⟩
            rw [h2]
            simpa using hq
    · cases q
  · cases q
theorem ri_notIn : RI mg (l2 (rNotInA K)) (oIn true) := by
  intro X H vs ds d ex rs q
  unfold oIn at q
  split at q
  · rename_i a es
    split at q
    · rename_i ok
      cases q
      rw [Bool.and_eq_true] at ok
      cases rs with
      | cons r1 rr =>
        cases rr with
        | cons r2 rr =>
          cases rr
          refine ⟨.bl _, .bl _, fun Q hq x y e => ?_⟩
          cases e
          have ok2 : okD (.lst es) 9 = true := by simpa [okD] using ok.2
          exact .inl ⟨_, toPys es, dp_of 8 (r1.mono ex) ok.1, dp_of 9 (r2.mono ex) ok2, shaped_of ok.1 (by decide), shaped_of (d := .lst es) ok2 (by decide), by
            rw [any_of es a 8 8 ok.2 ok.1]
            simpa using hq⟩
    · cases q
  · rename_i a es
    split at q
    · rename_i ok
      cases q
      rw [Bool.and_eq_true] at ok
      cases rs with
      | cons r1 rr =>
        cases rr with
        | cons r2 rr =>
          cases rr
          cases r2 with
          | tup ht rt =>
            refine ⟨.bl _, .bl _, fun Q hq x y e => ?_⟩
            cases e
            obtain ⟨h1, h2⟩ := flats_of r1 ok.1 rt ok.2
            refine .inr ⟨_, _, rfl, .inr (.of (ex _ _ ht).is), (flat_of r1 ok.1).1, h1, ?_⟩
            rw [h2]
            simpa using hq
    · cases q
  · cases q
theorem isN_of {v : V} {d : Dat} (h : R mg H v d) : decide (v = .non) = isN d := by cases h <;> rfl
theorem ri_isN : RI mg (l2 fun x y H Q => y = .non ∧ Q (.bl (decide (x = .non))) H) (oIsN false) := by
  intro X H vs ds d ex rs q
  unfold oIsN at q
  split at q
  · cases q
    cases rs with
    | cons r1 rr =>
      cases rr with
      | cons r2 rr =>
        cases rr
        cases r2
        refine ⟨.bl _, .bl _, fun Q hq x y e => ?_⟩
        cases e
        exact ⟨rfl, by rw [isN_of r1]; simpa using hq⟩
  · cases q
theorem ri_notN : RI mg (l2 fun x y H Q => y = .non ∧ Q (.bl (!decide (x = .non))) H) (oIsN true) := by
  intro X H vs ds d ex rs q
  unfold oIsN at q
  split at q
  · cases q
    cases rs with
    | cons r1 rr =>
      cases rr with
      | cons r2 rr =>
        cases rr
        cases r2
        refine ⟨.bl _, .bl _, fun Q hq x y e => ?_⟩
        cases e
        exact ⟨rfl, by rw [isN_of r1]; simpa using hq⟩
  · cases q
theorem ri_isB : RI mg (l2 rIsB) (oIsB false) := by
  intro X H vs ds d ex rs q
  unfold oIsB at q
  split at q
  · rename_i a b
    cases q
    cases rs with
    | cons r1 rr =>
      cases rr with
      | cons r2 rr =>
        cases rr
        cases r1
        cases r2
        refine ⟨.bl _, .bl _, fun Q hq x y e => ?_⟩
        cases e
        exact ⟨a, b, rfl, rfl, by cases a <;> cases b <;> exact hq⟩
  · cases q
theorem ri_notB : RI mg (l2 rNotB) (oIsB true) := by
  intro X H vs ds d ex rs q
  unfold oIsB at q
  split at q
  · rename_i a b
    cases q
    cases rs with
    | cons r1 rr =>
      cases rr with
      | cons r2 rr =>
        cases rr
        cases r1
        cases r2
        refine ⟨.bl _, .bl _, fun Q hq x y e => ?_⟩
        cases e
        exact ⟨a, b, rfl, rfl, by cases a <;> cases b <;> exact hq⟩
  · cases q
/-! ### sequences -/
theorem ri_len : RI mg (fun xs H Q => ∃ p ys, xs = [.ref p] ∧ (SqL K H p ys ∨ SqT K H p ys) ∧ Q (.int ys.length) H) oLen := by
  intro X H vs ds d ex rs q
  unfold oLen at q
  split at q
  · cases q
    cases rs with
    | cons r1 rr =>
      cases rr
      cases r1 with
      | lst h r => exact ⟨_, .int _, fun Q hq => ⟨_, _, rfl, .inl (.of (ex _ _ h).is), by rw [r.length]; exact hq⟩⟩
  · cases q
    cases rs with
    | cons r1 rr =>
      cases rr
      cases r1 with
      | tup h r => exact ⟨_, .int _, fun Q hq => ⟨_, _, rfl, .inr (.of (ex _ _ h).is), by rw [r.length]; exact hq⟩⟩
  · cases q
theorem at_rs {vs : List V} {ds : List Dat} {i : Int} {j : Nat} {d : Dat} (r : Rs mg X vs ds) (hj : ixD ds.length i = some j) (hd : ds[j]? = some d) : ∃ v, atI vs i = some v ∧ R mg X v d := by
  obtain ⟨v, h1, h2⟩ := r.get hd
  refine ⟨v, ?_, h2⟩
  unfold atI
  rw [show ixN vs.length i = some j by rw [r.length]; exact hj]
  exact h1
theorem ri_ix : RI mg (l2 (rIx K)) oIx := by
  intro X H vs ds d ex rs q
  unfold oIx at q
  split at q
  · split at q
    · rename_i hj
      cases rs with
      | cons r1 rr =>
        cases rr with
        | cons r2 rr =>
          cases rr
          cases r2
          cases r1 with
          | lst h r =>
            obtain ⟨v, h1, h2⟩ := at_rs r hj q
            refine ⟨v, h2, fun Q hq x y e => ?_⟩
            cases e
            exact .inl ⟨_, _, _, v, rfl, rfl, .of (ex _ _ h).is, h1, hq⟩
    · cases q
  · split at q
    · rename_i hj
      cases rs with
      | cons r1 rr =>
        cases rr with
        | cons r2 rr =>
          cases rr
          cases r2
          cases r1 with
          | tup h r =>
            obtain ⟨v, h1, h2⟩ := at_rs r hj q
            refine ⟨v, h2, fun Q hq x y e => ?_⟩
            cases e
            exact .inr (.inl ⟨_, _, _, v, rfl, rfl, .of (ex _ _ h).is, h1, hq⟩)
    · cases q
  · cases q
theorem ri_int : RI mg (fun xs H Q => (∃ i, xs = [.int i] ∧ Q (.int i) H) ∨ ∃ k, xs = [.bl k] ∧ Q (.int (if k then 1 else 0)) H) oInt := by
  intro X H vs ds d ex rs q
  unfold oInt at q
  split at q
  · cases q
    cases rs with
    | cons r1 rr =>
      cases rr
      cases r1
      exact ⟨_, .int _, fun Q hq => .inl ⟨_, rfl, hq⟩⟩
  · cases q
    cases rs with
    | cons r1 rr =>
      cases rr
      cases r1
      exact ⟨_, .int _, fun Q hq => .inr ⟨_, rfl, hq⟩⟩
  · cases q
theorem ri_max : RI mg (fun xs H Q => ∃ i j, xs = [.int i, .int j] ∧ Q (.int (if j > i then j else i)) H) oMax := by
  intro X H vs ds d ex rs q
  obtain ⟨i, j, rfl, rfl⟩ := oI2_of q
  cases rs with
  | cons r1 rr =>
    cases rr with
    | cons r2 rr =>
      cases rr
      cases r1
      cases r2
      exact ⟨_, .int _, fun Q hq => ⟨i, j, rfl, hq⟩⟩
theorem ri_min : RI mg (fun xs H Q => ∃ i j, xs = [.int i, .int j] ∧ Q (.int (if j < i then j else i)) H) oMin := by
  intro X H vs ds d ex rs q
  obtain ⟨i, j, rfl, rfl⟩ := oI2_of q
  cases rs with
  | cons r1 rr =>
    cases rr with
    | cons r2 rr =>
      cases rr
      cases r1
      cases r2
      exact ⟨_, .int _, fun Q hq => ⟨i, j, rfl, hq⟩⟩
theorem bls_of : ∀ {ds : List Dat} {bs : List Bool} {vs : List V}, blsD ds = some bs → Rs mg X vs ds → vs = bs.map V.bl
  | [], bs, _, h, .nil => by
    cases h
    rfl
  | .bl b :: r, bs, _, h, .cons r1 rr => by
    cases q : blsD r with
    | none => simp [blsD, q] at h
    | some cs =>
      have e : b :: cs = bs := by simpa [blsD, q] using h
      cases r1
      rw [← e, bls_of q rr]
      rfl
  | .non :: _, _, _, h, _ => by cases h
  | .int _ :: _, _, _, h, _ => by cases h
  | .str _ :: _, _, _, h, _ => by cases h
  | .lst _ :: _, _, _, h, _ => by cases h
  | .tup _ :: _, _, _, h, _ => by cases h
  | .dct _ _ :: _, _, _, h, _ => by cases h
  | .ins _ _ _ :: _, _, _, h, _ => by cases h
theorem ri_all : RI mg (rAll K) oAll := by
  intro X H vs ds d ex rs q
  unfold oAll at q
  split at q
  · rename_i es
    cases qb : blsD es with
    | none => simp [qb] at q
    | some bs =>
      have e : Dat.bl (bs.all id) = d := by simpa [qb] using q
      subst e
      cases rs with
      | cons r1 rr =>
        cases rr
        cases r1 with
        | lst h r =>
          have hv := bls_of qb r
          subst hv
          exact ⟨_, .bl _, fun Q hq => ⟨_, bs, rfl, .of (ex _ _ h).is, hq⟩⟩
  · cases q
theorem ri_any : RI mg (rAny K) oAny := by
  intro X H vs ds d ex rs q
  unfold oAny at q
  split at q
  · rename_i es
    cases qb : blsD es with
    | none => simp [qb] at q
    | some bs =>
      have e : Dat.bl (bs.any id) = d := by simpa [qb] using q
      subst e
      cases rs with
      | cons r1 rr =>
        cases rr
        cases r1 with
        | lst h r =>
          have hv := bls_of qb r
          subst hv
          exact ⟨_, .bl _, fun Q hq => ⟨_, bs, rfl, .of (ex _ _ h).is, hq⟩⟩
  · cases q
/-- isinstance by a built-in class, the class written there -/
theorem ty_of {v : V} {d : Dat} {u : String} (h : R mg H v d) (e : tyD d = some u) : TyX K H v (.type u) := by
  cases h with
  | non => cases e; exact .base .non
  | bl b => cases e; exact .base (.bl b)
  | int i => cases e; exact .base (.int i)
  | str x => cases e; exact .base (.str x)
  | lst h r => cases e; exact .base (.lst h)
  | tup h r => cases e; exact .base (.tup h)
  | dct h l r => cases e; exact .base (.dK h)
  | ins m h l r => cases e
  | dtt h => cases e; exact .base (.dT h)
  | adr _ => cases e
  | fn _ => cases e
end
end LS

/-! LJ: isinstance, new lists, + and *. -/
namespace LS
open PySem PySem.Spec
open PyProof.Rows L2
variable [TabI]
section
variable {mg : Str → Option Value} {E : XK} {K : PySem.W.Frag} {X H : Hp}
theorem kit_all : (["NoneType", "bool", "int", "str", "list", "tuple", "dict"].all fun u => ["int", "bool", "str", "list", "tuple"].all fun t => decide (kitB u t = some (u == t || (u == "bool" && t == "int")))) = true := by decide +kernel
theorem tyD_in {d : Dat} {u : String} (h : tyD d = some u) : u ∈ ["NoneType", "bool", "int", "str", "list", "tuple", "dict"] := by
  cases d <;> cases h <;> decide
theorem se_isi {tx : TE} {fx : FE} {t : String} (h : SE mg E tx fx) (ht : t ∈ ["int", "bool", "str", "list", "tuple"]) : SE mg E (tCB (rIsi K) (tCons tx (tCons (tC (.ty t)) tNil))) (fI (oIsi t) (fA1 fx fA0)) :=
  se_op1 (r1 := fun x H Q => rIsi K [x, .ty t] H Q) h fun X H vs ds d ex rs q => by
    obtain ⟨v, x, rfl, rfl, hx⟩ := ri1 rs (by rintro rfl; simp [oIsi] at q) (by rintro a b c rfl; simp [oIsi] at q)
    cases hu : tyD x with
    | none => simp [oIsi, hu] at q
    | some u =>
      have e : Dat.bl (u == t || (u == "bool" && t == "int")) = d := by simpa [oIsi, hu] using q
      subst e
      refine ⟨_, .bl _, fun Q hq y ey => ?_⟩
      cases ey
      have hk := List.all_eq_true.mp (List.all_eq_true.mp kit_all u (tyD_in hu)) t ht
      exact ⟨v, .ty t, .type u, .type t, _, rfl, .ty t, ty_of (hx.mono ex) hu, kit_ty (of_decide_eq_true hk), hq⟩
theorem rl_list : RL mg (fun xs H Q => ∃ p ys, xs = [.ref p] ∧ (SqL K H p ys ∨ SqT K H p ys) ∧ ∀ l, H l = none → Q (.ref l) (upd H l (.lst ys))) lItems := by
  intro X H vs ds d ex rs q
  unfold lItems at q
  split at q
  · cases q
    cases rs with
    | cons r1 rr =>
      cases rr
      cases r1 with
      | lst h r => exact ⟨_, r, fun Q hq => ⟨_, _, rfl, .inl (.of (ex _ _ h).is), hq⟩⟩
  · cases q
    cases rs with
    | cons r1 rr =>
      cases rr
      cases r1 with
      | tup h r => exact ⟨_, r, fun Q hq => ⟨_, _, rfl, .inr (.of (ex _ _ h).is), hq⟩⟩
  · cases q
theorem ru_tuple : RU mg (l1 (kTup K)) lOnly := by
  intro X H vs ds d ex rs q
  unfold lOnly at q
  split at q
  · cases q
    cases rs with
    | cons r1 rr =>
      cases rr
      cases r1 with
      | lst h r => exact ⟨_, r, fun Q hq x e => by
          cases e
          exact .inl ⟨_, _, rfl, .of (ex _ _ h).is, hq⟩⟩
  · cases q
theorem se_tuple {tx : TE} {fx : FE} (h : SE mg E tx fx) : SE mg E (tThen tx (kTup K)) (fU lOnly (fA1 fx fA0)) := fun H0 G H σ e fp Q st hh => by
  have := ev1 (K := fun x H1 => kTup K x H1 Q) h st (pa_U ru_tuple st hh)
  exact this
/-! ### slices -/
theorem cutV_rs {vs : List V} {ds : List Dat} (r : Rs mg X vs ds) (lo hi : Option Int) : Rs mg X (cutV vs lo hi) (cutD ds lo hi) := by
  unfold cutV cutD
  rw [r.length]
  exact (r.drop _).take _
theorem se_sl10 {tx ty : TE} {fx fy : FE} (hx : SE mg E tx fx) (hy : SE mg E ty fy) : SE mg E (tSl (rSlL K) tx (tPart ty) tNoPart) (fL lSl10 (fA1 fx (fA1 fy fA0))) := fun H0 G H σ e fp Q st hh =>
  ev2 (K := fun x y H2 => ∃ i, y = .int i ∧ rSlL K x (some i) none H2 Q) hx hy st (Pa.imp (fun vs H' q x y e => q x y e) (pa_L (r := l2 fun x y H2 Q => ∃ i, y = .int i ∧ rSlL K x (some i) none H2 Q) (fun X H vs ds d ex rs q => by
    unfold lSl10 at q
    split at q
    · cases q
      cases rs with
      | cons r1 rr =>
        cases rr with
        | cons r2 rr =>
          cases rr
          cases r2
          cases r1 with
          | lst h r => exact ⟨_, cutV_rs r _ _, fun Q hq x y e => by
              cases e
              exact ⟨_, rfl, _, _, rfl, .of (ex _ _ h).is, hq⟩⟩
    · cases q) st hh))
theorem se_sl01 {tx ty : TE} {fx fy : FE} (hx : SE mg E tx fx) (hy : SE mg E ty fy) : SE mg E (tSl (rSlL K) tx tNoPart (tPart ty)) (fL lSl01 (fA1 fx (fA1 fy fA0))) := fun H0 G H σ e fp Q st hh =>
  ev2 (K := fun x y H2 => ∃ i, y = .int i ∧ rSlL K x none (some i) H2 Q) hx hy st (Pa.imp (fun vs H' q x y e => q x y e) (pa_L (r := l2 fun x y H2 Q => ∃ i, y = .int i ∧ rSlL K x none (some i) H2 Q) (fun X H vs ds d ex rs q => by
    unfold lSl01 at q
    split at q
    · cases q
      cases rs with
      | cons r1 rr =>
        cases rr with
        | cons r2 rr =>
          cases rr
          cases r2
          cases r1 with
          | lst h r => exact ⟨_, cutV_rs r _ _, fun Q hq x y e => by
              cases e
              exact ⟨_, rfl, _, _, rfl, .of (ex _ _ h).is, hq⟩⟩
    · cases q) st hh))
theorem ev3 {H0 G H : Hp} {σ : L2.St} {e : Env} {fp : List Addr} {ta tb tc : TE} {fa fb fc : FE} {K : V → V → V → Hp → Prop} (ha : SE mg E ta fa) (hb : SE mg E tb fb) (hc : SE mg E tc fc) (st : Stt mg H0 G H σ e fp)
    (h : Pa mg E H0 G H (fun vs H' => ∀ x y z, vs = [x, y, z] → K x y z H') (fA1 fa (fA1 fb (fA1 fc fA0)) e)) : ta σ H fun x H1 => tb σ H1 fun y H2 => tc σ H2 fun z H3 => K x y z H3 := by
  refine ha H0 G H σ e fp _ st ?_
  unfold fA1 at h
  cases q : fa e with
  | no => rw [q] at h; exact h.elim
  | er c => rw [q] at h; exact h
  | ok t =>
    rw [q] at h
    intro v G1 H1 f1 g1 o1 r1
    refine ev2 (K := fun y z H3 => K v y z H3) hb hc (st.grow g1) ?_
    have h' : Pa mg E H0 G H _ ((fA1 fb (fA1 fc fA0) e).bind fun ts => .ok (t :: ts)) := h
    cases q2 : fA1 fb (fA1 fc fA0) e with
    | no => rw [q2] at h'; exact h'.elim
    | er c => rw [q2] at h'; exact Er.grow h' g1
    | ok u =>
      rw [q2] at h'
      intro w G2 H2 f2 g2 o2 r2 y z e
      subst e
      exact h' (v :: [y, z]) G2 H2 (f1 ++ f2) (g1.trans g2) (.cons (o1.grow g2) o2) (r1.add o1.dom g1 g2 r2) v y z rfl
/-- it never raises -/
def NR (f : FE) : Prop := ∀ e c, f e ≠ .er c
theorem nr_var (i : Nat) : NR (fVar i) := fun e c h => by
  unfold fVar at h
  split at h <;> cases h
theorem nr_c (d : Dat) : NR (fC d) := fun e c h => by cases h
theorem nr_add {a b : FE} (ha : NR a) (hb : NR b) : NR (fAdd a b) := fun e c h => by
  unfold fAdd fA1 fA0 at h
  cases q : a e with
  | no => rw [q] at h; cases h
  | er c => exact ha e c q
  | ok t =>
    cases q2 : b e with
    | no =>
      rw [q] at h
      have h' : (((b e).bind fun t => (Re.ok ([] : List T)).bind fun ts => .ok (t :: ts)).bind fun ts => Re.ok (t :: ts)).bind addF = .er c := h
      rw [q2] at h'
      cases h'
    | er c => exact hb e c q2
    | ok u =>
      rw [q] at h
      have h' : (((b e).bind fun t => (Re.ok ([] : List T)).bind fun ts => .ok (t :: ts)).bind fun ts => Re.ok (t :: ts)).bind addF = .er c := h
      rw [q2] at h'
      have h2 : addF [t, u] = .er c := h'
      have h3 : (match datT t, datT u with
        | .int i, .int j => Re.ok (T.leaf 0 (.int (i + j)))
        | .lst ds, .lst es => if ds.length + es.length ≤ 1000000 then Re.ok (T.lst ((ds ++ es).map (mk (kdTs [t, u])))) else .no
        | _, _ => .no) = .er c := h2
      split at h3
      · cases h3
      · split at h3 <;> cases h3
      · cases h3
theorem se_sl11 {tx ty tz : TE} {fx fy fz : FE} (hx : SE mg E tx fx) (hy : SE mg E ty fy) (hz : SE mg E tz fz) (nz : NR fz) : SE mg E (tSl (rSlL K) tx (tPart ty) (tPart tz)) (fL lSl11 (fA1 fx (fA1 fy (fA1 fz fA0)))) := by
  intro H0 G H σ e fp Q st h
  refine hx H0 G H σ e fp _ st ?_
  unfold fL at h
  cases q : fx e with
  | no =>
    rw [show fA1 fx (fA1 fy (fA1 fz fA0)) e = (fx e).bind fun t => (fA1 fy (fA1 fz fA0) e).bind fun ts => .ok (t :: ts) from rfl, q] at h
    exact h.elim
  | er c =>
    rw [show fA1 fx (fA1 fy (fA1 fz fA0)) e = (fx e).bind fun t => (fA1 fy (fA1 fz fA0) e).bind fun ts => .ok (t :: ts) from rfl, q] at h
    exact h
  | ok t =>
    rw [show fA1 fx (fA1 fy (fA1 fz fA0)) e = (fx e).bind fun t => (fA1 fy (fA1 fz fA0) e).bind fun ts => .ok (t :: ts) from rfl, q] at h
    intro v G1 H1 f1 g1 o1 r1
    refine hy H0 G1 H1 σ e fp _ (st.grow g1) ?_
    cases q2 : fy e with
    | no =>
      rw [show fA1 fy (fA1 fz fA0) e = (fy e).bind fun t => (fA1 fz fA0 e).bind fun ts => .ok (t :: ts) from rfl, q2] at h
      exact h.elim
    | er c =>
      rw [show fA1 fy (fA1 fz fA0) e = (fy e).bind fun t => (fA1 fz fA0 e).bind fun ts => .ok (t :: ts) from rfl, q2] at h
      exact Er.grow h g1
    | ok u =>
      rw [show fA1 fy (fA1 fz fA0) e = (fy e).bind fun t => (fA1 fz fA0 e).bind fun ts => .ok (t :: ts) from rfl, q2] at h
      intro w G2 H2 f2 g2 o2 r2
      have rw2 := o2.now nw_sub g2.gh
      cases q3 : fz e with
      | no =>
        rw [show fA1 fz fA0 e = (fz e).bind fun t => Re.ok [t] from rfl, q3] at h
        exact h.elim
      | er c => exact (nz e c q3).elim
      | ok x =>
        rw [show fA1 fz fA0 e = (fz e).bind fun t => Re.ok [t] from rfl, q3] at h
        have h' : Pe mg E H0 G H Q (match lSl11 [datT t, datT u, datT x] with
          | some ds => .ok (.lst (ds.map (mk (kdTs [t, u, x]))))
          | none => .no) := h
        cases q4 : lSl11 [datT t, datT u, datT x] with
        | none => rw [q4] at h'; exact h'.elim
        | some ds =>
          rw [q4] at h'
          have q5 := q4
          unfold lSl11 at q5
          split at q5
          · rename_i es i j he
            cases q5
            have e1 : datT t = .lst es := by injection he
            have e2 : datT u = .int i := by
              injection he with _ he
              injection he
            have e3 : datT x = .int j := by
              injection he with _ he
              injection he with _ he
              injection he
            rw [e2] at rw2
            cases rw2
            refine ⟨i, rfl, hz H0 G2 H2 σ e fp _ ((st.grow g1).grow g2) ?_⟩
            rw [q3]
            intro z G3 H3 f3 g3 o3 r3
            have rz := o3.now nw_sub g3.gh
            rw [e3] at rz
            cases rz
            have fr := (r1.add o1.dom g1 (g2.trans g3) ((Frs.add r2 o2.dom g2 g3 r3)))
            obtain ⟨G4, g4, rs⟩ := frzs (ts := [t, u, x]) st.h0 st.gh ((g1.trans g2).trans g3) (.cons ((o1.grow g2).grow g3) (.cons (o2.grow g3) (.cons o3 .nil))) (by rw [List.append_nil]; exact fr)
            cases rs with
            | cons ra rr =>
              have ra' : R mg (hk (nw H0 G4) G4 H3 (kdTs [t, u, x])) v (.lst es) := by
                rw [← e1]
                exact ra
              cases ra' with
              | lst ha rl =>
                have sub := hk_sub (N := nw H0 G4) nw_sub g4.gh (kdTs [t, u, x])
                exact ⟨j, rfl, _, _, rfl, .of (sub _ _ ha).is, fun p hp => h' (.ref p) G4 _ (p :: []) (g4.upd hp) (.lst upd_same (owns_mk ((cutV_rs rl _ _).mono (hk_mono (Ex.refl _) (Ex.refl _) (Ex.new hp) _)))) (frs_one g4 hp)⟩
          · cases q5
theorem se_rev {tx : TE} {fx : FE} (h : SE mg E tx fx) : SE mg E (tRevL K tx) (fL lRev (fA1 fx fA0)) := se_op1L (r1 := fun x H1 Q => ∃ a xs, x = .ref a ∧ SqL K H1 a xs ∧ ∀ p, H1 p = none → Q (.ref p) (upd H1 p (.lst xs.reverse))) h fun X H vs ds d ex rs q => by
  unfold lRev at q
  split at q
  · cases q
    cases rs with
    | cons r1 rr =>
      cases rr
      cases r1 with
      | lst h r => exact ⟨_, r.reverse, fun Q hq x e => by
          cases e
          exact ⟨_, _, rfl, .of (ex _ _ h).is, hq⟩⟩
  · cases q
/-! ### sorted -/
theorem insI_perm (x : Int) : ∀ l : List Int, (insI x l).Perm (x :: l)
  | [] => .refl _
  | y :: r => by
    unfold insI
    split
    · exact .refl _
    · exact ((insI_perm x r).cons y).trans (.swap x y r)
theorem isort_perm : ∀ l : List Int, (isort l).Perm l
  | [] => .refl _
  | x :: r => (insI_perm x (isort r)).trans ((isort_perm r).cons x)
theorem insI_sorted (x : Int) : ∀ l : List Int, l.Pairwise (· ≤ ·) → (insI x l).Pairwise (· ≤ ·)
  | [], _ => List.pairwise_singleton _ _
  | y :: r, h => by
    have hc := List.pairwise_cons.mp h
    unfold insI
    split
    · rename_i hxy
      exact List.pairwise_cons.mpr ⟨fun z hz => (List.mem_cons.mp hz).elim (fun e => by omega) fun m => Int.le_trans hxy (hc.1 z m), h⟩
    · rename_i hxy
      refine List.pairwise_cons.mpr ⟨fun z hz => ?_, insI_sorted x r hc.2⟩
      rcases List.mem_cons.mp ((insI_perm x r).mem_iff.mp hz) with e | m
      · omega
      · exact hc.1 z m
theorem isort_sorted : ∀ l : List Int, (isort l).Pairwise (· ≤ ·)
  | [] => .nil
  | x :: r => insI_sorted x _ (isort_sorted r)
theorem sorted_one : ∀ {l m : List Int}, l.Perm m → l.Pairwise (· ≤ ·) → m.Pairwise (· ≤ ·) → l = m := fun {l m} p h1 h2 => p.eq_of_pairwise (fun a b _ _ h h' => Int.le_antisymm h h') h1 h2
theorem ints_ofD : ∀ {ds : List Dat} {ns : List Int}, intsD ds = some ns → ds = ns.map Dat.int := ints_of
theorem rl_sorted : RL mg (rSortedI K) lSorted := by
  intro X H vs ds d ex rs q
  unfold lSorted at q
  split at q
  · rename_i es
    cases qn : intsD es with
    | none => simp [qn] at q
    | some ns =>
      have e : (isort ns).map Dat.int = d := by simpa [qn] using q
      subst e
      cases rs with
      | cons r1 rr =>
        cases rr
        cases r1 with
        | lst h r =>
          rw [ints_of qn] at r
          have hv := r.ints
          subst hv
          exact ⟨(isort ns).map V.int, Rs.ofInts _, fun Q hq => ⟨_, ns, rfl, .of (ex _ _ h).is, fun ns' p hp hs hn => by
            rw [sorted_one (hp.trans (isort_perm ns).symm) hs (isort_sorted ns)]
            exact hq p hn⟩⟩
  · cases q
/-! ### list(range(..)) -/
theorem rgV_eq (a b : Int) : rgV a b = (rgI a b).map V.int := by
  unfold rgV rgI
  rw [List.map_map]
  rfl
theorem se_rg1 {tx : TE} {fx : FE} (h : SE mg E tx fx) : SE mg E (tLstRg (tRg1 tx)) (fL lRg1 (fA1 fx fA0)) := se_op1L (r1 := fun x H1 Q => ∃ n, x = .int n ∧ RgOk 0 n ∧ ∀ q, H1 q = none → Q (.ref q) (upd H1 q (.lst (rgV 0 n)))) h fun X H vs ds d ex rs q => by
  unfold lRg1 at q
  split at q
  · split at q
    · rename_i n hn
      cases q
      cases rs with
      | cons r1 rr =>
        cases rr
        cases r1
        exact ⟨(rgI 0 n).map V.int, Rs.ofInts _, fun Q hq x e => by
          cases e
          exact ⟨n, rfl, ⟨by omega, by omega, by omega, by omega, by omega⟩, by rw [rgV_eq]; exact hq⟩⟩
    · cases q
  · cases q
theorem se_rg2 {tx ty : TE} {fx fy : FE} (hx : SE mg E tx fx) (hy : SE mg E ty fy) : SE mg E (tLstRg (tRg2 tx ty)) (fL lRg2 (fA1 fx (fA1 fy fA0))) := fun H0 G H σ e fp Q st hh =>
  ev2 (K := fun x y H2 => ∃ i j, x = .int i ∧ y = .int j ∧ RgOk i j ∧ ∀ q, H2 q = none → Q (.ref q) (upd H2 q (.lst (rgV i j)))) hx hy st (Pa.imp (fun vs H' q x y e => q x y e) (pa_L (r := l2 fun x y H2 Q => ∃ i j, x = .int i ∧ y = .int j ∧ RgOk i j ∧ ∀ q, H2 q = none → Q (.ref q) (upd H2 q (.lst (rgV i j)))) (fun X H vs ds d ex rs q => by
    unfold lRg2 at q
    split at q
    · split at q
      · rename_i a n hn
        cases q
        cases rs with
        | cons r1 rr =>
          cases rr with
          | cons r2 rr =>
            cases rr
            cases r1
            cases r2
            exact ⟨(rgI a n).map V.int, Rs.ofInts _, fun Q hq x y e => by
              cases e
              exact ⟨a, n, rfl, rfl, ⟨by omega, by omega, by omega, by omega, by omega⟩, by rw [rgV_eq]; exact hq⟩⟩
      · cases q
    · cases q) st hh))
/-! ### + and * -/
def rAddA : R2 := fun x y H Q => (rI0 fun i j => .int (i + j)) x y H Q ∨ rCat x y H Q
def rMulA : R2 := fun x y H Q => ((rI CMulW fun i j => .int (i * j)) x y H Q ∨ (rI CMul fun i j => .int (i * j)) x y H Q) ∨ rRep x y H Q
theorem op_addA {X : Cx} : OpR X (binaryOp .Add) rAddA := op_add.or op_cat
theorem op_mulA {X : Cx} : OpR X (binaryOp .Mult) rMulA := (op_mulW.or op_mul).or op_rep
theorem two_lst {H0 G G' H' : Hp} {t u : T} {f : List Addr} {vs : List V} {ds es : List Dat} (h0 : Ex H0 G) (gh : Ex G H) (g : Grow G H G' H') (o : Owns mg (nw H0 G') G' H' vs [t, u] f) (r : Frs f G' H) :
    ∃ G2, Grow G H G2 H' ∧ ∃ x y, vs = [x, y] ∧ R mg (hk (nw H0 G2) G2 H' (kdTs [t, u])) x (datT t) ∧ R mg (hk (nw H0 G2) G2 H' (kdTs [t, u])) y (datT u) := by
  obtain ⟨G2, g2, rs⟩ := frzs h0 gh g o r
  cases rs with
  | cons r1 rr =>
    cases rr with
    | cons r2 rr =>
      cases rr
      exact ⟨G2, g2, _, _, rfl, r1, r2⟩
theorem se_add {tx ty : TE} {fx fy : FE} (hx : SE mg E tx fx) (hy : SE mg E ty fy) : SE mg E (tOp rAddA tx ty) (fAdd fx fy) := by
  intro H0 G H σ e fp Q st hh
  refine ev2 (K := fun x y H2 => rAddA x y H2 Q) hx hy st ?_
  unfold fAdd at hh
  cases q : fA1 fx (fA1 fy fA0) e with
  | no => rw [q] at hh; exact hh.elim
  | er c => rw [q] at hh; exact hh
  | ok ts =>
    rw [q] at hh
    intro vs G1 H1 f g o r x y exy
    subst exy
    have hl := o.length
    match ts, hl, hh, o with
    | [t, u], _, hh, o =>
      have h' : Pe mg E H0 G H Q (match datT t, datT u with
        | .int i, .int j => .ok (.leaf 0 (.int (i + j)))
        | .lst ds, .lst es => if ds.length + es.length ≤ 1000000 then .ok (.lst ((ds ++ es).map (mk (kdTs [t, u])))) else .no
        | _, _ => .no) := hh
      obtain ⟨G2, g2, x', y', e, r1, r2⟩ := two_lst (ds := []) (es := []) st.h0 st.gh g o r
      cases e
      split at h'
      · rename_i i j hi hj
        rw [hi] at r1
        rw [hj] at r2
        cases r1
        cases r2
        exact .inl ⟨i, j, rfl, rfl, h' _ G2 H1 [] g2 (.leaf (.int _)) Frs.nil⟩
      · rename_i ds es hi hj
        rw [hi] at r1
        rw [hj] at r2
        split at h'
        · rename_i hz
          cases r1 with
          | lst ha ra =>
            cases r2 with
            | lst hb rb =>
              have sub := hk_sub (N := nw H0 G2) nw_sub g2.gh (kdTs [t, u])
              refine .inr ⟨_, _, _, _, rfl, rfl, (sub _ _ ha).is, (sub _ _ hb).is, by rw [ra.length, rb.length]; exact sz hz, fun p hp => h' (.ref p) G2 _ (p :: []) (g2.upd hp) (.lst upd_same (owns_mk ((ra.append rb).mono (hk_mono (Ex.refl _) (Ex.refl _) (Ex.new hp) _)))) (frs_one g2 hp)⟩
        · exact h'.elim
      · exact h'.elim
theorem rep_rs {vs : List V} {ds : List Dat} (r : Rs mg X vs ds) : ∀ n : Nat, Rs mg X (List.replicate n vs).flatten (List.replicate n ds).flatten
  | 0 => .nil
  | n + 1 => by
    rw [List.replicate_succ, List.replicate_succ, List.flatten_cons, List.flatten_cons]
    exact r.append (rep_rs r n)
theorem se_mul {tx ty : TE} {fx fy : FE} (hx : SE mg E tx fx) (hy : SE mg E ty fy) : SE mg E (tOp rMulA tx ty) (fMul fx fy) := by
  intro H0 G H σ e fp Q st hh
  refine ev2 (K := fun x y H2 => rMulA x y H2 Q) hx hy st ?_
  unfold fMul at hh
  cases q : fA1 fx (fA1 fy fA0) e with
  | no => rw [q] at hh; exact hh.elim
  | er c => rw [q] at hh; exact hh
  | ok ts =>
    rw [q] at hh
    intro vs G1 H1 f g o r x y exy
    subst exy
    have hl := o.length
    match ts, hl, hh, o with
    | [t, u], _, hh, o =>
      have h' : Pe mg E H0 G H Q (match datT t, datT u with
        | .int i, .int j => if j.natAbs < 1000000 ∨ i.natAbs < 1000000 ∨ i.natAbs.log2 + j.natAbs.log2 < 1000000 then .ok (.leaf 0 (.int (i * j))) else .no
        | .lst ds, .int j => if ds.length * j.toNat ≤ 1000000 ∧ j.natAbs ≤ 1000000 then .ok (.lst ((List.replicate j.toNat ds).flatten.map (mk (kdTs [t, u])))) else .no
        | _, _ => .no) := hh
      obtain ⟨G2, g2, x', y', e, r1, r2⟩ := two_lst (ds := []) (es := []) st.h0 st.gh g o r
      cases e
      split at h'
      · rename_i i j hi hj
        rw [hi] at r1
        rw [hj] at r2
        cases r1
        cases r2
        split at h'
        · rename_i hz
          have hq : Q (.int (i * j)) H1 := h' _ G2 H1 [] g2 (.leaf (.int _)) Frs.nil
          rcases hz with z | z | z
          · exact .inl (.inr ⟨i, j, rfl, rfl, .inr (by omega), hq⟩)
          · exact .inl (.inr ⟨i, j, rfl, rfl, .inl (by omega), hq⟩)
          · exact .inl (.inl ⟨i, j, rfl, rfl, z, hq⟩)
        · exact h'.elim
      · rename_i ds j hi hj
        rw [hi] at r1
        rw [hj] at r2
        split at h'
        · rename_i hz
          cases r2
          cases r1 with
          | lst ha ra =>
            have sub := hk_sub (N := nw H0 G2) nw_sub g2.gh (kdTs [t, u])
            refine .inr ⟨_, j, _, rfl, rfl, (sub _ _ ha).is, by omega, by omega, by rw [ra.length]; exact sz hz.1, fun p hp => h' (.ref p) G2 _ (p :: []) (g2.upd hp) (.lst upd_same (owns_mk ((rep_rs ra _).mono (hk_mono (Ex.refl _) (Ex.refl _) (Ex.new hp) _)))) (frs_one g2 hp)⟩
        · exact h'.elim
      · exact h'.elim
end
end LS

/-! LK: items stored, names stored side by side, attributes, objects made, methods. -/
namespace LS
open PySem PySem.Spec
open PyProof.Rows L2
variable [TabI]
section
variable {mg : Str → Option Value} {E : XK} {K : PySem.W.Frag} {H0 G H G' H' : Hp} {σ : L2.St} {e : Env} {fp : List Addr} {D : Ends}
/-! ### o[i] = v -/
def Px (mg : Str → Option Value) (E : XK) (H0 G H : Hp) (σ : L2.St) (fp : List Addr) (Q : L2.St → Hp → Prop) : Re Env → Prop
  | .no => False
  | .er c => Er mg E G H c
  | .ok e' => ∀ G' H', Ex G G' → Stt mg H0 G' H' σ e' fp → Q σ H'
theorem ix_go {to ti : TE} {p : FP} {fi : FE} {x : V} {k : Nat} {d : Dat} {Q : L2.St → Hp → Prop} (ho : SP mg E to p) (hi : SE mg E ti fi) (st : Stt mg H0 G H σ e fp) (hk1 : k ≤ 1) (hx : R mg (hk (nw H0 G) G H k) x d)
    (h : Px mg E H0 G H σ fp Q (setIx p fi (mk k d) e)) : gSub to ti rSetL x σ H Q := by
  refine ho H0 G H σ e fp _ st ?_
  unfold setIx at h
  cases q1 : p e with
  | no => rw [q1] at h; exact h.elim
  | er c => rw [q1] at h; exact h
  | ok q =>
    rw [q1] at h
    have h1 : Px mg E H0 G H σ fp Q ((fi e).bind fun u => match slotP e q.1 q.2, datT u with
      | some (.lst ts), .int i => match ixD ts.length i with
        | some j => (ofO (mutE (mSet j (mk k d)) e q [])).bind fun z => .ok z.1
        | none => .no
      | _, _ => .no) := h
    intro v w G1 H1 g hv hw
    refine hi H0 G1 H1 σ e fp _ (st.grow g) ?_
    cases q2 : fi e with
    | no => rw [q2] at h1; exact h1.elim
    | er c => rw [q2] at h1; exact Er.grow h1 g
    | ok u =>
      rw [q2] at h1
      have h2 : Px mg E H0 G H σ fp Q (match slotP e q.1 q.2, datT u with
        | some (.lst ts), .int i => match ixD ts.length i with
          | some j => (ofO (mutE (mSet j (mk k d)) e q [])).bind fun z => .ok z.1
          | none => .no
        | _, _ => .no) := h1
      intro y G2 H2 f2 g2 o2 r2
      have ry := o2.now nw_sub g2.gh
      split at h2
      · rename_i ts i hs hd
        rw [hd] at ry
        cases ry
        split at h2
        · rename_i j hj
          cases q3 : mutE (mSet j (mk k d)) e q [] with
          | none => rw [q3] at h2; exact h2.elim
          | some z =>
            rw [q3] at h2
            have st2 := (st.grow g).grow g2
            obtain ⟨a, vs, ts2, ts', ew, ha, hs2, l, _, hm, hst⟩ := mut_core (e' := z.1) (u := z.2) st2 hv (atV_mono g2.hh hw) q3
            rw [hs] at hs2
            cases hs2
            subst ew
            have hm' : (if j < ts.length then some (ts.set j (mk k d), tN) else none) = some (ts', z.2) := hm
            split at hm'
            · rename_i hlt
              injection hm' with hm'
              injection hm' with e1 _
              subst e1
              have gt := g.trans g2
              have hx2 : R mg (hk (nw H0 G2) G2 H2 k) x d := hx.mono (hk_mono (nw_mono gt.gg) gt.gg gt.hh k)
              have lx : Lf mg (nw H0 G2) G2 H2 [x] [mk k d] := ⟨.cons (f := []) (fs := []) (own_mk hx2) .nil, rfl, by
                have := kd_mk k d
                simp only [kdTs]
                omega⟩
              refine ⟨a, vs, i, j, rfl, rfl, ha, ?_, h2 G2 _ gt.gg (hst _ (lf_set j l lx))⟩
              rw [lf_len l]
              exact hj
            · cases hm'
        · exact h2.elim
      · exact h2.elim
theorem px_of {X : Re Env} {fg : Env → Re Out} {Q : L2.St → Hp → Prop} (st : Stt mg H0 G H σ e fp) (h : Ps mg E H0 G D (X.bind fg)) (hq : ∀ e', X = .ok e' → Ps mg E H0 G D (fg e') → ∀ G' H', Ex G G' → Stt mg H0 G' H' σ e' fp → Q σ H') : Px mg E H0 G H σ fp Q X := by
  cases X with
  | no => exact h
  | er c => exact er_of st h
  | ok e' => exact hq e' rfl h
theorem s_setIx {to ti te : TE} {p : FP} {fi fe : FE} (ho : SP mg E to p) (hi : SE mg E ti fi) (he : SE mg E te fe) : SS mg E (tAsg te (gSub to ti rSetL)) (sSetIx p fi fe) := by
  intro H0 G H σ e fp D st h
  refine he H0 G H σ e fp _ st ?_
  unfold sSetIx at h
  cases q : fe e with
  | no => rw [q] at h; exact h.elim
  | er c => rw [q] at h; exact er_of st h
  | ok t =>
    rw [q] at h
    have h1 : Ps mg E H0 G D (if kdT t ≤ 1 then (setIx p fi (mk (kdT t) (datT t)) e).bind fun e' => .ok (.nx e') else .no) := h
    split at h1
    · rename_i hk1
      intro v G1 H1 f g o r
      obtain ⟨G2, g2, rv⟩ := frz1 st.h0 st.gh g o r
      exact ix_go ho hi (st.grow g2) hk1 rv (px_of (fg := fun e' => .ok (.nx e')) (st.grow g2) (Ps.up g2.gg h1) fun e' _ hz G' H' x st' => hz σ G' H' fp x st')
    · exact h1.elim
theorem s_setIx2 {to1 ti1 to2 ti2 : TE} {ta : TA} {p1 p2 : FP} {f1 f2 : FE} {fa : FA} (h1 : SP mg E to1 p1) (h2 : SE mg E ti1 f1) (h3 : SP mg E to2 p2) (h4 : SE mg E ti2 f2) (he : SA mg E ta fa) (hl : FAn 2 fa) :
    SS mg E (tAsg (tTup ta) (gTup K 2 (gCons (gSub to1 ti1 rSetL) (gCons (gSub to2 ti2 rSetL) gNil)))) (sSetIx2 p1 f1 p2 f2 (fTup fa)) := by
  intro H0 G H σ e fp D st h
  refine se_tup he hl (by decide) H0 G H σ e fp _ st ?_
  unfold sSetIx2 at h
  cases q : fTup fa e with
  | no => rw [q] at h; exact h.elim
  | er c => rw [q] at h; exact er_of st h
  | ok t =>
    rw [q] at h
    have h' : Ps mg E H0 G D (ix2F p1 f1 p2 f2 e t) := h
    intro v G1 H1 f g o r
    unfold ix2F at h'
    split at h'
    · rename_i k1 d1 k2 d2
      split at h'
      · rename_i hs
        cases o with
        | @tup a vs _ fpt ha os =>
          cases os with
          | @cons v1 vs1 _ _ fx1 fy1 o1 os =>
            cases os with
            | @cons v2 vs2 _ _ fx2 fy2 o2 os =>
              cases os
              have st1 := st.grow g
              have r1 : R mg H1 v1 d1 := o1.now nw_sub g.gh
              have r2 : R mg H1 v2 d2 := o2.now nw_sub g.gh
              have e1 := r1.isS hs.1
              have e2 := r2.isS hs.2
              refine ⟨a, [v1, v2], rfl, .of ha, rfl, v1, [v2], rfl, ?_⟩
              have mk0 : ∀ d : Dat, scal d = true → mk 0 d = .leaf 0 d := fun d hd => by
                unfold mk
                rw [if_pos hd]
              refine ix_go (k := 0) (d := d1) h1 h2 st1 (Nat.zero_le _) (by rw [e1]; exact R.ofS hs.1) ?_
              rw [mk0 d1 hs.1]
              refine px_of (fg := fun e1 => (setIx p2 f2 (.leaf 0 d2) e1).bind fun e2 => .ok (.nx e2)) st1 (Ps.up g.gg h') fun e3 _ hz G3 H3 x3 st3 => ?_
              refine ⟨v2, [], rfl, ?_⟩
              refine ix_go (k := 0) (d := d2) h3 h4 st3 (Nat.zero_le _) (by rw [e2]; exact R.ofS hs.2) ?_
              rw [mk0 d2 hs.2]
              exact px_of (fg := fun e2 => .ok (.nx e2)) st3 (Ps.up x3 hz) fun e4 _ hz4 G4 H4 x4 st4 => ⟨rfl, hz4 σ G4 H4 fp x4 st4⟩
      · exact h'.elim
    · exact h'.elim

/-! ### names side by side -/
theorem par_st {t u : T} {v w : V} {f1 f2 : List Addr} {i j : Nat} (st : Stt mg H0 G H σ e fp) (ov : Own mg (nw H0 G) G H v t f1) (ow : Own mg (nw H0 G) G H w u f2) (nd : (f1 ++ f2).Nodup) (ho : ∀ p ∈ f1 ++ f2, G p = none ∧ p ∉ fp)
    (k1 : kdT t ≤ 1) (k2 : kdT u ≤ 1) (hi : i < e.length) (hj : j < e.length) : ∃ fp', Stt mg H0 G H ((σ.set i (some v)).set j (some w)) ((e.set i (some t)).set j (some u)) fp' ∧ ∀ p ∈ fp', p ∈ fp ∨ p ∈ f1 ++ f2 := by
  have nd' := List.nodup_append.mp nd
  obtain ⟨fa, s1, n1, b1⟩ := st.sl.set ov k1 hi (fun p hp m => (ho p (List.mem_append_left _ m)).2 hp) st.nd nd'.1
  obtain ⟨fb, s2, n2, b2⟩ := s1.set (i := j) ow k2 (by rw [List.length_set]; exact hj) (fun p hp m => by
    rcases b1 p hp with z | z
    · exact (ho p (List.mem_append_right _ m)).2 z
    · exact nd'.2.2 p z p m rfl) n1 nd'.2.1
  have sub : ∀ p ∈ fb, p ∈ fp ∨ p ∈ f1 ++ f2 := fun p hp => by
    rcases b2 p hp with z | z
    · exact (b1 p z).imp id (List.mem_append_left _)
    · exact .inr (List.mem_append_right _ z)
  exact ⟨fb, ⟨st.tb, st.h0, st.gh, s2, n2, fun p hp => (sub p hp).elim (st.out p) fun z => (ho p z).1⟩, sub⟩
theorem s_par {i j : Nat} {ta : TA} {fa : FA} (ha : SA mg E ta fa) : SS mg E (tPar i j ta) (sPar i j fa) := by
  intro H0 G H σ e fp D st h
  refine ha H0 G H σ e fp _ st ?_
  unfold sPar at h
  cases q : fa e with
  | no => rw [q] at h; exact h.elim
  | er c => rw [q] at h; exact er_of st h
  | ok ts =>
    rw [q] at h
    have h' : Ps mg E H0 G D (parF i j e ts) := h
    intro vs G1 H1 f g o r
    unfold parF at h'
    split at h'
    · rename_i t u
      split at h'
      · rename_i hc
        cases o with
        | @cons v vs _ _ f1 f2 ov os =>
          cases os with
          | @cons w ws _ _ f3 f4 ow os =>
            cases os
            rw [List.append_nil] at r
            obtain ⟨fp', st', _⟩ := par_st (st.grow g) ov ow r.1 (fun p hp => ⟨(r.2 p hp).2, fun m => by
              obtain ⟨y, hy⟩ := st.sl.dom p m
              rw [(r.2 p hp).1] at hy
              cases hy⟩) hc.1 hc.2.1 hc.2.2.1 hc.2.2.2
            exact ⟨v, w, rfl, h' _ G1 H1 fp' g.gg st'⟩
      · exact h'.elim
    · exact h'.elim
theorem s_par3 {i j k : Nat} {ta : TA} {fa : FA} (ha : SA mg E ta fa) : SS mg E (tPar3 i j k ta) (sPar3 i j k fa) := by
  intro H0 G H σ e fp D st h
  refine ha H0 G H σ e fp _ st ?_
  unfold sPar3 at h
  cases q : fa e with
  | no => rw [q] at h; exact h.elim
  | er c => rw [q] at h; exact er_of st h
  | ok ts =>
    rw [q] at h
    have h' : Ps mg E H0 G D (parF3 i j k e ts) := h
    intro vs G1 H1 f g o r
    unfold parF3 at h'
    split at h'
    · rename_i t u x
      split at h'
      · rename_i hc
        cases o with
        | @cons v vs _ _ f1 f2 ov os =>
          cases os with
          | @cons w ws _ _ f3 f4 ow os =>
            cases os with
            | @cons y ys _ _ f5 f6 oy os =>
              cases os
              rw [List.append_nil, ← List.append_assoc] at r
              have rn := List.nodup_append.mp r.1
              have out : ∀ p ∈ f1 ++ f3 ++ f5, G1 p = none ∧ p ∉ fp := fun p hp => ⟨(r.2 p hp).2, fun m => by
                obtain ⟨y, hy⟩ := st.sl.dom p m
                rw [(r.2 p hp).1] at hy
                cases hy⟩
              obtain ⟨fp', st', sub⟩ := par_st (st.grow g) ov ow rn.1 (fun p hp => out p (List.mem_append_left _ hp)) hc.1 hc.2.1 hc.2.2.2.1 hc.2.2.2.2.1
              obtain ⟨fc, s3, n3, b3⟩ := st'.sl.set (i := k) oy hc.2.2.1 (by rw [List.length_set, List.length_set]; exact hc.2.2.2.2.2) (fun p hp m => by
                rcases sub p hp with z | z
                · exact (out p (List.mem_append_right _ m)).2 z
                · exact rn.2.2 p z p m rfl) st'.nd rn.2.1
              exact ⟨v, w, y, rfl, h' _ G1 H1 fc g.gg ⟨st'.tb, st'.h0, st'.gh, s3, n3, fun p hp => (b3 p hp).elim (st'.out p) fun z => (out p (List.mem_append_right _ z)).1⟩⟩
      · exact h'.elim
    · exact h'.elim
end
end LS

/-! LL: objects made, their attributes, their methods. -/
namespace LS
open PySem PySem.Spec
open PyProof.Rows L2
variable [TabI]
/-! ### o.f read -/
section
variable {mg : Str → Option Value} {E : XK} {K : PySem.W.Frag} {H0 G H G' H' : Hp} {σ : L2.St} {e : Env} {fp : List Addr} {D : Ends}
theorem se_fld {c f : Str} {te : TE} {fe : FE} (F : FldOk K mg c f) (he : SE mg E te fe) : SE mg E (tFld K te f) (fI (oFld c f) (fA1 fe fA0)) :=
  se_op1 (r1 := fun x H Q => ∃ a C dx fs v, x = .ref a ∧ H a = some (.ins C dx fs) ∧ Cls K C ∧ NoAttr K C f ∧ fs.lookup f = some v ∧ Q v H) he fun X H vs ds d ex rs q => by
    unfold oFld at q
    split at q
    · rename_i c' ns ds
      split at q
      · rename_i hc
        subst hc
        split at q
        · rename_i j hj
          cases rs with
          | cons r rs0 =>
            cases rs0
            cases r with
            | @ins a C dx _ _ vs _ m ha l rs' =>
              obtain ⟨x, hx, hl⟩ := idx_lookup hj l
              obtain ⟨y, hy, ry⟩ := rs'.get q
              rw [hx] at hy
              cases hy
              obtain ⟨cl, na⟩ := F.ok C m
              refine ⟨x, ry, fun Q hQ z hz => ?_⟩
              cases hz
              exact ⟨a, C, dx, _, x, rfl, (ex _ _ ha).is, cl, na, hl, hQ⟩
        · cases q
      · cases q
    · cases q
/-! ### a method that reads -/
theorem se_meth {c m : Str} {C : Addr} {F : List Dat → Re T} {to : TE} {ta : TA} {fo : FE} {fa : FA} (hC : mg c = some (.ref C)) (kd : KdF F) (ho : SE mg E to fo) (ha : SA mg E ta fa) : SE mg E (tMeth C m (spF mg F) [] E to ta) (fMeth c m F fo fa) := by
  intro H0 G H σ e fp Q st h
  refine ho H0 G H σ e fp _ st ?_
  unfold fMeth at h
  cases q : fo e with
  | no => rw [q] at h; exact h.elim
  | er x => rw [q] at h; exact h
  | ok s =>
    rw [q] at h
    have h' : Pe mg E H0 G H Q (methF c m F fa e (datT s)) := h
    intro v G1 H1 f g o r
    have rv := o.now nw_sub g.gh
    unfold methF at h'
    split at h'
    · rename_i c' ns ds hd
      rw [hd] at rv
      split at h'
      · rename_i hc
        obtain ⟨rfl, hm⟩ := hc
        cases rv with
        | @ins a C' dx _ _ vs _ mC hH l rs =>
          rw [hC] at mC
          cases mC
          refine ⟨a, dx, _, rfl, hH, (idx_none hm).2, ?_⟩
          refine ha H0 G1 H1 σ e fp _ (st.grow g) ?_
          cases q2 : fa e with
          | no => rw [q2] at h'; exact h'.elim
          | er x => rw [q2] at h'; exact Er.grow h' g
          | ok ts =>
            rw [q2] at h'
            have h2 : Pe mg E H0 G H Q (F (.ins c' ns ds :: datTs ts)) := h'
            intro ws G2 H2 f2 g2 o2 r2
            refine ⟨(st.grow (g.trans g2)).tb.2, .ins c' ns ds :: datTs ts, .cons (.ins hC (g2.hh _ _ hH).is l (rs.mono g2.hh)) ?_, call_post kd st.h0 st.gh (g.trans g2) h2⟩
            rw [List.append_nil]
            exact o2.now nw_sub g2.gh
      · exact h'.elim
    · exact h'.elim
end
/-! ### statements that keep the object at slot 0 -/
def Pz (mg : Str → Option Value) (E : XK) (H0 G : Hp) (v0 : Option (Option V)) (D : Ends) : Re Out → Prop
  | .no => False
  | .er c => ∀ C H', mg c = some (.ref C) → Ex H0 H' → TB H0 H' → E (.ref C) none H'
  | .ok (.nx e) => ∀ σ' G' H' fp, Ex G G' → Stt mg H0 G' H' σ' e fp → σ'[0]? = v0 → D.nx σ' H'
  | .ok (.rt e t) => ∀ σ' v G' H' fp f, Ex G G' → Stt mg H0 G' H' σ' e fp → σ'[0]? = v0 → Own mg (nw H0 G') G' H' v t f → f.Nodup → (∀ p ∈ f, G' p = none ∧ p ∉ fp) → D.rt v H'
  | .ok _ => False
def SK (mg : Str → Option Value) (E : XK) (ts : TS) (fs : FS) : Prop := ∀ H0 G H σ e fp D, Stt mg H0 G H σ e fp → Pz mg E H0 G σ[0]? D (fs e) → ts D σ H
section
variable {mg : Str → Option Value} {E : XK} {K : PySem.W.Frag} {H0 G H G' H' : Hp} {σ : L2.St} {e : Env} {fp : List Addr} {D : Ends} {v0 : Option (Option V)}
theorem Pz.up (x : Ex G G') : ∀ {r : Re Out}, Pz mg E H0 G v0 D r → Pz mg E H0 G' v0 D r
  | .no, h => h
  | .er _, h => h
  | .ok (.nx _), h => fun σ' G2 H2 fp a st => h σ' G2 H2 fp (x.trans a) st
  | .ok (.rt _ _), h => fun σ' v G2 H2 fp f a st => h σ' v G2 H2 fp f (x.trans a) st
  | .ok (.bk _), h => h
  | .ok (.ct _), h => h
theorem k_seq {t u : TS} {a b : FS} (h1 : SK mg E t a) (h2 : SK mg E u b) : SK mg E (tSeq t u) (sSeq a b) := by
  intro H0 G H σ e fp D st h
  refine h1 H0 G H σ e fp _ st ?_
  unfold sSeq at h
  cases q : a e with
  | no => rw [q] at h; exact h.elim
  | er c => rw [q] at h; exact h
  | ok o =>
    rw [q] at h
    cases o with
    | nx e1 =>
      intro σ' G' H' fp' x st' hv
      refine h2 H0 G' H' σ' e1 fp' D st' ?_
      rw [hv]
      exact Pz.up x h
    | rt e1 t => exact h
    | bk e1 => exact h.elim
    | ct e1 => exact h.elim
theorem k_drop {te : TE} {fe : FE} (he : SE mg E te fe) : SK mg E (tDrop te) (sDrop fe) := by
  intro H0 G H σ e fp D st h
  refine he H0 G H σ e fp _ st ?_
  unfold sDrop at h
  cases q : fe e with
  | no => rw [q] at h; exact h.elim
  | er c => rw [q] at h; exact er_of st h
  | ok t =>
    rw [q] at h
    exact fun v G1 H1 f g o r => h σ G1 H1 fp g.gg (st.grow g) rfl
theorem Sl.take {N G H : Hp} : ∀ {σ : L2.St} {e : Env} {fp : List Addr} {i : Nat} {t : T}, Sl mg N G H σ e fp → fp.Nodup → e[i]? = some (some t) →
    ∃ v f fp', σ[i]? = some (some v) ∧ Own mg N G H v t f ∧ kdT t ≤ 1 ∧ f.Nodup ∧ (∀ p ∈ f, p ∈ fp) ∧ Sl mg N G H σ (e.set i none) fp' ∧ fp'.Nodup ∧ ∀ p ∈ fp', p ∈ fp ∧ p ∉ f
  | _, _, _, i, t, .n0, _, h => by simp at h
  | _, _, _, 0, t, .no r, _, h => by simp at h
  | _, _, _, i + 1, t, .no r, nd, h => by
    obtain ⟨v, f, fp', h1, h2, h3, h4, h5, h6, h7, h8⟩ := Sl.take (i := i) (t := t) r nd (by simpa using h)
    exact ⟨v, f, fp', by simpa using h1, h2, h3, h4, h5, .no h6, h7, h8⟩
  | _, _, _, 0, t, .so (f := f) (fp := fp) q k r, nd, h => by
    have z : some _ = some t := Option.some.inj h
    cases z
    have nd' := List.nodup_append.mp nd
    exact ⟨_, f, fp, rfl, q, k, nd'.1, fun p hp => List.mem_append_left _ hp, .no r, nd'.2.1, fun p hp => ⟨List.mem_append_right _ hp, fun m => nd'.2.2 p m p hp rfl⟩⟩
  | _, _, _, i + 1, t, .so (f := g) q k r, nd, h => by
    have nd' := List.nodup_append.mp nd
    obtain ⟨v, f, fp', h1, h2, h3, h4, h5, h6, h7, h8⟩ := Sl.take (i := i) (t := t) r nd'.2.1 (by simpa using h)
    refine ⟨v, f, g ++ fp', by simpa using h1, h2, h3, h4, fun p hp => List.mem_append_right _ (h5 p hp), .so q k h6, List.nodup_append.mpr ⟨nd'.1, h7, fun x hx y hy z => nd'.2.2 x hx y (h8 y hy).1 z⟩, fun p hp => ?_⟩
    rcases List.mem_append.mp hp with m | m
    · exact ⟨List.mem_append_left _ m, fun m2 => nd'.2.2 p m p (h5 p m2) rfl⟩
    · exact ⟨List.mem_append_right _ (h8 p m).1, (h8 p m).2⟩
theorem put_new : ∀ {ns : List Str} {vs : List V} {f : Str} {y : V}, idxS f ns = none → ns.length = vs.length → putF f y (ns.zip vs) = (ns ++ [f]).zip (vs ++ [y])
  | [], [], f, y, _, _ => rfl
  | n :: ns, v :: vs, f, y, h, l => by
    by_cases hn : n = f
    · simp [idxS, hn] at h
    · have q : idxS f ns = none := by
        cases q : idxS f ns with
        | none => rfl
        | some i => simp [idxS, hn, q] at h
      have ih := put_new (vs := vs) (y := y) q (by simpa using l)
      show (if n = f then (n, y) :: ns.zip vs else (n, v) :: putF f y (ns.zip vs)) = _
      rw [if_neg hn, ih]
      rfl
theorem k_fld {i : Nat} {c f : Str} {te : TE} {fe : FE} (F : FldOk K mg c f) (he : SE mg E te fe) : SK mg E (sFld K (tVar i) te f) (sFldS i c f fe) := by
  intro H0 G H σ e fp D st h
  refine he H0 G H σ e fp _ st ?_
  unfold sFldS at h
  cases q : fe e with
  | no => rw [q] at h; exact h.elim
  | er x => rw [q] at h; exact er_of st h
  | ok u =>
    rw [q] at h
    have h' : Pz mg E H0 G σ[0]? D ((putS c f i e u).bind fun e' => .ok (.nx e')) := h
    intro y G1 H1 fu g ou ru
    have st1 := st.grow g
    unfold putS at h'
    split at h'
    · rename_i c' ns ts hi
      split at h'
      · rename_i hc
        obtain ⟨rfl, ku, hl, hn⟩ := hc
        obtain ⟨v, fs, fp', e1, o1, k1, nd1, sub1, sl1, nd2, sub2⟩ := st1.sl.take st1.nd hi
        have hlt : i < e.length := (List.getElem?_eq_some_iff.mp hi).1
        cases o1 with
        | @ins a C dx _ _ vs _ fk m ha l os =>
          obtain ⟨cl, na⟩ := F.ok C m
          refine ⟨_, e1, a, C, dx, _, rfl, ha, cl, na, ?_, ?_⟩
          · rw [List.length_zip, ← l]
            omega
          · have nd1' := List.nodup_cons.mp nd1
            have naf : a ∉ fu := fun z => by
              obtain ⟨w, hw⟩ := st.sl.dom a (sub1 a List.mem_cons_self)
              rw [(ru.2 a z).1] at hw
              cases hw
            have kts : kdTs ts ≤ 1 := k1
            have oo : Own mg (nw H0 G1) G1 (upd H1 a (.ins C dx (putF f y (ns.zip vs)))) (.ref a) (.ins c' (ns ++ [f]) (ts ++ [u])) (a :: (fk ++ (fu ++ []))) := by
              refine .ins (vs := vs ++ [y]) (dx := dx) m ?_ (by rw [List.length_append, List.length_append, l]; rfl) (owns_app (os.off nd1'.1 kts) (.cons (ou.off naf ku) .nil))
              rw [upd_same, put_new hn l]
            have nap : a ∉ fp' := fun z => (sub2 a z).2 List.mem_cons_self
            have kk : kdTs (ts ++ [u]) ≤ 1 := by
              have : ∀ (xs : List T), kdTs xs ≤ 1 → kdTs (xs ++ [u]) ≤ 1 := by
                intro xs
                induction xs with
                | nil => intro _; simp only [List.nil_append, kdTs]; omega
                | cons x xs ih =>
                  intro hx
                  simp only [kdTs, List.cons_append] at hx ⊢
                  have := ih (by omega)
                  omega
              exact this ts kts
            have dfu : ∀ p ∈ fu, p ∉ fp := fun p hp z => by
              obtain ⟨w, hw⟩ := st.sl.dom p z
              rw [(ru.2 p hp).1] at hw
              cases hw
            obtain ⟨fp2, sl2, nd3, sub3⟩ := (sl1.off (o := .ins C dx (putF f y (ns.zip vs))) nap).set (i := i) oo kk (by rw [List.length_set]; exact hlt) (fun p hp z => by
              rcases List.mem_cons.mp z with z | z
              · rw [z] at hp
                exact nap hp
              · rw [List.append_nil] at z
                rcases List.mem_append.mp z with z | z
                · exact (sub2 p hp).2 (List.mem_cons_of_mem _ z)
                · exact dfu p z (sub2 p hp).1) nd2 (by
              rw [List.append_nil]
              refine List.nodup_cons.mpr ⟨fun z => ?_, List.nodup_append.mpr ⟨nd1'.2, ru.1, fun x hx z hz w => ?_⟩⟩
              · exact (List.mem_append.mp z).elim nd1'.1 naf
              · rw [← w] at hz
                exact dfu x hz (sub1 x (List.mem_cons_of_mem _ hx)))
            have es : σ.set i (some (.ref a)) = σ := by
              apply List.ext_getElem?
              intro j
              by_cases hj : i = j
              · subst hj
                rw [List.getElem?_set_self (by rw [st1.sl.len]; exact hlt), e1]
              · rw [List.getElem?_set_ne hj]
            rw [es, List.set_set] at sl2
            have gGa : G1 a = none := st1.out a (sub1 a List.mem_cons_self)
            refine h' σ G1 _ fp2 g.gg ⟨st1.tb.trans (TB.upd ha), st1.h0, fun p o hp => ?_, sl2, nd3, fun p hp => ?_⟩ rfl
            · rw [upd_ne fun z => by rw [z, gGa] at hp; cases hp]
              exact st1.gh p o hp
            · rcases sub3 p hp with z | z
              · exact st1.out p (sub2 p z).1
              · rcases List.mem_cons.mp z with z | z
                · rw [z]
                  exact gGa
                · rw [List.append_nil] at z
                  rcases List.mem_append.mp z with z | z
                  · exact st1.out p (sub1 p (List.mem_cons_of_mem _ z))
                  · exact (ru.2 p z).2
      · exact h'.elim
    · exact h'.elim
end
/-! ### an object made -/
def Pi0 (mg : Str → Option Value) (E : XK) (Hb : Hp) (x : Addr) (Q : VK) : Re T → Prop
  | .no => False
  | .er c => ∀ C H', mg c = some (.ref C) → Ex Hb H' → TB Hb H' → E (.ref C) none H'
  | .ok t => ∀ G' H' f, Ex Hb G' → Ex G' H' → TB Hb H' → Own mg (nw Hb G') G' H' (.ref x) t f → f.Nodup → (∀ p ∈ f, G' p = none) → Q .non H'
def spI (mg : Str → Option Value) (c : Str) (F : List Dat → Re T) : Sp := fun vs H Q E => LamX.Tabs TabI.ts H ∧ ∃ x C dx Hb ws ds, vs = .ref x :: ws ∧ mg c = some (.ref C) ∧ H = upd Hb x (.ins C dx []) ∧ Hb x = none ∧ Rs mg Hb ws ds ∧ Pi0 mg E Hb x Q (F ds)
section
variable {mg : Str → Option Value} {E : XK} {K : PySem.W.Frag} {H0 G H G' H' : Hp} {σ : L2.St} {e : Env} {fp : List Addr} {D : Ends}
theorem make_kd (c : Str) (n p : Nat) (b : FS) : KdF (makeF c n p b) := fun ds t h => by
  unfold makeF at h
  split at h
  · cases q : b (some (.ins c [] []) :: startE (n - 1) ds) with
    | no => rw [q] at h; cases h
    | er c => rw [q] at h; cases h
    | ok o =>
      rw [q] at h
      have h' : outM o = .ok t := h
      unfold outM at h'
      split at h'
      · split at h'
        · split at h'
          · cases h'
            assumption
          · cases h'
        · cases h'
      · cases h'
  · cases h
theorem make_len {c : Str} {n p : Nat} {b : FS} {ds : List Dat} {Hb : Hp} {x : Addr} {Q : VK} (h : Pi0 mg E Hb x Q (makeF c n p b ds)) : ds.length + 1 = p := by
  unfold makeF at h
  split at h
  · assumption
  · exact h.elim
theorem make_post {c : Str} {n p : Nat} {fs : FS} {ds : List Dat} {Hb : Hp} {x : Addr} {Q : VK} (h : Pi0 mg E Hb x Q (makeF c n p fs ds)) : Pz mg E Hb Hb (some (some (.ref x))) { nx := fun _ H' => Q .non H', rt := Q } (fs (some (.ins c [] []) :: startE (n - 1) ds)) := by
  have hp := make_len h
  unfold makeF at h
  rw [if_pos hp] at h
  cases q : fs (some (.ins c [] []) :: startE (n - 1) ds) with
  | no => rw [q] at h; exact h.elim
  | er c => rw [q] at h; exact h
  | ok o =>
    rw [q] at h
    have h' : Pi0 mg E Hb x Q (outM o) := h
    cases o with
    | nx e1 =>
      intro σ' G' H' fp' eg st hv
      cases hq : e1[0]? with
      | none =>
        unfold outM at h'
        simp only [hq] at h'
        exact h'.elim
      | some y =>
        cases y with
        | none =>
          unfold outM at h'
          simp only [hq] at h'
          exact h'.elim
        | some s =>
          unfold outM at h'
          simp only [hq] at h'
          split at h'
          · obtain ⟨v, f, e3, o3, _, sub, nd⟩ := st.sl.get hq
            rw [hv] at e3
            cases e3
            exact h' G' H' f eg st.gh st.tb.1 o3 (nd st.nd) fun p hp => st.out p (sub p hp)
          · exact h'.elim
    | rt e1 t => exact h'.elim
    | bk e1 => exact h'.elim
    | ct e1 => exact h'.elim
theorem make_start {c : Str} {C dx x : Addr} {N : List Str} {n : Nat} (hn : N.length = n) (h1 : 0 < n) {Hb : Hp} {ws : List V} {ds : List Dat} (m : mg c = some (.ref C)) (hx : Hb x = none) (tb : LamX.Tabs TabI.ts (upd Hb x (.ins C dx []))) (r : Rs mg Hb ws ds) :
    Stt mg Hb Hb (upd Hb x (.ins C dx [])) (L2.start N (.ref x :: ws)) (some (.ins c [] []) :: startE (n - 1) ds) [x] := by
  refine ⟨⟨TB.new hx, tb⟩, Ex.refl _, Ex.new hx, ?_, List.nodup_cons.mpr ⟨(fun z => nomatch z), List.nodup_nil⟩, fun p hp => ?_⟩
  · have s := (sl_start (n - 1 - ds.length) r).mono (Ex.refl _) (Ex.refl _) (Ex.new (o := .ins C dx []) hx)
    have e1 : L2.start N (.ref x :: ws) = some (.ref x) :: (ws.map some ++ List.replicate (n - 1 - ds.length) none) := by
      unfold L2.start
      rw [List.map_cons, List.cons_append, hn, List.length_cons, r.length, Nat.sub_sub n 1, Nat.add_comm 1]
    rw [e1]
    exact .so (f := [x]) (fp := []) (.ins (vs := []) (ns := []) (dx := dx) m upd_same rfl .nil) (Nat.zero_le _) s
  · rcases List.mem_cons.mp hp with z | z
    · rw [z]
      exact hx
    · cases z
end
section
variable {w : World} {P : Program} {K : PySem.W.Frag} {mg : Str → Option Value} {base : Heap}
/-- an __init__ keeps its reading -/
theorem Fun.okI {x qual c : Str} {st : Stmt} {f : Addr} {fd : FuncData} {N ps : List Str} {k n p : Nat} {fs : FS} (F : Fun K x qual st f fd) (S : FnScope N ps (defScope st)) (hn : N.length = n) (h1 : 0 < n) (hp : ps.length = p)
    (hb : ∀ (cdv : Value) (A : Around) (outer : List PySem.Env) (s : Shared) (H : Hp) (E : XK), Room k (A.deeper (envOfC qual (defScope st) s.heap.objs.size f cdv)) →
      ∃ t, PSs (cxOf (L2.CX P w) P w K mg base N qual (defScope st) f cdv A outer s H E) (defBody st) t ∧ SK mg E t fs) :
    FnOk P w K mg base (L2.CX P w) (k + 1) f fd ps (spI mg c (makeF c n p fs)) := by
  refine F.okX S (fun vs H Q E h => ?_) (fun cdv A outer s H vs Q E hr h => ?_)
  · obtain ⟨tb, x, C, dx, Hb, ws, ds, rfl, _, _, _, r, h⟩ := h
    rw [List.length_cons, r.length, make_len h, hp]
  · obtain ⟨tb, x, C, dx, Hb, ws, ds, rfl, m, rfl, hx, r, h⟩ := h
    obtain ⟨t, hps, hss⟩ := hb cdv A outer s _ E hr
    refine ⟨t, hps, hss Hb Hb _ _ _ [x] _ (make_start hn h1 m hx tb r) ?_⟩
    exact make_post h
variable {E : XK}
theorem se_make {c : Str} {C : Addr} {n p : Nat} {b : FS} {ta : TA} {fa : FA} (m : mg c = some (.ref C)) (ha : SA mg E ta fa) : SE mg E (tMake C (spI mg c (makeF c n p b)) [] E ta) (fCall (makeF c n p b) fa) := by
  intro H0 G H σ e fp Q st h
  refine ha H0 G H σ e fp _ st ?_
  unfold fCall at h
  cases q : fa e with
  | no => rw [q] at h; exact h.elim
  | er c => rw [q] at h; exact h
  | ok ts =>
    rw [q] at h
    have h' : Pe mg E H0 G H Q (makeF c n p b (datTs ts)) := h
    intro vs G1 H1 f g o r x dx nx ndx nex
    have st1 := st.grow g
    have ed : Ex H1 (upd H1 dx (.own x)) := Ex.new ndx
    have td : TB H1 (upd H1 dx (.own x)) := TB.new ndx
    have nx2 : (upd H1 dx (.own x)) x = none := by
      rw [upd_ne nex.symm]
      exact nx
    refine ⟨fun p m => TB.new nx2 p m (td p m (st1.tb.2 p m)), x, C, dx, upd H1 dx (.own x), vs ++ [], datTs ts, rfl, m, rfl, ?_, ?_, ?_⟩
    · rw [upd_ne nex.symm]
      exact nx
    · rw [List.append_nil]
      exact (o.now nw_sub g.gh).mono ed
    · cases q2 : makeF c n p b (datTs ts) with
      | no => rw [q2] at h'; exact h'
      | er c2 =>
        rw [q2] at h'
        intro C2 H2 m2 e2 tb2
        exact h' C2 G1 H2 m2 ⟨g.tb.trans (td.trans tb2), g.hh.trans (ed.trans e2), g.gg, g.gh.trans (ed.trans e2), g.fr⟩
      | ok t =>
        rw [q2] at h'
        intro G2 H2 f2 e2 e3 tb2 o2 nd2 out2
        have k0 := make_kd c n p b _ _ q2
        have hs : ∀ u, G1 u ≠ none → (H1 u).isSome = true := fun u hu => by
          cases z : G1 u with
          | none => exact absurd z hu
          | some y =>
            exact g.gh.sm (by rw [z]; rfl)
        have i1 : Ex G1 fun u => if (H1 u).isSome then G1 u else G2 u := Ex.of fun u y hu => by
          show (if (H1 u).isSome then G1 u else G2 u) = some y
          rw [if_pos (hs u (by rw [hu]; intro z; cases z))]
          exact hu
        have i2 : Ex (fun u => if (H1 u).isSome then G1 u else G2 u) H2 := fun u y hu => by
          have hu' : (if (H1 u).isSome then G1 u else G2 u) = some y := hu
          split at hu'
          · exact (g.gh u y hu').trans (ed.trans (e2.trans e3))
          · exact e3 u y hu'
        have nn : ∀ u, ¬ (H1 u).isSome = true → H1 u = none := fun u hu => by
          cases z : H1 u with
          | none => rfl
          | some y =>
            rw [z] at hu
            exact absurd rfl hu
        refine ⟨rfl, h' (.ref x) _ H2 f2 ⟨g.tb.trans (td.trans tb2), g.hh.trans (ed.trans (e2.trans e3)), g.gg.trans i1, i2, fun u y hu n => ?_⟩ (call_post.own0 o2 k0 (Ex.of fun u y hu => ?_)) ⟨nd2, fun u hu => ?_⟩⟩
        · have hu' : (if (H1 u).isSome then G1 u else G2 u) = some y := hu
          split at hu'
          · exact g.fr u y hu' n
          · rename_i z
            exact none_back g.hh (nn u z)
        · unfold nw at hu
          split at hu
          · cases hu
          · rename_i z
            have hb : H1 u = none := by
              cases w : H1 u with
              | none => rfl
              | some y' => exact absurd (ed.sm (by rw [w]; rfl)) z
            refine nw_some (none_back ((st.h0.trans st.gh).trans g.hh) hb) ?_
            show (if (H1 u).isSome then G1 u else G2 u) = some y
            rw [hb]
            exact hu
        · have hb : H1 u = none := none_back (ed.trans e2) (out2 u hu)
          refine ⟨none_back g.hh hb, ?_⟩
          show (if (H1 u).isSome then G1 u else G2 u) = none
          rw [hb]
          exact out2 u hu
end
end LS

/-! LM: what a walk names: built-ins, defs, classes, methods, the law's own head. -/
namespace LS
open PySem PySem.Spec
open PyProof.Rows L2
variable [TabI]
theorem bt_len : bootBuiltins "len" = some (.builtin "len") := by decide +kernel
theorem bt_list : bootBuiltins "list" = some (.type "list") := by decide +kernel
theorem bt_tuple : bootBuiltins "tuple" = some (.type "tuple") := by decide +kernel
theorem bt_int : bootBuiltins "int" = some (.type "int") := by decide +kernel
theorem bt_bool : bootBuiltins "bool" = some (.type "bool") := by decide +kernel
theorem bt_str : bootBuiltins "str" = some (.type "str") := by decide +kernel
theorem bt_isi : bootBuiltins "isinstance" = some (.builtin "isinstance") := by decide +kernel
theorem bt_all : bootBuiltins "all" = some (.builtin "all") := by decide +kernel
theorem bt_any : bootBuiltins "any" = some (.builtin "any") := by decide +kernel
theorem bt_min : bootBuiltins "min" = some (.builtin "min") := by decide +kernel
theorem bt_max : bootBuiltins "max" = some (.builtin "max") := by decide +kernel
theorem bt_sorted : bootBuiltins "sorted" = some (.builtin "sorted") := by decide +kernel

structure Cal (P : Program) (w : World) (K : PySem.W.Frag) (mg : Str → Option Value) (base : Heap) (x : Str) (k : Nat) (ps : List Str) (F : List Dat → Re T) : Prop where
  ex : ∃ f fd, mg x = some (.ref f) ∧ PySem.W.keepIn K (.ref f) = true ∧ FnOk P w K mg base (L2.CX P w) k f fd ps (spF mg F) ∧ Binds K fd ps []
structure MCal (P : Program) (w : World) (K : PySem.W.Frag) (mg : Str → Option Value) (base : Heap) (c m : Str) (k : Nat) (ps : List Str) (F : List Dat → Re T) : Prop where
  ex : ∃ C f fd, mg c = some (.ref C) ∧ Cls K C ∧ Meth K C m f ∧ FnOk P w K mg base (L2.CX P w) k f fd ps (spF mg F) ∧ Binds K fd ps []
structure KCal (P : Program) (w : World) (K : PySem.W.Frag) (mg : Str → Option Value) (base : Heap) (c : Str) (k : Nat) (ps : List Str) (F : List Dat → Re T) : Prop where
  ex : ∃ C f fd, mg c = some (.ref C) ∧ Mk K C f ∧ FnOk P w K mg base (L2.CX P w) k f fd ps (spI mg c F) ∧ Binds K fd ps []
/-- the same, the class's address found -/
def tMethX (mg : Str → Option Value) (c m : Str) (F : List Dat → Re T) (E : XK) (ta : TE) (t : TA) : TE := fun σ H Q => ∃ C, mg c = some (.ref C) ∧ tMeth C m (spF mg F) [] E ta t σ H Q
def tMakeX (mg : Str → Option Value) (c : Str) (F : List Dat → Re T) (E : XK) (t : TA) : TE := fun σ H Q => ∃ C, mg c = some (.ref C) ∧ tMake C (spI mg c F) [] E t σ H Q
section
variable {X : Cx} {k : Nat} {ps : List Str} {F : List Dat → Re T} {E : XK} {x c m : Str} {p pos apos : Pos} {a1 ob : Expr} {as1 : List Expr} {ta : TE} {t : TA}
theorem pe_cal {P : Program} {w : World} {K : PySem.W.Frag} {mg : Str → Option Value} {base : Heap} (G : Cal P w K mg base x k ps F) (hr : Room k X.A) (hg : Gl X x) (hx : Passes (L2.CX X.prog X.w) X E) (ha : PA X (a1 :: as1) t) (hdb : (x == ("__debug__" : Str)) = false := by decide)
    (he : starEach (a1 :: as1) X.env = (false, eval a1 X.env) :: starEach as1 X.env := by rfl) (hpl : (backTo pos (starEach as1 X.env)).any (·.1) = false := by rfl)
    (z1 : X.prog = P := by rfl) (z2 : X.w = w := by rfl) (z3 : X.K = K := by rfl) (z4 : X.mg = mg := by rfl) (z5 : X.base = base := by rfl) : PE X (.Call (.Name x p) (a1 :: as1) [] pos) (tCall (spF mg F) [] E t) := by
  subst z1 z2 z3 z4 z5
  obtain ⟨f, fd, hm, hk, G, hb⟩ := G.ex
  exact pe_call G hr hg hm hk hb .nil hx ha hdb he hpl
theorem pe_mcal {P : Program} {w : World} {K : PySem.W.Frag} {mg : Str → Option Value} {base : Heap} {pl : Sem Bool} (G : MCal P w K mg base c m k ps F) (hr : Room k X.A) (hx : Passes (L2.CX X.prog X.w) X E) (ho : PE X ob ta) (ha : PA X (a1 :: as1) t)
    (hst : starEach (a1 :: as1) X.env = (false, eval a1 X.env) :: starEach as1 X.env := by rfl) (hpl : (backTo pos (starEach as1 X.env)).any (·.1) = false := by rfl)
    (ht : eval (.Call (.Attribute ob m apos) (a1 :: as1) [] pos) X.env = (do
      let ow ← eval ob X.env
      standAt apos.atName
      let (fn, fst1) ← holding [ow] (getMethod ow m pl)
      callWith pos fn fst1 (backTo pos (starEach (a1 :: as1) X.env)) (backToKw pos (keywordEach [] X.env))) := by rfl)
    (z1 : X.prog = P := by rfl) (z2 : X.w = w := by rfl) (z3 : X.K = K := by rfl) (z4 : X.mg = mg := by rfl) (z5 : X.base = base := by rfl) :
    PE X (.Call (.Attribute ob m apos) (a1 :: as1) [] pos) (tMethX mg c m F E ta t) := by
  subst z1 z2 z3 z4 z5
  obtain ⟨C, f, fd, hm, cl, M, G, hb⟩ := G.ex
  have q := pe_meth (pl := pl) (apos := apos) (pos := pos) ho cl M G hr hb .nil hx ha hst hpl ht
  refine ⟨fun pn sh τ Hh Z inv h => ?_⟩
  obtain ⟨C', e1, h⟩ := h
  rw [hm] at e1
  cases e1
  exact q.run pn sh τ Hh Z inv h
theorem pe_mcal0 {P : Program} {w : World} {K : PySem.W.Frag} {mg : Str → Option Value} {base : Heap} {pl : Sem Bool} (G : MCal P w K mg base c m k ps F) (hr : Room k X.A) (hx : Passes (L2.CX X.prog X.w) X E) (ho : PE X ob ta)
    (ht : eval (.Call (.Attribute ob m apos) [] [] pos) X.env = (do
      let ow ← eval ob X.env
      standAt apos.atName
      let (fn, fst1) ← holding [ow] (getMethod ow m pl)
      callWith pos fn fst1 (backTo pos (starEach [] X.env)) (backToKw pos (keywordEach [] X.env))) := by rfl)
    (z1 : X.prog = P := by rfl) (z2 : X.w = w := by rfl) (z3 : X.K = K := by rfl) (z4 : X.mg = mg := by rfl) (z5 : X.base = base := by rfl) :
    PE X (.Call (.Attribute ob m apos) [] [] pos) (tMethX mg c m F E ta tNil) := by
  subst z1 z2 z3 z4 z5
  obtain ⟨C, f, fd, hm, cl, M, G, hb⟩ := G.ex
  have q := pe_meth0 (pl := pl) (apos := apos) (pos := pos) ho cl M G hr hb .nil hx ht
  refine ⟨fun pn sh τ Hh Z inv h => ?_⟩
  obtain ⟨C', e1, h⟩ := h
  rw [hm] at e1
  cases e1
  exact q.run pn sh τ Hh Z inv h
theorem pe_kcal {P : Program} {w : World} {K : PySem.W.Frag} {mg : Str → Option Value} {base : Heap} (G : KCal P w K mg base c k ps F) (hr : Room (k + 1) X.A) (hg : Gl X c) (hx : Passes (L2.CX X.prog X.w) X E) (ha : PA X (a1 :: as1) t) (hdb : (c == ("__debug__" : Str)) = false := by decide)
    (he : starEach (a1 :: as1) X.env = (false, eval a1 X.env) :: starEach as1 X.env := by rfl) (hpl : (backTo pos (starEach as1 X.env)).any (·.1) = false := by rfl)
    (z1 : X.prog = P := by rfl) (z2 : X.w = w := by rfl) (z3 : X.K = K := by rfl) (z4 : X.mg = mg := by rfl) (z5 : X.base = base := by rfl) : PE X (.Call (.Name c p) (a1 :: as1) [] pos) (tMakeX mg c F E t) := by
  subst z1 z2 z3 z4 z5
  obtain ⟨C, f, fd, hm, M, G, hb⟩ := G.ex
  have q := pe_make (p := p) (pos := pos) M G hr hg hm hb .nil hx ha hdb he hpl
  refine ⟨fun pn sh τ Hh Z inv h => ?_⟩
  obtain ⟨C', e1, h⟩ := h
  rw [hm] at e1
  cases e1
  exact q.run pn sh τ Hh Z inv h
end
section
variable {mg : Str → Option Value} {E : XK}
theorem se_mcal {P : Program} {w : World} {K : PySem.W.Frag} {base : Heap} {k : Nat} {ps : List Str} {c m : Str} {F : List Dat → Re T} {to : TE} {ta : TA} {fo : FE} {fa : FA} (G : MCal P w K mg base c m k ps F) (kd : KdF F) (ho : SE mg E to fo) (ha : SA mg E ta fa) :
    SE mg E (tMethX mg c m F E to ta) (fMeth c m F fo fa) := by
  obtain ⟨C, f, fd, hm, _⟩ := G.ex
  exact fun H0 G H σ e fp Q st h => ⟨C, hm, se_meth hm kd ho ha H0 G H σ e fp Q st h⟩
theorem se_kcal {P : Program} {w : World} {K : PySem.W.Frag} {base : Heap} {k : Nat} {ps : List Str} {c : Str} {n p : Nat} {b : FS} {ta : TA} {fa : FA} (G : KCal P w K mg base c k ps (makeF c n p b)) (ha : SA mg E ta fa) :
    SE mg E (tMakeX mg c (makeF c n p b) E ta) (fCall (makeF c n p b) fa) := by
  obtain ⟨C, f, fd, hm, _⟩ := G.ex
  exact fun H0 G H σ e fp Q st h => ⟨C, hm, se_make hm ha H0 G H σ e fp Q st h⟩
theorem se_neg {tx : TE} {fx : FE} (h : SE mg E tx fx) : SE mg E (tUn (rU fun i => .int (-i)) tx) (fI oNeg (fA1 fx fA0)) := se_op1 (r1 := rU fun i => .int (-i)) (tx := tx) h ri_neg
theorem gs_er : ∀ is : List Nat, ∀ g ∈ is.map gN, ∀ t e x, g t e ≠ .er x := fun is g h => by
  obtain ⟨i, _, rfl⟩ := List.mem_map.mp h
  exact gn_er i
theorem ints_R {H : Hp} : ∀ ns : List Int, Rs mg H (ns.map V.int) (ns.map Dat.int) := Rs.ofInts
end
/-! ### the law's own head -/
/-- a script of at most 63 whole numbers is handed in, True comes out -/
def spLaw (K : PySem.W.Frag) : Sp := fun vs H Q _ => LamX.Tabs TabI.ts H ∧ ∃ (a : Addr) (ns : List Int), vs = [.ref a] ∧ SqL K H a (ns.map V.int) ∧ ns.length ≤ 63 ∧ ∀ H', Q (.bl true) H'
section
variable {w : World} {P : Program} {K : PySem.W.Frag} {mg : Str → Option Value} {base : Heap}
theorem Fun.okLaw {x qual a : Str} {st : Stmt} {f : Addr} {fd : FuncData} {N : List Str} {k n : Nat} {fs : FS} (F : Fun K x qual st f fd) (S : FnScope (a :: N) [a] (defScope st)) (hn : N.length = n)
    (hb : ∀ (cdv : Value) (A : Around) (outer : List PySem.Env) (s : Shared) (H : Hp) (E : XK), Room k (A.deeper (envOfC qual (defScope st) s.heap.objs.size f cdv)) →
      ∃ t, PSs (cxOf (L2.CX P w) P w K mg base (a :: N) qual (defScope st) f cdv A outer s H E) (defBody st) (tSeq (tAsg (tSl (rSlL K) (tVar 0) tNoPart (tPart (tC (.int 63)))) (gName 0)) t) ∧ SS mg E t fs)
    (hM : ∀ ns : List Int, ns.length ≤ 63 → runF (n + 1) 1 fs [.lst (ns.map .int)] = .ok (.leaf 0 (.bl true))) :
    FnOk P w K mg base (L2.CX P w) (k + 1) f fd [a] (spLaw K) := by
  refine F.okX S (fun vs H Q E h => ?_) (fun cdv A outer s H vs Q E hr h => ?_)
  · obtain ⟨_, b, ns, rfl, _⟩ := h
    rfl
  · obtain ⟨tb0, b, ns, rfl, hS, hl, hQ⟩ := h
    obtain ⟨t, hps, hss⟩ := hb cdv A outer s H E hr
    refine ⟨_, hps, ?_⟩
    refine ⟨.ref b, rfl, 63, rfl, b, ns.map V.int, rfl, hS, fun p hp => ?_⟩
    have tb1 : LamX.Tabs TabI.ts (upd H p (.lst (ns.map V.int))) := fun q m => TB.new hp q m (tb0 q m)
    have ec : cutV (ns.map V.int) none (some 63) = ns.map V.int := by
      unfold cutV
      rw [HT.sIx_none, show HT.sIx (ns.map V.int).length (ns.map V.int).length (some 63) = min 63 (ns.map V.int).length from HT.sIx_nat _ _ 63]
      rw [List.length_map, Nat.min_eq_right hl]
      show ((ns.map V.int).drop 0).take (ns.length - 0) = _
      rw [List.drop_zero, Nat.sub_zero, List.take_of_length_le (by rw [List.length_map]; exact Nat.le_refl _)]
    rw [ec]
    have r : Rs mg (upd H p (.lst (ns.map V.int))) [V.ref p] [Dat.lst (ns.map .int)] := .cons (.lst upd_same (Rs.ofInts ns)) .nil
    have st0 := stt_start (N := a :: N) (n := n + 1) tb1 (by rw [List.length_cons, hn]) r
    refine hss _ _ _ _ _ [] _ st0 ?_
    refine run_post (p := 1) (E := E) (Q := Q) rfl ?_
    rw [hM ns hl]
    intro v G' H' f' g o r'
    cases o with
    | leaf hv =>
      cases hv
      exact hQ H'
end
end LS

/-! LN: more words: list(range(a, b, c)), name *= e. -/
namespace LS
open PySem PySem.Spec
open PyProof.Rows L2
variable [TabI]
def rgW (lo c : Int) (n : Nat) : List V := (List.range n).map fun k : Nat => V.int (lo + (k : Int) * c)
def tLst3 (ta : TA) : TE := fun σ H Q => ta σ H fun vs H1 => ∃ (i j c : Int) (n : Nat), vs = [.int i, .int j, .int c] ∧ RgC i j c n ∧ n ≤ 2 ^ 24 ∧ ∀ q, H1 q = none → Q (.ref q) (upd H1 q (.lst (rgW i c n)))
theorem vals_rgW {lo c : Int} {n : Nat} {acc : Array Value} (h : ItemsOf (fun i v => ∃ t, v = .int (lo + i * c) t) acc n) : Vals (rgW lo c n) acc.toList := by
  have e : acc.toList.length = n := by rw [Array.length_toList]; exact h.1
  unfold rgW
  rw [← e]
  refine vals_of_get acc.toList _ fun i1 u1 h1 => ?_
  obtain ⟨t, rfl⟩ := h.2 i1 u1 (by rw [← h1, Array.getElem?_toList])
  exact ⟨t, rfl⟩
theorem pe_list3 {X : Cx} {a b c : Expr} {ta : TA} {p p2 pos pos2 : Pos} (hcm : X.calm = true) (hg0 : Gl X "list") (hm0 : X.mg "list" = none) (hg : Gl X "range") (hm : X.mg "range" = none) (ha : PA X [a, b, c] ta)
    (hs : starEach [a, b, c] X.env = (false, eval a X.env) :: starEach [b, c] X.env := by rfl) (hpl : (backTo pos2 (starEach [b, c] X.env)).any (·.1) = false := by rfl)
    (na : starEach [.Call (.Name "range" p2) [a, b, c] [] pos2] X.env = (false, eval (.Call (.Name "range" p2) [a, b, c] [] pos2) X.env) :: starEach [] X.env := by rfl) :
    PE X (.Call (.Name "list" p) [.Call (.Name "range" p2) [a, b, c] [] pos2] [] pos) (tLst3 ta) := by
  refine ⟨fun pn sh τ Hh Z inv h => ?_⟩
  refine Call_ (ld_blt inv hg0 hm0 bt_list (PyProof.Rows.callWith_type1 (args_cons ?_ na) na))
  refine Call_ (ld_blt inv hg hm PyProof.Rows.boot_range (PyProof.Rows.callWith_type1 (thn (ha.run pos2 pn sh τ Hh _ inv h) fun us s1 ⟨vs, H1, I1, r1, q1⟩ => ?_) hs hpl))
  obtain ⟨i, j, k, n, e, ⟨c0, c1, c2, c3⟩, hn, q⟩ := q1
  subst e
  cases r1 with
  | cons r rr =>
    cases rr with
    | cons r' rr =>
      cases rr with
      | cons r'' rr =>
        cases rr
        obtain ⟨t, rfl⟩ := r
        obtain ⟨t', rfl⟩ := r'
        obtain ⟨t'', rfl⟩ := r''
        refine call_range_3 c0 (args_nil ?_) (.inl (PyProof.noPylong_small c1))
        have J2 : Inv X pn τ H1 { s1 with heap := s1.heap.push { cls := .type "range", data := .fields #[.int i t, .int j t', .int k t''] } } := I1.kept (t' := s1.toks) fun b o e => Heap.get?_push_of_some _ e
        refine call_list_range (n := n) (J2.ok.hd hcm) (IsRange.new ..) c2 c3 hn fun h' tk acc c' hk e' hi => ?_
        refine ⟨.ref _, upd H1 _ (.lst (rgW i k n)), J2.laid hk (Nat.le_refl _) (show ObjOk X.prog X.w _ _ _ (.lst (rgW i k n)) from ⟨?_, acc.toList, c', vals_rgW hi, ?_⟩), rfl, q _ (J2.hok.fresh (Nat.le_refl _))⟩
        · unfold rgW
          rw [List.length_map, List.length_range, sizeLine_eq]
          omega
        · rw [Array.toArray_toList]
          exact e'
section
variable {mg : Str → Option Value} {E : XK} {K : PySem.W.Frag}
theorem se_rg3 {tx ty tz : TE} {fx fy fz : FE} (hx : SE mg E tx fx) (hy : SE mg E ty fy) (hz : SE mg E tz fz) : SE mg E (tLst3 (tCons tx (tCons ty (tCons tz tNil)))) (fL lRg3 (fA1 fx (fA1 fy (fA1 fz fA0)))) :=
  se_L (r := fun vs H1 Q => ∃ (i j c : Int) (n : Nat), vs = [.int i, .int j, .int c] ∧ RgC i j c n ∧ n ≤ 2 ^ 24 ∧ ∀ q, H1 q = none → Q (.ref q) (upd H1 q (.lst (rgW i c n)))) (sa_cons hx (sa_cons hy (sa_cons hz sa_nil))) fun X H vs ds d ex rs q => by
    unfold lRg3 at q
    split at q
    · rename_i lo n c
      split at q
      · rename_i hb
        cases q
        cases rs with
        | cons r1 rr =>
          cases rr with
          | cons r2 rr =>
            cases rr with
            | cons r3 rr =>
              cases rr
              cases r1
              cases r2
              cases r3
              have hc : RgC lo n c (rsz lo n c) := by
                rcases hb.2.2.1 with z | z
                · rw [z]
                  exact RgC.neg (by omega) (by omega) (by omega) (by omega)
                · exact rgC_pos (by omega) (by omega) (by omega) (by omega) z.1 (by omega)
              refine ⟨rgW lo c (rsz lo n c), ?_, fun Q hq => ⟨lo, n, c, _, rfl, hc, by omega, hq⟩⟩
              have e1 : rgW lo c (rsz lo n c) = ((List.range (rsz lo n c)).map fun k : Nat => (lo + (k : Int) * c)).map V.int := by
                unfold rgW
                rw [List.map_map]
                rfl
              have e2 : ((List.range (rsz lo n c)).map fun k : Nat => Dat.int (lo + (k : Int) * c)) = ((List.range (rsz lo n c)).map fun k : Nat => (lo + (k : Int) * c)).map Dat.int := by
                rw [List.map_map]
                rfl
              rw [e1, e2]
              exact Rs.ofInts _
      · cases q
    · cases q
/-- a list written out, its items shared from now on -/
theorem se_lstF {ta : TA} {fa : FA} (ha : SA mg E ta fa) : SE mg E (tLst ta) (fL lAll fa) := fun H0 G H σ e fp Q st h =>
  ha H0 G H σ e fp _ st (pa_L (r := fun xs H1 Q => xs.length ≤ sizeLine ∧ ∀ l, H1 l = none → Q (.ref l) (upd H1 l (.lst xs))) (fun X H vs ds d ex rs q => by
    unfold lAll at q
    split at q
    · rename_i hl
      cases q
      exact ⟨vs, rs, fun Q hq => ⟨by rw [rs.length]; exact Nat.le_trans hl (by decide), hq⟩⟩
    · cases q) st h)
end
end LS

/-! LO: raise X("..") of an own class over ValueError, name *= e. -/
namespace LS
open PySem PySem.Spec
open PyProof.Rows L2
variable [TabI]
abbrev veBm : List Value := [.type "ValueError", .type "Exception", .type "BaseException", .type "object"]
/-- an own exception class -/
structure XOk (K : PySem.W.Frag) (mg : Str → Option Value) (c : Str) : Prop where
  ex : ∃ C, mg c = some (.ref C) ∧ PySem.W.excIn K C veBm "ValueError.__new__" = true ∧ PySem.W.keepIn K (.ref C) = true ∧ PySem.W.subIn K (.ref C) (.type "BaseException") = some true ∧ PySem.W.typeIn K (.ref C) = some (.type "type")
def tRz (mg : Str → Option Value) (c : Str) (E : XK) : TS := fun _ _ H => ∃ C, mg c = some (.ref C) ∧ E (.ref C) none H
def sRaise (c : Str) : FS := fun _ => .er c
theorem ps_rz {X : Cx} {E : XK} {c m : Str} {j : Nat} {p p2 pos pos2 : Pos} {K : PySem.W.Frag} {mg : Str → Option Value} (T : XOk K mg c) (hc : X.calm = true) (tk : Takes X (fun cls d _ H => E cls d H)) (hg : Gl X c) (hdb : (c == ("__debug__" : Str)) = false := by decide)
    (z3 : X.K = K := by rfl) (z4 : X.mg = mg := by rfl) : PS X (.Raise (some (.Call (.Name c p) [.Constant (.str m) j p2] [] pos)) none pos2) (tRz mg c E) := by
  subst z3 z4
  obtain ⟨C, gC, xC, kC, bC, tC⟩ := T.ex
  have q := ps_raise (pos := pos2) hc tk (pmk_own (m := m) (j := j) (p := p) (p2 := p2) (pos := pos) PySem.F.excBase_ValueError xC gC kC (raises_own bC tC) hg hdb)
  refine ⟨fun pn sh τ Hh D inv h => ?_⟩
  obtain ⟨C', e1, h⟩ := h
  rw [gC] at e1
  cases e1
  exact q.run pn sh τ Hh D inv h
section
variable {mg : Str → Option Value} {E : XK}
theorem s_rz {K : PySem.W.Frag} {c : Str} (T : XOk K mg c) : SS mg E (tRz mg c E) (sRaise c) := fun H0 G H σ e fp D st h => by
  obtain ⟨C, gC, _⟩ := T.ex
  exact ⟨C, gC, h C H gC (st.h0.trans st.gh) st.tb.1⟩
theorem k_rz {K : PySem.W.Frag} {c : Str} (T : XOk K mg c) : SK mg E (tRz mg c E) (sRaise c) := fun H0 G H σ e fp D st h => by
  obtain ⟨C, gC, _⟩ := T.ex
  exact ⟨C, gC, h C H gC (st.h0.trans st.gh) st.tb.1⟩
/-! ### name *= e -/
theorem iop_mulG {X : Cx} : OpR X (inplaceOp .Mult) (rI CMulW fun i j => .int (i * j)) := opI fun _ _ _ _ _ _ _ hc q => imul_int q hc.ok
theorem ip_mulW {X : Cx} : PIp X .Mult (rI CMulW fun i j => .int (i * j)) := fun pn sh τ Hh x y v u Q inv r1 r2 h => augR iop_mulG inv r1 r2 h
theorem ri_mulW : RI mg (l2 (rI CMulW fun i j => .int (i * j))) oMulI := ri_I2 (g := fun i j => i * j) fun ds d h => by
  unfold oMulI at h
  split at h
  · split at h
    · rename_i hc
      cases h
      exact ⟨_, _, rfl, rfl, hc⟩
    · cases h
  · cases h
end
/-! ### len(set(x)), x.count(b) -/
def oLenSet : Op
  | [.lst ds] => match intsD ds with
    | some ns => if ns.Nodup ∧ ns.length ≤ 4000 then some (.int (ns.length : Int)) else none
    | none => none
  | _ => none
section
variable {mg : Str → Option Value} {E : XK} {K : PySem.W.Frag}
theorem se_lenSet {tx : TE} {fx : FE} (h : SE mg E tx fx) : SE mg E (RZ.tLenSetI K tx) (fI oLenSet (fA1 fx fA0)) :=
  se_op1 (r1 := fun x H1 Q => ∃ (l : Addr) (ns : List Int), x = .ref l ∧ SqL K H1 l (ns.map V.int) ∧ ns.Nodup ∧ ns.length ≤ 4000 ∧ Q (.int (ns.length : Nat)) H1) h fun X H vs ds d ex rs q => by
    unfold oLenSet at q
    split at q
    · rename_i ds0
      split at q
      · rename_i ns hns
        split at q
        · rename_i hc
          cases q
          have e := ints_of hns
          subst e
          cases rs with
          | cons r rr =>
            cases rr
            cases r with
            | lst ha rl =>
              rw [rl.ints] at ha
              exact ⟨_, .int _, fun Q hQ x hx => by
                cases hx
                exact ⟨_, ns, rfl, .of (ex _ _ ha).is, hc.1, hc.2, hQ⟩⟩
        · cases q
      · cases q
    · cases q
end
def eqb1 (k : Bool) (v : Value) : Bool := match v with
  | .bool b => b == k
  | _ => false
theorem bls_vals : ∀ {bs : List Bool} {us : List Value}, Vals (bs.map V.bl) us → us = bs.map Value.bool
  | [], _, .nil => rfl
  | b :: bs, _, .cons r t => by
    rw [bls_vals t]
    rw [show _ = Value.bool b from r]
    rfl
theorem count_bls (k : Bool) : ∀ bs : List Bool, (bs.map Value.bool).countP (eqb1 k) = bs.count k
  | [] => rfl
  | b :: bs => by
    rw [List.map_cons, List.countP_cons, List.count_cons, count_bls k bs]
    rfl
def rCntB (K : PySem.W.Frag) : V → List V → Hp → VK → Prop := fun x xs H Q => ∃ (p : Addr) (bs : List Bool) (k : Bool), x = .ref p ∧ xs = [.bl k] ∧ SqL K H p (bs.map V.bl) ∧ Q (.int (bs.count k : Nat)) H
theorem mt_countB {X : Cx} : MtR X "list.count" (rCntB X.K) := fun pn sh τ Hh x xs v us Q inv rx rxs h => by
  obtain ⟨p, bs, k, rfl, rfl, hs, q⟩ := h
  cases rx
  obtain ⟨u, rfl, ru⟩ := rxs.one
  obtain rfl : u = Value.bool k := ru
  obtain ⟨its, rv, ⟨⟨cls, dd, data, sl⟩, n, ho, hc, hdn, hd⟩, hlen⟩ := inv.list hs
  simp only at hc hd
  subst hc hd
  have hi := bls_vals rv
  subst hi
  refine call_meets PySem.F.slot_list_count ⟨_, ho, rfl⟩ PySem.F.entry_list_count (PySem.F.args_list_count_2 _ _)
    (SeqAt.list_countAt p (bs.map Value.bool).toArray n dd sl (.bool k) (eqb1 k)) ⟨ho, fun y hy => ?_, ?_⟩
  · obtain ⟨b, _, rfl⟩ := List.mem_map.mp (by simpa using hy : y ∈ bs.map Value.bool)
    exact SeqAt.EqAt.bool_bool b k
  · refine ⟨.int (bs.count k : Nat), Hh, inv.tok _, ⟨sh.toks, ?_⟩, q⟩
    show Value.int (((bs.map Value.bool).countP (eqb1 k) : Nat) : Int) sh.toks = Value.int ((bs.count k : Nat) : Int) sh.toks
    rw [count_bls]
/-- o.m(e, ..) of a list, a reading -/
def isLd : Dat → Bool
  | .lst _ => true
  | _ => false
def fBm (op : Op) (o : FE) (a : FA) : FE := fun e => (o e).bind fun t => if isLd (datT t) = true then (a e).bind fun ts => match op (datT t :: datTs ts) with
  | some d => .ok (mk (max (kdT t) (kdTs ts)) d)
  | none => .no
  else .no
def oCountB : Op
  | [.lst ds, .bl k] => (blsD ds).map fun bs => .int (bs.count k : Nat)
  | _ => none
section
variable {mg : Str → Option Value} {E : XK} {K : PySem.W.Frag}
theorem se_bm {r : V → List V → Hp → VK → Prop} {op : Op} {to : TE} {ta : TA} {fo : FE} {fa : FA} (hr : RI mg (fun vs H Q => ∀ x xs, vs = x :: xs → r x xs H Q) op) (ho : SE mg E to fo) (ha : SA mg E ta fa) : SE mg E (tBM K "list" r to ta) (fBm op fo fa) := by
  intro H0 G H σ e fp Q st h
  refine ho H0 G H σ e fp _ st ?_
  unfold fBm at h
  cases q : fo e with
  | no => rw [q] at h; exact h.elim
  | er c => rw [q] at h; exact h
  | ok t =>
    rw [q] at h
    have h1 : Pe mg E H0 G H Q (if isLd (datT t) = true then (fa e).bind fun ts => match op (datT t :: datTs ts) with
      | some d => .ok (mk (max (kdT t) (kdTs ts)) d)
      | none => .no
      else .no) := h
    intro v G1 H1 f g o fr
    split at h1
    · rename_i hl
      have rv := o.now nw_sub g.gh
      obtain ⟨ds, hd⟩ : ∃ ds, datT t = .lst ds := by
        cases hz : datT t <;> rw [hz] at hl <;> first | exact ⟨_, rfl⟩ | cases hl
      have hty : tyV K "list" v H1 := by
        rw [hd] at rv
        cases rv with
        | lst hv _ => exact .inl ⟨rfl, _, .of hv⟩
      refine ⟨hty, ha H0 G1 H1 σ e fp _ (st.grow g) ?_⟩
      cases q2 : fa e with
      | no => rw [q2] at h1; exact h1.elim
      | er c => rw [q2] at h1; exact Er.grow h1 g
      | ok ts =>
        rw [q2] at h1
        have h2 : Pe mg E H0 G H Q (fI op (fun _ => .ok (t :: ts)) e) := h1
        intro ws G2 H2 f2 g2 o2 fr2
        have hd1 : ∀ p ∈ f, ∃ ob, H1 p = some ob := o.dom
        have oo : Owns mg (nw H0 G2) G2 H2 (v :: ws) (t :: ts) (f ++ f2) := .cons (o.grow g2) o2
        have ff : Frs (f ++ f2) G2 H := fr.add hd1 g g2 fr2
        have pq := pa_I hr st h2
        exact pq (v :: ws) G2 H2 (f ++ f2) (g.trans g2) oo ff v ws rfl
    · exact h1.elim
theorem ri_countB : RI mg (fun vs H Q => ∀ x xs, vs = x :: xs → rCntB K x xs H Q) oCountB := fun X H vs ds d ex rs q => by
  unfold oCountB at q
  split at q
  · rename_i ds0 k
    cases hb : blsD ds0 with
    | none => rw [hb] at q; cases q
    | some bs =>
      rw [hb] at q
      cases q
      cases rs with
      | cons r rr =>
        cases rr with
        | cons r2 rr =>
          cases rr
          cases r2
          cases r with
          | lst ha rl =>
            have e := bls_of hb rl
            subst e
            exact ⟨_, .int _, fun Q hQ x xs hx => by
              cases hx
              exact ⟨_, bs, k, rfl, rfl, .of (ex _ _ ha).is, hQ⟩⟩
  · cases q
end
/-! ### isinstance(x, C) for an own class -/
def oIsiC (tab : List (Str × Bool)) : Op
  | [.ins c _ _] => (tab.lookup c).map .bl
  | _ => none
structure IsiOk (K : PySem.W.Frag) (mg : Str → Option Value) (c : Str) (tab : List (Str × Bool)) : Prop where
  ex : ∃ C, mg c = some (.ref C) ∧ ∀ c' b C', tab.lookup c' = some b → mg c' = some (.ref C') → Cls K C' ∧ PySem.W.findIn K (.ref C') "__class__" = some (some (.builtin "object.__class__")) ∧
    PySem.W.specialIn K (.builtin "object.__class__") "__get__" = some (some (.builtin "getset_descriptor.__get__")) ∧ PySem.W.takesIn K (.builtin "object.__class__") = some true ∧ PySem.W.mroIn K C' (.type "object") = some true ∧ PySem.W.kitOne K (.ref C') (.ref C) = some b
def IsiAll (K : PySem.W.Frag) (mg : Str → Option Value) (C : Addr) (tab : List (Str × Bool)) : Prop := ∀ c' b C', tab.lookup c' = some b → mg c' = some (.ref C') → Cls K C' ∧ PySem.W.findIn K (.ref C') "__class__" = some (some (.builtin "object.__class__")) ∧
    PySem.W.specialIn K (.builtin "object.__class__") "__get__" = some (some (.builtin "getset_descriptor.__get__")) ∧ PySem.W.takesIn K (.builtin "object.__class__") = some true ∧ PySem.W.mroIn K C' (.type "object") = some true ∧ PySem.W.kitOne K (.ref C') (.ref C) = some b
theorem isi_nil {K : PySem.W.Frag} {mg : Str → Option Value} {C : Addr} : IsiAll K mg C [] := fun c' b C' h => nomatch h
theorem isi_cons {K : PySem.W.Frag} {mg : Str → Option Value} {C D : Addr} {c1 : Str} {b1 : Bool} {tab : List (Str × Bool)} (m1 : mg c1 = some (.ref D)) (h1 : Cls K D) (h2 : PySem.W.findIn K (.ref D) "__class__" = some (some (.builtin "object.__class__")))
    (h3 : PySem.W.specialIn K (.builtin "object.__class__") "__get__" = some (some (.builtin "getset_descriptor.__get__"))) (h4 : PySem.W.takesIn K (.builtin "object.__class__") = some true) (h5 : PySem.W.mroIn K D (.type "object") = some true) (h6 : PySem.W.kitOne K (.ref D) (.ref C) = some b1)
    (h : IsiAll K mg C tab) : IsiAll K mg C ((c1, b1) :: tab) := fun c' b C' hl m => by
  by_cases e : c' = c1
  · subst e
    rw [m1] at m
    cases m
    have hb : (c' == c') = true := beq_self_eq_true c'
    rw [List.lookup_cons, hb] at hl
    cases hl
    exact ⟨h1, h2, h3, h4, h5, h6⟩
  · have hb : (c' == c1) = false := beq_eq_false_iff_ne.mpr e
    rw [List.lookup_cons, hb] at hl
    exact h c' b C' hl m
theorem IsiOk.of {K : PySem.W.Frag} {mg : Str → Option Value} {c : Str} {tab : List (Str × Bool)} {C : Addr} (g : mg c = some (.ref C)) (h : IsiAll K mg C tab) : IsiOk K mg c tab := ⟨⟨C, g, h⟩⟩
def tIsiX (K : PySem.W.Frag) (mg : Str → Option Value) (c : Str) (tx : TE) : TE := fun σ H Q => ∃ C, mg c = some (.ref C) ∧ tCB (rIsi K) (tCons tx (tCons (tC (.ref C)) tNil)) σ H Q
theorem pe_isiC {X : Cx} {K : PySem.W.Frag} {mg : Str → Option Value} {c : Str} {tab : List (Str × Bool)} {a : Expr} {ta : TE} {p p2 pos : Pos} (T : IsiOk K mg c tab) (hg : Gl X "isinstance") (hm : X.mg "isinstance" = none) (hg2 : Gl X c) (ha : PE X a ta)
    (z3 : X.K = K := by rfl) (z4 : X.mg = mg := by rfl) (hd : (c == ("__debug__" : Str)) = false := by decide)
    (n1 : starEach [a, .Name c p2] X.env = (false, eval a X.env) :: starEach [.Name c p2] X.env := by rfl) (n2 : starEach [.Name c p2] X.env = (false, eval (.Name c p2) X.env) :: starEach [] X.env := by rfl)
    (n3 : (backTo pos (starEach [.Name c p2] X.env)).any (·.1) = false := by rfl) : PE X (.Call (.Name "isinstance" p) [a, .Name c p2] [] pos) (tIsiX K mg c ta) := by
  subst z3 z4
  obtain ⟨C, gC, _⟩ := T.ex
  have q := pe_callB (p := p) (pos := pos) call_isi hg hm bt_isi (pa_cons ha (pa_cons (pe_glob (v := .ref C) (pos := p2) hg2 gC rfl hd) pa_nil n2) n1) (by decide) (by decide) n1 n3
  refine ⟨fun pn sh τ Hh Z inv h => ?_⟩
  obtain ⟨C', e1, h⟩ := h
  rw [gC] at e1
  cases e1
  exact q.run pn sh τ Hh Z inv h
section
variable {mg : Str → Option Value} {E : XK} {K : PySem.W.Frag}
theorem se_isiC {c : Str} {tab : List (Str × Bool)} {tx : TE} {fx : FE} (T : IsiOk K mg c tab) (h : SE mg E tx fx) : SE mg E (tIsiX K mg c tx) (fI (oIsiC tab) (fA1 fx fA0)) := by
  obtain ⟨C, gC, ok⟩ := T.ex
  intro H0 G H σ e fp Q st hh
  refine ⟨C, gC, ?_⟩
  refine ev1 (K := fun x H1 => rIsi K [x, .ref C] H1 Q) h st ?_
  refine Pa.imp (fun vs H' q x e => q x e) (pa_I (r := fun vs H1 Q => ∀ x, vs = [x] → rIsi K [x, .ref C] H1 Q) (fun X H vs ds d ex rs q => ?_) st hh)
  unfold oIsiC at q
  split at q
  · rename_i c' ns ds'
    cases hl : tab.lookup c' with
    | none => rw [hl] at q; cases q
    | some b =>
      rw [hl] at q
      cases q
      cases rs with
      | cons r rr =>
        cases rr
        cases r with
        | @ins a' C' dx _ _ vs' _ m ha l rl =>
          obtain ⟨cl, h1, h2, h3, h4, h5⟩ := ok c' b C' hl m
          exact ⟨.bl b, .bl b, fun Q hQ x hx => by
            cases hx
            exact ⟨_, _, _, _, b, rfl, .own C, .base (.ins (ex _ _ ha).is cl h1 h2 h3 h4), h5, hQ⟩⟩
  · cases q
end
/-! ### a method of one of two classes -/
def tOrE (t u : TE) : TE := fun σ H Q => t σ H Q ∨ u σ H Q
theorem pe_or2 {X : Cx} {e : Expr} {t u : TE} (h1 : PE X e t) (h2 : PE X e u) : PE X e (tOrE t u) := ⟨fun pn sh τ Hh Q inv h => h.elim (h1.run pn sh τ Hh Q inv) (h2.run pn sh τ Hh Q inv)⟩
def isAt (c : Str) (i : Nat) : Env → Bool := fun e => match e[i]? with
  | some (some t) => (match datT t with
    | .ins c' _ _ => decide (c' = c)
    | _ => false)
  | _ => false
def fPick (b : Env → Bool) (f g : FE) : FE := fun e => if b e = true then f e else g e
theorem se_or2 {mg : Str → Option Value} {E : XK} {t u : TE} {f g : FE} (b : Env → Bool) (h1 : SE mg E t f) (h2 : SE mg E u g) : SE mg E (tOrE t u) (fPick b f g) := by
  intro H0 G H σ e fp Q st h
  unfold fPick at h
  split at h
  · exact .inl (h1 H0 G H σ e fp Q st h)
  · exact .inr (h2 H0 G H σ e fp Q st h)
end LS

/-! LQ: slots forgotten; a name that stands for a list of another object's; list.index. -/
namespace LS
open PySem PySem.Spec
open PyProof.Rows L2
variable [TabI]
/-! ### slots forgotten -/
def sWipe (vs : List Nat) : FS := fun e => .ok (.nx (wipeE e vs))
def gW (vs : List Nat) (g : FG) : FG := fun t e => g t (wipeE e vs)
section
variable {mg : Str → Option Value} {E : XK} {K : PySem.W.Frag} {H0 G H G' H' : Hp} {σ : L2.St} {e : Env} {fp : List Addr} {D : Ends}
theorem Stt.non (st : Stt mg H0 G H σ e fp) (i : Nat) (x : Option V) : ∃ fp', Stt mg H0 G H (σ.set i x) (e.set i none) fp' ∧ ∀ p ∈ fp', p ∈ fp := by
  obtain ⟨fp', a, b, c⟩ := st.sl.forget i x
  exact ⟨fp', ⟨st.tb, st.h0, st.gh, a, b st.nd, fun p hp => st.out p (c p hp)⟩, c⟩
theorem Stt.non' (st : Stt mg H0 G H σ e fp) (i : Nat) : ∃ fp', Stt mg H0 G H σ (e.set i none) fp' ∧ ∀ p ∈ fp', p ∈ fp := by
  cases h : σ[i]? with
  | none =>
    have hl : e.length ≤ i := by
      rw [← st.sl.len]
      exact List.getElem?_eq_none_iff.mp h
    refine ⟨fp, ?_, fun p hp => hp⟩
    rw [List.set_eq_of_length_le hl]
    exact st
  | some x =>
    obtain ⟨fp', s, c⟩ := st.non i x
    refine ⟨fp', ?_, c⟩
    have es : σ.set i x = σ := by
      apply List.ext_getElem?
      intro j
      by_cases hj : i = j
      · subst hj
        rw [List.getElem?_set_self (List.getElem?_eq_some_iff.mp h).1, h]
      · rw [List.getElem?_set_ne hj]
    rw [es] at s
    exact s
theorem Stt.wipes (st : Stt mg H0 G H σ e fp) : ∀ vs : List Nat, ∃ fp', Stt mg H0 G H σ (wipeE e vs) fp' ∧ ∀ p ∈ fp', p ∈ fp
  | [] => ⟨fp, st, fun p hp => hp⟩
  | v :: vs => by
    obtain ⟨f1, s1, c1⟩ := st.wipes vs
    obtain ⟨f2, s2, c2⟩ := s1.non' v
    exact ⟨f2, s2, fun p hp => c1 p (c2 p hp)⟩
theorem s_wipe {ts : TS} {fs : FS} (vs : List Nat) (h : SS mg E ts fs) : SS mg E ts (sSeq fs (sWipe vs)) := by
  intro H0 G H σ e fp D st hh
  refine h H0 G H σ e fp D st ?_
  unfold sSeq at hh
  cases q : fs e with
  | no => rw [q] at hh; exact hh
  | er c => rw [q] at hh; exact hh
  | ok o =>
    rw [q] at hh
    cases o with
    | nx e1 =>
      intro σ' G' H' fp' x st'
      obtain ⟨f2, s2, _⟩ := st'.wipes vs
      exact hh σ' G' H' f2 x s2
    | rt e1 t => exact hh
    | bk e1 => exact hh
    | ct e1 => exact hh
theorem sg_w {js : List Nat} {tg : TG} {fg : FG} (vs : List Nat) (h : SG mg js tg fg) : SG mg js tg (gW vs fg) := by
  intro H0 G H σ e fp v t f Q st o nd ho hh
  obtain ⟨f2, s2, c2⟩ := st.wipes vs
  refine h H0 G H σ (wipeE e vs) f2 v t f Q s2 o nd (fun p hp => ⟨(ho p hp).1, fun z => (ho p hp).2 (c2 p z)⟩) ?_
  have hh' : Pg mg H0 G H σ fp f js Q (fg t (wipeE e vs)) := hh
  cases q : fg t (wipeE e vs) with
  | no => rw [q] at hh'; exact hh'
  | er c => rw [q] at hh'; exact hh'
  | ok e' =>
    rw [q] at hh'
    intro σ' fp' st' sub w
    exact hh' σ' fp' st' (fun p hp => (sub p hp).imp (c2 p) id) w
theorem gw_er {fg : FG} (vs : List Nat) (h : ∀ t e x, fg t e ≠ .er x) : ∀ t e x, gW vs fg t e ≠ .er x := fun t e x => h t _ x
theorem Stt.put (st : Stt mg H0 G H σ e fp) {i : Nat} {d : Dat} (s : scal d = true) (hi : i < e.length) : ∃ fp', Stt mg H0 G H (σ.set i (some (vS d))) (e.set i (some (.leaf 0 d))) fp' := by
  obtain ⟨fp', a, n, sb⟩ := st.sl.set (v := vS d) (t := .leaf 0 d) (f := []) (.leaf (R.ofS s)) (by simp [kdT]) hi (fun p _ m => nomatch m) st.nd List.nodup_nil
  refine ⟨fp', st.tb, st.h0, st.gh, a, n, fun p hp => ?_⟩
  rcases sb p hp with m | m
  · exact st.out p m
  · exact nomatch m
/-! ### x = e; for m in x: b = b * m -/
def sAl (i k q : Nat) (fe : FE) : FS := fun e => (fe e).bind fun t => match datT t, e[k]? with
  | .lst ds, some (some (.leaf _ (.int b))) => (match intsD ds with
    | some ns => if (ns.all fun n => decide (n.natAbs < 1000000)) = true ∧ i < e.length ∧ k < e.length ∧ q < e.length ∧ i ≠ k ∧ i ≠ q ∧ k ≠ q then .ok (.nx (((e.set i none).set q none).set k (some (.leaf 0 (.int (ns.foldl (· * ·) b)))))) else .no
    | none => .no)
  | _, _ => .no
theorem s_al {i k q : Nat} {te : TE} {fe : FE} {ts : TS} {fs : FS} (he : SE mg E te fe) (hs : SS mg E ts fs) :
    SS mg E (tSeq (tAsg te (gName i)) (tSeq (tFor (iSeq K (tVar i)) (gName q) (tAsg (tOp rMulA (tVar k) (tVar q)) (gName k))) ts)) (sSeq (sAl i k q fe) fs) := by
  intro H0 G H σ e fp D st h
  refine he H0 G H σ e fp _ st ?_
  unfold sSeq sAl at h
  cases qe : fe e with
  | no => rw [qe] at h; exact h.elim
  | er c => rw [qe] at h; exact er_of st h
  | ok t =>
    rw [qe] at h
    intro v G1 H1 f g o fr
    have rv := o.now nw_sub g.gh
    have st1 := st.grow g
    have h1 : Ps mg E H0 G D (Re.bind (match datT t, e[k]? with
      | .lst ds, some (some (.leaf _ (.int b))) => (match intsD ds with
        | some ns => if (ns.all fun n => decide (n.natAbs < 1000000)) = true ∧ i < e.length ∧ k < e.length ∧ q < e.length ∧ i ≠ k ∧ i ≠ q ∧ k ≠ q then Re.ok (Out.nx (((e.set i none).set q none).set k (some (.leaf 0 (.int (ns.foldl (· * ·) b)))))) else .no
        | none => .no)
      | _, _ => .no) fun o => match o with
        | .nx e1 => fs e1
        | .rt e1 t => .ok (.rt e1 t)
        | .bk e1 => .ok (.bk e1)
        | .ct e1 => .ok (.ct e1)) := h
    split at h1
    · rename_i ds kk b hd hk
      split at h1
      · rename_i ns hns
        split at h1
        · rename_i hc
          obtain ⟨hall, hi, hkl, hql, n1, n2, n3⟩ := hc
          have h2 : Ps mg E H0 G D (fs (((e.set i none).set q none).set k (some (.leaf 0 (.int (ns.foldl (· * ·) b)))))) := h1
          have edd := ints_of hns
          subst edd
          rw [hd] at rv
          cases rv with
          | @lst a vs _ ha rl =>
            have evs := rl.ints
            subst evs
            obtain ⟨vk, fk, ek, ok, _, _, _⟩ := st1.sl.get hk
            cases ok with
            | leaf hvk =>
              cases hvk
              obtain ⟨f1, s1, c1⟩ := st1.non i (some (.ref a))
              obtain ⟨f2, s2, c2⟩ := s1.non' q
              obtain ⟨f3, s3⟩ := s2.put (i := k) (d := .int b) rfl (by rw [List.length_set, List.length_set]; exact hkl)
              have sl : σ.length = e.length := st.sl.len
              have ek2 : (σ.set i (some (.ref a)))[k]? = some (some (.int b)) := by
                rw [List.getElem?_set_ne n1]
                exact ek
              have es : (σ.set i (some (V.ref a))).set k (some (vS (.int b))) = σ.set i (some (.ref a)) := by
                apply List.ext_getElem?
                intro j
                by_cases hj : k = j
                · subst hj
                  rw [List.getElem?_set_self (by rw [List.length_set, sl]; exact hkl), ek2]
                  rfl
                · rw [List.getElem?_set_ne hj]
              rw [es] at s3
              refine ⟨.ref a, by rw [List.getElem?_set_self (by rw [sl]; exact hi)], a, rfl, .inl ⟨⟨_, .of ha⟩, ?_⟩⟩
              refine ⟨fun j m σ' H' => m = ns.length - j ∧ j ≤ ns.length ∧ H1 = H' ∧ σ'[i]? = some (some (.ref a)) ∧ ∃ p fp', p = (ns.take j).foldl (· * ·) b ∧ σ'[k]? = some (some (.int p)) ∧ Stt mg H0 G1 H1 σ' (((e.set i none).set q none).set k (some (.leaf 0 (.int p)))) fp',
                ⟨ns.length, by simp, Nat.zero_le _, rfl, List.getElem?_set_self (by rw [sl]; exact hi), b, f3, rfl, ek2, s3⟩, ?_⟩
              rintro j m σ' H' ⟨rfl, hle, rfl, e1, p, fp', hp, e2, s4⟩
              have slen : σ'.length = e.length := by
                rw [s4.sl.len, List.length_set, List.length_set, List.length_set]
              by_cases hlt : j < ns.length
              · refine .inr ⟨⟨_, _, .of ha, by rw [List.getElem?_map, List.getElem?_eq_getElem hlt]; rfl⟩, fun σ' H' => ∃ m', m' < ns.length - j ∧ (m' = ns.length - (j + 1) ∧ j + 1 ≤ ns.length ∧ H1 = H' ∧ σ'[i]? = some (some (.ref a)) ∧ ∃ p fp', p = (ns.take (j + 1)).foldl (· * ·) b ∧ σ'[k]? = some (some (.int p)) ∧ Stt mg H0 G1 H1 σ' (((e.set i none).set q none).set k (some (.leaf 0 (.int p)))) fp'), fun _ _ w => w, fun x H3 y => ?_⟩
                obtain ⟨rfl, y⟩ := y
                have hx := y _ (.of ha)
                rw [List.getElem?_map, List.getElem?_eq_getElem hlt] at hx
                cases hx
                have hsm : ns[j].natAbs < 1000000 := of_decide_eq_true (List.all_eq_true.mp hall _ (List.getElem_mem hlt))
                obtain ⟨f5, s5, _⟩ := s4.non q (some (.int ns[j]))
                have eE : (((e.set i none).set q none).set k (some (T.leaf 0 (.int p)))).set q none = ((e.set i none).set q none).set k (some (.leaf 0 (.int p))) := by
                  rw [List.set_comm _ _ (Ne.symm n3), List.set_set]
                rw [eE] at s5
                obtain ⟨f6, s6⟩ := s5.put (i := k) (d := .int (p * ns[j])) rfl (by rw [List.length_set, List.length_set, List.length_set]; exact hkl)
                rw [List.set_set] at s6
                refine ⟨.int p, by rw [List.getElem?_set_ne (Ne.symm n3)]; exact e2, .int ns[j], by rw [List.getElem?_set_self (by rw [slen]; exact hql)], .inl (.inr ⟨p, ns[j], rfl, rfl, .inr (by omega), ?_⟩)⟩
                refine ⟨ns.length - (j + 1), by omega, rfl, hlt, rfl, ?_, p * ns[j], f6, ?_, ?_, s6⟩
                · rw [List.getElem?_set_ne (Ne.symm n1), List.getElem?_set_ne (Ne.symm n2)]
                  exact e1
                · rw [List.take_succ_eq_append_getElem hlt, List.foldl_append, ← hp]
                  rfl
                · rw [List.getElem?_set_self (by rw [List.length_set, slen]; exact hkl)]
              · have ej : j = ns.length := by omega
                subst ej
                refine .inl ⟨⟨_, .of ha, by rw [List.length_map]; exact Nat.le_refl _⟩, ?_⟩
                rw [List.take_length] at hp
                subst hp
                exact hs H0 G1 _ σ' _ fp' D s4 (Ps.up g.gg h2)
        · exact h1.elim
      · exact h1.elim
    · exact h1.elim
end
/-! ### list.index -/
def idxI (x : Int) : List Int → Option Nat
  | [] => none
  | n :: r => if n = x then some 0 else (idxI x r).map (· + 1)
def oIndex : Op
  | [.lst ds, .int k] => match intsD ds with
    | some ns => (idxI k ns).map fun j => .int (j : Nat)
    | none => none
  | _ => none
theorem idxI_some {x : Int} : ∀ {ns : List Int} {j : Nat}, idxI x ns = some j → ns[j]? = some x ∧ ∀ m, m < j → ∀ z, ns[m]? = some z → z ≠ x
  | [], j, h => nomatch h
  | n :: r, j, h => by
    unfold idxI at h
    split at h
    · rename_i e
      cases h
      rw [e]
      exact ⟨rfl, fun m hm => absurd hm (Nat.not_lt_zero _)⟩
    · rename_i ne
      cases q : idxI x r with
      | none => rw [q] at h; cases h
      | some i =>
        rw [q] at h
        cases h
        obtain ⟨a, b⟩ := idxI_some q
        refine ⟨by simpa using a, fun m hm z hz => ?_⟩
        cases m with
        | zero =>
          cases Option.some.inj hz
          exact ne
        | succ m => exact b m (Nat.lt_of_succ_lt_succ hm) z (by simpa using hz)
section
variable {mg : Str → Option Value} {E : XK} {K : PySem.W.Frag}
theorem ri_index : RI mg (fun vs H Q => ∀ x xs, vs = x :: xs → rIndex K x xs H Q) oIndex := fun X H vs ds d ex rs q => by
  unfold oIndex at q
  split at q
  · rename_i ds0 k
    split at q
    · rename_i ns hns
      cases hj : idxI k ns with
      | none => rw [hj] at q; cases q
      | some j =>
        rw [hj] at q
        cases q
        cases rs with
        | cons r rr =>
          cases rr with
          | cons r2 rr =>
            cases rr
            cases r2
            cases r with
            | lst ha rl =>
              have e := ints_of hns
              subst e
              rw [rl.ints] at ha
              obtain ⟨h1, h2⟩ := idxI_some hj
              exact ⟨_, .int _, fun Q hQ x xs hx => by
                cases hx
                refine ⟨_, _, .int k, j, .int k, rfl, rfl, .of (ex _ _ ha).is, rfl, ?_, ?_, ?_, fun m z' hm hz => ?_, hQ⟩
                · rw [List.all_map]
                  exact List.all_eq_true.mpr fun _ _ => rfl
                · rw [List.getElem?_map, h1]
                  rfl
                · exact beq_self_eq_true k
                · rw [List.getElem?_map] at hz
                  cases hz2 : ns[m]? with
                  | none => rw [hz2] at hz; cases hz
                  | some z =>
                    rw [hz2] at hz
                    cases hz
                    exact beq_eq_false_iff_ne.mpr (h2 m hm z hz2)⟩
    · cases q
  · cases q
end
end LS

/-! LR: the combinators as steps for simp: what comes behind is looked at only when its turn has come. -/
namespace LS
@[simp] theorem datT_shr (t : T) : datT (shr t) = datT t := by cases t <;> rfl
/-! ### expressions -/
def consK : Re T → Re (List T) → Re (List T)
  | .ok t, .ok ts => .ok (t :: ts)
  | .ok _, .er c => .er c
  | .ok _, .no => .no
  | .er c, _ => .er c
  | .no, _ => .no
@[simp] theorem consK_ok (t : T) (ts : List T) : consK (.ok t) (.ok ts) = .ok (t :: ts) := rfl
@[simp] theorem consK_er1 (c : PySem.Str) (r : Re (List T)) : consK (.er c) r = .er c := by cases r <;> rfl
@[simp] theorem consK_er2 (t : T) (c : PySem.Str) : consK (.ok t) (.er c) = .er c := rfl
@[simp] theorem s_fA1 (a : FE) (r : FA) (e : Env) : fA1 a r e = consK (a e) (r e) := by
  unfold fA1
  cases a e with
  | no => cases r e <;> rfl
  | er c => cases r e <;> rfl
  | ok t => cases r e <;> rfl
@[simp] theorem s_fA0 (e : Env) : fA0 e = .ok [] := rfl
@[simp] theorem s_fC (d : Dat) (e : Env) : fC d e = .ok (.leaf 0 d) := rfl
def varK : Option (Option T) → Re T
  | some (some t) => .ok (shr t)
  | _ => .no
@[simp] theorem varK_some (t : T) : varK (some (some t)) = .ok (shr t) := rfl
@[simp] theorem s_fVar (i : Nat) (e : Env) : fVar i e = varK e[i]? := by
  unfold fVar varK
  split <;> first | rfl | (split <;> first | rfl | simp_all)
def dK : Nat → Option Dat → Re T
  | k, some d => .ok (mk k d)
  | _, none => .no
@[simp] theorem dK_some (k : Nat) (d : Dat) : dK k (some d) = .ok (mk k d) := rfl
def opK (op : Op) : Re (List T) → Re T
  | .ok ts => dK (kdTs ts) (op (datTs ts))
  | .er c => .er c
  | .no => .no
@[simp] theorem opK_ok (op : Op) (ts : List T) : opK op (.ok ts) = dK (kdTs ts) (op (datTs ts)) := rfl
@[simp] theorem opK_er (op : Op) (c : PySem.Str) : opK op (.er c) = .er c := rfl
@[simp] theorem s_fI (op : Op) (a : FA) (e : Env) : fI op a e = opK op (a e) := by
  unfold fI opK
  cases a e with
  | no => rfl
  | er c => rfl
  | ok ts =>
    show (match op (datTs ts) with | some d => Re.ok (mk (kdTs ts) d) | none => .no) = dK (kdTs ts) (op (datTs ts))
    cases op (datTs ts) <;> rfl
def lK : Nat → Option (List Dat) → Re T
  | k, some ds => .ok (.lst (ds.map (mk k)))
  | _, none => .no
@[simp] theorem lK_some (k : Nat) (ds : List Dat) : lK k (some ds) = .ok (.lst (ds.map (mk k))) := rfl
def olK (op : OL) : Re (List T) → Re T
  | .ok ts => lK (kdTs ts) (op (datTs ts))
  | .er c => .er c
  | .no => .no
@[simp] theorem olK_ok (op : OL) (ts : List T) : olK op (.ok ts) = lK (kdTs ts) (op (datTs ts)) := rfl
@[simp] theorem olK_er (op : OL) (c : PySem.Str) : olK op (.er c) = .er c := rfl
@[simp] theorem s_fL (op : OL) (a : FA) (e : Env) : fL op a e = olK op (a e) := by
  unfold fL olK
  cases a e with
  | no => rfl
  | er c => rfl
  | ok ts =>
    show (match op (datTs ts) with | some d => Re.ok (T.lst (d.map (mk (kdTs ts)))) | none => .no) = lK (kdTs ts) (op (datTs ts))
    cases op (datTs ts) <;> rfl
def lstK : Re (List T) → Re T
  | .ok ts => .ok (.lst ts)
  | .er c => .er c
  | .no => .no
@[simp] theorem lstK_ok (ts : List T) : lstK (.ok ts) = .ok (.lst ts) := rfl
@[simp] theorem s_fLst (a : FA) (e : Env) : fLst a e = lstK (a e) := by
  unfold fLst
  cases a e <;> rfl
def tupK : Re (List T) → Re T
  | .ok ts => .ok (.tup ts)
  | .er c => .er c
  | .no => .no
@[simp] theorem tupK_ok (ts : List T) : tupK (.ok ts) = .ok (.tup ts) := rfl
@[simp] theorem s_fTup (a : FA) (e : Env) : fTup a e = tupK (a e) := by
  unfold fTup
  cases a e <;> rfl
def callK (F : List Dat → Re T) : Re (List T) → Re T
  | .ok ts => F (datTs ts)
  | .er c => .er c
  | .no => .no
@[simp] theorem callK_ok (F : List Dat → Re T) (ts : List T) : callK F (.ok ts) = F (datTs ts) := rfl
@[simp] theorem callK_er (F : List Dat → Re T) (c : PySem.Str) : callK F (.er c) = .er c := rfl
@[simp] theorem s_fCall (F : List Dat → Re T) (a : FA) (e : Env) : fCall F a e = callK F (a e) := by
  unfold fCall
  cases a e <;> rfl
def addK : Re (List T) → Re T
  | .ok ts => addF ts
  | .er c => .er c
  | .no => .no
@[simp] theorem addK_ok (ts : List T) : addK (.ok ts) = addF ts := rfl
@[simp] theorem s_fAdd (a b : FE) (e : Env) : fAdd a b e = addK (consK (a e) (consK (b e) (.ok []))) := by
  unfold fAdd
  rw [s_fA1, s_fA1, s_fA0]
  cases consK (a e) (consK (b e) (.ok [])) <;> rfl
def mulK : Re (List T) → Re T
  | .ok ts => mulF ts
  | .er c => .er c
  | .no => .no
@[simp] theorem mulK_ok (ts : List T) : mulK (.ok ts) = mulF ts := rfl
@[simp] theorem s_fMul (a b : FE) (e : Env) : fMul a b e = mulK (consK (a e) (consK (b e) (.ok []))) := by
  unfold fMul
  rw [s_fA1, s_fA1, s_fA0]
  cases consK (a e) (consK (b e) (.ok [])) <;> rfl
/-- ways of a test -/
def wayK {α : Type} : Re Bool → (Env → Re α) → (Env → Re α) → Env → Re α
  | .ok c, a, b, e => if c then a e else b e
  | .er c, _, _, _ => .er c
  | .no, _, _, _ => .no
@[simp] theorem wayK_t {α : Type} (a b : Env → Re α) (e : Env) : wayK (.ok true) a b e = a e := rfl
@[simp] theorem wayK_f {α : Type} (a b : Env → Re α) (e : Env) : wayK (.ok false) a b e = b e := rfl
theorem wayK_ok {α : Type} (c : Bool) (a b : Env → Re α) (e : Env) : wayK (.ok c) a b e = if c then a e else b e := rfl
@[simp] theorem s_fIf (t : FT) (a b : FE) (e : Env) : fIf t a b e = wayK (t e) a b e := by
  unfold fIf
  cases t e <;> rfl
def blK : Dat → Re Bool
  | .bl b => .ok b
  | _ => .no
@[simp] theorem blK_bl (b : Bool) : blK (.bl b) = .ok b := rfl
def tK : Re T → Re Bool
  | .ok t => blK (datT t)
  | .er c => .er c
  | .no => .no
@[simp] theorem tK_ok (t : T) : tK (.ok t) = blK (datT t) := rfl
@[simp] theorem s_fT (a : FE) (e : Env) : fT a e = tK (a e) := by
  unfold fT
  cases a e with
  | no => rfl
  | er c => rfl
  | ok t =>
    show (match datT t with | .bl b => Re.ok b | _ => .no) = blK (datT t)
    cases datT t <;> rfl
def blT (b : Bool) : FE := fun _ => .ok (.leaf 0 (.bl b))
@[simp] theorem s_blT (b : Bool) (e : Env) : blT b e = .ok (.leaf 0 (.bl b)) := rfl
@[simp] theorem s_fAndV (a b : FE) (e : Env) : fAndV a b e = wayK (tK (a e)) b (blT false) e := by
  unfold fAndV
  cases a e with
  | no => rfl
  | er c => rfl
  | ok t =>
    show (match datT t with | .bl true => b e | .bl false => Re.ok (.leaf 0 (.bl false)) | _ => .no) = wayK (blK (datT t)) b (blT false) e
    cases datT t with
    | bl c => cases c <;> rfl
    | _ => rfl
@[simp] theorem s_fOrV (a b : FE) (e : Env) : fOrV a b e = wayK (tK (a e)) (blT true) b e := by
  unfold fOrV
  cases a e with
  | no => rfl
  | er c => rfl
  | ok t =>
    show (match datT t with | .bl true => Re.ok (.leaf 0 (.bl true)) | .bl false => b e | _ => .no) = wayK (blK (datT t)) (blT true) b e
    cases datT t with
    | bl c => cases c <;> rfl
    | _ => rfl
def bT (b : Bool) : FT := fun _ => .ok b
@[simp] theorem s_bT (b : Bool) (e : Env) : bT b e = .ok b := rfl
@[simp] theorem s_fAnd (a b : FT) (e : Env) : fAnd a b e = wayK (a e) b (bT false) e := by
  unfold fAnd
  cases a e with
  | no => rfl
  | er c => rfl
  | ok c => cases c <;> rfl
@[simp] theorem s_fOr (a b : FT) (e : Env) : fOr a b e = wayK (a e) (bT true) b e := by
  unfold fOr
  cases a e with
  | no => rfl
  | er c => rfl
  | ok c => cases c <;> rfl
def notK : Re Bool → Re Bool
  | .ok b => .ok (!b)
  | x => x
@[simp] theorem notK_ok (b : Bool) : notK (.ok b) = .ok (!b) := rfl
@[simp] theorem s_fNot (a : FT) (e : Env) : fNot a e = notK (a e) := by
  unfold fNot
  cases a e <;> rfl
@[simp] theorem s_fYes (e : Env) : fYes e = .ok true := rfl
/-- a op b op' c, the chain of a test -/
def chK (q : Op) (c : FE) (e : Env) (y : Dat) : Option Dat → Re T
  | some (.bl true) => tL2 (c e)
  | some (.bl false) => .ok (.leaf 0 (.bl false))
  | _ => .no
where
  tL2 : Re T → Re T
  | .ok z => tL3 (q [y, datT z])
  | .er c => .er c
  | .no => .no
  tL3 : Option Dat → Re T
  | some (.bl r) => .ok (.leaf 0 (.bl r))
  | _ => .no
@[simp] theorem chK_f (q : Op) (c : FE) (e : Env) (y : Dat) : chK q c e y (some (.bl false)) = .ok (.leaf 0 (.bl false)) := rfl
@[simp] theorem chK_t (q : Op) (c : FE) (e : Env) (y : Dat) : chK q c e y (some (.bl true)) = chK.tL2 q y (c e) := rfl
@[simp] theorem chK_2 (q : Op) (y : Dat) (z : T) : chK.tL2 q y (.ok z) = chK.tL3 (q [y, datT z]) := rfl
@[simp] theorem chK_3 (r : Bool) : chK.tL3 (some (.bl r)) = .ok (.leaf 0 (.bl r)) := rfl
def chA (p q : Op) (c : FE) (e : Env) : Re (List T) → Re T
  | .ok [x, y] => chK q c e (datT y) (p [datT x, datT y])
  | .er c => .er c
  | _ => .no
@[simp] theorem chA_ok (p q : Op) (c : FE) (e : Env) (x y : T) : chA p q c e (.ok [x, y]) = chK q c e (datT y) (p [datT x, datT y]) := rfl
@[simp] theorem s_fChain (p q : Op) (a b c : FE) (e : Env) : fChain p q a b c e = chA p q c e (consK (a e) (consK (b e) (.ok []))) := by
  unfold fChain
  cases a e with
  | no => cases b e <;> rfl
  | er c => cases b e <;> rfl
  | ok x =>
    cases b e with
    | no => rfl
    | er c => rfl
    | ok y =>
      show (match p [datT x, datT y] with
        | some (.bl true) => (c e).bind fun z => match q [datT y, datT z] with
          | some (.bl r) => Re.ok (T.leaf 0 (.bl r))
          | _ => .no
        | some (.bl false) => .ok (.leaf 0 (.bl false))
        | _ => .no) = chK q c e (datT y) (p [datT x, datT y])
      cases p [datT x, datT y] with
      | none => rfl
      | some d =>
        cases d with
        | bl v =>
          cases v with
          | false => rfl
          | true =>
            show ((c e).bind fun z => match q [datT y, datT z] with
              | some (.bl r) => Re.ok (T.leaf 0 (.bl r))
              | _ => .no) = chK.tL2 q (datT y) (c e)
            cases c e with
            | no => rfl
            | er c => rfl
            | ok z =>
              show (match q [datT y, datT z] with
                | some (.bl r) => Re.ok (T.leaf 0 (.bl r))
                | _ => .no) = chK.tL3 (q [datT y, datT z])
              cases q [datT y, datT z] with
              | none => rfl
              | some d => cases d <;> rfl
        | _ => rfl
def bmK (op : Op) (a : FA) (e : Env) : Re T → Re T
  | .ok t => if isLd (datT t) = true then bm2 t (a e) else .no
  | .er c => .er c
  | .no => .no
where
  bm2 (t : T) : Re (List T) → Re T
  | .ok ts => dK (max (kdT t) (kdTs ts)) (op (datT t :: datTs ts))
  | .er c => .er c
  | .no => .no
@[simp] theorem bmK_ok (op : Op) (a : FA) (e : Env) (t : T) : bmK op a e (.ok t) = if isLd (datT t) = true then bmK.bm2 op t (a e) else .no := rfl
@[simp] theorem bmK_2 (op : Op) (t : T) (ts : List T) : bmK.bm2 op t (.ok ts) = dK (max (kdT t) (kdTs ts)) (op (datT t :: datTs ts)) := rfl
@[simp] theorem isLd_lst (ds : List Dat) : isLd (.lst ds) = true := rfl
@[simp] theorem s_fBm (op : Op) (o : FE) (a : FA) (e : Env) : fBm op o a e = bmK op a e (o e) := by
  unfold fBm
  cases o e with
  | no => rfl
  | er c => rfl
  | ok t =>
    show (if isLd (datT t) = true then (a e).bind fun ts => match op (datT t :: datTs ts) with
      | some d => Re.ok (mk (max (kdT t) (kdTs ts)) d)
      | none => .no
      else .no) = if isLd (datT t) = true then bmK.bm2 op t (a e) else .no
    split
    · cases a e with
      | no => rfl
      | er c => rfl
      | ok ts =>
        show (match op (datT t :: datTs ts) with
          | some d => Re.ok (mk (max (kdT t) (kdTs ts)) d)
          | none => .no) = dK (max (kdT t) (kdTs ts)) (op (datT t :: datTs ts))
        cases op (datT t :: datTs ts) <;> rfl
    · rfl
def methK (c m : PySem.Str) (F : List Dat → Re T) (a : FA) (e : Env) : Re T → Re T
  | .ok s => methF c m F a e (datT s)
  | .er c => .er c
  | .no => .no
@[simp] theorem methK_ok (c m : PySem.Str) (F : List Dat → Re T) (a : FA) (e : Env) (s : T) : methK c m F a e (.ok s) = methF c m F a e (datT s) := rfl
@[simp] theorem s_fMeth (c m : PySem.Str) (F : List Dat → Re T) (o : FE) (a : FA) (e : Env) : fMeth c m F o a e = methK c m F a e (o e) := by
  unfold fMeth
  cases o e <;> rfl
theorem methF_ins (c m : PySem.Str) (F : List Dat → Re T) (a : FA) (e : Env) (ns : List PySem.Str) (ds : List Dat) (h : idxS m ns = none) : methF c m F a e (.ins c ns ds) = callK (fun ts => F (.ins c ns ds :: ts)) (a e) := by
  show (if c = c ∧ idxS m ns = none then (a e).bind fun ts => F (.ins c ns ds :: datTs ts) else .no) = _
  rw [if_pos ⟨rfl, h⟩]
  cases a e <;> rfl
/-! ### statements -/
def seqK : Re Out → FS → Re Out
  | .ok (.nx e), b => b e
  | .ok (.rt e t), _ => .ok (.rt e t)
  | .ok (.bk e), _ => .ok (.bk e)
  | .ok (.ct e), _ => .ok (.ct e)
  | .er c, _ => .er c
  | .no, _ => .no
@[simp] theorem seqK_nx (e : Env) (b : FS) : seqK (.ok (.nx e)) b = b e := rfl
@[simp] theorem seqK_rt (e : Env) (t : T) (b : FS) : seqK (.ok (.rt e t)) b = .ok (.rt e t) := rfl
@[simp] theorem seqK_bk (e : Env) (b : FS) : seqK (.ok (.bk e)) b = .ok (.bk e) := rfl
@[simp] theorem seqK_ct (e : Env) (b : FS) : seqK (.ok (.ct e)) b = .ok (.ct e) := rfl
@[simp] theorem seqK_er (c : PySem.Str) (b : FS) : seqK (.er c) b = .er c := rfl
@[simp] theorem s_sSeq (a b : FS) (e : Env) : sSeq a b e = seqK (a e) b := by
  unfold sSeq
  cases a e with
  | no => rfl
  | er c => rfl
  | ok o => cases o <;> rfl
def nxK : Re Env → Re Out
  | .ok e => .ok (.nx e)
  | .er c => .er c
  | .no => .no
@[simp] theorem nxK_ok (e : Env) : nxK (.ok e) = .ok (.nx e) := rfl
def asgK : Re T → FG → Env → Re Out
  | .ok t, g, e => nxK (g t e)
  | .er c, _, _ => .er c
  | .no, _, _ => .no
@[simp] theorem asgK_ok (t : T) (g : FG) (e : Env) : asgK (.ok t) g e = nxK (g t e) := rfl
@[simp] theorem asgK_er (c : PySem.Str) (g : FG) (e : Env) : asgK (.er c) g e = .er c := rfl
@[simp] theorem s_sAsg (a : FE) (g : FG) (e : Env) : sAsg a g e = asgK (a e) g e := by
  unfold sAsg
  cases a e with
  | no => rfl
  | er c => rfl
  | ok t =>
    show ((g t e).bind fun e1 => Re.ok (Out.nx e1)) = nxK (g t e)
    cases g t e <;> rfl
def dropK : Re T → Env → Re Out
  | .ok _, e => .ok (.nx e)
  | .er c, _ => .er c
  | .no, _ => .no
@[simp] theorem dropK_ok (t : T) (e : Env) : dropK (.ok t) e = .ok (.nx e) := rfl
@[simp] theorem dropK_er (c : PySem.Str) (e : Env) : dropK (.er c) e = .er c := rfl
@[simp] theorem s_sDrop (a : FE) (e : Env) : sDrop a e = dropK (a e) e := by
  unfold sDrop
  cases a e <;> rfl
def retK : Re T → Env → Re Out
  | .ok t, e => .ok (.rt e t)
  | .er c, _ => .er c
  | .no, _ => .no
@[simp] theorem retK_ok (t : T) (e : Env) : retK (.ok t) e = .ok (.rt e t) := rfl
@[simp] theorem retK_er (c : PySem.Str) (e : Env) : retK (.er c) e = .er c := rfl
@[simp] theorem s_sRet (a : FE) (e : Env) : sRet a e = retK (a e) e := by
  unfold sRet
  cases a e <;> rfl
@[simp] theorem s_sIf (c : FT) (a b : FS) (e : Env) : sIf c a b e = wayK (c e) a b e := by
  unfold sIf
  cases c e <;> rfl
@[simp] theorem s_sNext (e : Env) : sNext e = .ok (.nx e) := rfl
@[simp] theorem s_sBrk (e : Env) : sBrk e = .ok (.bk e) := rfl
@[simp] theorem s_sCont (e : Env) : sCont e = .ok (.ct e) := rfl
@[simp] theorem s_sRaise (c : PySem.Str) (e : Env) : sRaise c e = .er c := rfl
@[simp] theorem s_sWipe (vs : List Nat) (e : Env) : sWipe vs e = .ok (.nx (wipeE e vs)) := rfl
@[simp] theorem wipe_nil (e : Env) : wipeE e [] = e := rfl
@[simp] theorem wipe_cons (e : Env) (v : Nat) (vs : List Nat) : wipeE e (v :: vs) = (wipeE e vs).set v none := rfl
def frzK : Option (Option T) → Nat → Env → Env
  | some (some t), i, e => e.set i (some (.leaf (kdT t) (datT t)))
  | _, _, e => e
@[simp] theorem frzK_s (t : T) (i : Nat) (e : Env) : frzK (some (some t)) i e = e.set i (some (.leaf (kdT t) (datT t))) := rfl
@[simp] theorem frzK_n (i : Nat) (e : Env) : frzK (some none) i e = e := rfl
@[simp] theorem s_sFrz (i : Nat) (e : Env) : sFrz i e = .ok (.nx (frzK e[i]? i e)) := by
  unfold sFrz frzK
  split <;> first | rfl | (split <;> first | rfl | simp_all)
@[simp] theorem s_gN (i : Nat) (t : T) (e : Env) : gN i t e = if kdT t ≤ 1 ∧ i < e.length then .ok (e.set i (some t)) else .no := rfl
@[simp] theorem s_gW (vs : List Nat) (g : FG) (t : T) (e : Env) : gW vs g t e = g t (wipeE e vs) := rfl
def gTK (gs : List FG) (e : Env) : Option (List T) → Re Env
  | some ts => gEach gs ts e
  | none => .no
@[simp] theorem gTK_s (gs : List FG) (e : Env) (ts : List T) : gTK gs e (some ts) = gEach gs ts e := rfl
@[simp] theorem s_gT (gs : List FG) (t : T) (e : Env) : gT gs t e = gTK gs e (splitT t) := by
  unfold gT
  cases splitT t <;> rfl
@[simp] theorem split_tup (ts : List T) : splitT (.tup ts) = some ts := rfl
@[simp] theorem split_leaf (k : Nat) (ds : List Dat) : splitT (.leaf k (.tup ds)) = some (ds.map (mk k)) := rfl
def gEK : Re Env → List FG → List T → Re Env
  | .ok e, gs, ts => gEach gs ts e
  | .er c, _, _ => .er c
  | .no, _, _ => .no
@[simp] theorem gEK_ok (e : Env) (gs : List FG) (ts : List T) : gEK (.ok e) gs ts = gEach gs ts e := rfl
@[simp] theorem gEach_nil (e : Env) : gEach [] [] e = .ok e := rfl
@[simp] theorem gEach_cons (g : FG) (gs : List FG) (t : T) (ts : List T) (e : Env) : gEach (g :: gs) (t :: ts) e = gEK (g t e) gs ts := by
  show ((g t e).bind fun e1 => gEach gs ts e1) = _
  cases g t e <;> rfl
def parK (i j : Nat) (e : Env) : Re (List T) → Re Out
  | .ok ts => parF i j e ts
  | .er c => .er c
  | .no => .no
@[simp] theorem parK_ok (i j : Nat) (e : Env) (t u : T) : parK i j e (.ok [t, u]) = if kdT t ≤ 1 ∧ kdT u ≤ 1 ∧ i < e.length ∧ j < e.length then .ok (.nx ((e.set i (some t)).set j (some u))) else .no := rfl
@[simp] theorem s_sPar (i j : Nat) (a : FA) (e : Env) : sPar i j a e = parK i j e (a e) := by
  unfold sPar
  cases a e <;> rfl
def par3K (i j k : Nat) (e : Env) : Re (List T) → Re Out
  | .ok ts => parF3 i j k e ts
  | .er c => .er c
  | .no => .no
@[simp] theorem par3K_ok (i j k : Nat) (e : Env) (t u v : T) : par3K i j k e (.ok [t, u, v]) = if kdT t ≤ 1 ∧ kdT u ≤ 1 ∧ kdT v ≤ 1 ∧ i < e.length ∧ j < e.length ∧ k < e.length then .ok (.nx (((e.set i (some t)).set j (some u)).set k (some v))) else .no := rfl
@[simp] theorem s_sPar3 (i j k : Nat) (a : FA) (e : Env) : sPar3 i j k a e = par3K i j k e (a e) := by
  unfold sPar3
  cases a e <;> rfl
def forK (g : FG) (b : FS) (e : Env) : Re (List T) → Re Out
  | .ok ts => forT g b ts e
  | .er c => .er c
  | .no => .no
@[simp] theorem forK_ok (g : FG) (b : FS) (e : Env) (ts : List T) : forK g b e (.ok ts) = forT g b ts e := rfl
@[simp] theorem s_sFor (it : FI) (g : FG) (b : FS) (e : Env) : sFor it g b e = forK g b e (it e) := by
  unfold sFor
  cases it e <;> rfl
def augK (i : Nat) (op : Op) (a : FE) (e : Env) : Option (Option T) → Re Out
  | some (some t) => au2 t (a e)
  | _ => .no
where
  au2 (t : T) : Re T → Re Out
  | .ok u => au3 (op [datT t, datT u])
  | .er c => .er c
  | .no => .no
  au3 : Option Dat → Re Out
  | some d => if scal d then .ok (.nx (e.set i (some (.leaf 0 d)))) else .no
  | none => .no
@[simp] theorem augK_s (i : Nat) (op : Op) (a : FE) (e : Env) (t : T) : augK i op a e (some (some t)) = augK.au2 i op e t (a e) := rfl
@[simp] theorem augK_2 (i : Nat) (op : Op) (e : Env) (t u : T) : augK.au2 i op e t (.ok u) = augK.au3 i e (op [datT t, datT u]) := rfl
@[simp] theorem augK_3 (i : Nat) (e : Env) (d : Dat) : augK.au3 i e (some d) = if scal d then .ok (.nx (e.set i (some (.leaf 0 d)))) else .no := rfl
@[simp] theorem s_sAug (i : Nat) (op : Op) (a : FE) (e : Env) : sAug i op a e = augK i op a e e[i]? := by
  unfold sAug
  cases e[i]? with
  | none => rfl
  | some x =>
    cases x with
    | none => rfl
    | some t =>
      show ((a e).bind fun u => match op [datT t, datT u] with
        | some d => if scal d then Re.ok (Out.nx (e.set i (some (.leaf 0 d)))) else .no
        | none => .no) = augK.au2 i op e t (a e)
      cases a e with
      | no => rfl
      | er c => rfl
      | ok u =>
        show (match op [datT t, datT u] with
          | some d => if scal d then Re.ok (Out.nx (e.set i (some (.leaf 0 d)))) else .no
          | none => .no) = augK.au3 i e (op [datT t, datT u])
        cases op [datT t, datT u] <;> rfl
/-! ### methods that change -/
def mutQ (e : Env) (i : Nat) (π : List Nat) (m : MO) (us : List T) : Option T → Re (Env × T)
  | some (.lst ts) => if leafs ts = true ∧ kdTs us ≤ 1 then mu2 (m ts ((datTs us).map (mk (kdTs us)))) else .no
  | _ => .no
where
  mu2 : Option (List T × T) → Re (Env × T)
  | some (ts', u) => match e[i]? with
    | some (some t) => .ok (e.set i (some (setP t π (.lst ts'))), u)
    | _ => .no
  | none => .no
def mutK (m : MO) (e : Env) : Re (Nat × List Nat) → Re (List T) → Re (Env × T)
  | .ok q, .ok us => mutQ e q.1 q.2 m us (slotP e q.1 q.2)
  | _, _ => .no
@[simp] theorem mutK_ok (m : MO) (e : Env) (q : Nat × List Nat) (us : List T) : mutK m e (.ok q) (.ok us) = mutQ e q.1 q.2 m us (slotP e q.1 q.2) := rfl
@[simp] theorem mutQ_l (e : Env) (i : Nat) (π : List Nat) (m : MO) (us : List T) (ts : List T) : mutQ e i π m us (some (.lst ts)) = if leafs ts = true ∧ kdTs us ≤ 1 then mutQ.mu2 e i π (m ts ((datTs us).map (mk (kdTs us)))) else .no := rfl
@[simp] theorem mutQ_2 (e : Env) (i : Nat) (π : List Nat) (ts : List T) (u : T) : mutQ.mu2 e i π (some (ts, u)) = match e[i]? with
    | some (some t) => .ok (e.set i (some (setP t π (.lst ts))), u)
    | _ => .no := rfl
theorem mut_eq (p : FP) (m : MO) (a : FA) (e : Env) (q : Nat × List Nat) (us : List T) (hp : p e = .ok q) (ha : a e = .ok us) : mutR p m a e = mutQ e q.1 q.2 m us (slotP e q.1 q.2) := by
  unfold mutR
  rw [hp]
  show (match slotP e q.1 q.2 with
    | some (.lst _) => (a e).bind fun us => ofO (mutE m e q us)
    | _ => Re.no) = _
  rw [ha]
  unfold slotP
  cases h1 : e[q.1]? with
  | none => rfl
  | some y =>
    cases y with
    | none => rfl
    | some t =>
      show (match getP t q.2 with
        | some (.lst _) => ofO (mutE m e q us)
        | _ => Re.no) = mutQ e q.1 q.2 m us (getP t q.2)
      have e1 : mutE m e q us = match getP t q.2 with
        | some (.lst ts) => if leafs ts = true ∧ kdTs us ≤ 1 then match m ts ((datTs us).map (mk (kdTs us))) with
          | some (ts', u) => some (e.set q.1 (some (setP t q.2 (.lst ts'))), u)
          | none => none
          else none
        | _ => none := by
        unfold mutE
        rw [h1] <;> rfl
      rw [e1]
      cases h2 : getP t q.2 with
      | none => rfl
      | some z =>
        cases z with
        | lst ts =>
          show ofO (if leafs ts = true ∧ kdTs us ≤ 1 then match m ts ((datTs us).map (mk (kdTs us))) with
            | some (ts', u) => some (e.set q.1 (some (setP t q.2 (.lst ts'))), u)
            | none => none
            else none) = if leafs ts = true ∧ kdTs us ≤ 1 then mutQ.mu2 e q.1 q.2 (m ts ((datTs us).map (mk (kdTs us)))) else .no
          split
          · cases m ts ((datTs us).map (mk (kdTs us))) with
            | none => rfl
            | some w =>
              obtain ⟨ts', u⟩ := w
              show _ = match e[q.1]? with
                | some (some t) => Re.ok (e.set q.1 (some (setP t q.2 (.lst ts'))), u)
                | _ => .no
              rw [h1]
              rfl
          · rfl
        | _ => rfl
def mnK : Re (Env × T) → Re Out
  | .ok z => .ok (.nx z.1)
  | .er c => .er c
  | .no => .no
@[simp] theorem mnK_ok (e : Env) (t : T) : mnK (.ok (e, t)) = .ok (.nx e) := rfl
def mgK (g : FG) : Re (Env × T) → Re Out
  | .ok z => nxK (g z.2 z.1)
  | .er c => .er c
  | .no => .no
@[simp] theorem mgK_ok (g : FG) (e : Env) (t : T) : mgK g (.ok (e, t)) = nxK (g t e) := rfl
theorem sMut_eq (p : FP) (m : MO) (a : FA) (e : Env) {q : Nat × List Nat} {us : List T} (hp : p e = .ok q) (ha : a e = .ok us) : sMut p m a e = mnK (mutK m e (p e) (a e)) := by
  unfold sMut
  rw [mut_eq p m a e q us hp ha, hp, ha]
  show _ = mnK (mutQ e q.1 q.2 m us (slotP e q.1 q.2))
  cases mutQ e q.1 q.2 m us (slotP e q.1 q.2) <;> rfl
/-- paths -/
@[simp] theorem s_pS (i : Nat) (e : Env) : pS i e = match e[i]? with
  | some (some _) => .ok (i, [])
  | _ => .no := rfl
theorem slotP_s (e : Env) (i : Nat) (π : List Nat) (t : T) (h : e[i]? = some (some t)) : slotP e i π = getP t π := by
  unfold slotP
  rw [h]
@[simp] theorem getP_n (t : T) : getP t [] = some t := getP_nil t
@[simp] theorem setP_n (t u : T) : setP t [] u = u := setP_nil t u
/-- a list in an object's field, in a tuple -/
theorem mut_at (p : FP) (m : MO) (a : FA) (e : Env) (i : Nat) (π : List Nat) (t : T) (xs xs' us : List T) (u : T) (hp : p e = .ok (i, π)) (h : e[i]? = some (some t)) (ht : getP t π = some (.lst xs)) (hl : leafs xs = true) (ha : a e = .ok us) (hk : kdTs us ≤ 1) (hm : m xs ((datTs us).map (mk (kdTs us))) = some (xs', u)) :
    sMut p m a e = .ok (.nx (e.set i (some (setP t π (.lst xs'))))) := by
  rw [sMut_eq p m a e hp ha, hp, ha, mutK_ok]
  show mnK (mutQ e i π m us (slotP e i π)) = _
  rw [slotP_s e i π t h, ht, mutQ_l, if_pos ⟨hl, hk⟩, hm, mutQ_2, h]
  rfl
theorem pF_ok (c f : PySem.Str) (i j : Nat) (e : Env) (ns : List PySem.Str) (ts : List T) (h : e[i]? = some (some (.ins c ns ts))) (hj : idxS f ns = some j) : pF c f (pS i) e = .ok (i, [j]) := by
  unfold pF
  rw [s_pS, h]
  show (match slotP e i [] with
    | some (.ins c' ns _) => if c' = c then match idxS f ns with
      | some j => Re.ok (i, [] ++ [j])
      | none => .no
      else .no
    | _ => .no) = _
  rw [slotP_s e i [] _ h, getP_n]
  show (if c = c then match idxS f ns with
      | some j => Re.ok (i, [] ++ [j])
      | none => .no
      else .no) = _
  rw [if_pos rfl, hj]
  rfl
theorem mut_fld (c f : PySem.Str) (m : MO) (a : FA) (e : Env) (i j : Nat) (ns : List PySem.Str) (ts xs xs' us : List T) (u : T) (h : e[i]? = some (some (.ins c ns ts))) (hj : idxS f ns = some j) (ht : ts[j]? = some (.lst xs)) (hl : leafs xs = true) (ha : a e = .ok us) (hk : kdTs us ≤ 1) (hm : m xs ((datTs us).map (mk (kdTs us))) = some (xs', u)) :
    sMut (pF c f (pS i)) m a e = .ok (.nx (e.set i (some (.ins c ns (ts.set j (.lst xs')))))) := by
  have hg : getP (.ins c ns ts) [j] = some (.lst xs) := by
    show (match ts[j]? with | some u => getP u [] | none => none) = _
    rw [ht]
    exact getP_n _
  rw [mut_at _ m a e i [j] _ xs xs' us u (pF_ok c f i j e ns ts h hj) h hg hl ha hk hm]
  have hs : setP (.ins c ns ts) [j] (.lst xs') = .ins c ns (ts.set j (.lst xs')) := by
    show (match ts[j]? with | some v => withKids (.ins c ns ts) (ts.set j (setP v [] (.lst xs'))) | none => .ins c ns ts) = _
    rw [ht]
    show T.ins c ns (ts.set j (setP (.lst xs) [] (.lst xs'))) = _
    rw [setP_n]
  rw [hs]
theorem pI_tup (b : FE) (i j : Nat) (e : Env) (ts : List T) (h : e[i]? = some (some (.tup ts))) (hb : b e = .ok (.leaf 0 (.int j))) (hj : j < ts.length) : pI b (pS i) e = .ok (i, [j]) := by
  unfold pI
  rw [s_pS, h]
  show ((b e).bind fun u => match slotP e i [], datT u with
    | some (.lst ts), .int k => match ixD ts.length k with
      | some j => Re.ok (i, [] ++ [j])
      | none => .no
    | some (.tup ts), .int k => match ixD ts.length k with
      | some j => .ok (i, [] ++ [j])
      | none => .no
    | _, _ => .no) = _
  rw [hb, bd_ok, slotP_s e i [] _ h, getP_n]
  show (match ixD ts.length (j : Int) with
      | some j => Re.ok (i, [] ++ [j])
      | none => .no) = _
  rw [ixD_nat hj]
  rfl
theorem mut_tup (m : MO) (a : FA) (b : FE) (e : Env) (i j : Nat) (ts xs xs' us : List T) (u : T) (h : e[i]? = some (some (.tup ts))) (hb : b e = .ok (.leaf 0 (.int j))) (ht : ts[j]? = some (.lst xs)) (hl : leafs xs = true) (ha : a e = .ok us) (hk : kdTs us ≤ 1) (hm : m xs ((datTs us).map (mk (kdTs us))) = some (xs', u)) :
    sMut (pI b (pS i)) m a e = .ok (.nx (e.set i (some (.tup (ts.set j (.lst xs')))))) := by
  have hj : j < ts.length := (List.getElem?_eq_some_iff.mp ht).1
  have hg : getP (.tup ts) [j] = some (.lst xs) := by
    show (match ts[j]? with | some u => getP u [] | none => none) = _
    rw [ht]
    exact getP_n _
  rw [mut_at _ m a e i [j] _ xs xs' us u (pI_tup b i j e ts h hb hj) h hg hl ha hk hm]
  have hs : setP (.tup ts) [j] (.lst xs') = .tup (ts.set j (.lst xs')) := by
    show (match ts[j]? with | some v => withKids (.tup ts) (ts.set j (setP v [] (.lst xs'))) | none => .tup ts) = _
    rw [ht]
    show T.tup (ts.set j (setP (.lst xs) [] (.lst xs'))) = _
    rw [setP_n]
  rw [hs]
/-- a loop with slots forgotten -/
theorem forW {S α : Type} (env : S → Env) (item : α → T) (step : S → α → S) (I : S → List α → Prop) {vs : List Nat} {g : FG} {b : FS}
    (h : ∀ s a r, I s (a :: r) → I (step s a) r ∧ ∃ e1 o, g (item a) (env s) = .ok e1 ∧ b e1 = .ok o ∧ ((∃ e2, o = .nx e2 ∧ wipeE e2 vs = env (step s a)) ∨ ∃ e2, o = .ct e2 ∧ wipeE e2 vs = env (step s a))) :
    ∀ (xs : List α) (s : S) (e : Env), I s xs → wipeE e vs = env s → sSeq (fun e => forT (gW vs g) b (xs.map item) e) (sWipe vs) e = .ok (.nx (env (xs.foldl step s))) ∧ I (xs.foldl step s) []
  | [], s, e, i, w => by
    refine ⟨?_, i⟩
    rw [s_sSeq]
    show Re.ok (Out.nx (wipeE e vs)) = _
    rw [w]
    rfl
  | a :: r, s, e, i, w => by
    obtain ⟨i2, e1, o, h1, h2, h3⟩ := h s a r i
    have st : ∀ e2, (o = .nx e2 ∨ o = .ct e2) → sSeq (fun e => forT (gW vs g) b ((a :: r).map item) e) (sWipe vs) e = sSeq (fun e => forT (gW vs g) b (r.map item) e) (sWipe vs) e2 := fun e2 ho => by
      rw [s_sSeq, s_sSeq]
      congr 1
      show ((g (item a) (wipeE e vs)).bind fun e1 => (b e1).bind fun o => match o with
        | .nx e2 => forT (gW vs g) b (r.map item) e2
        | .ct e2 => forT (gW vs g) b (r.map item) e2
        | .bk e2 => .ok (.nx e2)
        | .rt e2 t => .ok (.rt e2 t)) = _
      rw [w, h1, bd_ok, h2, bd_ok]
      rcases ho with z | z <;> rw [z]
    rcases h3 with ⟨e2, z, w2⟩ | ⟨e2, z, w2⟩
    · rw [st e2 (.inl z)]
      exact forW env item step I h r _ e2 i2 w2
    · rw [st e2 (.inr z)]
      exact forW env item step I h r _ e2 i2 w2
theorem forW_ok {S α : Type} {env : S → Env} {item : α → T} {step : S → α → S} (I : S → List α → Prop) {vs : List Nat} {g : FG} {b : FS} {it : FI} {xs : List α} {s : S} {e : Env} (hi : I s xs) (hw : wipeE e vs = env s) (ht : it e = .ok (xs.map item))
    (h : ∀ s a r, I s (a :: r) → I (step s a) r ∧ ∃ e1 o, g (item a) (env s) = .ok e1 ∧ b e1 = .ok o ∧ ((∃ e2, o = .nx e2 ∧ wipeE e2 vs = env (step s a)) ∨ ∃ e2, o = .ct e2 ∧ wipeE e2 vs = env (step s a))) :
    sSeq (sFor it (gW vs g) b) (sWipe vs) e = .ok (.nx (env (xs.foldl step s))) := by
  have q := (forW env item step I h xs s e hi hw).1
  rw [s_sSeq] at q ⊢
  rw [s_sFor, ht]
  exact q
/-- [el for x in xs if c] -/
theorem lc_ok {α : Type} (item : α → T) (p : α → Bool) (el : α → T) {g : FG} {c : FT} {f : FE} {e0 : Env} : ∀ (xs : List α), (∀ a ∈ xs, ∃ e1, g (item a) e0 = .ok e1 ∧ c e1 = .ok (p a) ∧ (p a = true → f e1 = .ok (el a) ∧ kdT (el a) ≤ 1)) → lcT g c f e0 (xs.map item) = .ok ((xs.filter p).map el)
  | [], _ => rfl
  | a :: r, h => by
    obtain ⟨e1, h1, h2, h3⟩ := h a List.mem_cons_self
    have ih := lc_ok item p el r fun b hb => h b (List.mem_cons_of_mem _ hb)
    show ((g (item a) e0).bind fun e1 => (c e1).nox.bind fun b => if b then (f e1).nox.bind fun x => if kdT x ≤ 1 then (lcT g c f e0 (r.map item)).bind fun r => .ok (x :: r) else .no else lcT g c f e0 (r.map item)) = _
    rw [h1, bd_ok, h2, nx_ok, bd_ok]
    cases hp : p a with
    | false =>
      rw [List.filter_cons_of_neg (by rw [hp]; exact Bool.false_ne_true)]
      exact ih
    | true =>
      obtain ⟨h4, h5⟩ := h3 hp
      rw [List.filter_cons_of_pos hp, h4, ih]
      show (if kdT (el a) ≤ 1 then Re.ok (el a :: (r.filter p).map el) else .no) = _
      rw [if_pos h5]
      rfl
theorem fLc_ok {α : Type} (item : α → T) (p : α → Bool) (el : α → T) {it : FI} {g : FG} {c : FT} {f : FE} {vs : List Nat} {e : Env} {xs : List α} (ht : it e = .ok (xs.map item)) (hl : xs.length ≤ 1000000) (h : ∀ a ∈ xs, ∃ e1, g (item a) (wipeE e vs) = .ok e1 ∧ c e1 = .ok (p a) ∧ (p a = true → f e1 = .ok (el a) ∧ kdT (el a) ≤ 1)) :
    fLc it g c f vs e = .ok (.lst ((xs.filter p).map el)) := by
  unfold fLc
  rw [ht, bd_ok, if_pos (by rw [List.length_map]; exact hl), lc_ok item p el xs h]
  rfl
/-- the same without a test -/
theorem fLc_map {α : Type} (item : α → T) (el : α → T) {it : FI} {g : FG} {f : FE} {vs : List Nat} {e : Env} {xs : List α} (ht : it e = .ok (xs.map item)) (hl : xs.length ≤ 1000000) (h : ∀ a ∈ xs, ∃ e1, g (item a) (wipeE e vs) = .ok e1 ∧ f e1 = .ok (el a) ∧ kdT (el a) ≤ 1) :
    fLc it g fYes f vs e = .ok (.lst (xs.map el)) := by
  have := fLc_ok item (fun _ => true) el (c := fYes) ht hl fun a ha => by
    obtain ⟨e1, h1, h2, h3⟩ := h a ha
    exact ⟨e1, h1, rfl, fun _ => ⟨h2, h3⟩⟩
  rwa [List.filter_eq_self.mpr fun _ _ => rfl] at this
/-- all([b for x in xs]), any -/
def tB (b : Bool) : T := .leaf 0 (.bl b)
theorem datTs_tB : ∀ bs : List Bool, datTs (bs.map tB) = bs.map .bl
  | [] => rfl
  | b :: r => by
    rw [List.map_cons, datTs_cons, datTs_tB r]
    rfl
theorem blsD_map : ∀ bs : List Bool, blsD (bs.map .bl) = some bs
  | [] => rfl
  | b :: r => by
    rw [List.map_cons]
    show (blsD (r.map .bl)).map (b :: ·) = _
    rw [blsD_map r]
    rfl
theorem all_lc {α : Type} (item : α → T) (q : α → Bool) {it : FI} {g : FG} {f : FE} {vs : List Nat} {e : Env} {xs : List α} (ht : it e = .ok (xs.map item)) (hl : xs.length ≤ 1000000) (h : ∀ a ∈ xs, ∃ e1, g (item a) (wipeE e vs) = .ok e1 ∧ f e1 = .ok (.leaf 0 (.bl (q a)))) :
    opK oAll (consK (fLc it g fYes f vs e) (.ok [])) = .ok (.leaf 0 (.bl (xs.all q))) := by
  rw [fLc_map item (fun a => tB (q a)) ht hl fun a ha => by
    obtain ⟨e1, h1, h2⟩ := h a ha
    exact ⟨e1, h1, h2, Nat.zero_le _⟩]
  have e1 : xs.map (fun a => tB (q a)) = (xs.map q).map tB := by rw [List.map_map]; rfl
  rw [e1]
  show dK (max (kdTs ((xs.map q).map tB)) 0) (oAll [.lst (datTs ((xs.map q).map tB))]) = _
  rw [datTs_tB]
  show dK _ ((blsD ((xs.map q).map .bl)).map fun bs => .bl (bs.all id)) = _
  rw [blsD_map]
  show Re.ok (mk _ (.bl ((xs.map q).all id))) = _
  rw [List.all_map]
  rfl
theorem any_lc {α : Type} (item : α → T) (q : α → Bool) {it : FI} {g : FG} {f : FE} {vs : List Nat} {e : Env} {xs : List α} (ht : it e = .ok (xs.map item)) (hl : xs.length ≤ 1000000) (h : ∀ a ∈ xs, ∃ e1, g (item a) (wipeE e vs) = .ok e1 ∧ f e1 = .ok (.leaf 0 (.bl (q a)))) :
    opK oAny (consK (fLc it g fYes f vs e) (.ok [])) = .ok (.leaf 0 (.bl (xs.any q))) := by
  rw [fLc_map item (fun a => tB (q a)) ht hl fun a ha => by
    obtain ⟨e1, h1, h2⟩ := h a ha
    exact ⟨e1, h1, h2, Nat.zero_le _⟩]
  have e1 : xs.map (fun a => tB (q a)) = (xs.map q).map tB := by rw [List.map_map]; rfl
  rw [e1]
  show dK (max (kdTs ((xs.map q).map tB)) 0) (oAny [.lst (datTs ((xs.map q).map tB))]) = _
  rw [datTs_tB]
  show dK _ ((blsD ((xs.map q).map .bl)).map fun bs => .bl (bs.any id)) = _
  rw [blsD_map]
  show Re.ok (mk _ (.bl ((xs.map q).any id))) = _
  rw [List.any_map]
  rfl
/-! ### x = e; for m in x: b = b * m -/
def alK (i k q : Nat) (e : Env) : Re T → Option (Option T) → Re Out
  | .ok t, some (some (.leaf _ d)) => al2 (datT t) d
  | .er c, _ => .er c
  | _, _ => .no
where
  al2 : Dat → Dat → Re Out
  | .lst ds, .int b => al3 b (intsD ds)
  | _, _ => .no
  al3 (b : Int) : Option (List Int) → Re Out
  | some ns => if (ns.all fun n => decide (n.natAbs < 1000000)) = true ∧ i < e.length ∧ k < e.length ∧ q < e.length ∧ i ≠ k ∧ i ≠ q ∧ k ≠ q then .ok (.nx (((e.set i none).set q none).set k (some (.leaf 0 (.int (ns.foldl (· * ·) b)))))) else .no
  | none => .no
@[simp] theorem alK_ok (i k q : Nat) (e : Env) (t : T) (j : Nat) (d : Dat) : alK i k q e (.ok t) (some (some (.leaf j d))) = alK.al2 i k q e (datT t) d := rfl
@[simp] theorem alK_2 (i k q : Nat) (e : Env) (ds : List Dat) (b : Int) : alK.al2 i k q e (.lst ds) (.int b) = alK.al3 i k q e b (intsD ds) := rfl
@[simp] theorem alK_3 (i k q : Nat) (e : Env) (b : Int) (ns : List Int) : alK.al3 i k q e b (some ns) = if (ns.all fun n => decide (n.natAbs < 1000000)) = true ∧ i < e.length ∧ k < e.length ∧ q < e.length ∧ i ≠ k ∧ i ≠ q ∧ k ≠ q then .ok (.nx (((e.set i none).set q none).set k (some (.leaf 0 (.int (ns.foldl (· * ·) b)))))) else .no := rfl
@[simp] theorem s_sAl (i k q : Nat) (a : FE) (e : Env) : sAl i k q a e = alK i k q e (a e) e[k]? := by
  unfold sAl
  cases a e with
  | no => rfl
  | er c => rfl
  | ok t =>
    show (match datT t, e[k]? with
      | .lst ds, some (some (.leaf _ (.int b))) => (match intsD ds with
        | some ns => if (ns.all fun n => decide (n.natAbs < 1000000)) = true ∧ i < e.length ∧ k < e.length ∧ q < e.length ∧ i ≠ k ∧ i ≠ q ∧ k ≠ q then Re.ok (Out.nx (((e.set i none).set q none).set k (some (.leaf 0 (.int (ns.foldl (· * ·) b)))))) else .no
        | none => .no)
      | _, _ => .no) = _
    cases e[k]? with
    | none => cases datT t <;> rfl
    | some x =>
      cases x with
      | none => cases datT t <;> rfl
      | some u =>
        cases u with
        | leaf j d =>
          rw [alK_ok]
          cases datT t with
          | lst ds =>
            cases d with
            | int b =>
              rw [alK_2]
              show (match intsD ds with
                | some ns => if (ns.all fun n => decide (n.natAbs < 1000000)) = true ∧ i < e.length ∧ k < e.length ∧ q < e.length ∧ i ≠ k ∧ i ≠ q ∧ k ≠ q then Re.ok (Out.nx (((e.set i none).set q none).set k (some (.leaf 0 (.int (ns.foldl (· * ·) b)))))) else .no
                | none => .no) = _
              cases intsD ds <;> rfl
            | _ => rfl
          | _ => cases d <;> rfl
        | _ => cases datT t <;> rfl
/-! ### what is walked -/
def itK : Re T → Re (List T)
  | .ok t => it2 (kdT t) (datT t)
  | .er c => .er c
  | .no => .no
where
  it2 (k : Nat) : Dat → Re (List T)
  | .lst ds => if k ≤ 1 then .ok (ds.map (mk k)) else .no
  | .tup ds => if k ≤ 1 then .ok (ds.map (mk k)) else .no
  | _ => .no
@[simp] theorem itK_ok (t : T) : itK (.ok t) = itK.it2 (kdT t) (datT t) := rfl
@[simp] theorem itK_l (k : Nat) (ds : List Dat) : itK.it2 k (.lst ds) = if k ≤ 1 then .ok (ds.map (mk k)) else .no := rfl
@[simp] theorem itK_t (k : Nat) (ds : List Dat) : itK.it2 k (.tup ds) = if k ≤ 1 then .ok (ds.map (mk k)) else .no := rfl
@[simp] theorem s_fItems (a : FE) (e : Env) : fItems a e = itK (a e) := by
  unfold fItems
  cases a e with
  | no => rfl
  | er c => rfl
  | ok t =>
    show (match decide (2 ≤ kdT t), itemsD (datT t) with
      | false, some ds => Re.ok (ds.map (mk (kdT t)))
      | _, _ => .no) = itK.it2 (kdT t) (datT t)
    cases datT t with
    | lst ds =>
      by_cases h : 2 ≤ kdT t
      · rw [decide_eq_true h, itK_l, if_neg (by omega)]
      · rw [decide_eq_false h, itK_l, if_pos (by omega)]
        rfl
    | tup ds =>
      by_cases h : 2 ≤ kdT t
      · rw [decide_eq_true h, itK_t, if_neg (by omega)]
      · rw [decide_eq_false h, itK_t, if_pos (by omega)]
        rfl
    | _ => cases decide (2 ≤ kdT t) <;> rfl
def zip2 (k j : Nat) : Dat → Dat → Re (List T)
  | .lst ds, .lst cs => if k ≤ 1 ∧ j ≤ 1 then .ok (zipT k j ds cs) else .no
  | _, _ => .no
@[simp] theorem zip2_l (k j : Nat) (ds cs : List Dat) : zip2 k j (.lst ds) (.lst cs) = if k ≤ 1 ∧ j ≤ 1 then .ok (zipT k j ds cs) else .no := rfl
def zipK : Re (List T) → Re (List T)
  | .ok ts => zipF ts
  | .er c => .er c
  | .no => .no
@[simp] theorem zipK_ok (t u : T) : zipK (.ok [t, u]) = zip2 (kdT t) (kdT u) (datT t) (datT u) := by
  show (match decide (2 ≤ kdT t) || decide (2 ≤ kdT u), datT t, datT u with
    | false, .lst ds, .lst cs => Re.ok (zipT (kdT t) (kdT u) ds cs)
    | _, _, _ => .no) = _
  by_cases h : 2 ≤ kdT t
  · rw [decide_eq_true h, Bool.true_or]
    cases datT t <;> cases datT u <;> first | rfl | (rw [zip2_l, if_neg (by omega)])
  · by_cases h2 : 2 ≤ kdT u
    · rw [decide_eq_true h2, Bool.or_true]
      cases datT t <;> cases datT u <;> first | rfl | (rw [zip2_l, if_neg (by omega)])
    · rw [decide_eq_false h, decide_eq_false h2]
      cases datT t <;> cases datT u <;> first | rfl | (rw [zip2_l, if_pos (by omega)]; rfl)
@[simp] theorem s_fZip (a : FA) (e : Env) : fZip a e = zipK (a e) := by
  unfold fZip
  cases a e <;> rfl
def enum2 (k : Nat) : Dat → Re (List T)
  | .lst ds => if k ≤ 1 then .ok (enumT k 0 ds) else .no
  | _ => .no
@[simp] theorem enum2_l (k : Nat) (ds : List Dat) : enum2 k (.lst ds) = if k ≤ 1 then .ok (enumT k 0 ds) else .no := rfl
def enumK : Re (List T) → Re (List T)
  | .ok ts => enumF ts
  | .er c => .er c
  | .no => .no
@[simp] theorem enumK_ok (t : T) : enumK (.ok [t]) = enum2 (kdT t) (datT t) := by
  show (match decide (2 ≤ kdT t), datT t with
    | false, .lst ds => Re.ok (enumT (kdT t) 0 ds)
    | _, _ => .no) = _
  by_cases h : 2 ≤ kdT t
  · rw [decide_eq_true h]
    cases datT t <;> first | rfl | (rw [enum2_l, if_neg (by omega)])
  · rw [decide_eq_false h]
    cases datT t <;> first | rfl | (rw [enum2_l, if_pos (by omega)])
@[simp] theorem s_fEnum (a : FA) (e : Env) : fEnum a e = enumK (a e) := by
  unfold fEnum
  cases a e <;> rfl
def rg1K : Re (List T) → Re (List T)
  | .ok [t] => rg1 (datT t)
  | .er c => .er c
  | _ => .no
where
  rg1 : Dat → Re (List T)
  | .int n => if smI n = true then .ok (rng 0 1 0 n.toNat) else .no
  | _ => .no
@[simp] theorem rg1K_ok (t : T) : rg1K (.ok [t]) = rg1K.rg1 (datT t) := rfl
@[simp] theorem rg1K_i (n : Int) : rg1K.rg1 (.int n) = if smI n = true then .ok (rng 0 1 0 n.toNat) else .no := rfl
@[simp] theorem s_fRng1 (a : FA) (e : Env) : fRng1 a e = rg1K (a e) := by
  unfold fRng1
  cases a e with
  | no => rfl
  | er c => rfl
  | ok ts =>
    match ts with
    | [] => rfl
    | [t] =>
      show (match [datT t] with
        | [.int n] => if smI n = true then Re.ok (rng 0 1 0 n.toNat) else .no
        | _ => .no) = rg1K.rg1 (datT t)
      cases datT t <;> rfl
    | t :: u :: r =>
      show (match datT t :: datT u :: datTs r with
        | [.int n] => if smI n = true then Re.ok (rng 0 1 0 n.toNat) else .no
        | _ => .no) = _
      cases datT t <;> rfl
def rg2K : Re (List T) → Re (List T)
  | .ok [t, u] => rg2 (datT t) (datT u)
  | .er c => .er c
  | _ => .no
where
  rg2 : Dat → Dat → Re (List T)
  | .int lo, .int n => if smI n = true ∧ smI lo = true then .ok (rng lo 1 0 (n - lo).toNat) else .no
  | _, _ => .no
@[simp] theorem rg2K_ok (t u : T) : rg2K (.ok [t, u]) = rg2K.rg2 (datT t) (datT u) := rfl
@[simp] theorem rg2K_i (lo n : Int) : rg2K.rg2 (.int lo) (.int n) = if smI n = true ∧ smI lo = true then .ok (rng lo 1 0 (n - lo).toNat) else .no := rfl
@[simp] theorem s_fRng2 (a : FA) (e : Env) : fRng2 a e = rg2K (a e) := by
  unfold fRng2
  cases a e with
  | no => rfl
  | er c => rfl
  | ok ts =>
    match ts with
    | [] => rfl
    | [_] => 
      rename_i t
      show (match [datT t] with
        | [.int lo, .int n] => if smI n = true ∧ smI lo = true then Re.ok (rng lo 1 0 (n - lo).toNat) else .no
        | _ => .no) = _
      cases datT t <;> rfl
    | [t, u] =>
      show (match [datT t, datT u] with
        | [.int lo, .int n] => if smI n = true ∧ smI lo = true then Re.ok (rng lo 1 0 (n - lo).toNat) else .no
        | _ => .no) = rg2K.rg2 (datT t) (datT u)
      cases datT t <;> cases datT u <;> rfl
    | t :: u :: v :: r =>
      show (match datT t :: datT u :: datT v :: datTs r with
        | [.int lo, .int n] => if smI n = true ∧ smI lo = true then Re.ok (rng lo 1 0 (n - lo).toNat) else .no
        | _ => .no) = _
      cases datT t <;> cases datT u <;> rfl
theorem smI_nat {n : Nat} (h : n < 4000000000) : smI (n : Int) = true := smI_in (by omega) (by omega)
theorem rng_map (c : Int) : ∀ (lo : Int) (i n : Nat), rng lo c i n = (List.range' i n).map fun j : Nat => T.leaf 0 (.int (lo + (j : Int) * c))
  | lo, i, 0 => rfl
  | lo, i, n + 1 => by
    rw [List.range'_succ, List.map_cons, ← rng_map c lo (i + 1) n]
    rfl
theorem rng01 (n : Nat) : rng 0 1 0 n = (List.range n).map fun j : Nat => T.leaf 0 (.int (j : Int)) := by
  rw [rng_map, List.range_eq_range']
  refine List.map_congr_left fun j _ => ?_
  rw [show (0 : Int) + (j : Int) * 1 = (j : Int) by omega]
theorem enum_map (k : Nat) : ∀ (i : Nat) (ds : List Dat), enumT k i ds = (ds.zipIdx i).map fun p => T.tup [.leaf 0 (.int (p.2 : Int)), mk k p.1]
  | i, [] => rfl
  | i, d :: ds => by
    rw [List.zipIdx_cons, List.map_cons, ← enum_map k (i + 1) ds]
    rfl
theorem zip_map (k j : Nat) : ∀ (ds cs : List Dat), zipT k j ds cs = (ds.zip cs).map fun p => T.tup [mk k p.1, mk j p.2]
  | [], _ => by cases ‹List Dat› <;> rfl
  | d :: ds, [] => rfl
  | d :: ds, c :: cs => by
    rw [List.zip_cons_cons, List.map_cons, ← zip_map k j ds cs]
    rfl
/-! ### a def -/
def runK : Re Out → Re T
  | .ok (.rt _ t) => if kdT t = 0 then .ok t else .no
  | .ok (.nx _) => .ok (.leaf 0 .non)
  | .er c => .er c
  | _ => .no
@[simp] theorem runK_rt (e : Env) (t : T) : runK (.ok (.rt e t)) = if kdT t = 0 then .ok t else .no := rfl
@[simp] theorem runK_nx (e : Env) : runK (.ok (.nx e)) = .ok (.leaf 0 .non) := rfl
@[simp] theorem runK_er (c : PySem.Str) : runK (.er c) = .er c := rfl
@[simp] theorem s_runF (n p : Nat) (b : FS) (ds : List Dat) : runF n p b ds = if ds.length = p then runK (b (startE n ds)) else .no := by
  unfold runF
  split
  · cases b (startE n ds) with
    | no => rfl
    | er c => rfl
    | ok o => cases o <;> rfl
  · rfl
end LS

/-! LT: sorted(set(a list of whole numbers)). -/
namespace LS
open PySem PySem.Spec
open PyProof.Rows L2
variable [TabI]
def freshSet (w : World) : Obj := { cls := .type "set", dict := none, data := .set #[] 0 (.fresh 0 0 (!w.params.followText "set-order")) }
section
variable {P : Program} {w : World} {A : Around} {E : Value → Shared → Prop} {s : Shared}
theorem set_of_list {l : Addr} {its : Array Value} (ns : List Int) {Q : Value → Shared → Prop} (calm : A.handled = none) (il : s.heap.IsList l its) (hints : IntsAre its.toList ns) (few : ns.length + 1 < scanBound)
    (post : ∀ (hp : Heap) (tk c : Nat), SetR w hp s.heap.objs.size (fun j => decide (j ∈ ns)) c → c ≤ ns.length → (∀ b o, s.heap.get? b = some o → hp.get? b = some o) → Q (.ref s.heap.objs.size) { s with heap := hp, toks := tk }) : wpAny (model P w) A (call (.type "set") [.ref l]) Q E s := by
  have size : its.size = ns.length := by rw [← Array.length_toList]; exact IntsAre.length hints
  obtain ⟨c, tl, x1⟩ := F.called_set.mro
  have x2 := F.called_set.made; have x3 := F.called_set.sub
  refine wpAny_call (codeAny_of_tree ?_)
  show wpAny _ _ (callAny (.type "set") _) _ _ _; refine wpAny_pure ⟨Code.quiet_builtin _ (by decide +kernel), codeAny_builtin F.entry_type_call ?_⟩; rw [Around.under_plain (weight_type_call_type "set" [.ref l] []) rfl]
  have x4 := F.called_set.notType; have x5 := F.called_set.canCreate; have x6 := F.typeCall_set_1 (.ref l)
  repeat (any_goals (first | assumption | wp_step))
  refine codeAny_mono (code_set_led1 (.ref l) (E := E) (Q₁ := fun ob s1 => ob = .ref s.heap.objs.size ∧ s1 = { s with heap := s.heap.push (freshSet w) }) ⟨rfl, rfl⟩) fun r s1 hr => ?_
  cases r with
  | error e => exact hr
  | ok fl =>
    cases fl with
    | ret ob =>
      obtain ⟨rfl, rfl⟩ := hr
      have at0 : (s.heap.push (freshSet w)).get? s.heap.objs.size = some (freshSet w) := Heap.get?_push_size _ rfl
      have ty : Shared.TypeIs { s with heap := s.heap.push (freshSet w) } (.ref s.heap.objs.size) "set" := ⟨_, at0, rfl⟩
      have y1 := F.called_set.init.lookup; have y2 := F.called_set.init.bind (.ref s.heap.objs.size)
      repeat (any_goals (first | assumption | wp_step))
      refine codeAny_mono (codeAny_call_builtin (R := wants (fun r s2 => r = .none ∧ ∃ hp tk c, s2 = { s with heap := hp, toks := tk } ∧ SetR w hp s.heap.objs.size (fun j => decide (j ∈ ns)) c ∧ c ≤ ns.length ∧ (∀ b o, s.heap.get? b = some o → hp.get? b = some o)) E) F.called_set.init.plain F.entry_set_init (check_set_init_1 ty ?_)) fun r2 s2 hr2 => ?_
      · have il1 := il.push (freshSet w)
        obtain ⟨ol, hol, hcl, nl, hdl⟩ := il
        have lS : l < s.heap.objs.size := Heap.lt_size hol
        have hol' : (s.heap.push (freshSet w)).get? l = some ol := Heap.get?_push_of_some _ hol
        obtain ⟨cc, dd, dt, sl⟩ := ol; simp only at hcl hdl; subst hcl; subst hdl
        have z1 := F.sub_list_set; have z2 := F.sub_list_frozenset
        have z3 : (Value.type "list" == Value.type "dict") = false := by decide
        unfold Builtin.«set.__init__» noKeywords Builtin.Frozenset.updateFrom
        generalize hG : pyIter = G
        wp_walk
        subst hG
        refine wpAny_pyIter_list il1 ?_; refine wpAny_bind (wpAny_runValue ?_)
        have calm3 : A.in1.in1.in1.handled = none := by simp [calm]
        have sz1 : (s.heap.push (freshSet w)).objs.size = s.heap.objs.size + 1 := Heap.size_push ..
        have neI : l ≠ (s.heap.push (freshSet w)).objs.size := by rw [sz1]; exact Nat.ne_of_lt (Nat.lt_succ_of_lt lS)
        have out : s.heap.objs.size ∉ [(s.heap.push (freshSet w)).objs.size, l] := by
          rw [sz1]
          intro hm
          rcases List.mem_cons.mp hm with z | z
          · exact Nat.ne_of_lt (Nat.lt_succ_self _) z
          · exact Nat.ne_of_gt lS (List.mem_singleton.mp z)
        have val : ∀ (i : Nat) (v : Value), its[i]? = some v → ∃ k t, ns[i]? = some k ∧ v = .int k t := fun i v hv => by
          have hi : i < ns.length := by rw [← size]; exact (Array.getElem?_eq_some_iff.mp hv).1
          obtain ⟨t, e⟩ := PyProof.Rows.IntsAre.int_at hints i v (by rw [Array.getElem?_toList]; exact hv)
          exact ⟨ns[i], t, List.getElem?_eq_getElem hi, by rw [e, List.getD_eq_getElem?_getD, List.getElem?_eq_getElem hi] <;> rfl⟩
        refine set_update_ints ((Walks.list calm3 _ l neI its).toS) s.heap.objs.size out ns size few val (its.size - 0) 0 _ (by omega) (Nat.zero_le _) ⟨⟨_, Heap.get?_push_size _ rfl, rfl, rfl⟩, (il1.push _)⟩ ⟨0, Nat.le_refl 0, setR_new_at (Heap.get?_push_of_some _ at0)⟩ fun s3 c3 mv le3 R3 => ?_
        obtain ⟨h3, g3, d3, t3, o3⟩ := s3
        have eg : g3 = s.gens := mv.gens
        have ed : d3 = s.drawn := mv.drawn
        have eo : o3 = s.os := mv.os
        subst eg ed eo
        show wpAny _ _ _ _ _ _; refine wpAny_pure ?_
        show wpAny _ _ (ret Value.none) _ _ _; rw [size] at le3
        refine wpAny_pure ⟨rfl, h3, t3, c3, rfl, R3, le3, fun b o e => ?_⟩
        have b0 : b < s.heap.objs.size := Heap.lt_size e
        exact mv.heap b o (by
          rw [sz1]
          intro hm
          rcases List.mem_cons.mp hm with z | z
          · exact Nat.ne_of_lt b0 z
          · exact Nat.ne_of_lt (Nat.lt_succ_of_lt b0) (List.mem_singleton.mp z)) (Heap.get?_push_of_some _ (Heap.get?_push_of_some _ e))
      · cases r2 with
        | ok f2 =>
          cases f2 with
          | ret z =>
            obtain ⟨rfl, hp, tk, c3, rfl, R3, le3, kp⟩ := hr2
            repeat (any_goals (first | assumption | wp_step))
            exact post _ _ _ R3 le3 kp
          | _ => exact hr2.elim
        | error e => exact hr2
    | _ => exact hr.elim
end
/-! ### what comes out -/
def insU (x : Int) : List Int → List Int
  | [] => [x]
  | y :: r => if x < y then x :: y :: r else if x = y then y :: r else y :: insU x r
def usort : List Int → List Int
  | [] => []
  | x :: r => insU x (usort r)
theorem insU_mem (x k : Int) : ∀ ns : List Int, k ∈ insU x ns ↔ k = x ∨ k ∈ ns
  | [] => by simp [insU]
  | y :: r => by
    have ih := insU_mem x k r
    unfold insU
    split
    · simp
    · split
      · rename_i e
        subst e
        simp
      · simp only [List.mem_cons, ih]
        constructor
        · rintro (a | a | a)
          · exact .inr (.inl a)
          · exact .inl a
          · exact .inr (.inr a)
        · rintro (a | a | a)
          · exact .inr (.inl a)
          · exact .inl a
          · exact .inr (.inr a)
theorem usort_mem (k : Int) : ∀ ns : List Int, k ∈ usort ns ↔ k ∈ ns
  | [] => Iff.rfl
  | x :: r => by
    unfold usort
    rw [insU_mem, usort_mem k r, List.mem_cons]
theorem insU_up (x : Int) : ∀ ns : List Int, ns.Pairwise (· < ·) → (insU x ns).Pairwise (· < ·)
  | [], _ => by simp [insU]
  | y :: r, h => by
    have h1 := List.pairwise_cons.mp h
    unfold insU
    split
    · rename_i l
      refine List.pairwise_cons.mpr ⟨fun z hz => ?_, h⟩
      rcases List.mem_cons.mp hz with e | e
      · rw [e]
        exact l
      · exact Int.lt_trans l (h1.1 z e)
    · split
      · exact h
      · refine List.pairwise_cons.mpr ⟨fun z hz => ?_, insU_up x r h1.2⟩
        rcases (insU_mem x z r).mp hz with e | e
        · omega
        · exact h1.1 z e
theorem usort_up : ∀ ns : List Int, (usort ns).Pairwise (· < ·)
  | [] => List.Pairwise.nil
  | x :: r => insU_up x _ (usort_up r)
theorem up_one : ∀ {xs ys : List Int}, xs.Pairwise (· < ·) → ys.Pairwise (· < ·) → (∀ k, k ∈ xs ↔ k ∈ ys) → xs = ys
  | [], [], _, _, _ => rfl
  | [], y :: r, _, _, h => absurd ((h y).mpr List.mem_cons_self) List.not_mem_nil
  | x :: r, [], _, _, h => absurd ((h x).mp List.mem_cons_self) List.not_mem_nil
  | x :: r, y :: q, hx, hy, h => by
    have h1 := List.pairwise_cons.mp hx
    have h2 := List.pairwise_cons.mp hy
    have e : x = y := by
      rcases List.mem_cons.mp ((h x).mp List.mem_cons_self) with a | a
      · exact a
      · rcases List.mem_cons.mp ((h y).mpr List.mem_cons_self) with b | b
        · exact b.symm
        · have := h1.1 y b
          have := h2.1 x a
          omega
    subst e
    rw [up_one h1.2 h2.2 fun k => ?_]
    have hk := h k
    constructor
    · intro m
      rcases List.mem_cons.mp (hk.mp (List.mem_cons_of_mem _ m)) with b | b
      · subst b
        have := h1.1 k m
        omega
      · exact b
    · intro m
      rcases List.mem_cons.mp (hk.mpr (List.mem_cons_of_mem _ m)) with b | b
      · subst b
        have := h2.1 k m
        omega
      · exact b
def lSrtSet : OL
  | [.lst ds] => match intsD ds with
    | some ns => if ns.length < 60 then some ((usort ns).map .int) else none
    | none => none
  | _ => none
/-! ### the rule -/
def tSrtS (K : PySem.W.Frag) (w : World) (ta : TE) : TE := fun σ H Q => ta σ H fun x H1 => ∃ (l : Addr) (ns : List Int), x = .ref l ∧ SqL K H1 l (ns.map V.int) ∧ ns.length < 60 ∧
  ∀ (q p : Addr) (S : Int → Bool) (n : Nat), H1 q = none → upd H1 q (SetO w q S n) p = none → Q (.ref p) (upd (upd H1 q (SetO w q S n)) p (.lst ((usort ns).map V.int)))
theorem pe_srtS {X : Cx} {a : Expr} {ta : TE} {p p2 q pos : Pos} (hg : Gl X "sorted") (hm : X.mg "sorted" = none) (hg2 : Gl X "set") (hm2 : X.mg "set" = none) (ha : PE X a ta) (hc : X.calm = true := by rfl)
    (na : starEach [a] X.env = (false, eval a X.env) :: starEach [] X.env := by rfl) : PE X (.Call (.Name "sorted" p) [.Call (.Name "set" p2) [a] [] q] [] pos) (tSrtS X.K X.w ta) := by
  refine ⟨fun pn sh τ Hh Z inv h => ?_⟩
  refine Call_ (ld_blt inv hg hm bt_sorted (PyProof.Rows.callWith_builtin1 (PyProof.Rows.args_cons ?_ rfl) rfl rfl))
  refine Call_ (ld_blt inv hg2 hm2 PyProof.Rows.boot_set (PyProof.Rows.callWith_type1 (PyProof.Rows.args_cons (thn (ha.run pn sh τ Hh _ inv h) fun v s1 ⟨x, H1, I1, r1, q1⟩ => PyProof.Rows.args_nil ?_) na) na rfl))
  obtain ⟨l, ns, rfl, hq, hl, q1⟩ := q1
  cases r1
  obtain ⟨its, r, pl, hz⟩ := I1.list hq
  refine set_of_list ns (I1.ok.hd hc) pl.isList (by simpa using ints_of_vals r) (by unfold scanBound; omega) fun hp tk c R cl kp => PyProof.Rows.args_nil ?_
  have fr : H1 s1.heap.objs.size = none := I1.hok.fresh (Nat.le_refl _)
  have I2 : Inv X pn τ (upd H1 s1.heap.objs.size (SetO X.w s1.heap.objs.size (fun j => decide (j ∈ ns)) c)) { s1 with heap := hp, toks := tk } := I1.laid (t' := tk) kp (Nat.le_refl _) (setO_new R)
  refine cr_sortedSet hc pn { s1 with heap := hp, toks := tk } τ _ [.ref s1.heap.objs.size] [.ref s1.heap.objs.size] Z I2 (.cons rfl .nil) ⟨_, _, c, rfl, upd_same, by omega, fun ns' p hu hmm hln hn => ?_⟩
  have e : ns' = usort ns := up_one hu (usort_up ns) fun k => by rw [hmm, usort_mem, decide_eq_true_iff]
  rw [e]
  exact q1 _ p _ _ fr hn
section
variable {mg : Str → Option Value} {E : XK} {K : PySem.W.Frag} {w : World}
theorem se_srtS {tx : TE} {fx : FE} (hx : SE mg E tx fx) : SE mg E (tSrtS K w tx) (fL lSrtSet (fA1 fx fA0)) := by
  intro H0 G H σ e fp Q st h
  refine ev1 (K := fun x H1 => ∃ (l : Addr) (ns : List Int), x = .ref l ∧ SqL K H1 l (ns.map V.int) ∧ ns.length < 60 ∧ ∀ (q p : Addr) (S : Int → Bool) (n : Nat), H1 q = none → upd H1 q (SetO w q S n) p = none → Q (.ref p) (upd (upd H1 q (SetO w q S n)) p (.lst ((usort ns).map V.int)))) hx st ?_
  unfold fL at h
  cases q : fA1 fx fA0 e with
  | no => rw [q] at h; exact h.elim
  | er c => rw [q] at h; exact h
  | ok ts =>
    rw [q] at h
    intro vs G1 H1 f g o fr x ex
    subst ex
    have h' : Pe mg E H0 G H Q (match lSrtSet (datTs ts) with | some ds => .ok (.lst (ds.map (mk (kdTs ts)))) | none => .no) := h
    cases q2 : lSrtSet (datTs ts) with
    | none => rw [q2] at h'; exact h'.elim
    | some d =>
      rw [q2] at h'
      have rs := o.now nw_sub g.gh
      unfold lSrtSet at q2
      split at q2
      · rename_i ds0 hd
        rw [hd] at rs
        split at q2
        · rename_i ns hns
          split at q2
          · rename_i hl
            cases q2
            have e1 := ints_of hns
            subst e1
            cases rs with
            | cons r rr =>
              cases rr
              cases r with
              | lst ha rl =>
                rw [rl.ints] at ha
                refine ⟨_, ns, rfl, .of ha, hl, fun a p S n na np => ?_⟩
                have g2 := (g.upd (o := SetO w a S n) na)
                exact h' (.ref p) G1 _ (p :: []) (g2.upd np) (.lst upd_same (owns_mk (Rs.ofInts _))) (frs_one g2 np)
          · cases q2
        · cases q2
      · cases q2
end
end LS

/-! LU: a list's items by a step. -/
namespace LS
open PySem PySem.Spec
open PyProof.Rows L2
variable [TabI]
/-- every k-th, from the first on -/
def stepP {α : Type} (xs : List α) (k : Int) : List α := (sliceRange 0 (xs.length : Int) k).filterMap fun i : Nat => xs[i]?
def rStep (K : PySem.W.Frag) : R2 := fun x y H Q => ∃ a xs k, x = .ref a ∧ y = .int k ∧ 0 < k ∧ SqL K H a xs ∧ ∀ p, H p = none → Q (.ref p) (upd H p (.lst (stepP xs k)))
theorem vals_fm {xs : List V} {us : List Value} (r : Vals xs us) : ∀ is : List Nat, Vals (is.filterMap fun i : Nat => xs[i]?) (is.filterMap fun i : Nat => us[i]?)
  | [] => .nil
  | i :: is => by
    have ih := vals_fm r is
    cases h : xs[i]? with
    | none => rw [List.filterMap_cons_none h, List.filterMap_cons_none (r.none_of h)]; exact ih
    | some x =>
      obtain ⟨u, h1, h2⟩ := r.get h
      rw [List.filterMap_cons_some h, List.filterMap_cons_some h1]
      exact .cons h2 ih
theorem pick_step (its : List Value) (k : Int) (hk : 0 < k) : slicePick its.toArray none none (some k) = (stepP its k).toArray := by
  unfold slicePick stepP sliceBounds
  have h : (k > 0) := hk
  simp only [Option.getD_some, h, if_true, List.size_toArray, List.getElem?_toArray]
theorem step_len {α : Type} (xs : List α) (k : Int) (hk : 0 < k) : (stepP xs k).length ≤ xs.length := by
  unfold stepP
  refine Nat.le_trans (List.length_filterMap_le _ _) ?_
  unfold sliceRange
  rw [List.length_map, List.length_range]
  have h : (k > 0) := hk
  simp only [h, if_true]
  split
  · rename_i hl
    have h1 : ((xs.length : Int) - 0 + k - 1) / k ≤ (xs.length : Int) := by
      have h2 : ((xs.length : Int) - 0 + k - 1) / k < (xs.length : Int) + 1 := by
        refine Int.ediv_lt_of_lt_mul hk ?_
        have h3 : (xs.length : Int) * 1 ≤ (xs.length : Int) * k := Int.mul_le_mul_of_nonneg_left (by omega) (by omega)
        rw [Int.add_mul]
        omega
      omega
    omega
  · simp
theorem pe_stepL {X : Cx} {e es : Expr} {te ts : TE} {p3 pos : Pos} (he : PE X e te) (hs : PE X es ts) : PE X (.Subscript e (.Slice none none (some es) p3) pos) (tOp (rStep X.K) te ts) := by
  refine ⟨fun pins s σ H Q I h => ?_⟩
  refine Subscript_ (thn (he.run pins s σ H _ I h) fun v s1 ⟨x, H1, I1, r1, q1⟩ => ?_)
  refine wpAny_Slice (thn (po_none.run pins s1 σ H1 (fun o H2 => o = none ∧ H2 = H1) I1 ⟨rfl, rfl⟩) fun vl s2 ⟨l, H2, I2, pl, el, e2⟩ => ?_)
  subst el e2
  refine thn (po_none.run pins s2 σ H2 (fun o H3 => o = none ∧ H3 = H2) I2 ⟨rfl, rfl⟩) fun vu s3 ⟨u, H3, I3, pu, eu, e3⟩ => ?_
  subst eu e3
  rw [evalPart_some]
  refine thn (hs.run pins s3 σ H3 _ I3 q1) fun vs s4 ⟨y, H4, I4, r4, q4⟩ => ?_
  obtain ⟨a, xs, k, ex, ey, hk, hx, q⟩ := q4
  subst ex ey
  cases r1
  obtain ⟨tk, rfl⟩ := r4
  have I5 : Inv X pins σ H4 { s4 with heap := s4.heap.push { cls := .type "slice", data := .fields #[vl, vu, .int k tk] } } := I4.kept (t' := s4.toks) fun b ob q => Heap.get?_push_of_some _ q
  obtain ⟨its, r, ht, hz⟩ := I5.list hx
  have hlen := r.length
  show wpAny (model X.prog X.w) X.A (subscriptTail e (.Slice none none (some es) p3) (.ref a) (.ref s4.heap.objs.size)) (EP X pins σ Q) X.xe { s4 with heap := s4.heap.push { cls := .type "slice", data := .fields #[vl, vu, .int k tk] } }
  refine tail_any (ops := [.ref a, .ref s4.heap.objs.size]) ht.isList.typeIs (PySem.slot_list_getitem.lookup) ?_ (by rfl)
  refine wpAny_getItem_list_slice ht.isList (Heap.IsSliceOf.new _ vl vu (.int k tk)) pl pu (.int k tk) (fun e => by have := Option.some.inj e; omega) ?_ (by rw [List.size_toArray]; omega)
  rw [pick_step its k hk]
  refine ⟨.ref _, _, I5.laid (t' := s4.toks) (o := .lst (stepP xs k)) (fun b ob q => Heap.get?_push_of_some _ q) (Nat.le_refl _) ?_, rfl, q _ (I5.hok.fresh (Nat.le_refl _))⟩
  refine ⟨Nat.le_trans (step_len xs k hk) hz, stepP its k, 0, ?_, Heap.get?_push_size _ rfl⟩
  unfold stepP
  rw [hlen]
  exact vals_fm r _
def lStep : OL
  | [.lst ds, .int k] => if 0 < k then some (stepP ds k) else none
  | _ => none
section
variable {mg : Str → Option Value} {E : XK} {K : PySem.W.Frag}
theorem rs_fm {X : Hp} {vs : List V} {ds : List Dat} (r : Rs mg X vs ds) : ∀ is : List Nat, Rs mg X (is.filterMap fun i : Nat => vs[i]?) (is.filterMap fun i : Nat => ds[i]?)
  | [] => .nil
  | i :: is => by
    have ih := rs_fm r is
    cases h : ds[i]? with
    | none =>
      have h2 : vs[i]? = none := by
        have h1 := List.getElem?_eq_none_iff.mp h
        exact List.getElem?_eq_none_iff.mpr (by rw [r.length]; exact h1)
      rw [List.filterMap_cons_none h, List.filterMap_cons_none h2]
      exact ih
    | some d =>
      obtain ⟨v, h1, h2⟩ := r.get h
      rw [List.filterMap_cons_some h, List.filterMap_cons_some h1]
      exact .cons h2 ih
theorem se_step {tx ty : TE} {fx fy : FE} (hx : SE mg E tx fx) (hy : SE mg E ty fy) : SE mg E (tOp (rStep K) tx ty) (fL lStep (fA1 fx (fA1 fy fA0))) := se_opL hx hy fun X H vs ds d ex rs q => by
  unfold lStep at q
  split at q
  · rename_i ds0 k
    split at q
    · rename_i hk
      cases q
      cases rs with
      | cons r rr =>
        cases rr with
        | cons r2 rr =>
          cases rr
          cases r2
          cases r with
          | @lst a vs0 _ ha rl =>
            refine ⟨stepP vs0 k, ?_, fun Q hq x y e => ?_⟩
            · unfold stepP
              rw [rl.length]
              exact rs_fm rl _
            · cases e
              exact ⟨_, _, k, rfl, rfl, hk, .of (ex _ _ ha).is, hq⟩
    · cases q
  · cases q
end
end LS

/-! LV: dicts: one of tuples of whole numbers, changed; get; tuple(x). -/
namespace LS
open PySem PySem.Spec
open PyProof.Rows L2
variable [TabI]
def lookD (k : List Int) : List (List Int × Int) → Option Int
  | [] => none
  | p :: r => if p.1 = k then some p.2 else lookD k r
def putD (k : List Int) (v : Int) (ps : List (List Int × Int)) : List (List Int × Int) := if (ps.any fun p => decide (p.1 = k)) = true then ps.map (fun p => if p.1 = k then (p.1, v) else p) else ps ++ [(k, v)]
def lookI (k : Int) : List Int → List Dat → Option Dat
  | x :: ks, d :: ds => if x = k then some d else lookI k ks ds
  | _, _ => none
def fDNew : FE := fun _ => .ok (.dtt [])
def isDd : Dat → Bool
  | .dct _ _ => true
  | .dtt _ => true
  | _ => false
def oDGet : Op
  | [.dtt ps, .tup ds, .int z] => match intsD ds with
    | some ns => some (.int ((lookD ns ps).getD z))
    | none => none
  | [.dct ks ds, .int k, d] => some ((lookI k ks ds).getD d)
  | _ => none
/-- d[k] of a dict of whole numbers -/
def oDIx : Op
  | [.dct ks ds, .int k] => lookI k ks ds
  | _ => none
def fDm (op : Op) (o : FE) (a : FA) : FE := fun e => (o e).bind fun t => if isDd (datT t) = true then (a e).bind fun ts => match op (datT t :: datTs ts) with
  | some d => .ok (mk (max (kdT t) (kdTs ts)) d)
  | none => .no
  else .no
/-- d[k] = v, d of tuples -/
def sDPutT (i : Nat) (fk fv : FE) : FS := fun e => match e[i]? with
  | some (some (.dtt ps)) => (fv e).bind fun u => (fk e).bind fun k => match datT k, datT u with
    | .tup ds, .int v => match intsD ds with
      | some ns => if ps.length < 1000000 then .ok (.nx (e.set i (some (.dtt (putD ns v ps))))) else .no
      | none => .no
    | _, _ => .no
  | _ => .no
theorem inl_inj : ∀ {a b : List Int}, a.map (Sum.inl : Int → Key) = b.map Sum.inl → a = b
  | [], [], _ => rfl
  | [], _ :: _, h => nomatch h
  | _ :: _, [], h => nomatch h
  | x :: a, y :: b, h => by
    rw [List.map_cons, List.map_cons, List.cons.injEq] at h
    rw [Sum.inl.inj h.1, inl_inj h.2]
theorem val_kvt (k : List Int) : ∀ ps : List (List Int × Int), valV (kvt ps) (k.map Sum.inl) = (lookD k ps).map V.int
  | [] => rfl
  | p :: r => by
    unfold lookD
    show valV ((p.1.map Sum.inl, V.int p.2) :: kvt r) (k.map Sum.inl) = _
    by_cases h : p.1 = k
    · rw [if_pos h, valV_pos (by show p.1.map Sum.inl = k.map Sum.inl; rw [h])]
      rfl
    · rw [if_neg h, valV_neg (fun z => h (inl_inj z)), val_kvt k r]
theorem put_kvt (k : List Int) (v : Int) (ps : List (List Int × Int)) : putK (kvt ps) (k.map Sum.inl) (V.int v) = kvt (putD k v ps) := by
  have e1 : ((kvt ps).any fun kv => decide (kv.1 = k.map Sum.inl)) = ps.any fun p => decide (p.1 = k) := by
    unfold kvt
    rw [List.any_map]
    congr 1
    funext p
    show decide (p.1.map Sum.inl = k.map Sum.inl) = decide (p.1 = k)
    by_cases h : p.1 = k
    · simp [h]
    · rw [decide_eq_false h, decide_eq_false fun z => h (inl_inj z)]
  unfold putK putD
  rw [e1]
  split
  · unfold kvt
    rw [List.map_map, List.map_map]
    apply List.map_congr_left
    intro p _
    show (if p.1.map Sum.inl = k.map Sum.inl then _ else _) = _
    by_cases h : p.1 = k
    · rw [if_pos (by rw [h])]
      show _ = (fun p : List Int × Int => (p.1.map Sum.inl, V.int p.2)) (if p.1 = k then (p.1, v) else p)
      rw [if_pos h]
    · rw [if_neg fun z => h (inl_inj z)]
      show _ = (fun p : List Int × Int => (p.1.map Sum.inl, V.int p.2)) (if p.1 = k then (p.1, v) else p)
      rw [if_neg h]
  · unfold kvt
    rw [List.map_append]
    rfl
theorem kV_ints (ns : List Int) : (ns.map (Sum.inl : Int → Key)).map kV = ns.map V.int := by
  rw [List.map_map]
  rfl
theorem val_kvz {mg : Str → Option Value} {H : Hp} {k : Int} : ∀ {ks : List Int} {vs : List V} {ds : List Dat}, ks.length = vs.length → Rs mg H vs ds → (lookI k ks ds = none ∧ valV (kvz ks vs) (.inl k) = none) ∨ ∃ d v, lookI k ks ds = some d ∧ valV (kvz ks vs) (.inl k) = some v ∧ R mg H v d
  | [], _, _, _, .nil => .inl ⟨rfl, rfl⟩
  | x :: ks, v :: vs, d :: ds, l, .cons r rs => by
    show (lookI k (x :: ks) (d :: ds) = none ∧ valV ((Sum.inl x, v) :: kvz ks vs) (.inl k) = none) ∨ ∃ d' v', lookI k (x :: ks) (d :: ds) = some d' ∧ valV ((Sum.inl x, v) :: kvz ks vs) (.inl k) = some v' ∧ R mg H v' d'
    unfold lookI
    by_cases h : x = k
    · subst h
      rw [if_pos rfl, valV_pos rfl]
      exact .inr ⟨d, v, rfl, rfl, r⟩
    · rw [if_neg h, valV_neg (fun z => h (Sum.inl.inj z))]
      exact val_kvz (by simpa using l) rs
section
variable {mg : Str → Option Value} {E : XK} {K : PySem.W.Frag} {H0 G H G' H' : Hp} {σ : L2.St} {e : Env} {fp : List Addr} {D : Ends}
theorem se_dnewT : SE mg E tDNewT fDNew := fun H0 G H σ e fp Q st h p hp => h (.ref p) G _ [p] ((Grow.refl st.gh).upd hp) (.dtt upd_same) (frs_one (Grow.refl st.gh) hp)
theorem isD_of {X H : Hp} {v : V} {d : Dat} (ex : Ex X H) (r : R mg X v d) (h : isDd d = true) : ∃ a, v = .ref a ∧ IsD H a := by
  cases r with
  | dct ha l rs => exact ⟨_, rfl, .inl ⟨_, .inl (ex _ _ ha).is⟩⟩
  | dtt ha => exact ⟨_, rfl, .inr ⟨_, .inl (ex _ _ ha).is⟩⟩
  | _ => cases h
/-- d.get(k, x): the object, then the arguments -/
theorem get_R {X H : Hp} {x y z : V} {d0 d1 d2 d : Dat} (ex : Ex X H) (r0 : R mg X x d0) (r1 : R mg X y d1) (r2 : R mg X z d2) (q : oDGet [d0, d1, d2] = some d) : ∃ a o, x = .ref a ∧ DGet H a y o ∧ R mg X (o.getD z) d := by
  unfold oDGet at q
  split at q
  · rename_i ps ds zz he
    simp only [List.cons.injEq, and_true] at he
    obtain ⟨rfl, rfl, rfl⟩ := he
    split at q
    · rename_i ns hns
      cases q
      cases r0 with
      | dtt ha =>
        cases r1 with
        | tup hb rb =>
          cases r2
          have e := ints_of hns
          subst e
          rw [rb.ints] at hb
          refine ⟨_, (lookD ns ps).map V.int, rfl, ?_, ?_⟩
          · rw [← val_kvt]
            exact DGet.t (ex _ _ ha).is (by rw [kV_ints]; exact (ex _ _ hb).is)
          · cases lookD ns ps <;> exact .int _
    · cases q
  · rename_i ks ds k dd he
    simp only [List.cons.injEq, and_true] at he
    obtain ⟨rfl, rfl, rfl⟩ := he
    cases q
    cases r0 with
    | dct ha l rs =>
      cases r1
      rcases val_kvz (k := k) l rs with ⟨h1, h2⟩ | ⟨d', v', h1, h2, h3⟩
      · refine ⟨_, none, rfl, ?_, ?_⟩
        · rw [← h2]
          exact DGet.k (k := Sum.inl k) (ex _ _ ha).is
        · rw [h1]
          exact r2
      · refine ⟨_, some v', rfl, ?_, ?_⟩
        · rw [← h2]
          exact DGet.k (k := Sum.inl k) (ex _ _ ha).is
        · rw [h1]
          exact h3
  · cases q
theorem se_dget2 {td ty tx : TE} {fd fy fx : FE} (hd : SE mg E td fd) (hy : SE mg E ty fy) (hx : SE mg E tx fx) : SE mg E (tDGet2 td ty tx) (fDm oDGet fd (fA1 fy (fA1 fx fA0))) := by
  intro H0 G H σ e fp Q st h
  refine hd H0 G H σ e fp _ st ?_
  unfold fDm at h
  cases q : fd e with
  | no => rw [q] at h; exact h.elim
  | er c => rw [q] at h; exact h
  | ok t =>
    rw [q] at h
    have h1 : Pe mg E H0 G H Q (if isDd (datT t) = true then (fA1 fy (fA1 fx fA0) e).bind fun ts => match oDGet (datT t :: datTs ts) with
      | some d => .ok (mk (max (kdT t) (kdTs ts)) d)
      | none => .no
      else .no) := h
    intro v G1 H1 f g o fr
    split at h1
    · rename_i hl
      have rv := o.now nw_sub g.gh
      obtain ⟨a, rfl, ida⟩ := isD_of (Ex.refl H1) rv hl
      refine ⟨a, rfl, ida, ?_⟩
      refine ev2 (K := fun y z H3 => ∃ o, DGet H3 a y o ∧ Q (o.getD z) H3) hy hx (st.grow g) ?_
      cases q2 : fA1 fy (fA1 fx fA0) e with
      | no => rw [q2] at h1; exact h1.elim
      | er c => rw [q2] at h1; exact Er.grow h1 g
      | ok ts =>
        rw [q2] at h1
        have h2 : Pe mg E H0 G H Q (fI oDGet (fun _ => .ok (t :: ts)) e) := h1
        intro ws G2 H2 f2 g2 o2 fr2 y z ews
        subst ews
        have hd1 : ∀ p ∈ f, ∃ ob, H1 p = some ob := o.dom
        have oo : Owns mg (nw H0 G2) G2 H2 (.ref a :: [y, z]) (t :: ts) (f ++ f2) := .cons (o.grow g2) o2
        have ff : Frs (f ++ f2) G2 H := fr.add hd1 g g2 fr2
        have pq := pa_I (r := fun vs H Q => ∀ x y z, vs = [x, y, z] → ∃ a o, x = .ref a ∧ DGet H a y o ∧ Q (o.getD z) H) (fun X H vs ds d ex rs q => by
          cases rs with
          | nil => cases q
          | cons r0 rs =>
            cases rs with
            | nil => unfold oDGet at q; split at q <;> simp_all
            | cons r1 rs =>
              cases rs with
              | nil => unfold oDGet at q; split at q <;> simp_all
              | cons r2 rs =>
                cases rs with
                | cons _ _ => unfold oDGet at q; split at q <;> simp_all
                | nil =>
                  obtain ⟨a, o, rfl, g, r⟩ := get_R ex r0 r1 r2 q
                  exact ⟨o.getD _, r, fun Q hQ x y z e => by
                    cases e
                    exact ⟨a, o, rfl, g, hQ⟩⟩) st h2
        obtain ⟨a', ov, ea, gg, qq⟩ := pq (.ref a :: [y, z]) G2 H2 (f ++ f2) (g.trans g2) oo ff (.ref a) y z rfl
        cases ea
        exact ⟨ov, gg, qq⟩
    · exact h1.elim
/-- d[k] of a dict of whole numbers -/
theorem ri_dix : RI mg (l2 fun x y H Q => ∃ a v, x = .ref a ∧ DGet H a y (some v) ∧ Q v H) oDIx := fun X H vs ds d ex rs q => by
  unfold oDIx at q
  split at q
  · rename_i ks ds k
    cases rs with
    | cons r0 rs =>
      cases rs with
      | cons r1 rs =>
        cases rs
        cases r1
        cases r0 with
        | dct ha l rs =>
          rcases val_kvz (k := k) l rs with ⟨h1, h2⟩ | ⟨d', v', h1, h2, h3⟩
          · rw [h1] at q
            cases q
          · rw [h1] at q
            cases q
            exact ⟨v', h3, fun Q hQ x y e => by
              cases e
              exact ⟨_, v', rfl, by rw [← h2]; exact DGet.k (k := Sum.inl k) (ex _ _ ha).is, hQ⟩⟩
  · cases q
theorem se_dix {td ty : TE} {fd fy : FE} (hd : SE mg E td fd) (hy : SE mg E ty fy) : SE mg E (tDGet td ty) (fI oDIx (fA1 fd (fA1 fy fA0))) := se_op2 (r2 := fun x y H Q => ∃ a v, x = .ref a ∧ DGet H a y (some v) ∧ Q v H) hd hy ri_dix
theorem s_dput {i : Nat} {ty tv : TE} {fy fv : FE} (hy : SE mg E ty fy) (hv : SE mg E tv fv) : SS mg E (sDPut (tVar i) ty tv) (sDPutT i fy fv) := by
  intro H0 G H σ e fp D st h
  refine hv H0 G H σ e fp _ st ?_
  unfold sDPutT at h
  split at h
  · rename_i ps hi
    cases q : fv e with
    | no => rw [q] at h; exact h.elim
    | er c => rw [q] at h; exact er_of st h
    | ok u =>
      rw [q] at h
      have h1 : Ps mg E H0 G D ((fy e).bind fun k => match datT k, datT u with
        | .tup ds, .int v => match intsD ds with
          | some ns => if ps.length < 1000000 then .ok (.nx (e.set i (some (.dtt (putD ns v ps))))) else .no
          | none => .no
        | _, _ => .no) := h
      intro v G1 H1 f1 g1 o1 r1
      have st1 := st.grow g1
      obtain ⟨x, f, e1, ox, kx, sub, _⟩ := st1.sl.get hi
      refine ⟨x, e1, hy H0 G1 H1 σ e fp _ st1 ?_⟩
      cases q2 : fy e with
      | no => rw [q2] at h1; exact h1.elim
      | er c => rw [q2] at h1; exact Er.grow (er_of st h1) g1
      | ok k =>
        rw [q2] at h1
        have h2 : Ps mg E H0 G D (match datT k, datT u with
          | .tup ds, .int v => match intsD ds with
            | some ns => if ps.length < 1000000 then .ok (.nx (e.set i (some (.dtt (putD ns v ps))))) else .no
            | none => .no
          | _, _ => .no) := h1
        intro y G2 H2 f2 g2 o2 r2
        have st2 := st1.grow g2
        have rv : R mg H2 v (datT u) := (o1.now nw_sub g1.gh).mono g2.hh
        have ry : R mg H2 y (datT k) := o2.now nw_sub g2.gh
        obtain ⟨x', f', e1', ox', _, sub', _⟩ := st2.sl.get hi
        rw [e1] at e1'
        cases e1'
        split at h2
        · rename_i ds w hk hu
          rw [hk] at ry
          rw [hu] at rv
          cases rv
          split at h2
          · rename_i ns hns
            split at h2
            · rename_i hlt
              cases ox' with
              | @dtt a _ ha =>
                cases ry with
                | @tup b _ _ hb rb =>
                  have en := ints_of hns
                  subst en
                  rw [rb.ints] at hb
                  have hGa : G2 a = none := st2.out a (sub' a List.mem_cons_self)
                  refine ⟨a, upd H2 a (.dT (kvt (putD ns w ps))), rfl, .inr ⟨kvt ps, ns.map Sum.inl, b, ha, rfl, by rw [kV_ints]; exact hb, ?_, by rw [put_kvt]⟩, ?_⟩
                  · unfold kvt
                    rw [List.length_map, sizeLine_eq]
                    omega
                  · refine h2 σ G2 _ fp (g1.gg.trans g2.gg) ⟨st2.tb.trans (TB.upd ha), st2.h0, fun p o hp => ?_, st2.sl.mut (t := .dtt ps) (t' := .dtt (putD ns w ps)) st2.nd hi (Nat.zero_le _) fun v f ev ov nd => ?_, st2.nd, st2.out⟩
                    · rw [upd_ne fun z => by rw [z, hGa] at hp; cases hp]
                      exact st2.gh p o hp
                    · rw [e1] at ev
                      cases ev
                      cases ov with
                      | dtt h => exact ⟨List.mem_cons_self, .dtt upd_same⟩
            · exact h2.elim
          · exact h2.elim
        · exact h2.elim
  · exact h.elim
theorem bt_set : bootBuiltins "set" = some (.type "set") := by decide +kernel
end
end LS

/-! LX: methods that change their object. -/
namespace LS
open PySem PySem.Spec
open PyProof.Rows L2
variable [TabI]
/-! ### trees of scalars -/
mutual
def scT : T → Bool
  | .leaf _ d => scal d
  | .lst ts => scTs ts
  | .tup ts => scTs ts
  | .ins _ _ ts => scTs ts
  | .dtt _ => false
def scTs : List T → Bool
  | [] => true
  | t :: ts => scT t && scTs ts
end
section
variable {mg : Str → Option Value} {N G H N' G' H' : Hp}
mutual
theorem Own.sc : ∀ {v : V} {t : T} {f : List Addr}, Own mg N G H v t f → scT t = true → (∀ p ∈ f, ∀ o, H p = some o → pl o = true → H' p = some o) → Own mg N' G' H' v t f
  | _, _, _, .leaf h, s, _ => .leaf (by rw [h.isS s]; exact R.ofS s)
  | _, _, _, .lst h r, s, k => .lst (k _ List.mem_cons_self _ h rfl) (Owns.sc r s fun p m => k p (List.mem_cons_of_mem _ m))
  | _, _, _, .tup h r, s, k => .tup (k _ List.mem_cons_self _ h rfl) (Owns.sc r s fun p m => k p (List.mem_cons_of_mem _ m))
  | _, _, _, .ins m h l r, s, k => .ins m (k _ List.mem_cons_self _ h rfl) l (Owns.sc r s fun p m => k p (List.mem_cons_of_mem _ m))
  | _, _, _, .dtt h, s, _ => nomatch s
theorem Owns.sc : ∀ {vs : List V} {ts : List T} {f : List Addr}, Owns mg N G H vs ts f → scTs ts = true → (∀ p ∈ f, ∀ o, H p = some o → pl o = true → H' p = some o) → Owns mg N' G' H' vs ts f
  | _, _, _, .nil, _, _ => .nil
  | _, _, _, .cons (t := t) (ts := ts) h r, s, k => by
    have s' : scT t = true ∧ scTs ts = true := by
      have s2 : (scT t && scTs ts) = true := s
      rwa [Bool.and_eq_true] at s2
    exact .cons (Own.sc h s'.1 fun p m => k p (List.mem_append_left _ m)) (Owns.sc r s'.2 fun p m => k p (List.mem_append_right _ m))
end
mutual
/-- what is owned is no table and no code object -/
theorem Own.pl : ∀ {v : V} {t : T} {f : List Addr}, Own mg N G H v t f → ∀ p ∈ f, ∃ o, H p = some o ∧ pl o = true
  | _, _, _, .leaf _ => fun p hp => nomatch hp
  | _, _, _, .lst h r => fun p hp => (List.mem_cons.mp hp).elim (fun e => by rw [e]; exact ⟨_, h, rfl⟩) (Owns.pl r p)
  | _, _, _, .tup h r => fun p hp => (List.mem_cons.mp hp).elim (fun e => by rw [e]; exact ⟨_, h, rfl⟩) (Owns.pl r p)
  | _, _, _, .ins _ h _ r => fun p hp => (List.mem_cons.mp hp).elim (fun e => by rw [e]; exact ⟨_, h, rfl⟩) (Owns.pl r p)
  | _, _, _, .dtt h => fun p hp => by
    rw [List.mem_singleton.mp hp]
    exact ⟨_, h, rfl⟩
theorem Owns.pl : ∀ {vs : List V} {ts : List T} {f : List Addr}, Owns mg N G H vs ts f → ∀ p ∈ f, ∃ o, H p = some o ∧ pl o = true
  | _, _, _, .nil => fun p hp => nomatch hp
  | _, _, _, .cons h r => fun p hp => (List.mem_append.mp hp).elim (Own.pl h p) (Owns.pl r p)
end
mutual
/-- what is owned stays, where its objects stay -/
theorem Own.keep (a : Ex N N') (b : Ex G G') : ∀ {v : V} {t : T} {f : List Addr}, Own mg N G H v t f → kdT t ≤ 1 → (∀ p ∈ f, ∀ o, H p = some o → pl o = true → H' p = some o) → Own mg N' G' H' v t f
  | _, _, _, .leaf (k := 0) h, _, _ => .leaf (h.mono a)
  | _, _, _, .leaf (k := 1) h, _, _ => .leaf (h.mono b)
  | _, _, _, .leaf (k := k + 2) h, hk, _ => absurd hk (by simp only [kdT]; omega)
  | _, _, _, .lst h r, hk, k => .lst (k _ List.mem_cons_self _ h rfl) (Owns.keep a b r (by simpa [kdT] using hk) fun p m => k p (List.mem_cons_of_mem _ m))
  | _, _, _, .tup h r, hk, k => .tup (k _ List.mem_cons_self _ h rfl) (Owns.keep a b r (by simpa [kdT] using hk) fun p m => k p (List.mem_cons_of_mem _ m))
  | _, _, _, .ins m h l r, hk, k => .ins m (k _ List.mem_cons_self _ h rfl) l (Owns.keep a b r (by simpa [kdT] using hk) fun p m => k p (List.mem_cons_of_mem _ m))
  | _, _, _, .dtt h, _, k => .dtt (k _ List.mem_cons_self _ h rfl)
theorem Owns.keep (a : Ex N N') (b : Ex G G') : ∀ {vs : List V} {ts : List T} {f : List Addr}, Owns mg N G H vs ts f → kdTs ts ≤ 1 → (∀ p ∈ f, ∀ o, H p = some o → pl o = true → H' p = some o) → Owns mg N' G' H' vs ts f
  | _, _, _, .nil, _, _ => .nil
  | _, _, _, .cons h r, hk, k => .cons (Own.keep a b h (by simp only [kdTs] at hk; omega) fun p m => k p (List.mem_append_left _ m)) (Owns.keep a b r (by simp only [kdTs] at hk; omega) fun p m => k p (List.mem_append_right _ m))
end
theorem Sl.keep : ∀ {σ : L2.St} {e : Env} {fp : List Addr}, Sl mg N G H σ e fp → (∀ p ∈ fp, ∀ o, H p = some o → LS.pl o = true → H' p = some o) → Sl mg N G H' σ e fp
  | _, _, _, .n0, _ => .n0
  | _, _, _, .no r, k => .no (Sl.keep r k)
  | _, _, _, .so h q r, k => .so (h.keep (Ex.refl _) (Ex.refl _) q fun p m => k p (List.mem_append_left _ m)) q (Sl.keep r fun p m => k p (List.mem_append_right _ m))
theorem Rs.ofS {X : Hp} : ∀ {ds : List Dat}, (∀ d ∈ ds, LS.scal d = true) → Rs mg X (ds.map vS) ds
  | [], _ => .nil
  | d :: ds, h => .cons (R.ofS (h d List.mem_cons_self)) (Rs.ofS fun x m => h x (List.mem_cons_of_mem _ m))
theorem Rs.isS {X : Hp} : ∀ {vs : List V} {ds : List Dat}, Rs mg X vs ds → (∀ d ∈ ds, LS.scal d = true) → vs = ds.map vS
  | _, _, .nil, _ => rfl
  | _, _, .cons h r, k => by
    rw [Rs.isS r fun x m => k x (List.mem_cons_of_mem _ m), h.isS (k _ List.mem_cons_self)]
    rfl
end
/-- the heap but for these -/
def outF (H : Hp) (f : List Addr) : Hp := fun p => if p ∈ f then none else H p
theorem outF_le {H : Hp} {f : List Addr} : ∀ p o, outF H f p = some o → H p = some o := fun p o h => by
  unfold outF at h
  split at h
  · cases h
  · exact h
theorem outF_no {H : Hp} {f : List Addr} {p : Addr} (h : p ∉ f) : outF H f p = H p := if_neg h
theorem outF_none {H : Hp} {f : List Addr} {p : Addr} (h : outF H f p = none) : p ∈ f ∨ H p = none := by
  by_cases m : p ∈ f
  · exact .inl m
  · rw [outF_no m] at h
    exact .inr h
theorem TB.outF {H : Hp} {f : List Addr} (h : ∀ p ∈ f, ∃ o, H p = some o ∧ pl o = true) : TB H (LS.outF H f) := fun ⟨P, q⟩ _ t => by
  obtain ⟨ps, h1, h2, h3⟩ := t
  have ne : ∀ b v, H b = some v → pl v = false → b ∉ f := fun b v e z m => by
    obtain ⟨o, h4, h5⟩ := h b m
    rw [e] at h4
    cases h4
    rw [z] at h5
    cases h5
  refine ⟨ps, by rw [outF_no (ne P _ h1 rfl)]; exact h1, h2, fun pos cv hc => ?_⟩
  obtain ⟨c, e1, e2⟩ := h3 pos cv hc
  exact ⟨c, e1, by rw [outF_no (ne c _ e2 rfl)]; exact e2⟩
/-! ### what such a method does -/
def slot0 (e : Env) (d : Dat) : Re (T × Dat) := match e[0]? with
  | some (some s) => if scT s = true then .ok (s, d) else .no
  | _ => .no
def outX : Out → Re (T × Dat)
  | .nx e => slot0 e .non
  | .rt e u => if scal (datT u) = true then slot0 e (datT u) else .no
  | _ => .no
def runM (n p : Nat) (b : FS) (t : T) (ds : List Dat) : Re (T × Dat) := if ds.length + 1 = p then (b (some t :: startE (n - 1) ds)).bind outX else .no
def PmX (mg : Str → Option Value) (H : Hp) (f : List Addr) (x : Addr) (Q : VK) : Re (T × Dat) → Prop
  | .ok z => ∀ H' f', Own mg H' H' H' (.ref x) z.1 f' → f'.Nodup → kdT z.1 ≤ 1 → scT z.1 = true → TB H H' → Ex (outF H f) H' → (∀ p ∈ f', outF H f p = none) → Q (vS z.2) H'
  | _ => False
def spM (mg : Str → Option Value) (F : T → List Dat → Re (T × Dat)) : Sp := fun vs H Q E => LamX.Tabs TabI.ts H ∧ ∃ x t f ds, vs = .ref x :: ds.map vS ∧ Own mg H H H (.ref x) t f ∧ f.Nodup ∧ kdT t ≤ 1 ∧ scT t = true ∧ (∀ d ∈ ds, scal d = true) ∧ PmX mg H f x Q (F t ds)
section
variable {w : World} {P : Program} {K : PySem.W.Frag} {mg : Str → Option Value} {base : Heap}
theorem runM_len {n p : Nat} {b : FS} {t : T} {ds : List Dat} {H : Hp} {f : List Addr} {x : Addr} {Q : VK} (h : PmX mg H f x Q (runM n p b t ds)) : ds.length + 1 = p := by
  unfold runM at h
  split at h
  · assumption
  · exact h.elim
theorem runM_post {n p : Nat} {b : FS} {t : T} {ds : List Dat} {H : Hp} {f : List Addr} {x : Addr} {Q : VK} {E : XK} (hf : ∀ p ∈ f, ∃ o, H p = some o ∧ pl o = true) (h : PmX mg H f x Q (runM n p b t ds)) :
    Pz mg E (outF H f) (outF H f) (some (some (.ref x))) { nx := fun _ H' => Q .non H', rt := Q } (b (some t :: startE (n - 1) ds)) := by
  have hp := runM_len h
  unfold runM at h
  rw [if_pos hp] at h
  have go : ∀ {e1 : Env} {d : Dat}, PmX mg H f x Q (slot0 e1 d) → ∀ {σ' : L2.St} {G' H' : Hp} {fp : List Addr}, Stt mg (outF H f) G' H' σ' e1 fp → σ'[0]? = some (some (.ref x)) → Q (vS d) H' := fun {e1 d} hz {σ' G' H' fp} st hv => by
    unfold slot0 at hz
    split at hz
    · rename_i s hq
      split at hz
      · rename_i hs
        obtain ⟨v, f', e3, o3, k3, sub, nd⟩ := st.sl.get hq
        rw [hv] at e3
        cases e3
        exact hz H' f' (o3.sc hs fun p _ o q _ => q) (nd st.nd) k3 hs ((TB.outF hf).trans st.tb.1) (st.h0.trans st.gh) fun p m => none_back st.h0 (st.out p (sub p m))
      · exact hz.elim
    · exact hz.elim
  cases q : b (some t :: startE (n - 1) ds) with
  | no => rw [q] at h; exact h.elim
  | er c => rw [q] at h; exact h.elim
  | ok o =>
    rw [q] at h
    have h' : PmX mg H f x Q (outX o) := h
    cases o with
    | nx e1 => exact fun σ' G' H' fp' eg st hv => go h' st hv
    | rt e1 u =>
      have h2 : PmX mg H f x Q (if scal (datT u) = true then slot0 e1 (datT u) else .no) := h'
      split at h2
      · rename_i hs
        intro σ' v G' H' fp' f' eg st hv ou nd out
        have rv := ou.now nw_sub st.gh
        rw [rv.isS hs]
        exact go h2 st hv
      · exact h2.elim
    | bk e1 => exact h'.elim
    | ct e1 => exact h'.elim
theorem runM_start {N : List Str} {n : Nat} {H : Hp} (tb : LamX.Tabs TabI.ts H) (hn : N.length = n) (h1 : 0 < n) {x : Addr} {t : T} {f : List Addr} {ds : List Dat} (o : Own mg H H H (.ref x) t f) (nd : f.Nodup) (hk : kdT t ≤ 1) (hs : scT t = true) (hd : ∀ d ∈ ds, scal d = true) :
    Stt mg (outF H f) (outF H f) H (L2.start N (.ref x :: ds.map vS)) (some t :: startE (n - 1) ds) f := by
  have r : Rs mg (outF H f) (ds.map vS) ds := Rs.ofS hd
  have s := (sl_start (n - 1 - ds.length) r).mono (Ex.refl _) (Ex.refl _) (Ex.of (outF_le (H := H) (f := f)))
  have e1 : L2.start N (.ref x :: ds.map vS) = some (.ref x) :: ((ds.map vS).map some ++ List.replicate (n - 1 - ds.length) none) := by
    unfold L2.start
    rw [List.map_cons, List.cons_append, hn, List.length_cons, List.length_map, Nat.sub_sub n 1, Nat.add_comm 1]
  refine ⟨⟨TB.of outF_le, tb⟩, Ex.refl _, Ex.of outF_le, ?_, nd, fun p hp => if_pos hp⟩
  rw [e1]
  have q := Sl.so (fp := []) (o.sc (N' := nw (outF H f) (outF H f)) (G' := outF H f) (H' := H) hs fun p _ o q _ => q) hk s
  rw [List.append_nil] at q
  exact q
/-- a method that changes its object keeps its reading -/
theorem Fun.okM {x qual : Str} {st : Stmt} {f : Addr} {fd : FuncData} {N ps : List Str} {k n p : Nat} {fs : FS} (F : Fun K x qual st f fd) (S : FnScope N ps (defScope st)) (hn : N.length = n) (h1 : 0 < n) (hp : ps.length = p)
    (hb : ∀ (cdv : Value) (A : Around) (outer : List PySem.Env) (s : Shared) (H : Hp) (E : XK), Room k (A.deeper (envOfC qual (defScope st) s.heap.objs.size f cdv)) →
      ∃ t, PSs (cxOf (L2.CX P w) P w K mg base N qual (defScope st) f cdv A outer s H E) (defBody st) t ∧ SK mg E t fs) :
    FnOk P w K mg base (L2.CX P w) (k + 1) f fd ps (spM mg (runM n p fs)) := by
  refine F.okX S (fun vs H Q E h => ?_) (fun cdv A outer s H vs Q E hr h => ?_)
  · obtain ⟨_, x, t, f', ds, rfl, _, _, _, _, _, h⟩ := h
    rw [List.length_cons, List.length_map, runM_len h, hp]
  · obtain ⟨tb, x, t, f', ds, rfl, o, nd, hk, hs, hd, h⟩ := h
    obtain ⟨t', hps, hss⟩ := hb cdv A outer s H E hr
    exact ⟨t', hps, hss (outF H f') (outF H f') H _ _ f' _ (runM_start tb hn h1 o nd hk hs hd) (runM_post o.pl h)⟩
end
/-! ### its statements: the object stays at slot 0 -/
section
variable {mg : Str → Option Value} {E : XK} {K : PySem.W.Frag} {H0 G H G' H' : Hp} {σ : L2.St} {e : Env} {fp : List Addr} {D : Ends}
theorem er_z {c : Str} (st : Stt mg H0 G H σ e fp) (h : ∀ C H', mg c = some (.ref C) → Ex H0 H' → TB H0 H' → E (.ref C) none H') : Er mg E G H c := er_of st h
theorem k_next : SK mg E tNext sNext := fun H0 G H σ e fp D st h => h σ G H fp (Ex.refl _) st rfl
theorem k_ret {te : TE} {fe : FE} (he : SE mg E te fe) : SK mg E (tRet te) (sRet fe) := by
  intro H0 G H σ e fp D st h
  refine he H0 G H σ e fp _ st ?_
  unfold sRet at h
  cases q : fe e with
  | no => rw [q] at h; exact h.elim
  | er c => rw [q] at h; exact er_of st h
  | ok t =>
    rw [q] at h
    refine fun v G1 H1 f g o r => h σ v G1 H1 fp f g.gg (st.grow g) rfl o r.1 fun p hp => ⟨(r.2 p hp).2, fun m => ?_⟩
    obtain ⟨u, hu⟩ := st.sl.dom p m
    rw [(r.2 p hp).1] at hu
    cases hu
theorem k_if {c : TT} {fc : FT} {t u : TS} {a b : FS} (hc : ST mg E c fc) (h1 : SK mg E t a) (h2 : SK mg E u b) : SK mg E (tIfS c t u) (sIf fc a b) := by
  intro H0 G H σ e fp D st h
  refine hc H0 G H σ e fp _ st ?_
  unfold sIf at h
  cases q : fc e with
  | no => rw [q] at h; exact h.elim
  | er c => rw [q] at h; exact er_of st h
  | ok x =>
    rw [q] at h
    intro G1 H1 g
    cases x with
    | true => exact h1 H0 G1 H1 σ e fp D (st.grow g) (Pz.up g.gg h)
    | false => exact h2 H0 G1 H1 σ e fp D (st.grow g) (Pz.up g.gg h)
theorem set0 {σ : L2.St} {j : Nat} {x : Option V} (h : j ≠ 0) : (σ.set j x)[0]? = σ[0]? := List.getElem?_set_ne h
theorem k_asg {te : TE} {fe : FE} {j : Nat} (he : SE mg E te fe) (hj : j ≠ 0) : SK mg E (tAsg te (gName j)) (sAsg fe (gN j)) := by
  intro H0 G H σ e fp D st h
  refine he H0 G H σ e fp _ st ?_
  unfold sAsg at h
  cases q : fe e with
  | no => rw [q] at h; exact h.elim
  | er c => rw [q] at h; exact er_of st h
  | ok t =>
    rw [q] at h
    intro v G1 H1 f g o r
    have st1 := st.grow g
    have h' : Pz mg E H0 G σ[0]? D ((gN j t e).bind fun e1 => .ok (.nx e1)) := h
    unfold gN at h'
    split at h'
    · rename_i hc
      obtain ⟨fp', s, n, sub⟩ := st1.sl.set o hc.1 hc.2 (fun p hp hf => by
        obtain ⟨u, hu⟩ := st.sl.dom p hp
        rw [(r.2 p hf).1] at hu
        cases hu) st1.nd r.1
      refine h' (σ.set j (some v)) G1 H1 fp' g.gg ⟨st1.tb, st1.h0, st1.gh, s, n, fun p hp => ?_⟩ (set0 hj)
      rcases sub p hp with z | z
      · exact st1.out p z
      · exact (r.2 p z).2
    · exact h'.elim
theorem k_par {i j : Nat} {ta : TA} {fa : FA} (ha : SA mg E ta fa) (hi : i ≠ 0) (hj : j ≠ 0) : SK mg E (tPar i j ta) (sPar i j fa) := by
  intro H0 G H σ e fp D st h
  refine ha H0 G H σ e fp _ st ?_
  unfold sPar at h
  cases q : fa e with
  | no => rw [q] at h; exact h.elim
  | er c => rw [q] at h; exact er_of st h
  | ok ts =>
    rw [q] at h
    have h' : Pz mg E H0 G σ[0]? D (parF i j e ts) := h
    intro vs G1 H1 f g o r
    unfold parF at h'
    split at h'
    · rename_i t u
      split at h'
      · rename_i hc
        cases o with
        | @cons v vs _ _ f1 f2 ov os =>
          cases os with
          | @cons w ws _ _ f3 f4 ow os =>
            cases os
            rw [List.append_nil] at r
            obtain ⟨fp', st', _⟩ := par_st (st.grow g) ov ow r.1 (fun p hp => ⟨(r.2 p hp).2, fun m => by
              obtain ⟨y, hy⟩ := st.sl.dom p m
              rw [(r.2 p hp).1] at hy
              cases hy⟩) hc.1 hc.2.1 hc.2.2.1 hc.2.2.2
            exact ⟨v, w, rfl, h' _ G1 H1 fp' g.gg st' ((set0 hj).trans (set0 hi))⟩
      · exact h'.elim
    · exact h'.elim
section
variable {r : V → List V → Hp → VK → Prop} {m : MO} {to : TE} {p : FP} {ta : TA} {fa : FA}
theorem pm_z {Q : VK} {fg : Env × T → Re Out} {x : Re (Env × T)} (st : Stt mg H0 G H σ e fp) (h : Pz mg E H0 G σ[0]? D (x.bind fg)) (hq : ∀ z, x = .ok z → Pz mg E H0 G σ[0]? D (fg z) → ∀ G3 H3 x, Ex G G3 → Stt mg H0 G3 H3 σ z.1 fp → Lf mg (nw H0 G3) G3 H3 [x] [z.2] → Q x H3) :
    Pm mg E H0 G H σ fp Q x := by
  cases x with
  | no => exact h
  | er c => exact er_of st h
  | ok z => exact hq z rfl h
theorem k_mut (hr : RM mg r m) (ho : SP mg E to p) (ha : SA mg E ta fa) : SK mg E (tDrop (tBM K "list" r to ta)) (sMut p m fa) := fun H0 G H σ e fp D st h =>
  mut_go hr ho ha st (pm_z (fg := fun z => .ok (.nx z.1)) st h fun z _ hz G3 H3 x eg st' _ => hz σ G3 H3 fp eg st' rfl)
theorem k_mut0 (hr : RM mg r m) (ho : SP mg E to p) : SK mg E (tDrop (tBM0 K "list" r to)) (sMut p m fA0) := fun H0 G H σ e fp D st h =>
  mut_go0 hr ho st (pm_z (fg := fun z => .ok (.nx z.1)) st h fun z _ hz G3 H3 x eg st' _ => hz σ G3 H3 fp eg st' rfl)
end
theorem px_z {X : Re Env} {fg : Env → Re Out} {Q : L2.St → Hp → Prop} (st : Stt mg H0 G H σ e fp) (h : Pz mg E H0 G σ[0]? D (X.bind fg)) (hq : ∀ e', X = .ok e' → Pz mg E H0 G σ[0]? D (fg e') → ∀ G' H', Ex G G' → Stt mg H0 G' H' σ e' fp → Q σ H') : Px mg E H0 G H σ fp Q X := by
  cases X with
  | no => exact h
  | er c => exact er_of st h
  | ok e' => exact hq e' rfl h
theorem k_setIx {to ti te : TE} {p : FP} {fi fe : FE} (ho : SP mg E to p) (hi : SE mg E ti fi) (he : SE mg E te fe) : SK mg E (tAsg te (gSub to ti rSetL)) (sSetIx p fi fe) := by
  intro H0 G H σ e fp D st h
  refine he H0 G H σ e fp _ st ?_
  unfold sSetIx at h
  cases q : fe e with
  | no => rw [q] at h; exact h.elim
  | er c => rw [q] at h; exact er_of st h
  | ok t =>
    rw [q] at h
    have h1 : Pz mg E H0 G σ[0]? D (if kdT t ≤ 1 then (setIx p fi (mk (kdT t) (datT t)) e).bind fun e' => .ok (.nx e') else .no) := h
    split at h1
    · rename_i hk1
      intro v G1 H1 f g o r
      obtain ⟨G2, g2, rv⟩ := frz1 st.h0 st.gh g o r
      exact ix_go ho hi (st.grow g2) hk1 rv (px_z (fg := fun e' => .ok (.nx e')) (st.grow g2) (Pz.up g2.gg h1) fun e' _ hz G' H' x st' => hz σ G' H' fp x st' rfl)
    · exact h1.elim
theorem k_frz {i : Nat} {ts : TS} {fs : FS} (h : SK mg E ts fs) : SK mg E ts (sSeq (sFrz i) fs) := by
  intro H0 G H σ e fp D st hh
  unfold sSeq sFrz at hh
  cases q : e[i]? with
  | none => rw [q] at hh; exact h H0 G H σ e fp D st hh
  | some x =>
    cases x with
    | none => rw [q] at hh; exact h H0 G H σ e fp D st hh
    | some t =>
      rw [q] at hh
      obtain ⟨G', fp', e2, st'⟩ := st.frz q
      exact h H0 G' H σ _ fp' D st' (Pz.up e2 hh)
/-! ### self.f op= e -/
def sFldA (i : Nat) (c f : Str) (op : Op) (fe : FE) : FS := fun e => match e[i]? with
  | some (some (.ins c' ns ts)) => if c' = c ∧ ns.length < 100 then (match idxS f ns with
    | some j => match ts[j]? with
      | some t => (fe e).bind fun u => match op [datT t, datT u] with
        | some d => if scal d = true then .ok (.nx (e.set i (some (.ins c' ns (ts.set j (.leaf 0 d)))))) else .no
        | none => .no
      | none => .no
    | none => .no) else .no
  | _ => .no
theorem put_old : ∀ {ns : List Str} {vs : List V} {f : Str} {j : Nat} {y : V}, idxS f ns = some j → ns.length = vs.length → putF f y (ns.zip vs) = ns.zip (vs.set j y)
  | [], vs, f, j, y, h, l => by cases h
  | n :: ns, [], f, j, y, h, l => by cases l
  | n :: ns, v :: vs, f, j, y, h, l => by
    by_cases hn : n = f
    · have hj : j = 0 := by
        simp [idxS, hn] at h
        exact h.symm
      subst hj
      show (if n = f then (n, y) :: ns.zip vs else (n, v) :: putF f y (ns.zip vs)) = _
      rw [if_pos hn]
      rfl
    · cases q : idxS f ns with
      | none => simp [idxS, hn, q] at h
      | some i =>
        have hj : i + 1 = j := by simpa [idxS, hn, q] using h
        subst hj
        have ih := put_old (y := y) q (show ns.length = vs.length by simpa using l)
        show (if n = f then (n, y) :: ns.zip vs else (n, v) :: putF f y (ns.zip vs)) = _
        rw [if_neg hn, ih]
        rfl
theorem owns_lf {N G H : Hp} : ∀ {vs : List V} {ts : List T} {f : List Addr} {j : Nat} {v : V} {t : T} {d : Dat}, Owns mg N G H vs ts f → ts[j]? = some t → R mg N v d → ∃ f', Owns mg N G H (vs.set j v) (ts.set j (.leaf 0 d)) f' ∧ (f.Nodup → f'.Nodup) ∧ ∀ p ∈ f', p ∈ f
  | _, _, _, j, v, t, d, .nil, h, _ => by simp at h
  | _, _, _, 0, v, t, d, .cons o r, h, rv => ⟨_, .cons (f := []) (.leaf rv) r, fun n => (List.nodup_append.mp n).2.1, fun p m => List.mem_append_right _ m⟩
  | _, _, _, j + 1, v, t, d, .cons (f := f1) o r, h, rv => by
    obtain ⟨f', a, b, c⟩ := owns_lf (j := j) r (by simpa using h) rv
    refine ⟨f1 ++ f', .cons o a, fun n => ?_, fun p m => ?_⟩
    · have n' := List.nodup_append.mp n
      exact List.nodup_append.mpr ⟨n'.1, b n'.2.1, fun x hx y hy => n'.2.2 x hx y (c y hy)⟩
    · exact (List.mem_append.mp m).elim (fun z => List.mem_append_left _ z) fun z => List.mem_append_right _ (c p z)
theorem fldA_core {i : Nat} {c f : Str} {te : TE} {fe : FE} {op : Op} {rd : V → V → Hp → VK → Prop} (F : FldOk K mg c f) (he : SE mg E te fe) (hr : RI mg (l2 rd) op) {D : Ends} {Px : Re Out → Prop} (st : Stt mg H0 G H σ e fp)
    (h0 : Px .no → False) (h1 : ∀ c, Px (.er c) → Er mg E G H c) (h2 : ∀ e', Px (.ok (.nx e')) → ∀ G' H' fp', Ex G G' → Stt mg H0 G' H' σ e' fp' → D.nx σ H') (h : Px (sFldA i c f op fe e)) : sFldAug K (tVar i) te rd f D σ H := by
  unfold sFldA at h
  split at h
  · rename_i c' ns ts hi
    split at h
    · rename_i hc
      obtain ⟨rfl, hns⟩ := hc
      split at h
      · rename_i j hj
        split at h
        · rename_i t ht
          obtain ⟨v, fs, e1, o1, k1, sub, nd⟩ := st.sl.get hi
          cases o1 with
          | @ins a C dx _ _ vs _ fk m ha l os =>
            obtain ⟨cl, na⟩ := F.ok C m
            obtain ⟨x0, hx0, hl0⟩ := idx_lookup hj l
            refine ⟨.ref a, e1, a, C, dx, _, x0, rfl, ha, cl, na, hl0, he H0 G H σ e fp _ st ?_⟩
            cases q : fe e with
            | no => rw [q] at h; exact (h0 h).elim
            | er x => rw [q] at h; exact h1 _ h
            | ok u =>
              rw [q] at h
              have h' : Px (match op [datT t, datT u] with
                | some d => if scal d = true then .ok (.nx (e.set i (some (.ins c' ns (ts.set j (.leaf 0 d)))))) else .no
                | none => .no) := h
              intro y G1 H1 fu g ou ru
              have st1 := st.grow g
              split at h'
              · rename_i d qd
                split at h'
                · rename_i sd
                  have rt : R mg H1 x0 (datT t) := by
                    obtain ⟨w, g', hw, ow, _⟩ := owns_at os ht
                    rw [hx0] at hw
                    cases hw
                    exact (ow.now nw_sub st.gh).mono g.hh
                  obtain ⟨z, rz, hz⟩ := hr H1 H1 [x0, y] _ d (Ex.refl _) (.cons rt (.cons (ou.now nw_sub g.gh) .nil)) qd
                  obtain ⟨v2, fs2, fp', e2, o2, k2, nd2, sub2, sl2, nd3, sub3⟩ := st1.sl.take st1.nd hi
                  rw [e1] at e2
                  cases e2
                  cases o2 with
                  | @ins _ C2 dx2 _ _ vs2 _ fk2 m2 ha2 l2' os2 =>
                    have ha1 : H1 a = some (.ins C dx (ns.zip vs)) := (g.hh _ _ ha).is
                    rw [ha1] at ha2
                    have eh : HO.ins C dx (ns.zip vs) = HO.ins C2 dx2 (ns.zip vs2) := Option.some.inj ha2
                    injection eh with eC edx ez
                    subst eC edx
                    have ev : vs = vs2 := by
                      rw [← zip_snd l, ← zip_snd l2', ez]
                    subst ev
                    refine hz _ ⟨dx, _, ha1, ?_, ?_⟩ x0 y rfl
                    · rw [List.length_zip, ← l]
                      omega
                    · have nd2' := List.nodup_cons.mp nd2
                      have kts : kdTs ts ≤ 1 := k2
                      have rz' : R mg (nw H0 G1) z d := by
                        rw [rz.isS sd]
                        exact R.ofS sd
                      obtain ⟨f', oo, n1, s1⟩ := owns_lf (os2.off (o := .ins C dx (putF f z (ns.zip vs))) nd2'.1 kts) ht rz'
                      have on : Own mg (nw H0 G1) G1 (upd H1 a (.ins C dx (putF f z (ns.zip vs)))) (.ref a) (.ins c' ns (ts.set j (.leaf 0 d))) (a :: f') := by
                        refine .ins (dx := dx) m2 ?_ (by rw [List.length_set]; exact l2') oo
                        rw [upd_same, put_old hj l2']
                      have nap : a ∉ fp' := fun z => (sub3 a z).2 List.mem_cons_self
                      have hlt : i < e.length := (List.getElem?_eq_some_iff.mp hi).1
                      obtain ⟨fp2, sl3, nd4, sub4⟩ := (sl2.off (o := .ins C dx (putF f z (ns.zip vs))) nap).set (i := i) on (kds_set kts (by simp [kdT])) (by rw [List.length_set]; exact hlt) (fun p hp z => by
                        rcases List.mem_cons.mp z with z | z
                        · rw [z] at hp
                          exact nap hp
                        · exact (sub3 p hp).2 (List.mem_cons_of_mem _ (s1 p z))) nd3 (List.nodup_cons.mpr ⟨fun z => nd2'.1 (s1 a z), n1 nd2'.2⟩)
                      have es : σ.set i (some (.ref a)) = σ := by
                        apply List.ext_getElem?
                        intro k
                        by_cases hk : i = k
                        · subst hk
                          rw [List.getElem?_set_self (by rw [st1.sl.len]; exact hlt), e1]
                        · rw [List.getElem?_set_ne hk]
                      rw [es, List.set_set] at sl3
                      have gGa : G1 a = none := st1.out a (sub2 a List.mem_cons_self)
                      refine h2 _ h' G1 _ fp2 g.gg ⟨st1.tb.trans (TB.upd ha1), st1.h0, fun p o hp => ?_, sl3, nd4, fun p hp => ?_⟩
                      · rw [upd_ne fun z => by rw [z, gGa] at hp; cases hp]
                        exact st1.gh p o hp
                      · rcases sub4 p hp with z | z
                        · exact st1.out p (sub3 p z).1
                        · rcases List.mem_cons.mp z with z | z
                          · rw [z]
                            exact gGa
                          · exact st1.out p (sub2 p (List.mem_cons_of_mem _ (s1 p z)))
                · exact (h0 h').elim
              · exact (h0 h').elim
        · exact (h0 h).elim
      · exact (h0 h).elim
    · exact (h0 h).elim
  · exact (h0 h).elim
theorem s_fldA {i : Nat} {c f : Str} {te : TE} {fe : FE} {op : Op} {rd : V → V → Hp → VK → Prop} (F : FldOk K mg c f) (he : SE mg E te fe) (hr : RI mg (l2 rd) op) : SS mg E (sFldAug K (tVar i) te rd f) (sFldA i c f op fe) := fun H0 G H σ e fp D st h =>
  fldA_core F he hr (Px := Ps mg E H0 G D) st id (fun _ h => er_of st h) (fun e' h G' H' fp' x st' => h σ G' H' fp' x st') h
theorem k_fldA {i : Nat} {c f : Str} {te : TE} {fe : FE} {op : Op} {rd : V → V → Hp → VK → Prop} (F : FldOk K mg c f) (he : SE mg E te fe) (hr : RI mg (l2 rd) op) : SK mg E (sFldAug K (tVar i) te rd f) (sFldA i c f op fe) := fun H0 G H σ e fp D st h =>
  fldA_core F he hr (Px := Pz mg E H0 G σ[0]? D) st id (fun _ h => er_of st h) (fun e' h G' H' fp' x st' => h σ G' H' fp' x st' rfl) h
end
end LS

/-! LY: expressions that change objects on the way. -/
namespace LS
open PySem PySem.Spec
open PyProof.Rows L2
variable [TabI]
/-! ### the judgement: Z: what stays on the way -/
def Zok (Z : Addr → Prop) (H : Hp) (fp : List Addr) : Prop := ∀ p, Z p → (∃ o, H p = some o) ∧ p ∉ fp
def Zst (Z : Addr → Prop) (G H G' H' : Hp) (fp' f : List Addr) : Prop := ∀ p, Z p → (∀ o, H p = some o → pl o = true → H' p = some o) ∧ p ∉ fp' ∧ p ∉ f ∧ (G p = none → G' p = none)
def PxE (mg : Str → Option Value) (E : XK) (H0 G H : Hp) (σ : L2.St) (Z : Addr → Prop) (Q : VK) : Re (Env × T) → Prop
  | .no => False
  | .er c => ∀ C H', mg c = some (.ref C) → Ex H0 H' → TB H0 H' → E (.ref C) none H'
  | .ok z => ∀ v G' H' fp' f, Ex G G' → Stt mg H0 G' H' σ z.1 fp' → Zst Z G H G' H' fp' f → Own mg (nw H0 G') G' H' v z.2 f → f.Nodup → (∀ p ∈ f, G' p = none ∧ p ∉ fp') → Q v H'
def PxA (mg : Str → Option Value) (E : XK) (H0 G H : Hp) (σ : L2.St) (Z : Addr → Prop) (Q : List V → Hp → Prop) : Re (Env × List T) → Prop
  | .no => False
  | .er c => ∀ C H', mg c = some (.ref C) → Ex H0 H' → TB H0 H' → E (.ref C) none H'
  | .ok z => ∀ vs G' H' fp' f, Ex G G' → Stt mg H0 G' H' σ z.1 fp' → Zst Z G H G' H' fp' f → Owns mg (nw H0 G') G' H' vs z.2 f → f.Nodup → (∀ p ∈ f, G' p = none ∧ p ∉ fp') → Q vs H'
def PxT (mg : Str → Option Value) (E : XK) (H0 G H : Hp) (σ : L2.St) (Z : Addr → Prop) (Q : Bool → Hp → Prop) : Re (Env × Bool) → Prop
  | .no => False
  | .er c => ∀ C H', mg c = some (.ref C) → Ex H0 H' → TB H0 H' → E (.ref C) none H'
  | .ok z => ∀ G' H' fp', Ex G G' → Stt mg H0 G' H' σ z.1 fp' → Zst Z G H G' H' fp' [] → Q z.2 H'
abbrev FX := Env → Re (Env × T)
abbrev FXA := Env → Re (Env × List T)
abbrev FXT := Env → Re (Env × Bool)
def SX (mg : Str → Option Value) (E : XK) (te : TE) (fx : FX) : Prop := ∀ H0 G H σ e fp Z Q, Stt mg H0 G H σ e fp → Zok Z H fp → PxE mg E H0 G H σ Z Q (fx e) → te σ H Q
def SXA (mg : Str → Option Value) (E : XK) (ta : TA) (fa : FXA) : Prop := ∀ H0 G H σ e fp Z Q, Stt mg H0 G H σ e fp → Zok Z H fp → PxA mg E H0 G H σ Z Q (fa e) → ta σ H Q
def STX (mg : Str → Option Value) (E : XK) (tt : TT) (ft : FXT) : Prop := ∀ H0 G H σ e fp Z Q, Stt mg H0 G H σ e fp → Zok Z H fp → PxT mg E H0 G H σ Z Q (ft e) → tt σ H Q
section
variable {mg : Str → Option Value} {E : XK} {K : PySem.W.Frag} {H0 G H G' H' : Hp} {σ : L2.St} {e : Env} {fp : List Addr} {D : Ends} {Z : Addr → Prop}
/-- a step that only makes things -/
theorem zst_grow {f : List Addr} (g : Grow G H G' H') (zk : Zok Z H fp) (fr : ∀ p ∈ f, H p = none) : Zst Z G H G' H' fp f := fun p hz => by
  obtain ⟨⟨o, ho⟩, hn⟩ := zk p hz
  refine ⟨fun u hu hp => (g.hh p u hu).is (by cases u <;> first | rfl | cases hp), hn, fun m => ?_, fun n => g.keep ho n⟩
  rw [fr p m] at ho
  cases ho
theorem zok_grow (g : Grow G H G' H') (zk : Zok Z H fp) : Zok Z H' fp := fun p hz => by
  obtain ⟨⟨o, ho⟩, hn⟩ := zk p hz
  exact ⟨(g.hh p o ho).ex, hn⟩
def xP (f : FE) : FX := fun e => (f e).bind fun t => .ok (e, t)
theorem sx_p {te : TE} {fe : FE} (h : SE mg E te fe) : SX mg E te (xP fe) := by
  intro H0 G H σ e fp Z Q st zk hh
  refine h H0 G H σ e fp Q st ?_
  unfold xP at hh
  cases q : fe e with
  | no => rw [q] at hh; exact hh.elim
  | er c => rw [q] at hh; exact er_of st hh
  | ok t =>
    rw [q] at hh
    intro v G1 H1 f g o r
    refine hh v G1 H1 fp f g.gg (st.grow g) (zst_grow g zk fun p m => (r.2 p m).1) o r.1 fun p m => ⟨(r.2 p m).2, fun m2 => ?_⟩
    obtain ⟨u, hu⟩ := st.sl.dom p m2
    rw [(r.2 p m).1] at hu
    cases hu
def xTP (f : FT) : FXT := fun e => (f e).bind fun b => .ok (e, b)
theorem tx_p {tt : TT} {ft : FT} (h : ST mg E tt ft) : STX mg E tt (xTP ft) := by
  intro H0 G H σ e fp Z Q st zk hh
  refine h H0 G H σ e fp Q st ?_
  unfold xTP at hh
  cases q : ft e with
  | no => rw [q] at hh; exact hh.elim
  | er c => rw [q] at hh; exact er_of st hh
  | ok t =>
    rw [q] at hh
    intro G1 H1 g
    exact hh G1 H1 fp g.gg (st.grow g) (zst_grow g zk fun p m => nomatch m)
theorem zst_trans {G1 H1 G2 H2 : Hp} {fp1 fp2 f1 f2 : List Addr} (a : Zst Z G H G1 H1 fp1 f1) (b : Zst Z G1 H1 G2 H2 fp2 f2) (hf : ∀ p, Z p → p ∉ f1 ++ f2 ∨ True) : Zst Z G H G2 H2 fp2 f2 := fun p hz => by
  obtain ⟨a1, a2, a3, a4⟩ := a p hz
  obtain ⟨b1, b2, b3, b4⟩ := b p hz
  exact ⟨fun o ho hp => b1 o (a1 o ho hp) hp, b2, b3, fun n => b4 (a4 n)⟩
theorem zok_next {G1 H1 : Hp} {fp1 f1 : List Addr} (zk : Zok Z H fp) (a : Zst Z G H G1 H1 fp1 f1) (hZ : ∀ p, Z p → ∃ o, H p = some o ∧ pl o = true) : Zok Z H1 fp1 := fun p hz => by
  obtain ⟨a1, a2, _, _⟩ := a p hz
  obtain ⟨o, ho, hp⟩ := hZ p hz
  exact ⟨⟨o, a1 o ho hp⟩, a2⟩
end
/-! ### a call of a method that changes its object -/
def fXM (c m : Str) (F : T → List Dat → Re (T × Dat)) (i : Nat) (a : FA) : FX := fun e => match e[i]? with
  | some (some (.ins c' ns ts)) => if c' = c ∧ idxS m ns = none ∧ scTs ts = true then (a e).bind fun us => if ((datTs us).all scal) = true then match F (.ins c' ns ts) (datTs us) with
      | .ok z => if scal z.2 = true then .ok (e.set i (some z.1), .leaf 0 z.2) else .no
      | _ => .no
    else .no else .no
  | _ => .no
def tMethM (mg : Str → Option Value) (c m : Str) (F : T → List Dat → Re (T × Dat)) (E : XK) (ta : TE) (t : TA) : TE := fun σ H Q => ∃ C, mg c = some (.ref C) ∧ tMeth C m (spM mg F) [] E ta t σ H Q
structure MMal (P : Program) (w : World) (K : PySem.W.Frag) (mg : Str → Option Value) (base : Heap) (c m : Str) (k : Nat) (ps : List Str) (F : T → List Dat → Re (T × Dat)) : Prop where
  ex : ∃ C f fd, mg c = some (.ref C) ∧ Cls K C ∧ Meth K C m f ∧ FnOk P w K mg base (L2.CX P w) k f fd ps (spM mg F) ∧ Binds K fd ps []
section
variable {X : Cx} {k : Nat} {ps : List Str} {F : T → List Dat → Re (T × Dat)} {E : XK} {c m : Str} {p pos apos : Pos} {a1 ob : Expr} {as1 : List Expr} {ta : TE} {t : TA}
theorem pe_mmal {P : Program} {w : World} {K : PySem.W.Frag} {mg : Str → Option Value} {base : Heap} {pl : Sem Bool} (G : MMal P w K mg base c m k ps F) (hr : Room k X.A) (hx : Passes (L2.CX X.prog X.w) X E) (ho : PE X ob ta) (ha : PA X (a1 :: as1) t)
    (hst : starEach (a1 :: as1) X.env = (false, eval a1 X.env) :: starEach as1 X.env := by rfl) (hpl : (backTo pos (starEach as1 X.env)).any (·.1) = false := by rfl)
    (ht : eval (.Call (.Attribute ob m apos) (a1 :: as1) [] pos) X.env = (do
      let ow ← eval ob X.env
      standAt apos.atName
      let (fn, fst1) ← holding [ow] (getMethod ow m pl)
      callWith pos fn fst1 (backTo pos (starEach (a1 :: as1) X.env)) (backToKw pos (keywordEach [] X.env))) := by rfl)
    (z1 : X.prog = P := by rfl) (z2 : X.w = w := by rfl) (z3 : X.K = K := by rfl) (z4 : X.mg = mg := by rfl) (z5 : X.base = base := by rfl) :
    PE X (.Call (.Attribute ob m apos) (a1 :: as1) [] pos) (tMethM mg c m F E ta t) := by
  subst z1 z2 z3 z4 z5
  obtain ⟨C, f, fd, hm, cl, M, G, hb⟩ := G.ex
  have q := pe_meth (pl := pl) (apos := apos) (pos := pos) ho cl M G hr hb .nil hx ha hst hpl ht
  refine ⟨fun pn sh τ Hh Z inv h => ?_⟩
  obtain ⟨C', e1, h⟩ := h
  rw [hm] at e1
  cases e1
  exact q.run pn sh τ Hh Z inv h
end
section
variable {mg : Str → Option Value} {E : XK} {K : PySem.W.Frag} {H0 G H G' H' : Hp} {σ : L2.St} {e : Env} {fp : List Addr} {D : Ends} {Z : Addr → Prop}
theorem sx_m {P : Program} {w : World} {base : Heap} {k : Nat} {ps : List Str} {c m : Str} {F : T → List Dat → Re (T × Dat)} {i : Nat} {ta : TA} {fa : FA} (Gm : MMal P w K mg base c m k ps F) (ha : SA mg E ta fa) : SX mg E (tMethM mg c m F E (tVar i) ta) (fXM c m F i fa) := by
  obtain ⟨C0, f0, fd0, hm0, _⟩ := Gm.ex
  intro H0 G H σ e fp Z Q st zk h
  refine ⟨C0, hm0, ?_⟩
  unfold fXM at h
  split at h
  · rename_i c' ns ts hi
    split at h
    · rename_i hc
      obtain ⟨rfl, hms, hsc⟩ := hc
      obtain ⟨v0, f1, e1, o1, k1, sub1, nd1⟩ := st.sl.get hi
      cases o1 with
      | @ins a C dx _ _ vs _ fk mC ha1 l os =>
        rw [hm0] at mC
        cases mC
        refine ⟨.ref a, e1, a, dx, _, rfl, ha1, (idx_none hms).2, ha H0 G H σ e fp _ st ?_⟩
        cases q : fa e with
        | no => rw [q] at h; exact h.elim
        | er x => rw [q] at h; exact er_of st h
        | ok us =>
          rw [q] at h
          have h1 : PxE mg E H0 G H σ Z Q (if ((datTs us).all scal) = true then match F (.ins c' ns ts) (datTs us) with
            | .ok z => if scal z.2 = true then .ok (e.set i (some z.1), .leaf 0 z.2) else .no
            | _ => .no
            else .no) := h
          intro ws G1 H1 fu g ou ru
          split at h1
          · rename_i hal
            have hd : ∀ d ∈ datTs us, scal d = true := List.all_eq_true.mp hal
            have st1 := st.grow g
            obtain ⟨v2, f2, fp', e2, o2, k2, nd2, sub2, sl2, nd3, sub3⟩ := st1.sl.take st1.nd hi
            rw [e1] at e2
            cases e2
            have ew : ws = (datTs us).map vS := (ou.now nw_sub g.gh).isS hd
            have sct : scT (.ins c' ns ts) = true := hsc
            refine ⟨st1.tb.2, a, .ins c' ns ts, f2, datTs us, by rw [List.append_nil, ew], o2.sc sct fun p _ o q _ => q, nd2, k2, sct, hd, ?_⟩
            cases q2 : F (.ins c' ns ts) (datTs us) with
            | no => rw [q2] at h1; exact h1.elim
            | er x => rw [q2] at h1; exact h1.elim
            | ok z =>
              rw [q2] at h1
              have h0 : PxE mg E H0 G H σ Z Q (if scal z.2 = true then .ok (e.set i (some z.1), .leaf 0 z.2) else .no) := h1
              split at h0
              case isFalse => exact h0.elim
              rename_i sz
              clear h1
              have h1 : PxE mg E H0 G H σ Z Q (.ok (e.set i (some z.1), .leaf 0 z.2)) := h0
              intro H' f' o' nd' k' s' tb' ex' out'
              have hlt : i < e.length := (List.getElem?_eq_some_iff.mp hi).1
              have ndm : ∀ p ∈ fp', ∀ o, H1 p = some o → LS.pl o = true → H' p = some o := fun p m o ho hp => (ex' p o ((outF_no (sub3 p m).2).trans ho)).is (by cases o <;> first | rfl | cases hp)
              have sl3 := sl2.keep ndm
              have on : Own mg (nw H0 G1) G1 H' (.ref a) z.1 f' := o'.sc s' fun p _ o q _ => q
              obtain ⟨fp2, sl4, nd4, sub4⟩ := sl3.set (i := i) on k' (by rw [List.length_set]; exact hlt) (fun p hp m => by
                rcases outF_none (out' p m) with z | z
                · exact (sub3 p hp).2 z
                · obtain ⟨u, hu⟩ := st1.sl.dom p (sub3 p hp).1
                  rw [z] at hu
                  cases hu) nd3 nd'
              have es : σ.set i (some (.ref a)) = σ := by
                apply List.ext_getElem?
                intro j
                by_cases hj : i = j
                · subst hj
                  rw [List.getElem?_set_self (by rw [st1.sl.len]; exact hlt), e1]
                · rw [List.getElem?_set_ne hj]
              rw [es, List.set_set] at sl4
              have gf : ∀ p ∈ f2, G1 p = none := fun p m => st1.out p (sub2 p m)
              have gf' : ∀ p ∈ f', G1 p = none := fun p m => by
                rcases outF_none (out' p m) with z | z
                · exact gf p z
                · exact none_back g.gh z
              refine h1 (vS z.2) G1 H' fp2 [] g.gg ⟨st1.tb.trans tb', st1.h0, fun p o hp => ?_, sl4, nd4, fun p hp => ?_⟩ (fun p hz => ?_) (.leaf (R.ofS sz)) List.nodup_nil (fun p m => nomatch m)
              · have np : p ∉ f2 := fun m => by
                  rw [gf p m] at hp
                  cases hp
                have h3 := st1.gh p o hp
                rw [← outF_no (H := H1) np] at h3
                exact h3.trans ex'
              · rcases sub4 p hp with z | z
                · exact st1.out p (sub3 p z).1
                · exact gf' p z
              · obtain ⟨⟨o, ho⟩, hn⟩ := zk p hz
                have np : p ∉ f2 := fun m => hn (sub2 p m)
                refine ⟨fun u hu hp => ?_, fun m => ?_, (fun m => nomatch m), fun n => g.keep ho n⟩
                · have nu : nt u = true := by cases u <;> first | rfl | cases hp
                  have h3 := (g.hh p u hu).is nu
                  rw [← outF_no (H := H1) np] at h3
                  exact (ex' p u h3).is nu
                · rcases sub4 p m with z | z
                  · exact hn (sub3 p z).1
                  · rcases outF_none (out' p z) with y | y
                    · exact np y
                    · obtain ⟨u, hu⟩ := (g.hh p o ho).ex
                      rw [y] at hu
                      cases hu
          · exact h1.elim
    · exact h.elim
  · exact h.elim
end
end LS

/-! LZ: what is made of such expressions; try. -/
namespace LS
open PySem PySem.Spec
open PyProof.Rows L2
variable [TabI]
section
variable {mg : Str → Option Value} {E : XK} {K : PySem.W.Frag} {H0 G H G' H' : Hp} {σ : L2.St} {e : Env} {fp : List Addr} {D : Ends} {Z : Addr → Prop}
/-- what the judgement takes from before, with one more part that stays -/
def zAdd (Z : Addr → Prop) (f : List Addr) : Addr → Prop := fun p => Z p ∨ p ∈ f
theorem zok_add {G1 H1 : Hp} {fp1 f1 : List Addr} (zk : Zok Z H fp) (zp : ∀ p, Z p → ∃ o, H p = some o ∧ pl o = true) (z : Zst Z G H G1 H1 fp1 f1) (hd : ∀ p ∈ f1, ∃ o, H1 p = some o ∧ pl o = true) (out : ∀ p ∈ f1, G1 p = none ∧ p ∉ fp1) :
    Zok (zAdd Z f1) H1 fp1 ∧ ∀ p, zAdd Z f1 p → ∃ o, H1 p = some o ∧ pl o = true := by
  have k : ∀ p, zAdd Z f1 p → ∃ o, H1 p = some o ∧ pl o = true := fun p hp => by
    rcases hp with hp | hp
    · obtain ⟨o, ho, h2⟩ := zp p hp
      exact ⟨o, (z p hp).1 o ho h2, h2⟩
    · exact hd p hp
  refine ⟨fun p hp => ?_, k⟩
  obtain ⟨o, ho, _⟩ := k p hp
  refine ⟨⟨o, ho⟩, ?_⟩
  rcases hp with hp | hp
  · exact (z p hp).2.1
  · exact (out p hp).2
/-- the same judgements, with the parts that stay known to be plain -/
def SXp (mg : Str → Option Value) (E : XK) (te : TE) (fx : FX) : Prop := ∀ H0 G H σ e fp Z Q, Stt mg H0 G H σ e fp → Zok Z H fp → (∀ p, Z p → ∃ o, H p = some o ∧ pl o = true) → PxE mg E H0 G H σ Z Q (fx e) → te σ H Q
def SXAp (mg : Str → Option Value) (E : XK) (ta : TA) (fa : FXA) : Prop := ∀ H0 G H σ e fp Z Q, Stt mg H0 G H σ e fp → Zok Z H fp → (∀ p, Z p → ∃ o, H p = some o ∧ pl o = true) → PxA mg E H0 G H σ Z Q (fa e) → ta σ H Q
theorem SX.p {te : TE} {fx : FX} (h : SX mg E te fx) : SXp mg E te fx := fun H0 G H σ e fp Z Q st zk _ hh => h H0 G H σ e fp Z Q st zk hh
def xNil : FXA := fun e => .ok (e, [])
def xCons (a : FX) (r : FXA) : FXA := fun e => (a e).bind fun z => if kdT z.2 ≤ 1 then (r z.1).bind fun y => .ok (y.1, z.2 :: y.2) else .no
theorem xa_nil : SXAp mg E tNil xNil := fun H0 G H σ e fp Z Q st zk zp h => h [] G H fp [] (Ex.refl _) st (fun p hz => ⟨fun o ho _ => ho, (zk p hz).2, (fun m => nomatch m), id⟩) .nil List.nodup_nil (fun p m => nomatch m)
theorem xa_cons {ta : TE} {fa : FX} {tr : TA} {fr : FXA} (ha : SXp mg E ta fa) (hr : SXAp mg E tr fr) : SXAp mg E (tCons ta tr) (xCons fa fr) := by
  intro H0 G H σ e fp Z Q st zk zp h
  refine ha H0 G H σ e fp Z _ st zk zp ?_
  unfold xCons at h
  cases q : fa e with
  | no => rw [q] at h; exact h.elim
  | er c => rw [q] at h; exact h
  | ok z =>
    rw [q] at h
    have h0 : PxA mg E H0 G H σ Z Q (if kdT z.2 ≤ 1 then (fr z.1).bind fun y => .ok (y.1, z.2 :: y.2) else .no) := h
    intro v G1 H1 fp1 f1 x1 st1 z1 o1 n1 out1
    split at h0
    case isFalse => exact h0.elim
    rename_i hk
    obtain ⟨zk1, zp1⟩ := zok_add zk zp z1 o1.pl out1
    refine hr H0 G1 H1 σ z.1 fp1 (zAdd Z f1) _ st1 zk1 zp1 ?_
    cases q2 : fr z.1 with
    | no => rw [q2] at h0; exact h0.elim
    | er c => rw [q2] at h0; exact h0
    | ok y =>
      rw [q2] at h0
      intro vs G2 H2 fp2 f2 x2 st2 z2 o2 n2 out2
      have o1' : Own mg (nw H0 G2) G2 H2 v z.2 f1 := o1.keep (nw_mono x2) x2 hk fun p m o ho hp => (z2 p (.inr m)).1 o ho hp
      refine h0 (v :: vs) G2 H2 fp2 (f1 ++ f2) (x1.trans x2) st2 (fun p hz => ?_) (.cons o1' o2) (List.nodup_append.mpr ⟨n1, n2, fun a ha b hb eq => (z2 a (.inr ha)).2.2.1 (eq ▸ hb)⟩) fun p m => ?_
      · obtain ⟨a1, a2, a3, a4⟩ := z1 p hz
        obtain ⟨b1, b2, b3, b4⟩ := z2 p (.inl hz)
        exact ⟨fun o ho hp => b1 o (a1 o ho hp) hp, b2, fun m => (List.mem_append.mp m).elim a3 b3, fun n => b4 (a4 n)⟩
      · rcases List.mem_append.mp m with m | m
        · obtain ⟨b1, b2, b3, b4⟩ := z2 p (.inr m)
          exact ⟨b4 (out1 p m).1, b2⟩
        · exact out2 p m
/-- a operation on two, its answer a scalar -/
def xI2 (op : Op) (a b : FX) : FX := fun e => (xCons a (xCons b xNil) e).bind fun z => match op (datTs z.2) with
  | some d => if scal d = true then .ok (z.1, .leaf 0 d) else .no
  | none => .no
theorem ev2x {tx ty : TE} {fx fy : FX} {K : V → V → Hp → Prop} (hx : SXp mg E tx fx) (hy : SXp mg E ty fy) (st : Stt mg H0 G H σ e fp) (zk : Zok Z H fp) (zp : ∀ p, Z p → ∃ o, H p = some o ∧ pl o = true)
    (h : PxA mg E H0 G H σ Z (fun vs H' => ∀ x y, vs = [x, y] → K x y H') (xCons fx (xCons fy xNil) e)) : tx σ H fun x H1 => ty σ H1 fun y H2 => K x y H2 := by
  refine hx H0 G H σ e fp Z _ st zk zp ?_
  unfold xCons at h
  cases q : fx e with
  | no => rw [q] at h; exact h.elim
  | er c => rw [q] at h; exact h
  | ok z =>
    rw [q] at h
    have h0 : PxA mg E H0 G H σ Z (fun vs H' => ∀ x y, vs = [x, y] → K x y H') (if kdT z.2 ≤ 1 then (xCons fy xNil z.1).bind fun y => .ok (y.1, z.2 :: y.2) else .no) := h
    intro v G1 H1 fp1 f1 x1 st1 z1 o1 n1 out1
    split at h0
    case isFalse => exact h0.elim
    rename_i hk
    obtain ⟨zk1, zp1⟩ := zok_add zk zp z1 o1.pl out1
    refine hy H0 G1 H1 σ z.1 fp1 (zAdd Z f1) _ st1 zk1 zp1 ?_
    unfold xCons at h0
    cases q2 : fy z.1 with
    | no => rw [q2] at h0; exact h0.elim
    | er c => rw [q2] at h0; exact h0
    | ok y =>
      rw [q2] at h0
      have h2 : PxA mg E H0 G H σ Z (fun vs H' => ∀ x y, vs = [x, y] → K x y H') ((if kdT y.2 ≤ 1 then (xNil y.1).bind fun x => .ok (x.1, y.2 :: x.2) else .no).bind fun y => .ok (y.1, z.2 :: y.2)) := h0
      intro w G2 H2 fp2 f2 x2 st2 z2 o2 n2 out2
      split at h2
      case isFalse => exact h2.elim
      have o1' : Own mg (nw H0 G2) G2 H2 v z.2 f1 := o1.keep (nw_mono x2) x2 hk fun p m o ho hp => (z2 p (.inr m)).1 o ho hp
      refine h2 [v, w] G2 H2 fp2 (f1 ++ (f2 ++ [])) (x1.trans x2) st2 (fun p hz => ?_) (.cons o1' (.cons o2 .nil)) ?_ (fun p m => ?_) v w rfl
      · obtain ⟨a1, a2, a3, a4⟩ := z1 p hz
        obtain ⟨b1, b2, b3, b4⟩ := z2 p (.inl hz)
        rw [List.append_nil]
        exact ⟨fun o ho hp => b1 o (a1 o ho hp) hp, b2, fun m => (List.mem_append.mp m).elim a3 b3, fun n => b4 (a4 n)⟩
      · rw [List.append_nil]
        exact List.nodup_append.mpr ⟨n1, n2, fun a ha b hb eq => (z2 a (.inr ha)).2.2.1 (eq ▸ hb)⟩
      · rw [List.append_nil] at m
        rcases List.mem_append.mp m with m | m
        · obtain ⟨b1, b2, b3, b4⟩ := z2 p (.inr m)
          exact ⟨b4 (out1 p m).1, b2⟩
        · exact out2 p m
theorem sx_op2 {r2 : R2} {op : Op} {tx ty : TE} {fx fy : FX} (hx : SXp mg E tx fx) (hy : SXp mg E ty fy) (hr : RI mg (l2 r2) op) : SXp mg E (tOp r2 tx ty) (xI2 op fx fy) := by
  intro H0 G H σ e fp Z Q st zk zp h
  refine ev2x (K := fun x y H2 => r2 x y H2 Q) hx hy st zk zp ?_
  unfold xI2 at h
  cases q : xCons fx (xCons fy xNil) e with
  | no => rw [q] at h; exact h.elim
  | er c => rw [q] at h; exact h
  | ok z =>
    rw [q] at h
    have h0 : PxE mg E H0 G H σ Z Q (match op (datTs z.2) with
      | some d => if scal d = true then .ok (z.1, .leaf 0 d) else .no
      | none => .no) := h
    intro vs G1 H1 fp1 f1 x1 st1 z1 o1 n1 out1 x y ev
    split at h0
    · rename_i d qd
      split at h0
      · rename_i sd
        subst ev
        obtain ⟨u, ru, hu⟩ := hr H1 H1 [x, y] _ d (Ex.refl _) (o1.now nw_sub st1.gh) qd
        refine hu Q (h0 u G1 H1 fp1 [] x1 st1 (fun p hz => ?_) (.leaf (by rw [ru.isS sd]; exact R.ofS sd)) List.nodup_nil fun p m => nomatch m) x y rfl
        obtain ⟨a1, a2, a3, a4⟩ := z1 p hz
        exact ⟨a1, a2, (fun m => nomatch m), a4⟩
      · exact h0.elim
    · exact h0.elim
/-- a list of them -/
def xLst (a : FXA) : FX := fun e => (a e).bind fun z => if z.2.length ≤ 1000 then .ok (z.1, .lst z.2) else .no
theorem sx_lst {ta : TA} {fa : FXA} (ha : SXAp mg E ta fa) : SXp mg E (tLst ta) (xLst fa) := by
  intro H0 G H σ e fp Z Q st zk zp h
  refine ha H0 G H σ e fp Z _ st zk zp ?_
  unfold xLst at h
  cases q : fa e with
  | no => rw [q] at h; exact h.elim
  | er c => rw [q] at h; exact h
  | ok z =>
    rw [q] at h
    have h' : PxE mg E H0 G H σ Z Q (if z.2.length ≤ 1000 then .ok (z.1, .lst z.2) else .no) := h
    intro vs G1 H1 fp1 f1 x1 st1 z1 o1 n1 out1
    split at h'
    case isFalse => exact h'.elim
    rename_i hl
    refine ⟨by rw [o1.length]; exact Nat.le_of_lt (small1000 hl), fun p hp => ?_⟩
    have gp : G1 p = none := none_back st1.gh hp
    have np : ∀ q ∈ fp1, q ≠ p := fun q hq e => by
      obtain ⟨u, hu⟩ := st1.sl.dom q hq
      rw [e, hp] at hu
      cases hu
    have nf : p ∉ f1 := fun m => by
      obtain ⟨u, hu⟩ := o1.dom p m
      rw [hp] at hu
      cases hu
    refine h' (.ref p) G1 _ fp1 (p :: f1) x1 ⟨st1.tb.trans (TB.new hp), st1.h0, st1.gh.trans (Ex.new hp), st1.sl.mono (Ex.refl _) (Ex.refl _) (Ex.new hp), st1.nd, st1.out⟩ (fun q hz => ?_) (.lst upd_same (o1.mono (Ex.refl _) (Ex.refl _) (Ex.new hp))) (List.nodup_cons.mpr ⟨nf, n1⟩) fun q m => ?_
    · obtain ⟨a1, a2, a3, a4⟩ := z1 q hz
      have nq : q ≠ p := fun e => by
        obtain ⟨o, ho, hpl⟩ := zp q hz
        have := a1 o ho hpl
        rw [e, hp] at this
        cases this
      exact ⟨fun o ho hpl => by rw [upd_ne nq]; exact a1 o ho hpl, a2, fun m => (List.mem_cons.mp m).elim nq a3, a4⟩
    · rcases List.mem_cons.mp m with m | m
      · rw [m]
        exact ⟨gp, fun m2 => np p m2 rfl⟩
      · exact out1 q m
/-! ### tests -/
def STXp (mg : Str → Option Value) (E : XK) (tt : TT) (ft : FXT) : Prop := ∀ H0 G H σ e fp Z Q, Stt mg H0 G H σ e fp → Zok Z H fp → (∀ p, Z p → ∃ o, H p = some o ∧ pl o = true) → PxT mg E H0 G H σ Z Q (ft e) → tt σ H Q
theorem STX.p {tt : TT} {ft : FXT} (h : STX mg E tt ft) : STXp mg E tt ft := fun H0 G H σ e fp Z Q st zk _ hh => h H0 G H σ e fp Z Q st zk hh
def xTst (a : FX) : FXT := fun e => (a e).bind fun z => match datT z.2 with
  | .bl b => .ok (z.1, b)
  | _ => .no
theorem tx_tst {te : TE} {fe : FX} (h : SXp mg E te fe) : STXp mg E (tTest te) (xTst fe) := by
  intro H0 G H σ e fp Z Q st zk zp hh
  refine h H0 G H σ e fp Z _ st zk zp ?_
  unfold xTst at hh
  cases q : fe e with
  | no => rw [q] at hh; exact hh.elim
  | er c => rw [q] at hh; exact hh
  | ok z =>
    rw [q] at hh
    have h' : PxT mg E H0 G H σ Z Q (match datT z.2 with | .bl b => .ok (z.1, b) | _ => .no) := hh
    intro v G1 H1 fp1 f1 x1 st1 z1 o1 n1 out1
    split at h'
    · rename_i b qb
      exact ⟨b, own_bl nw_sub st1.gh o1 qb, h' G1 H1 fp1 x1 st1 fun p hz => ⟨(z1 p hz).1, (z1 p hz).2.1, (fun m => nomatch m), (z1 p hz).2.2.2⟩⟩
    · exact h'.elim
def xOr (a b : FXT) : FXT := fun e => (a e).bind fun z => if z.2 then .ok (z.1, true) else b z.1
def xAnd (a b : FXT) : FXT := fun e => (a e).bind fun z => if z.2 then b z.1 else .ok (z.1, false)
def xNot (a : FXT) : FXT := fun e => (a e).bind fun z => .ok (z.1, !z.2)
theorem pxt_next {G1 H1 : Hp} {fp1 : List Addr} {Q : Bool → Hp → Prop} {x : Re (Env × Bool)} (xg : Ex G G1) (z1 : Zst Z G H G1 H1 fp1 []) (h : PxT mg E H0 G H σ Z Q x) : PxT mg E H0 G1 H1 σ Z Q x := by
  cases x with
  | no => exact h
  | er c => exact h
  | ok z =>
    intro G2 H2 fp2 x2 st2 z2
    refine h G2 H2 fp2 (xg.trans x2) st2 fun p hz => ?_
    obtain ⟨a1, a2, a3, a4⟩ := z1 p hz
    obtain ⟨b1, b2, b3, b4⟩ := z2 p hz
    exact ⟨fun o ho hp => b1 o (a1 o ho hp) hp, b2, b3, fun n => b4 (a4 n)⟩
theorem zok_t {G1 H1 : Hp} {fp1 : List Addr} (zp : ∀ p, Z p → ∃ o, H p = some o ∧ pl o = true) (z1 : Zst Z G H G1 H1 fp1 []) : Zok Z H1 fp1 ∧ ∀ p, Z p → ∃ o, H1 p = some o ∧ pl o = true := by
  have k : ∀ p, Z p → ∃ o, H1 p = some o ∧ pl o = true := fun p hz => by
    obtain ⟨o, ho, hp⟩ := zp p hz
    exact ⟨o, (z1 p hz).1 o ho hp, hp⟩
  exact ⟨fun p hz => ⟨(k p hz).imp fun _ h => h.1, (z1 p hz).2.1⟩, k⟩
theorem tx_or {t u : TT} {a b : FXT} (h1 : STXp mg E t a) (h2 : STXp mg E u b) : STXp mg E (tOr t u) (xOr a b) := by
  intro H0 G H σ e fp Z Q st zk zp hh
  refine h1 H0 G H σ e fp Z _ st zk zp ?_
  unfold xOr at hh
  cases q : a e with
  | no => rw [q] at hh; exact hh.elim
  | er c => rw [q] at hh; exact hh
  | ok z =>
    rw [q] at hh
    have h' : PxT mg E H0 G H σ Z Q (if z.2 then .ok (z.1, true) else b z.1) := hh
    intro G1 H1 fp1 x1 st1 z1
    by_cases hb : z.2 = true
    · rw [if_pos hb] at h' ⊢
      exact h' G1 H1 fp1 x1 st1 z1
    · rw [if_neg hb] at h' ⊢
      obtain ⟨k1, k2⟩ := zok_t zp z1
      exact h2 H0 G1 H1 σ z.1 fp1 Z Q st1 k1 k2 (pxt_next x1 z1 h')
theorem tx_and {t u : TT} {a b : FXT} (h1 : STXp mg E t a) (h2 : STXp mg E u b) : STXp mg E (tAnd t u) (xAnd a b) := by
  intro H0 G H σ e fp Z Q st zk zp hh
  refine h1 H0 G H σ e fp Z _ st zk zp ?_
  unfold xAnd at hh
  cases q : a e with
  | no => rw [q] at hh; exact hh.elim
  | er c => rw [q] at hh; exact hh
  | ok z =>
    rw [q] at hh
    have h' : PxT mg E H0 G H σ Z Q (if z.2 then b z.1 else .ok (z.1, false)) := hh
    intro G1 H1 fp1 x1 st1 z1
    by_cases hb : z.2 = true
    · rw [if_pos hb] at h' ⊢
      obtain ⟨k1, k2⟩ := zok_t zp z1
      exact h2 H0 G1 H1 σ z.1 fp1 Z Q st1 k1 k2 (pxt_next x1 z1 h')
    · rw [if_neg hb] at h' ⊢
      exact h' G1 H1 fp1 x1 st1 z1
theorem tx_not {t : TT} {a : FXT} (h1 : STXp mg E t a) : STXp mg E (tNot t) (xNot a) := by
  intro H0 G H σ e fp Z Q st zk zp hh
  refine h1 H0 G H σ e fp Z _ st zk zp ?_
  unfold xNot at hh
  cases q : a e with
  | no => rw [q] at hh; exact hh.elim
  | er c => rw [q] at hh; exact hh
  | ok z =>
    rw [q] at hh
    exact fun G1 H1 fp1 x1 st1 z1 => hh G1 H1 fp1 x1 st1 z1
/-! ### statements -/
def Z0 : Addr → Prop := fun _ => False
theorem zok0 : Zok Z0 H fp ∧ ∀ p, Z0 p → ∃ o, H p = some o ∧ pl o = true := ⟨fun p h => h.elim, fun p h => h.elim⟩
def sDropX (a : FX) : FS := fun e => (a e).bind fun z => .ok (.nx z.1)
theorem s_dropX {te : TE} {fx : FX} (h : SXp mg E te fx) : SS mg E (tDrop te) (sDropX fx) := by
  intro H0 G H σ e fp D st hh
  refine h H0 G H σ e fp Z0 _ st (zok0 (H := H) (fp := fp)).1 (zok0 (H := H) (fp := fp)).2 ?_
  unfold sDropX at hh
  cases q : fx e with
  | no => rw [q] at hh; exact hh.elim
  | er c => rw [q] at hh; exact hh
  | ok z =>
    rw [q] at hh
    exact fun v G1 H1 fp1 f1 x1 st1 _ _ _ _ => hh σ G1 H1 fp1 x1 st1
theorem k_dropX {te : TE} {fx : FX} (h : SXp mg E te fx) : SK mg E (tDrop te) (sDropX fx) := by
  intro H0 G H σ e fp D st hh
  refine h H0 G H σ e fp Z0 _ st (zok0 (H := H) (fp := fp)).1 (zok0 (H := H) (fp := fp)).2 ?_
  unfold sDropX at hh
  cases q : fx e with
  | no => rw [q] at hh; exact hh.elim
  | er c => rw [q] at hh; exact hh
  | ok z =>
    rw [q] at hh
    exact fun v G1 H1 fp1 f1 x1 st1 _ _ _ _ => hh σ G1 H1 fp1 x1 st1 rfl
def sAsgX (a : FX) (g : FG) : FS := fun e => (a e).bind fun z => (g z.2 z.1).bind fun e1 => .ok (.nx e1)
theorem s_asgX {te : TE} {fx : FX} {js : List Nat} {tg : TG} {fg : FG} (h : SXp mg E te fx) (hg : SG mg js tg fg) (hx : ∀ t e x, fg t e ≠ .er x) : SS mg E (tAsg te tg) (sAsgX fx fg) := by
  intro H0 G H σ e fp D st hh
  refine h H0 G H σ e fp Z0 _ st (zok0 (H := H) (fp := fp)).1 (zok0 (H := H) (fp := fp)).2 ?_
  unfold sAsgX at hh
  cases q : fx e with
  | no => rw [q] at hh; exact hh.elim
  | er c => rw [q] at hh; exact hh
  | ok z =>
    rw [q] at hh
    have h' : Ps mg E H0 G D ((fg z.2 z.1).bind fun e1 => .ok (.nx e1)) := hh
    intro v G1 H1 fp1 f1 x1 st1 _ o1 n1 out1
    refine hg H0 G1 H1 σ z.1 fp1 v z.2 f1 _ st1 o1 n1 out1 ?_
    cases q2 : fg z.2 z.1 with
    | no => rw [q2] at h'; exact h'.elim
    | er c => exact (hx _ _ _ q2).elim
    | ok e1 =>
      rw [q2] at h'
      exact fun σ' fp' st' _ _ => h' σ' G1 H1 fp' x1 st'
def sIfX (c : FXT) (a b : FS) : FS := fun e => (c e).bind fun z => if z.2 then a z.1 else b z.1
theorem s_ifX {c : TT} {fc : FXT} {t u : TS} {a b : FS} (hc : STXp mg E c fc) (h1 : SS mg E t a) (h2 : SS mg E u b) : SS mg E (tIfS c t u) (sIfX fc a b) := by
  intro H0 G H σ e fp D st hh
  refine hc H0 G H σ e fp Z0 _ st (zok0 (H := H) (fp := fp)).1 (zok0 (H := H) (fp := fp)).2 ?_
  unfold sIfX at hh
  cases q : fc e with
  | no => rw [q] at hh; exact hh.elim
  | er c => rw [q] at hh; exact hh
  | ok z =>
    rw [q] at hh
    have h' : Ps mg E H0 G D (if z.2 then a z.1 else b z.1) := hh
    intro G1 H1 fp1 x1 st1 _
    by_cases hb : z.2 = true
    · rw [if_pos hb] at h' ⊢
      exact h1 H0 G1 H1 σ z.1 fp1 D st1 (Ps.up x1 h')
    · rw [if_neg hb] at h' ⊢
      exact h2 H0 G1 H1 σ z.1 fp1 D st1 (Ps.up x1 h')
end
end LS

/-! LS1: try: an expression; except C as e: a suite that asks of which class e is. -/
namespace LS
open PySem PySem.Spec
open PyProof.Rows L2
variable [TabI]
/-- the classes that except C catches -/
structure TryOk (K : PySem.W.Frag) (mg : Str → Option Value) (s : Str) (tab : List (Str × Bool)) : Prop where
  ex : ∃ S, mg s = some (.ref S) ∧ ∀ c D, tab.lookup c = some true → mg c = some (.ref D) → PySem.W.exmOne K (.ref D) (.ref S) = some true
/-- isinstance(e, X) by e's class -/
structure EisOk (K : PySem.W.Frag) (mg : Str → Option Value) (x : Str) (tab : List (Str × Bool)) : Prop where
  ex : ∃ S, mg x = some (.ref S) ∧ ∀ c b D, tab.lookup c = some b → mg c = some (.ref D) → ExcC K D ∧ PySem.W.kitOne K (.ref D) (.ref S) = some b
/-- .. X a built-in class -/
structure EisB (K : PySem.W.Frag) (mg : Str → Option Value) (x : Str) (y : String) (tab : List (Str × Bool)) : Prop where
  no : mg x = none
  ex : ∀ c b D, tab.lookup c = some b → mg c = some (.ref D) → ExcC K D ∧ PySem.W.kitOne K (.ref D) (.type y) = some b
def fErrIs (a : Nat) (c : Str) (tab : List (Str × Bool)) (i : Nat) : FE := fun e => match e[i]? with
  | some (some (.leaf _ (.adr a'))) => if a' = a then .ok (.leaf 0 (.bl ((tab.lookup c).getD false))) else .no
  | _ => .no
theorem lk_same {c : Str} : ∀ {t1 t2 : List (Str × Bool)} {b : Bool}, t1.map (·.1) = t2.map (·.1) → t1.lookup c = some b → ∃ b', t2.lookup c = some b'
  | [], _, b, _, h => nomatch h
  | (k, x) :: t1, [], b, e, _ => nomatch e
  | (k, x) :: t1, (k2, y) :: t2, b, e, h => by
    rw [List.map_cons, List.map_cons, List.cons.injEq] at e
    have ek : k = k2 := e.1
    subst ek
    rw [List.lookup_cons] at h ⊢
    cases hb : c == k with
    | true => exact ⟨y, rfl⟩
    | false =>
      rw [hb] at h
      exact lk_same e.2 h
def tIsE (K : PySem.W.Frag) (mg : Str → Option Value) (x : Str) (i : Nat) (D a : Addr) : TE := fun σ H Q => ∃ S, mg x = some (.ref S) ∧ tCB (rIsE K D a) (tCons (tVar i) (tCons (tC (.ref S)) tNil)) σ H Q
def tIsB (K : PySem.W.Frag) (x : String) (i : Nat) (D a : Addr) : TE := tCB (rIsE K D a) (tCons (tVar i) (tCons (tC (.ty x)) tNil))
section
variable {X : Cx} {K : PySem.W.Frag} {mg : Str → Option Value} {a D : Addr} {oe : Obj} {pn : List (Addr × Obj)}
theorem pe_isE {x c n : Str} {i : Nat} {tab : List (Str × Bool)} {p p1 p2 pos : Pos} {b : Bool} {tab0 : List (Str × Bool)} (T : EisOk K mg x tab) (hm : mg c = some (.ref D)) (hl0 : tab0.lookup c = some b) (hz : Zc (.ref D) none oe) (hf : ∃ vs, oe.data = .fields vs)
    (hg : Gl (X.suite a ((a, oe) :: pn)) "isinstance") (hi : X.mg "isinstance" = none) (hgx : Gl (X.suite a ((a, oe) :: pn)) x) (hv : PE (X.suite a ((a, oe) :: pn)) (.Name n p1) (tVar i)) (z3 : X.K = K := by rfl) (z4 : X.mg = mg := by rfl) (hss : tab0.map (·.1) = tab.map (·.1) := by rfl) (hd : (x == ("__debug__" : Str)) = false := by decide)
    (n1 : starEach [.Name n p1, .Name x p2] X.env = (false, eval (.Name n p1) X.env) :: starEach [.Name x p2] X.env := by rfl) (n2 : starEach [.Name x p2] X.env = (false, eval (.Name x p2) X.env) :: starEach [] X.env := by rfl)
    (n3 : (backTo pos (starEach [.Name x p2] X.env)).any (·.1) = false := by rfl) : PE (X.suite a ((a, oe) :: pn)) (.Call (.Name "isinstance" p) [.Name n p1, .Name x p2] [] pos) (tIsE K mg x i D a) := by
  subst z3 z4
  obtain ⟨S, gS, ok⟩ := T.ex
  obtain ⟨b', hl⟩ := lk_same hss hl0
  obtain ⟨eC, _⟩ := ok c b' D hl hm
  have q := pe_callB (X := X.suite a ((a, oe) :: pn)) (p := p) (pos := pos) (call_isE eC hz hf) hg hi bt_isi (pa_cons hv (pa_cons (pe_glob (v := .ref S) (pos := p2) hgx gS rfl hd) pa_nil n2) n1) (by decide) (by decide) n1 n3
  refine ⟨fun pn sh τ Hh Z inv h => ?_⟩
  obtain ⟨S', e1, h⟩ := h
  rw [gS] at e1
  cases e1
  exact q.run pn sh τ Hh Z inv h
theorem pe_isB {x : Str} {y : String} {c n : Str} {i : Nat} {tab : List (Str × Bool)} {p p1 p2 pos : Pos} {b : Bool} {tab0 : List (Str × Bool)} (T : EisB K mg x y tab) (hm : mg c = some (.ref D)) (hl0 : tab0.lookup c = some b) (hz : Zc (.ref D) none oe) (hf : ∃ vs, oe.data = .fields vs)
    (hg : Gl (X.suite a ((a, oe) :: pn)) "isinstance") (hi : X.mg "isinstance" = none) (hgx : Gl (X.suite a ((a, oe) :: pn)) x) (hbx : bootBuiltins x = some (.type y)) (hnn : x ≠ "__name__") (hv : PE (X.suite a ((a, oe) :: pn)) (.Name n p1) (tVar i)) (z3 : X.K = K := by rfl) (z4 : X.mg = mg := by rfl) (hss : tab0.map (·.1) = tab.map (·.1) := by rfl) (hd : (x == ("__debug__" : Str)) = false := by decide)
    (n1 : starEach [.Name n p1, .Name x p2] X.env = (false, eval (.Name n p1) X.env) :: starEach [.Name x p2] X.env := by rfl) (n2 : starEach [.Name x p2] X.env = (false, eval (.Name x p2) X.env) :: starEach [] X.env := by rfl)
    (n3 : (backTo pos (starEach [.Name x p2] X.env)).any (·.1) = false := by rfl) : PE (X.suite a ((a, oe) :: pn)) (.Call (.Name "isinstance" p) [.Name n p1, .Name x p2] [] pos) (tIsB K y i D a) := by
  subst z3 z4
  obtain ⟨b', hl⟩ := lk_same hss hl0
  obtain ⟨eC, _⟩ := T.ex c b' D hl hm
  exact pe_callB (X := X.suite a ((a, oe) :: pn)) (p := p) (pos := pos) (call_isE eC hz hf) hg hi bt_isi (pa_cons hv (pa_cons (pe_bltn (v := .ty y) (pos := p2) hgx T.no hbx rfl hnn hd) pa_nil n2) n1) (by decide) (by decide) n1 n3
end
section
variable {mg : Str → Option Value} {E : XK} {K : PySem.W.Frag} {H0 G H G' H' : Hp} {σ : L2.St} {e : Env} {fp : List Addr} {D : Ends}
theorem err_at {i : Nat} {k a : Nat} (st : Stt mg H0 G H σ e fp) (h : e[i]? = some (some (.leaf k (.adr a)))) : σ[i]? = some (some (.ref a)) := by
  obtain ⟨v, f, h1, o, _⟩ := st.sl.get h
  cases o with
  | leaf r =>
    cases r
    exact h1
theorem se_isE {x c : Str} {i : Nat} {tab tab0 : List (Str × Bool)} {C a : Addr} {b0 : Bool} (T : EisOk K mg x tab) (hm : mg c = some (.ref C)) (hl0 : tab0.lookup c = some b0) (hss : tab0.map (·.1) = tab.map (·.1) := by rfl) : SE mg E (tIsE K mg x i C a) (fErrIs a c tab i) := by
  intro H0 G H σ e fp Q st h
  unfold fErrIs at h
  split at h
  · rename_i k a' ha
    split at h
    · rename_i ea
      subst ea
      obtain ⟨b, hb⟩ := lk_same hss hl0
      rw [hb] at h
      · obtain ⟨S, gS, ok⟩ := T.ex
        exact ⟨S, gS, .ref a', err_at st ha, .ref S, .ref S, b, rfl, fun u r => r, (ok c b C hb hm).2, h (.bl b) G H [] (Grow.refl st.gh) (.leaf (.bl b)) Frs.nil⟩
    · exact h.elim
  · exact h.elim
theorem se_isB {x : Str} {y : String} {c : Str} {i : Nat} {tab tab0 : List (Str × Bool)} {C a : Addr} {b0 : Bool} (T : EisB K mg x y tab) (hm : mg c = some (.ref C)) (hl0 : tab0.lookup c = some b0) (hss : tab0.map (·.1) = tab.map (·.1) := by rfl) : SE mg E (tIsB K y i C a) (fErrIs a c tab i) := by
  intro H0 G H σ e fp Q st h
  unfold fErrIs at h
  split at h
  · rename_i k a' ha
    split at h
    · rename_i ea
      subst ea
      obtain ⟨b, hb⟩ := lk_same hss hl0
      rw [hb] at h
      · exact ⟨.ref a', err_at st ha, .ty y, .type y, b, rfl, fun u r => r, (T.ex c b C hb hm).2, h (.bl b) G H [] (Grow.refl st.gh) (.leaf (.bl b)) Frs.nil⟩
    · exact h.elim
  · exact h.elim
/-! ### the statement -/
def EW (n : Nat) (W : WX) : XK := fun cls d H' => ∀ σ' : L2.St, σ'.length = n → W cls d σ' H'
theorem passes_ew {X : Cx} {W : WX} (tk : Takes X W) : Passes (L2.CX X.prog X.w) X (EW X.N.length W) := by
  have tk2 : Takes X (fun c d σ H => σ.length = X.N.length → W c d σ H) := fun u s' ⟨a, B, sI, pins, σ, H, cls, d, e, I, nb, up, sky, na, os, ag, w⟩ =>
    tk u s' ⟨a, B, sI, pins, σ, H, cls, d, e, I, nb, up, sky, na, os, ag, w I.len⟩
  exact passes_call tk2 fun cls d σ H h hl => h σ hl
def tsTry (mg : Str → Option Value) (tab : List (Str × Bool)) (th : Addr → Addr → Str → TS) : Addr → Value → Option Addr → TS := fun a cls d Dn σ H => ∃ C c, cls = .ref C ∧ d = none ∧ mg c = some (.ref C) ∧ tab.lookup c = some true ∧ th a C c Dn σ H
def tTryX (K : PySem.W.Frag) (mg : Str → Option Value) (s : Str) (tab : List (Str × Bool)) (n i : Nat) (te : XK → TE) (th : Addr → Addr → Str → TS) : TS := fun D σ H => ∃ S, mg s = some (.ref S) ∧
  tDrop (te (EW n (wAs K (.ref S) i (tsTry mg tab th) (fun _ _ _ _ => False) D))) D σ H
theorem takes_no {X : Cx} : Takes X (fun _ _ _ _ => False) := fun _ _ x => by
  obtain ⟨_, _, _, _, _, _, _, _, _, _, _, _, _, _, _, _, z⟩ := x
  exact z.elim
theorem ps_tryX {X : Cx} {s m : Str} {i : Nat} {tab : List (Str × Bool)} {e : Expr} {b₀ : Stmt} {suite : List Stmt} {te : XK → TE} {th : Addr → Addr → Str → TS} {ep np pos pos' : Pos} (T : TryOk K mg s tab) (hN : X.N.Nodup) (hi : X.N[i]? = some m) (hln : X.env.kindOf m = some .local) (hg : Gl X s)
    (hb : ∀ (E : XK) (pn : List (Addr × Obj)) (xe : Value → Shared → Prop), Passes (L2.CX X.prog X.w) (X.tr pn xe) E → PE (X.tr pn xe) e (te E))
    (hsu : ∀ (a : Addr) (oe : Obj) (C : Addr) (c : Str) (pn : List (Addr × Obj)), mg c = some (.ref C) → tab.lookup c = some true → Zc (.ref C) none oe → (∃ vs, oe.data = .fields vs) → PSs (X.suite a ((a, oe) :: pn)) (b₀ :: suite) (th a C c))
    (hs : X.stack = X.env :: X.outer := by rfl) (hf : X.env.frame = some X.env.locals := by rfl) (hdb : (s == ("__debug__" : Str)) = false := by decide) (z3 : X.K = K := by rfl) (z4 : X.mg = mg := by rfl)
    (hsw : swapsWith e none ep.line X.env = pure false := by rfl) : PS X (.Try [.Expr e ep] [.ExceptHandler (some (.Name s np)) (some m) (b₀ :: suite) pos'] [] [] pos) (tTryX K mg s tab X.N.length i te th) := by
  subst z3 z4
  obtain ⟨S, gS, _⟩ := T.ex
  have q := ps_try_as (pos := pos) (np := np) (pos' := pos') (Wout := fun _ _ _ _ => False) (c := .ref S) (tb := fun W => tDrop (te (EW X.N.length W))) (ts := tsTry X.mg tab th) hs hf hN hi hln ⟨hg, hdb, .inl gS⟩ takes_no
    (fun W pn xe tk _ => pss_one (ps_expr (hb _ pn xe (passes_ew (X := X.tr pn xe) tk)) hsw))
    (fun a oe cls d pn hz hf => ⟨fun pins sh τ Hh Dn inv h => by
      obtain ⟨C, c, rfl, rfl, hc, hl, h⟩ := h
      exact (hsu a oe C c pn hc hl hz hf).run pins sh τ Hh Dn inv h⟩)
  refine ⟨fun pn sh τ Hh D inv h => ?_⟩
  obtain ⟨S', e1, h⟩ := h
  rw [gS] at e1
  cases e1
  exact q.run pn sh τ Hh D inv h
def hwp (i : Nat) : Re Out → Re Out
  | .ok (.nx e) => .ok (.nx (e.set i none))
  | .ok (.rt e t) => .ok (.rt (e.set i none) t)
  | _ => .no
def errE (n i a : Nat) : Env := (List.replicate n none).set i (some (.leaf 0 (.adr a)))
/-- except ..: what is known of the names is forgotten -/
def sTry (tab : List (Str × Bool)) (n i : Nat) (b : FE) (h : Nat → Str → FS) : FS := fun e => match b e with
  | .ok _ => .ok (.nx e)
  | .no => .no
  | .er c => if tab.lookup c = some true then hwp i (h 0 c (errE n i 0)) else .no
theorem sl_none {N : Hp} : ∀ σ : L2.St, Sl mg N G H σ (List.replicate σ.length none) []
  | [] => .n0
  | x :: σ => .no (sl_none σ)
theorem s_try {s : Str} {tab : List (Str × Bool)} {n i : Nat} {te : XK → TE} {fe : FE} {th : Addr → Addr → Str → TS} {fh : Nat → Str → FS} (T : TryOk K mg s tab) (hi : i < n) (he : ∀ E, SE mg E (te E) fe) (hh : ∀ (a C : Addr) (c : Str) (E : XK), mg c = some (.ref C) → tab.lookup c = some true → SS mg E (th a C c) (fh a c))
    (ind : ∀ a c, hwp i (fh a c (errE n i a)) = hwp i (fh 0 c (errE n i 0))) : SS mg E (tTryX K mg s tab n i te th) (sTry tab n i fe fh) := by
  obtain ⟨S, gS, ok⟩ := T.ex
  intro H0 G H σ e fp D st h
  refine ⟨S, gS, he _ H0 G H σ e fp _ st ?_⟩
  unfold sTry at h
  cases q : fe e with
  | no => rw [q] at h; exact h.elim
  | ok t =>
    rw [q] at h
    exact fun v G1 H1 f g o r => h σ G1 H1 fp g.gg (st.grow g)
  | er c =>
    rw [q] at h
    have h1 : Ps mg E H0 G D (if tab.lookup c = some true then hwp i (fh 0 c (errE n i 0)) else .no) := h
    split at h1
    case isFalse => exact h1.elim
    rename_i hl
    intro C G1 H1 hc g σ' hn
    refine ⟨true, ok c C hl hc, fun _ a na => ⟨C, c, rfl, rfl, hc, hl, ?_⟩, fun z => nomatch z⟩
    rw [← ind a c] at h1
    have st1 := st.grow g
    have s0 := sl_none (mg := mg) (G := G1) (H := H1) (N := nw H0 G1) σ'
    rw [hn] at s0
    obtain ⟨fp', s1, n1, b1⟩ := s0.set (i := i) (v := .ref a) (t := .leaf 0 (.adr a)) (f := []) (.leaf (.adr a)) (by simp [kdT]) (by rw [List.length_replicate]; exact hi) (fun p m => nomatch m) List.nodup_nil List.nodup_nil
    have stE : Stt mg H0 G1 H1 (σ'.set i (some (.ref a))) (errE n i a) fp' := ⟨st1.tb, st1.h0, st1.gh, s1, n1, fun p m => by rcases b1 p m with z | z <;> exact nomatch z⟩
    refine hh a C c (fun _ _ _ => False) hc hl H0 G1 H1 _ _ fp' _ stE ?_
    cases q2 : fh a c (errE n i a) with
    | no => rw [q2] at h1; exact h1.elim
    | er x => rw [q2] at h1; exact h1.elim
    | ok o =>
      rw [q2] at h1
      cases o with
      | nx e2 =>
        intro σ2 G2 H2 fp2 x2 st2
        obtain ⟨fp3, st3, _⟩ := st2.non i none
        exact h1 _ G2 H2 fp3 (g.gg.trans x2) st3
      | rt e2 t =>
        intro σ2 v G2 H2 fp2 f x2 st2 o nd out
        obtain ⟨fp3, st3, sub3⟩ := st2.non i none
        exact h1 _ v G2 H2 fp3 f (g.gg.trans x2) st3 o nd fun p m => ⟨(out p m).1, fun z => (out p m).2 (sub3 p z)⟩
      | bk e2 => exact h1.elim
      | ct e2 => exact h1.elim
end
end LS

/-! LS2: dict(pairs). -/
namespace LS
open PySem PySem.Spec
open PyProof.Rows L2
variable [TabI]
/-- pairs of a whole number and a scalar -/
def pairsD : List Dat → Option (List (Int × Dat))
  | [] => some []
  | .tup [.int k, d] :: r => if scal d = true then (pairsD r).map ((k, d) :: ·) else none
  | _ => none
def fDct (a : FE) : FE := fun e => (a e).bind fun t => match datT t with
  | .lst ds => (match pairsD ds with
    | some ps => if (ps.map (·.1)).Nodup then .ok (.leaf 0 (.dct (ps.map (·.1)) (ps.map (·.2)))) else .no
    | none => .no)
  | _ => .no
def kDct (K : PySem.W.Frag) : List V → Hp → VK → Prop := fun xs H Q => ∃ (a : Addr) (ps : List Addr) (kvs : List (Key × V)), xs = [.ref a] ∧ SqL K H a (ps.map V.ref) ∧ Paired (fun p kv => SqT K H p [kV kv.1, kv.2]) ps kvs ∧
    ∀ p, H p = none → Q (.ref p) (upd H p (.dK (mergeK [] kvs)))
theorem bt_dict : bootBuiltins "dict" = some (.type "dict") := by decide +kernel
theorem putK_new {k : Key} {v : V} : ∀ {kvs : List (Key × V)}, (∀ kv ∈ kvs, kv.1 ≠ k) → putK kvs k v = kvs ++ [(k, v)] := fun {kvs} h => by
  unfold putK
  rw [if_neg]
  intro e
  obtain ⟨kv, hm, hk⟩ := List.any_eq_true.mp e
  exact h kv hm (of_decide_eq_true hk)
theorem merge_new : ∀ (more kvs : List (Key × V)), ((kvs ++ more).map (·.1)).Nodup → mergeK kvs more = kvs ++ more
  | [], kvs, _ => by
    show kvs = kvs ++ []
    rw [List.append_nil]
  | p :: r, kvs, h => by
    have h2 := h
    rw [List.map_append, List.map_cons] at h2
    have h3 := List.nodup_append.mp h2
    show mergeK (putK kvs p.1 p.2) r = _
    rw [putK_new fun kv hm e => h3.2.2 kv.1 (List.mem_map_of_mem (f := (·.1)) hm) p.1 List.mem_cons_self e, merge_new r (kvs ++ [(p.1, p.2)]) (by rw [List.append_assoc]; exact h), List.append_assoc]
    rfl
section
variable {mg : Str → Option Value} {E : XK} {K : PySem.W.Frag} {H0 G H G' H' : Hp} {σ : L2.St} {e : Env} {fp : List Addr} {D : Ends}
theorem pairs_R {X : Hp} : ∀ {ds : List Dat} {vs : List V} {ps : List (Int × Dat)}, pairsD ds = some ps → Rs mg X vs ds → ∃ as : List Addr, vs = as.map V.ref ∧ Paired (fun p (kv : Key × V) => X p = some (.tup [kV kv.1, kv.2])) as (ps.map fun q => (Sum.inl q.1, vS q.2)) ∧ ∀ q ∈ ps, scal q.2 = true
  | [], _, ps, h, .nil => by
    cases h
    exact ⟨[], rfl, .nil, fun _ m => nomatch m⟩
  | d :: ds, _, ps, h, .cons r rs => by
    unfold pairsD at h
    split at h
    · rename_i he
      cases he
    · rename_i k d' rr he
      cases he
      split at h
      · rename_i hs
        cases hp : pairsD ds with
        | none => rw [hp] at h; cases h
        | some qs =>
          rw [hp] at h
          cases h
          obtain ⟨as, e1, e2, e3⟩ := pairs_R hp rs
          cases r with
          | @tup a vs2 _ ha r2 =>
            cases r2 with
            | cons ra r3 =>
              cases r3 with
              | cons rb r4 =>
                cases r4
                cases ra
                rw [rb.isS hs] at ha
                exact ⟨a :: as, by rw [e1]; rfl, .cons ha e2, fun q m => by
                  rcases List.mem_cons.mp m with z | z
                  · rw [z]
                    exact hs
                  · exact e3 q z⟩
      · cases h
    · cases h
theorem kvz_map : ∀ ps : List (Int × Dat), kvz (ps.map (·.1)) ((ps.map (·.2)).map vS) = ps.map fun q => (Sum.inl q.1, vS q.2)
  | [] => rfl
  | p :: r => by
    show (Sum.inl p.1, vS p.2) :: kvz (r.map (·.1)) ((r.map (·.2)).map vS) = _
    rw [kvz_map r]
    rfl
theorem inl_nodup {ks : List Int} (h : ks.Nodup) : (ks.map (Sum.inl : Int → Key)).Nodup := by
  rw [List.nodup_iff_pairwise_ne] at h ⊢
  rw [List.pairwise_map]
  exact h.imp fun h e => h (Sum.inl.inj e)
/-- a new object that stays -/
theorem grow_shared {p : Addr} {o : HO} (h0 : Ex H0 G) (gh : Ex G H) (g : Grow G H G' H') (hp : H' p = none) : Grow G H (upd G' p o) (upd H' p o) ∧ nw H0 (upd G' p o) p = some o := by
  have gp : G' p = none := none_back g.gh hp
  refine ⟨⟨g.tb.trans (TB.new hp), g.hh.trans (Ex.new hp), g.gg.trans (Ex.new gp), fun q u hq => ?_, fun q u hq n => ?_⟩, ?_⟩
  · by_cases e : q = p
    · subst e
      rw [upd_same] at hq ⊢
      exact .inl hq
    · rw [upd_ne e] at hq ⊢
      exact g.gh q u hq
  · by_cases e : q = p
    · subst e
      exact none_back g.hh hp
    · rw [upd_ne e] at hq
      exact g.fr q u hq n
  · refine nw_some (none_back ((h0.trans gh).trans g.hh) hp) upd_same
theorem se_dict {ta : TE} {fa : FE} (ha : SE mg E ta fa) : SE mg E (tCB (kDct K) (tCons ta tNil)) (fDct fa) := by
  intro H0 G H σ e fp Q st h
  refine ha H0 G H σ e fp _ st ?_
  unfold fDct at h
  cases q : fa e with
  | no => rw [q] at h; exact h.elim
  | er c => rw [q] at h; exact h
  | ok t =>
    rw [q] at h
    have h1 : Pe mg E H0 G H Q (match datT t with
      | .lst ds => (match pairsD ds with
        | some ps => if (ps.map (·.1)).Nodup then .ok (.leaf 0 (.dct (ps.map (·.1)) (ps.map (·.2)))) else .no
        | none => .no)
      | _ => .no) := h
    intro v G1 H1 f g o r
    have rv := o.now nw_sub g.gh
    split at h1
    · rename_i ds hd
      rw [hd] at rv
      split at h1
      · rename_i ps hps
        split at h1
        · rename_i hn
          cases rv with
          | @lst a vs _ ha1 rs =>
            obtain ⟨as, e1, e2, e3⟩ := pairs_R hps rs
            subst e1
            have em : mergeK [] (ps.map fun q => ((Sum.inl q.1 : Key), vS q.2)) = ps.map fun q => (Sum.inl q.1, vS q.2) := merge_new _ [] (by
              rw [List.nil_append, List.map_map]
              have := inl_nodup hn
              rw [List.map_map] at this
              exact this)
            refine ⟨a, as, _, rfl, .of ha1, Paired.mapP e2 (fun p kv hp => .of hp), fun p hp => ?_⟩
            rw [em]
            obtain ⟨g2, hnw⟩ := grow_shared (o := .dK (ps.map fun q => (Sum.inl q.1, vS q.2))) st.h0 st.gh g hp
            refine h1 (.ref p) _ _ [] g2 (.leaf (.dct (vs := (ps.map (·.2)).map vS) ?_ (by rw [List.length_map, List.length_map, List.length_map]) (Rs.ofS fun d m => ?_))) Frs.nil
            · rw [kvz_map]
              exact hnw
            · obtain ⟨q, hq, rfl⟩ := List.mem_map.mp m
              exact e3 q hq
        · exact h1.elim
      · exact h1.elim
    · exact h1.elim
/-- {} that stays -/
def fDk0 : FE := fun _ => .ok (.leaf 0 (.dct [] []))
theorem se_dk0 : SE mg E tDNewK fDk0 := fun H0 G H σ e fp Q st h p hp => by
  obtain ⟨g2, hnw⟩ := grow_shared (o := .dK []) st.h0 st.gh (Grow.refl st.gh) hp
  exact h (.ref p) _ _ [] g2 (.leaf (.dct (vs := []) hnw rfl .nil)) Frs.nil
end
theorem in_mulW {X : Cx} : InOp X .Mult (rI CMulW fun i j => .int (i * j)) := fun pn sh τ Hh x y u v Q inv r1 r2 h => iop_mulG pn sh τ Hh x y u v Q inv r1 r2 h
theorem lk_case {mg : Str → Option Value} {c k : Str} {b b' : Bool} {D : Addr} {tab : List (Str × Bool)} {P : Prop} (h : ((k, b') :: tab).lookup c = some b) (m : mg c = some (.ref D)) (f : b' = b → mg k = some (.ref D) → P) (g : tab.lookup c = some b → mg c = some (.ref D) → P) : P := by
  by_cases e : c = k
  · subst e
    have hb : (c == c) = true := beq_self_eq_true c
    rw [List.lookup_cons, hb] at h
    exact f (Option.some.inj h) m
  · have hb : (c == k) = false := beq_eq_false_iff_ne.mpr e
    rw [List.lookup_cons, hb] at h
    exact g h m
end LS

/-! LS3: what a def hands out is the caller's own. -/
namespace LS
open PySem PySem.Spec
open PyProof.Rows L2
variable [TabI]
/-- a name read for the last time -/
def xMove (i : Nat) : FX := fun e => match e[i]? with
  | some (some t) => .ok (e.set i none, t)
  | _ => .no
def xIf (c : FXT) (a b : FX) : FX := fun e => (c e).bind fun z => if z.2 then a z.1 else b z.1
def sRetX (a : FX) : FS := fun e => (a e).bind fun z => .ok (.rt z.1 z.2)
section
variable {mg : Str → Option Value} {E : XK} {K : PySem.W.Frag} {H0 G H G' H' : Hp} {σ : L2.St} {e : Env} {fp : List Addr} {D : Ends} {Z : Addr → Prop}
theorem sx_move (i : Nat) : SX mg E (tVar i) (xMove i) := by
  intro H0 G H σ e fp Z Q st zk h
  unfold xMove at h
  split at h
  · rename_i t hi
    obtain ⟨v, f, fp', h1, h2, h3, h4, h5, h6, h7, h8⟩ := st.sl.take st.nd hi
    refine ⟨v, h1, h v G H fp' f (Ex.refl _) ⟨st.tb, st.h0, st.gh, h6, h7, fun p hp => st.out p (h8 p hp).1⟩ (fun p hz => ?_) h2 h4 fun p hp => ⟨st.out p (h5 p hp), fun m => (h8 p m).2 hp⟩⟩
    obtain ⟨_, hn⟩ := zk p hz
    exact ⟨fun o ho _ => ho, fun m => hn (h8 p m).1, fun m => hn (h5 p m), id⟩
  · exact h.elim
theorem sx_if {c : TT} {fc : FXT} {ta tb : TE} {fa fb : FX} (hc : STXp mg E c fc) (ha : SXp mg E ta fa) (hb : SXp mg E tb fb) : SXp mg E (tIf c ta tb) (xIf fc fa fb) := by
  intro H0 G H σ e fp Z Q st zk zp hh
  refine hc H0 G H σ e fp Z _ st zk zp ?_
  unfold xIf at hh
  cases q : fc e with
  | no => rw [q] at hh; exact hh.elim
  | er c => rw [q] at hh; exact hh
  | ok z =>
    rw [q] at hh
    have h' : PxE mg E H0 G H σ Z Q (if z.2 then fa z.1 else fb z.1) := hh
    intro G1 H1 fp1 x1 st1 z1
    obtain ⟨k1, k2⟩ := zok_t zp z1
    have up : ∀ {x : Re (Env × T)}, PxE mg E H0 G H σ Z Q x → PxE mg E H0 G1 H1 σ Z Q x := fun {x} hx => by
      cases x with
      | no => exact hx
      | er c => exact hx
      | ok y =>
        intro v G2 H2 fp2 f2 x2 st2 z2 o2 n2 out2
        refine hx v G2 H2 fp2 f2 (x1.trans x2) st2 (fun p hz => ?_) o2 n2 out2
        obtain ⟨a1, a2, a3, a4⟩ := z1 p hz
        obtain ⟨b1, b2, b3, b4⟩ := z2 p hz
        exact ⟨fun o ho hp => b1 o (a1 o ho hp) hp, b2, b3, fun n => b4 (a4 n)⟩
    by_cases hb' : z.2 = true
    · rw [if_pos hb'] at h'
      rw [show z.2 = true from hb']
      exact ha H0 G1 H1 σ z.1 fp1 Z Q st1 k1 k2 (up h')
    · rw [if_neg hb'] at h'
      have hf : z.2 = false := by simpa using hb'
      rw [hf]
      exact hb H0 G1 H1 σ z.1 fp1 Z Q st1 k1 k2 (up h')
theorem s_retX {te : TE} {fx : FX} (h : SXp mg E te fx) : SS mg E (tRet te) (sRetX fx) := by
  intro H0 G H σ e fp D st hh
  refine h H0 G H σ e fp Z0 _ st (zok0 (H := H) (fp := fp)).1 (zok0 (H := H) (fp := fp)).2 ?_
  unfold sRetX at hh
  cases q : fx e with
  | no => rw [q] at hh; exact hh.elim
  | er c => rw [q] at hh; exact hh
  | ok z =>
    rw [q] at hh
    exact fun v G1 H1 fp1 f1 x1 st1 _ o1 n1 out1 => hh σ v G1 H1 fp1 f1 x1 st1 o1 n1 out1
end
end LS

/-! LS4: sorted() of rows: lists of whole numbers, or tuples of whole numbers. -/
namespace LS
open PySem PySem.Spec
open PyProof.Rows L2
variable [TabI]
def rowD : Dat → List Int
  | .lst ds => (intsD ds).getD []
  | .tup ds => (intsD ds).getD []
  | _ => []
def isRow (t : Bool) : Dat → Bool
  | .lst ds => !t && (intsD ds).isSome
  | .tup ds => t && (intsD ds).isSome && !ds.isEmpty
  | _ => false
def leR (p q : Dat) : Bool := decide (rowD p ≤ rowD q)
def lSortR : OL
  | [.lst es] => if es.all (isRow true) || es.all (isRow false) then some (es.mergeSort leR) else none
  | _ => none
def lSortA : OL := fun ds => match lSorted ds with
  | some e => some e
  | none => lSortR ds
def intsV : List V → List Int := List.filterMap fun
  | .int i => some i
  | _ => none
def rowV (H : Hp) : V → List Int
  | .ref a => match H a with
    | some (.lst vs) => intsV vs
    | some (.tup vs) => intsV vs
    | _ => []
  | _ => []
def leV (H : Hp) (x y : V) : Bool := decide (rowV H x ≤ rowV H y)
theorem intsV_map : ∀ ns : List Int, intsV (ns.map V.int) = ns
  | [] => rfl
  | n :: ns => congrArg (n :: ·) (intsV_map ns)
theorem rowV_lst {H : Hp} {a : Addr} {ns : List Int} (h : H a = some (.lst (ns.map V.int))) : rowV H (.ref a) = ns := by
  simp only [rowV, h, intsV_map]
theorem rowV_tup {H : Hp} {a : Addr} {ns : List Int} (h : H a = some (.tup (ns.map V.int))) : rowV H (.ref a) = ns := by
  simp only [rowV, h, intsV_map]
def encV (H : Hp) (t : Bool) (x : V) : PyData := if t then .tuple ((rowV H x).map .int) else .list ((rowV H x).map .int)
def RowIs (H : Hp) (t : Bool) (x : V) : Prop := ∃ a ns, x = V.ref a ∧ if t then H a = some (.tup (ns.map V.int)) ∧ ns ≠ [] else H a = some (.lst (ns.map V.int))
/-- sorted(xs), xs of rows -/
def rSortD (K : PySem.W.Frag) : List V → Hp → VK → Prop := fun vs H Q => ∃ (a : Addr) (xs : List V) (t : Bool), vs = [V.ref a] ∧ SqL K H a xs ∧ (∀ x ∈ xs, RowIs H t x) ∧
  ∀ p, H p = none → Q (.ref p) (upd H p (.lst (xs.mergeSort (leV H))))
def rSortA (K : PySem.W.Frag) : List V → Hp → VK → Prop := fun vs H Q => rSortedI K vs H Q ∨ rSortD K vs H Q
theorem each_vals : ∀ {xs : List V} {us : List Value}, Vals xs us → PySem.W.EachIs (fun (v : Value) (x : V) => RelV x v) us xs
  | _, _, .nil => .nil
  | _, _, .cons h t => .cons h (each_vals t)
theorem vals_each : ∀ {us : List Value} {xs : List V}, PySem.W.EachIs (fun (v : Value) (x : V) => RelV x v) us xs → Vals xs us
  | _, _, .nil => .nil
  | _, _, .cons h t => .cons h (vals_each t)
theorem each_of {P : Value → V → Prop} : ∀ {xs : List V} {us : List Value}, Vals xs us → (∀ x ∈ xs, ∀ u, RelV x u → P u x) → PySem.W.EachIs P us xs
  | _, _, .nil, _ => .nil
  | _, _, .cons h t, k => .cons (k _ List.mem_cons_self _ h) (each_of t fun x m => k x (List.mem_cons_of_mem _ m))
theorem reads_ints {h : Heap} : ∀ {its : List Value} {ns : List Int}, Vals (ns.map V.int) its → ∃ as, ReadsAll h its (ns.map PyData.int) as
  | _, [], .nil => ⟨_, .nil⟩
  | _, n :: ns, .cons r t => by
    obtain ⟨k, rfl⟩ := r
    obtain ⟨as, q⟩ := reads_ints t
    exact ⟨_, .cons (.int n k) q⟩
theorem dataLe_tups {β : Type} (x : β → List Int) : PySem.W.dataLe false (fun b => .tuple ((x b).map .int)) = fun p q => decide (x p ≤ x q) := by
  rw [← PySem.W.dataLe_rows x]
  funext p q
  show (!PySem.W.dataLt (.tuple ((x q).map .int)) (.tuple ((x p).map .int))) = (!PySem.W.dataLt (.list ((x q).map .int)) (.list ((x p).map .int)))
  rw [PySem.W.dataLt_list, PySem.W.dataLt_tuple]
theorem leV_enc (H : Hp) (t : Bool) : PySem.W.dataLe false (encV H t) = leV H := by
  cases t
  · exact PySem.W.dataLe_rows (rowV H)
  · exact dataLe_tups (rowV H)
section
variable {X : Cx}
theorem cr_sortD (hu : X.A.units + 64 < cLine) : CallR X (.builtin "sorted") (rSortD X.K) := by
  intro pins s σ H vs us Q I r h
  obtain ⟨a, xs, t, rfl, hs, hx, q⟩ := h
  obtain ⟨its, rv, hl, hz⟩ := I.list hs
  rw [Vals.ref1 r]
  have er : PySem.W.EachIs (fun (v : Value) (x : V) => ∃ as, Reads s.heap v (encV H t x) as) its xs := each_of rv fun x m u ru => by
    obtain ⟨b, ns, rfl, hb⟩ := hx x m
    obtain rfl : u = Value.ref b := ru
    cases t
    · have hb' : H b = some (.lst (ns.map V.int)) := hb
      obtain ⟨_, its2, n, r2, hob⟩ := I.hok b _ hb'
      obtain ⟨as, q2⟩ := reads_ints (h := s.heap) r2
      have e : encV H false (V.ref b) = .list (ns.map .int) := by
        show PyData.list ((rowV H (V.ref b)).map .int) = _
        rw [rowV_lst hb']
      rw [e]
      exact ⟨_, .list hob rfl rfl q2⟩
    · have hb' : H b = some (.tup (ns.map V.int)) := hb.1
      obtain ⟨_, its2, r2, o, ho, hc, n, hd⟩ := I.hok b _ hb'
      obtain ⟨as, q2⟩ := reads_ints (h := s.heap) r2
      have e : encV H true (V.ref b) = .tuple (ns.map .int) := by
        show PyData.tuple ((rowV H (V.ref b)).map .int) = _
        rw [rowV_tup hb']
      rw [e]
      exact ⟨_, .tuple ho hc hd q2⟩
  have hal : PySem.W.AllAlike (xs.map (encV H t)) := by
    refine PySem.W.AllAlike.of fun b b' => ?_
    cases t
    · show PySem.W.alike (.list _) (.list _) = true
      simp only [PySem.W.alike]
      exact PySem.W.alike_ints _ _
    · show PySem.W.alike (.tuple _) (.tuple _) = true
      simp only [PySem.W.alike]
      exact PySem.W.alike_ints _ _
  have hk : PySem.W.Sortable (xs.map (encV H t)) := by
    cases t
    · exact PySem.W.Sortable.others fun b => ⟨fun e => (by cases e), fun xs e => (by cases e)⟩
    · refine .inl fun d hd => ?_
      obtain ⟨x, m, rfl⟩ := List.mem_map.mp hd
      obtain ⟨b, ns, rfl, hb, hne⟩ := hx x m
      have e : encV H true (V.ref b) = .tuple (ns.map .int) := by
        show PyData.tuple ((rowV H (V.ref b)).map .int) = _
        rw [rowV_tup hb]
      rw [e]
      cases ns with
      | nil => exact absurd rfl hne
      | cons n ns => exact ⟨_, _, rfl⟩
  refine PySem.W.sorted_data (R := fun v x => RelV x v) hl.isList (each_vals rv) er hal hk hz (fun b _ => ?_) fun out ho eo => ?_
  · have e : (encV H t b).depth = 1 := by
      cases t
      · show PyData.depth (.list _) = 1
        simp only [PyData.depth]
        rw [PySem.W.depth_ints]
      · show PyData.depth (.tuple _) = 1
        simp only [PyData.depth]
        rw [PySem.W.depth_ints]
    rw [e]
    omega
  · rw [leV_enc] at eo
    obtain ⟨ep, he'⟩ := PyProof.Rows.sortedAll_at s.heap its out.toArray
    have hlen : (xs.mergeSort (leV H)).length ≤ sizeLine := by
      rw [List.length_mergeSort]
      exact hz
    exact ⟨.ref _, upd H (s.heap.objs.size + 1) (.lst (xs.mergeSort (leV H))), I.laid (t' := s.toks) (fun _ _ => PyProof.Rows.sortedAll_old) (Nat.le_succ _) ⟨hlen, out, ep, vals_each eo, he'⟩, rfl, q _ (I.hok.fresh (Nat.le_succ _))⟩
theorem cr_sortA (hu : X.A.units + 64 < cLine) : CallR X (.builtin "sorted") (rSortA X.K) := by
  intro pins s σ H vs us Q I r h
  rcases h with h | h
  · exact cr_sortedI pins s σ H vs us Q I r h
  · exact cr_sortD hu pins s σ H vs us Q I r h
end
section
variable {mg : Str → Option Value} {K : PySem.W.Frag} {X H : Hp}
theorem Rs.each : ∀ {vs : List V} {ds : List Dat}, Rs mg H vs ds → PySem.W.EachIs (fun v d => R mg H v d) vs ds
  | _, _, .nil => .nil
  | _, _, .cons h t => .cons h (Rs.each t)
theorem Rs.ofEach : ∀ {vs : List V} {ds : List Dat}, PySem.W.EachIs (fun v d => R mg H v d) vs ds → Rs mg H vs ds
  | _, _, .nil => .nil
  | _, _, .cons h t => .cons h (Rs.ofEach t)
theorem row_v {t : Bool} {v : V} {d : Dat} (ex : Ex X H) (r : R mg X v d) (h : isRow t d = true) : RowIs H t v ∧ rowV H v = rowD d := by
  cases d with
  | lst ds =>
    cases r with
    | lst ha rs =>
      cases t with
      | true => simp [isRow] at h
      | false =>
        cases q : intsD ds with
        | none => simp [isRow, q] at h
        | some ns =>
          have e := ints_of q
          rw [e] at rs
          have hv := rs.ints
          subst hv
          have hH := (ex _ _ ha).is
          refine ⟨⟨_, ns, rfl, hH⟩, ?_⟩
          rw [rowV_lst hH]
          simp only [rowD, q, Option.getD_some]
  | tup ds =>
    cases r with
    | tup ha rs =>
      cases t with
      | false => simp [isRow] at h
      | true =>
        cases q : intsD ds with
        | none => simp [isRow, q] at h
        | some ns =>
          have e := ints_of q
          have hne : ns ≠ [] := by
            rintro rfl
            rw [e] at h
            simp [isRow] at h
          rw [e] at rs
          have hv := rs.ints
          subst hv
          have hH := (ex _ _ ha).is
          refine ⟨⟨_, ns, rfl, hH, hne⟩, ?_⟩
          rw [rowV_tup hH]
          simp only [rowD, q, Option.getD_some]
  | _ => simp [isRow] at h
theorem rl_sortR : RL mg (rSortD K) lSortR := by
  intro X H vs ds d ex rs q
  unfold lSortR at q
  split at q
  · rename_i es
    split at q
    · rename_i hc
      cases q
      cases rs with
      | cons r1 rr =>
        cases rr
        cases r1 with
        | lst h r =>
          rename_i a vs'
          have hall : ∃ t, ∀ d ∈ es, isRow t d = true := by
            rcases Bool.or_eq_true _ _ ▸ hc with h1 | h1
            · exact ⟨true, fun d m => List.all_eq_true.mp h1 d m⟩
            · exact ⟨false, fun d m => List.all_eq_true.mp h1 d m⟩
          obtain ⟨t, ht⟩ := hall
          have e := Rs.each r
          have hrow : ∀ p ∈ vs'.zip es, RowIs H t p.1 ∧ rowV H p.1 = rowD p.2 := fun p hp => row_v ex (e.zip p hp) (ht p.2 (List.of_mem_zip hp).2)
          refine ⟨vs'.mergeSort (leV H), Rs.ofEach (PySem.W.sort_each e fun p hp q hq => ?_), fun Q hq => ⟨a, vs', t, rfl, .of (ex _ _ h).is, fun x m => ?_, hq⟩⟩
          · show decide (rowV H p.1 ≤ rowV H q.1) = decide (rowD p.2 ≤ rowD q.2)
            rw [(hrow p hp).2, (hrow q hq).2]
          · obtain ⟨i, hi, hx⟩ := List.mem_iff_getElem.mp m
            have hl := e.length
            have hp : (x, es[i]'(by omega)) ∈ vs'.zip es := by
              refine List.mem_iff_getElem.mpr ⟨i, by rw [List.length_zip]; omega, ?_⟩
              rw [List.getElem_zip, hx]
            exact (hrow _ hp).1
    · cases q
  · cases q
theorem rl_sortA : RL mg (rSortA K) lSortA := by
  intro X H vs ds d ex rs q
  unfold lSortA at q
  split at q
  · rename_i e qe
    cases q
    obtain ⟨ws, h1, h2⟩ := rl_sorted (K := K) X H vs ds d ex rs qe
    exact ⟨ws, h1, fun Q hq => .inl (h2 Q hq)⟩
  · obtain ⟨ws, h1, h2⟩ := rl_sortR (K := K) X H vs ds d ex rs q
    exact ⟨ws, h1, fun Q hq => .inr (h2 Q hq)⟩
end
theorem lSortA_ints (ns : List Int) : lSortA [.lst (ns.map Dat.int)] = lSorted [.lst (ns.map Dat.int)] := by
  unfold lSortA
  cases q : lSorted [.lst (ns.map Dat.int)] with
  | some e => rfl
  | none => simp [lSorted, intsD_map] at q
end LS

/-! LS5: list.index of data of any depth. -/
namespace LS
open PySem PySem.Spec
open PyProof.Rows L2
variable [TabI]
def idxD (d : Dat) : List Dat → Option Nat
  | [] => none
  | z :: r => if eqvD z d = true then some 0 else (idxD d r).map (· + 1)
def oIndexR : Op
  | [.lst ds, d] => if okDs ds 8 && okD d 8 then (idxD d ds).map fun j => .int (j : Nat) else none
  | _ => none
theorem idxD_some {d : Dat} : ∀ {ds : List Dat} {j : Nat}, idxD d ds = some j → (∃ z, ds[j]? = some z ∧ eqvD z d = true) ∧ ∀ m, m < j → ∀ z, ds[m]? = some z → eqvD z d = false
  | [], j, h => nomatch h
  | n :: r, j, h => by
    unfold idxD at h
    split at h
    · rename_i e
      cases h
      exact ⟨⟨n, rfl, e⟩, fun m hm => absurd hm (Nat.not_lt_zero _)⟩
    · rename_i ne
      cases q : idxD d r with
      | none => rw [q] at h; cases h
      | some i =>
        rw [q] at h
        cases h
        obtain ⟨⟨z, a1, a2⟩, b⟩ := idxD_some q
        refine ⟨⟨z, by simpa using a1, a2⟩, fun m hm z hz => ?_⟩
        cases m with
        | zero =>
          cases Option.some.inj hz
          simpa using ne
        | succ m => exact b m (Nat.lt_of_succ_lt_succ hm) z (by simpa using hz)
theorem toPys_at : ∀ {ds : List Dat} {i : Nat}, (toPys ds)[i]? = (ds[i]?).map toPy
  | [], i => by simp [toPys]
  | d :: ds, 0 => by simp [toPys]
  | d :: ds, i + 1 => by
    have := toPys_at (ds := ds) (i := i)
    simpa [toPys] using this
theorem okDs_at {n : Nat} : ∀ {ds : List Dat} {i : Nat} {d : Dat}, okDs ds n = true → ds[i]? = some d → okD d n = true
  | [], i, d, _, h => by simp at h
  | z :: ds, 0, d, o, h => by
    simp only [okDs, Bool.and_eq_true] at o
    have := Option.some.inj (by simpa using h)
    rw [← this]
    exact o.1
  | z :: ds, i + 1, d, o, h => by
    simp only [okDs, Bool.and_eq_true] at o
    exact okDs_at o.2 (by simpa using h)
section
variable {mg : Str → Option Value} {E : XK} {K : PySem.W.Frag}
theorem ri_indexR : RI mg (fun vs H Q => ∀ x xs, vs = x :: xs → rIndexD K x xs H Q) oIndexR := fun X H vs ds d ex rs q => by
  unfold oIndexR at q
  split at q
  · rename_i es d0
    split at q
    · rename_i ok
      rw [Bool.and_eq_true] at ok
      cases hj : idxD d0 es with
      | none => rw [hj] at q; cases q
      | some j =>
        rw [hj] at q
        cases q
        cases rs with
        | cons r rr =>
          cases rr with
          | cons r2 rr =>
            cases rr
            have ok2 : okD (.lst es) 9 = true := by simpa [okD] using ok.1
            obtain ⟨⟨z, a1, a2⟩, b⟩ := idxD_some hj
            have dl := dp_of (K := K) 9 (r.mono ex) ok2
            refine ⟨_, .int _, fun Q hQ x xs hx => ?_⟩
            cases hx
            cases r with
            | lst ha rl =>
              refine ⟨_, _, toPy d0, toPys es, j, toPy z, rfl, rfl, dl, dp_of 8 (r2.mono ex) ok.2, shaped_of (d := .lst es) ok2 (by decide), shaped_of ok.2 (by decide), ?_, ?_, fun m z' hm hz => ?_, hQ⟩
              · rw [toPys_at, a1]
                rfl
              · rw [eqv_of z d0 8 8 (okDs_at ok.1 a1) ok.2]
                exact a2
              · rw [toPys_at] at hz
                cases hq : es[m]? with
                | none => rw [hq] at hz; cases hz
                | some y =>
                  rw [hq] at hz
                  cases hz
                  rw [eqv_of y d0 8 8 (okDs_at ok.1 hq) ok.2]
                  exact b m hm y hq
    · cases q
  · cases q
end
end LS

/-! LS6: lambdas without parameters handed to a def that asks them under a try. -/
namespace LS
open PySem PySem.Spec
open PyProof.Rows L2
variable [TabI]
/-! ### what holds at one start -/
def SEa (mg : Str → Option Value) (E : XK) (H0 : Hp) (te : TE) (fe : FE) : Prop := ∀ G H σ e fp Q, Stt mg H0 G H σ e fp → Pe mg E H0 G H Q (fe e) → te σ H Q
def SSa (mg : Str → Option Value) (E : XK) (H0 : Hp) (ts : TS) (fs : FS) : Prop := ∀ G H σ e fp D, Stt mg H0 G H σ e fp → Ps mg E H0 G D (fs e) → ts D σ H
/-- what an ask yields -/
def PeD (mg : Str → Option Value) (E : XK) (HZ : Hp) (Q : VK) : Re Dat → Prop
  | .no => False
  | .er c => ∀ C H', mg c = some (.ref C) → Ex HZ H' → TB HZ H' → E (.ref C) none H'
  | .ok d => ∀ v H', Ex HZ H' → TB HZ H' → R mg H' v d → Q v H'
def tAsk (mg : Str → Option Value) (f : Addr) (H1 : Hp) (r : Re Dat) (E : XK) : TE := fun σ HZ Q => σ[0]? = some (some (.ref f)) ∧ Ex H1 HZ ∧ TB H1 HZ ∧ PeD mg E HZ Q r
def fAsk (f : Nat) (r : Re Dat) : FE := fun e => match e[(0 : Nat)]? with
  | some (some (.leaf _ (.adr f'))) => if f' = f then (match r with | .no => .no | .er c => .er c | .ok d => .ok (.leaf 2 d)) else .no
  | _ => .no
section
variable {mg : Str → Option Value} {E : XK} {K : PySem.W.Frag} {H0 G H G' H' : Hp} {σ : L2.St} {e : Env} {fp : List Addr} {D : Ends}
theorem SS.at {t : TS} {f : FS} (h : SS mg E t f) : SSa mg E H0 t f := fun G H σ e fp D => h H0 G H σ e fp D
theorem sa_seq {t u : TS} {a b : FS} (h1 : SSa mg E H0 t a) (h2 : SSa mg E H0 u b) : SSa mg E H0 (tSeq t u) (sSeq a b) := by
  intro G H σ e fp D st h
  refine h1 G H σ e fp _ st ?_
  unfold sSeq at h
  cases q : a e with
  | no => rw [q] at h; exact h.elim
  | er c => rw [q] at h; exact h
  | ok o =>
    rw [q] at h
    cases o with
    | nx e1 => exact fun σ' G' H' fp' x st' => h2 G' H' σ' e1 fp' D st' (Ps.up x h)
    | rt e1 t => exact h
    | bk e1 => exact h
    | ct e1 => exact h
theorem se_ask {f : Addr} {r : Re Dat} : SEa mg E H0 (tAsk mg f H0 r E) (fAsk f r) := by
  intro G H σ e fp Q st h
  unfold fAsk at h
  split at h
  · rename_i k f' hf
    split at h
    · rename_i ef
      subst ef
      refine ⟨err_at st hf, st.h0.trans st.gh, st.tb.1, ?_⟩
      cases r with
      | no => exact h.elim
      | er c => exact fun C H' m x tb => h C G H' m ⟨tb, x, Ex.refl _, st.gh.trans x, fun p u a b => by rw [a] at b; cases b⟩
      | ok d => exact fun v H' x tb rv => h v G H' [] ⟨tb, x, Ex.refl _, st.gh.trans x, fun p u a b => by rw [a] at b; cases b⟩ (.leaf rv) Frs.nil
    · exact h.elim
  · exact h.elim
theorem sa_try {s : Str} {tab : List (Str × Bool)} {n i : Nat} {te : XK → TE} {fe : FE} {th : Addr → Addr → Str → TS} {fh : Nat → Str → FS} (T : TryOk K mg s tab) (hi : i < n) (he : ∀ E, SEa mg E H0 (te E) fe) (hh : ∀ (a C : Addr) (c : Str) (E : XK), mg c = some (.ref C) → tab.lookup c = some true → SS mg E (th a C c) (fh a c))
    (ind : ∀ a c, hwp i (fh a c (errE n i a)) = hwp i (fh 0 c (errE n i 0))) : SSa mg E H0 (tTryX K mg s tab n i te th) (sTry tab n i fe fh) := by
  obtain ⟨S, gS, ok⟩ := T.ex
  intro G H σ e fp D st h
  refine ⟨S, gS, he _ G H σ e fp _ st ?_⟩
  unfold sTry at h
  cases q : fe e with
  | no => rw [q] at h; exact h.elim
  | ok t =>
    rw [q] at h
    exact fun v G1 H1 f g o r => h σ G1 H1 fp g.gg (st.grow g)
  | er c =>
    rw [q] at h
    have h1 : Ps mg E H0 G D (if tab.lookup c = some true then hwp i (fh 0 c (errE n i 0)) else .no) := h
    split at h1
    case isFalse => exact h1.elim
    rename_i hl
    intro C G1 H1 hc g σ' hn
    refine ⟨true, ok c C hl hc, fun _ a na => ⟨C, c, rfl, rfl, hc, hl, ?_⟩, fun z => nomatch z⟩
    rw [← ind a c] at h1
    have st1 := st.grow g
    have s0 := sl_none (mg := mg) (G := G1) (H := H1) (N := nw H0 G1) σ'
    rw [hn] at s0
    obtain ⟨fp', s1, n1, b1⟩ := s0.set (i := i) (v := .ref a) (t := .leaf 0 (.adr a)) (f := []) (.leaf (.adr a)) (by simp [kdT]) (by rw [List.length_replicate]; exact hi) (fun p m => nomatch m) List.nodup_nil List.nodup_nil
    have stE : Stt mg H0 G1 H1 (σ'.set i (some (.ref a))) (errE n i a) fp' := ⟨st1.tb, st1.h0, st1.gh, s1, n1, fun p m => by rcases b1 p m with z | z <;> exact nomatch z⟩
    refine hh a C c (fun _ _ _ => False) hc hl H0 G1 H1 _ _ fp' _ stE ?_
    cases q2 : fh a c (errE n i a) with
    | no => rw [q2] at h1; exact h1.elim
    | er x => rw [q2] at h1; exact h1.elim
    | ok o =>
      rw [q2] at h1
      cases o with
      | nx e2 =>
        intro σ2 G2 H2 fp2 x2 st2
        obtain ⟨fp3, st3, _⟩ := st2.non i none
        exact h1 _ G2 H2 fp3 (g.gg.trans x2) st3
      | rt e2 t =>
        intro σ2 v G2 H2 fp2 f x2 st2 o nd out
        obtain ⟨fp3, st3, sub3⟩ := st2.non i none
        exact h1 _ v G2 H2 fp3 f (g.gg.trans x2) st3 o nd fun p m => ⟨(out p m).1, fun z => (out p m).2 (sub3 p z)⟩
      | bk e2 => exact h1.elim
      | ct e2 => exact h1.elim
end
theorem ew_takes {X : Cx} {W : WX} (tk : Takes X W) : Takes X (fun c d σ H => σ.length = X.N.length → W c d σ H) := fun u s' ⟨a, B, sI, pins, σ, H, cls, d, e, I, nb, up, sky, na, os, ag, w⟩ =>
  tk u s' ⟨a, B, sI, pins, σ, H, cls, d, e, I, nb, up, sky, na, os, ag, w I.len⟩
/-- ps_tryX, what is let out told by Takes -/
theorem ps_tryT {X : Cx} {mg : Str → Option Value} {K : PySem.W.Frag} {s m : Str} {i : Nat} {tab : List (Str × Bool)} {e : Expr} {b₀ : Stmt} {suite : List Stmt} {te : XK → TE} {th : Addr → Addr → Str → TS} {ep np pos pos' : Pos} (T : TryOk K mg s tab) (hN : X.N.Nodup) (hi : X.N[i]? = some m) (hln : X.env.kindOf m = some .local) (hg : Gl X s)
    (hb : ∀ (E : XK) (pn : List (Addr × Obj)) (xe : Value → Shared → Prop) (W : WX), Takes (X.tr pn xe) W → (∀ cls d σ H, E cls d H → W cls d σ H) → PE (X.tr pn xe) e (te E))
    (hsu : ∀ (a : Addr) (oe : Obj) (C : Addr) (c : Str) (pn : List (Addr × Obj)), mg c = some (.ref C) → tab.lookup c = some true → Zc (.ref C) none oe → (∃ vs, oe.data = .fields vs) → PSs (X.suite a ((a, oe) :: pn)) (b₀ :: suite) (th a C c))
    (hs : X.stack = X.env :: X.outer := by rfl) (hf : X.env.frame = some X.env.locals := by rfl) (hdb : (s == ("__debug__" : Str)) = false := by decide) (z3 : X.K = K := by rfl) (z4 : X.mg = mg := by rfl)
    (hsw : swapsWith e none ep.line X.env = pure false := by rfl) : PS X (.Try [.Expr e ep] [.ExceptHandler (some (.Name s np)) (some m) (b₀ :: suite) pos'] [] [] pos) (tTryX K mg s tab X.N.length i te th) := by
  subst z3 z4
  obtain ⟨S, gS, _⟩ := T.ex
  have q := ps_try_as (pos := pos) (np := np) (pos' := pos') (Wout := fun _ _ _ _ => False) (c := .ref S) (tb := fun W => tDrop (te (EW X.N.length W))) (ts := tsTry X.mg tab th) hs hf hN hi hln ⟨hg, hdb, .inl gS⟩ takes_no
    (fun W pn xe tk _ => pss_one (ps_expr (hb _ pn xe _ (ew_takes tk) (fun cls d σ H h hl => h σ hl)) hsw))
    (fun a oe cls d pn hz hf => ⟨fun pins sh τ Hh Dn inv h => by
      obtain ⟨C, c, rfl, rfl, hc, hl, h⟩ := h
      exact (hsu a oe C c pn hc hl hz hf).run pins sh τ Hh Dn inv h⟩)
  refine ⟨fun pn sh τ Hh D inv h => ?_⟩
  obtain ⟨S', e1, h⟩ := h
  rw [gS] at e1
  cases e1
  exact q.run pn sh τ Hh D inv h
/-! ### the making of a lambda: the maker's table may grow, all else stays -/
section
variable {X : Cx} {pins : List (Addr × Obj)} {σ : L2.St} {H : Hp} {s : Shared}
theorem lam_mk {c P : Addr} {params : Arguments} {body : Expr} {scope : Scope} {pos : Pos} {E Q : Value → Shared → Prop} (I : Inv X pins σ H s) (tb : LamX.TabB X.base X.mg c P) (hcode : X.env.code = .ref c)
    (ht : LamX.TabS H P (X.env.qual ++ "<lambda>")) (hu : ∀ p ∈ TabI.ts, p.1 = P → p.2 = X.env.qual ++ "<lambda>") (hdef : defaultsOf params X.env = ([], [])) (hfree : ∀ y ∈ scope.names, y.2 = .free → ∃ c, X.env.cells.lookup y.1 = some c)
    (h : ∀ (f c' : Addr) (pm ctv : Value) (H1 : Hp) (s' : Shared), Inv X pins σ H1 s' → Ex H H1 → TB H H1 →
      s'.heap.get? f = some (PySem.W.kla_obj "<lambda>" (X.env.qual ++ "<lambda>") params body scope (cloFrom X.env.cells scope.names []) pm c' ctv) → H1 f = none → f ∉ frs X.stack → H1 c' = some (LamX.CodeO c' (X.env.qual ++ "<lambda>")) → Q (.ref f) s') :
    wpAny (model X.prog X.w) X.A (eval (.Lambda params body scope pos) X.env) Q E s := by
  obtain ⟨ps, hP, hok, hall⟩ := ht
  have inMem : s.heap.get? P = some { cls := .none, data := .fields ps } := I.hok P _ hP
  have bPt : s.heap.BuiltinsAt X.mg P := tb.bm.keeps I.bk
  have away : ∀ f, s.heap.objs.size ≤ f → f ∉ frs X.stack := fun f hf z => (List.mem_cons.mp (I.stkSub _ z)).elim
    (fun e => Nat.lt_irrefl _ (Nat.lt_of_lt_of_le (e ▸ I.lt) hf)) (I.nofs hf)
  refine PySem.W.kla_eval hdef ?_
  cases hc : codeAmong pos ps.toList with
  | some cv =>
    obtain ⟨c', e, hco⟩ := hall pos cv hc
    subst e
    exact PySem.W.kla_makeFunctionHit (mg := X.mg) (c := c) (P := P) (ps := ps) (closure_ok hfree) I.ok.glob (I.mod.glob.keeps I.bk) hcode (tb.code.keeps I.bk) inMem hok hc bPt fun ctv h' tk hx hsz =>
      h h'.objs.size c' _ ctv H _ (I.kept fun b o e => Heap.get?_push_of_some _ (hx b o e)) (Ex.refl H) (TB.refl H) (Heap.get?_push_size _ rfl) (I.hok.fresh hsz) (away _ hsz) hco
  | none =>
    refine PySem.W.kla_makeFunction (mg := X.mg) (c := c) (P := P) (ps := ps) (closure_ok hfree) I.ok.glob (I.mod.glob.keeps I.bk) hcode (tb.code.keeps I.bk) inMem hok hc tb.gP bPt fun c' ctv h' tk hx hge hlt hrec htb => ?_
    obtain ⟨c2, oc, vs, t, e2, hoc, hd, hv⟩ := hrec
    cases e2
    have big : s.heap.objs.size ≤ h'.objs.size := Nat.le_trans hge (Nat.le_of_lt hlt)
    have nC : H c' = none := I.hok.fresh hge
    have I1 := LamX.inv_table (t' := tk) (more := #[rawInt pos.line, rawInt pos.col, .ref c']) (h' := h'.push (PySem.W.kla_obj "<lambda>" (X.env.qual ++ "<lambda>") params body scope (cloFrom X.env.cells scope.names []) ((X.mg "__name__").getD .none) c' ctv)) I hP
      (fun b o hb e => Heap.get?_push_of_some _ (hx b o hb e)) (Heap.get?_push_of_some _ htb) hge ⟨oc, vs, t, Heap.get?_push_of_some _ hoc, hd, hv⟩
    have atP : upd (upd H P (.tbl (ps ++ #[rawInt pos.line, rawInt pos.col, .ref c']))) c' (LamX.CodeO c' (X.env.qual ++ "<lambda>")) P = some (.tbl (ps ++ #[rawInt pos.line, rawInt pos.col, .ref c'])) := by
      rw [upd_ne (ne_of_none hP nC), upd_same]
    have off : ∀ b u, H b = some u → b ≠ P → upd (upd H P (.tbl (ps ++ #[rawInt pos.line, rawInt pos.col, .ref c']))) c' (LamX.CodeO c' (X.env.qual ++ "<lambda>")) b = some u := fun b u e n => by
      rw [upd_ne (ne_of_none e nC), upd_ne n]
      exact e
    have code : ∀ b k, H b = some (LamX.CodeO b k) → b ≠ P := fun b k e z => LamX.codeO_ne ps (Option.some.inj (e.symm.trans (z ▸ hP)))
    have lst : (ps ++ #[rawInt pos.line, rawInt pos.col, .ref c']).toList = ps.toList ++ [rawInt pos.line, rawInt pos.col, .ref c'] := by simp
    refine h h'.objs.size c' _ ctv _ _ I1 (fun b o e => ?_) (fun p hp t => ?_) (Heap.get?_push_size _ rfl) ?_ (away _ big) upd_same
    · by_cases hb : b = P
      · subst hb
        rw [hP] at e
        cases e
        exact .inr ⟨ps, _, rfl, atP⟩
      · exact .inl (off b o e hb)
    · by_cases hb : p.1 = P
      · rw [hu p hp hb, hb]
        refine ⟨_, atP, by rw [lst]; exact PySem.TriplesOk_snoc _ _ _ _ hok, fun p' cv hcv => ?_⟩
        rw [lst] at hcv
        rcases LamX.among_app _ hok hcv with z | z
        · obtain ⟨c0, e1, e2⟩ := hall p' cv z
          exact ⟨c0, e1, off _ _ e2 (code _ _ e2)⟩
        · exact ⟨c', z, upd_same⟩
      · obtain ⟨qs, a1, a2, a3⟩ := t
        refine ⟨qs, off _ _ a1 hb, a2, fun p' cv hcv => ?_⟩
        obtain ⟨c0, e1, e2⟩ := a3 p' cv hcv
        exact ⟨c0, e1, off _ _ e2 (code _ _ e2)⟩
    · have n1 : h'.objs.size ≠ c' := Nat.ne_of_gt hlt
      have n2 : h'.objs.size ≠ P := Nat.ne_of_gt (Nat.lt_of_lt_of_le (Heap.lt_size inMem) big)
      rw [upd_ne n1, upd_ne n2]
      exact I.hok.fresh big
end
/-! ### the def that asks -/
def Acts (P : Program) (w : World) (K : PySem.W.Frag) (mg : Str → Option Value) (base : Heap) (j : Nat) (g f : Addr) (A : Around) (outer : List PySem.Env) (s : Shared) (H1 : Hp) (r : Re Dat) : Prop :=
  ∀ (N : List Str) (qg : Str) (sg : Scope) (cdg : Value) (a : Str) (Eg : XK) (pn : List (Addr × Obj)) (xe : Value → Shared → Prop) (E' : XK) (W : WX) (p1 p2 : Pos),
    Takes ((cxOf (L2.CX P w) P w K mg base N qg sg g cdg A outer s H1 Eg).tr pn xe) W → (∀ cls d σ H, E' cls d H → W cls d σ H) → Room (j + 1) (A.deeper (envOfC qg sg s.heap.objs.size g cdg)) → N[0]? = some a → Vis sg a → (a == ("__debug__" : Str)) = false → (a == ("__classdict__" : Str)) = false →
    PE ((cxOf (L2.CX P w) P w K mg base N qg sg g cdg A outer s H1 Eg).tr pn xe) (.Call (.Name a p1) [] [] p2) (tAsk mg f H1 r E')
structure Ask (P : Program) (w : World) (K : PySem.W.Frag) (mg : Str → Option Value) (base : Heap) (x : Str) (j k : Nat) (F : Re Dat → Re T) : Prop where
  ex : ∃ g, mg x = some (.ref g) ∧ PySem.W.keepIn K (.ref g) = true ∧ ∀ (A : Around) (outer : List PySem.Env) (s : Shared) (H1 : Hp) (Q : VK) (E : XK) (f : Addr) (r : Re Dat), Room k A → Env0 P w K mg base A outer s H1 → LamX.Tabs TabI.ts H1 →
    Acts P w K mg base j g f A outer s H1 r → Pe mg E H1 H1 H1 Q (F r) → codeAny (model P w) A (.call (.ref g) ⟨[.ref f], []⟩) (CR (L2.CX P w) outer P w H1 s Q E) s
section
variable {w : World} {P : Program} {K : PySem.W.Frag} {mg : Str → Option Value} {base : Heap}
theorem Fun.okAsk {x a : Str} {st : Stmt} {g : Addr} {fd : FuncData} {N : List Str} {j k n : Nat} {fs : Nat → Re Dat → FS} {F : Re Dat → Re T} (Fu : Fun K x x st g fd) (hm : mg x = some (.ref g)) (Bn : Binds K fd [a] []) (S : FnScope N [a] (defScope st)) (hn : N.length = n)
    (hb : ∀ (cdv : Value) (A : Around) (outer : List PySem.Env) (s : Shared) (H : Hp) (E : XK) (f : Addr) (r : Re Dat), Room k (A.deeper (envOfC x (defScope st) s.heap.objs.size g cdv)) → Acts P w K mg base j g f A outer s H r →
      ∃ t, PSs (cxOf (L2.CX P w) P w K mg base N x (defScope st) g cdv A outer s H E) (defBody st) t ∧ SSa mg E H t (fs f r))
    (hF : ∀ f r, runF n 1 (fs f r) [.adr f] = F r) : Ask P w K mg base x j (k + 1) F := by
  refine ⟨g, hm, Fu.kp, fun A outer s H1 Q E f r hr e0 tb act h => ?_⟩
  obtain ⟨oc, od, kV, doc, pm, an, cdv, ct, osl, rfl, lk, hcd⟩ := Fu.ex
  have KX : K.In s.heap := e0.mod.kin.keeps fun b o e => (e0.bs b o e).1
  refine LamX.run_ofS (N := N) (ps := [a]) (us := [.ref f]) (vs := [.ref f]) lk hcd S hr e0 (Bn s [.ref f] KX rfl) (.cons rfl .nil) rfl fun hr' => ?_
  obtain ⟨t, hps, hss⟩ := hb cdv A outer s H1 E f r hr' act
  refine ⟨t, hps, hss H1 H1 _ _ [] _ (stt_start tb hn (.cons (.adr f) .nil)) ?_⟩
  rw [← hF f r] at h
  exact run_post rfl h
end
/-! ### the def that makes -/
structure FunC (K : PySem.W.Frag) (x qual : Str) (st : Stmt) (f : Addr) (fd : FuncData) (c : Addr) : Prop where
  ex : ∃ (oc : Value) (od : Option Addr) (kV doc pm : Value) (an : Option Addr) (ct : Value) (osl : Array (Option Value)),
    fd = PySem.W.fnOf x qual (defArgs st) (defBody st) (defScope st) .none kV doc pm an (.ref c) ct ∧ K.lookup f = some ⟨oc, od, .func fd, osl⟩ ∧ PySem.W.codeIn K (.ref c) qual = true
theorem func_mk {K : PySem.W.Frag} {x qual : Str} {st : Stmt} {f c : Addr} {oc : Value} {od an : Option Addr} {osl : Array (Option Value)} {kV doc pm ct : Value} (l : K.lookup f = some ⟨oc, od, .func (PySem.W.fnOf x qual (defArgs st) (defBody st) (defScope st) .none kV doc pm an (.ref c) ct), osl⟩)
    (h : PySem.W.codeIn K (.ref c) qual = true) : FunC K x qual st f (PySem.W.fnOf x qual (defArgs st) (defBody st) (defScope st) .none kV doc pm an (.ref c) ct) c := ⟨⟨oc, od, kV, doc, pm, an, ct, osl, rfl, l, h⟩⟩
section
variable {w : World} {P : Program} {K : PySem.W.Frag} {mg : Str → Option Value} {base : Heap}
theorem FunC.okF {x qual : Str} {st : Stmt} {f c : Addr} {fd : FuncData} {N ps : List Str} {k n p : Nat} {fs : FS} (F : FunC K x qual st f fd c) (S : FnScope N ps (defScope st)) (hn : N.length = n) (hp : ps.length = p)
    (hb : ∀ (A : Around) (outer : List PySem.Env) (s : Shared) (H : Hp) (E : XK), Room k (A.deeper (envOfC qual (defScope st) s.heap.objs.size f (.ref c))) →
      ∃ t, PSs (cxOf (L2.CX P w) P w K mg base N qual (defScope st) f (.ref c) A outer s H E) (defBody st) t ∧ SS mg E t fs) :
    FnOk P w K mg base (L2.CX P w) (k + 1) f fd ps (spF mg (runF n p fs)) := by
  obtain ⟨oc, od, kV, doc, pm, an, ct, osl, rfl, lk, hcd⟩ := F.ex
  refine fn_of lk hcd S (fun vs H Q E h => ?_) (fun A outer s H vs Q E hr h => ?_)
  · obtain ⟨tb, ds, r, h⟩ := h
    rw [r.length, run_len h, hp]
  · obtain ⟨tb, ds, r, h⟩ := h
    obtain ⟨t, hps, hss⟩ := hb A outer s H E hr
    exact ⟨t, hps, hss H H H _ _ [] _ (stt_start tb hn r) (run_post (run_len h) h)⟩
/-- in a lambda's body -/
theorem passLam (X : Cx) (scope : Scope) (f c : Addr) (A : Around) (outer : List PySem.Env) (s : Shared) (H : Hp) (E : XK) : Passes (L2.CX (LamX.lamCx X A outer s H E scope f c).prog (LamX.lamCx X A outer s H E scope f c).w) (LamX.lamCx X A outer s H E scope f c) E := passes_call (takes_of rfl rfl rfl rfl) fun _ _ _ _ h => h
end
def tLamc (mg : Str → Option Value) (F : Re Dat → Re T) (t : XK → TE) (E : XK) : TE := fun σ H Q => LamX.Tabs TabI.ts H ∧ ∀ H1, Ex H H1 → TB H H1 → ∃ r : Re Dat, Pe mg E H1 H1 H1 Q (F r) ∧ ∀ E' HZ Q', Ex H1 HZ → TB H1 HZ → PeD mg E' HZ Q' r → t E' σ HZ Q'
def fLam (F : Re Dat → Re T) (fe : FE) : FE := fun e => match fe e with
  | .no => .no
  | .er c => F (.er c)
  | .ok t => F (.ok (datT t))
theorem se_lamc {mg : Str → Option Value} {E : XK} {F : Re Dat → Re T} {t : XK → TE} {fe : FE} (kd : ∀ r t, F r = .ok t → kdT t = 0) (hb : ∀ E', SE mg E' (t E') fe) : SE mg E (tLamc mg F t E) (fLam F fe) := by
  intro H0 G H σ e fp Q st h
  refine ⟨st.tb.2, fun H1 x tb => ?_⟩
  have gr : Grow G H G H1 := ⟨tb, x, Ex.refl _, st.gh.trans x, fun p u a b => by rw [a] at b; cases b⟩
  have pst : ∀ r, Pe mg E H0 G H Q (F r) → Pe mg E H1 H1 H1 Q (F r) := fun r k => call_post (F := fun _ => F r) (ds := []) (fun _ t q => kd r t q) st.h0 st.gh gr k
  have ev : ∀ E' HZ Q', Ex H1 HZ → TB H1 HZ → Pe mg E' H0 G HZ Q' (fe e) → t E' σ HZ Q' := fun E' HZ Q' x2 tb2 k =>
    hb E' H0 G HZ σ e fp Q' (st.grow (gr.trans ⟨tb2, x2, Ex.refl _, gr.gh.trans x2, fun p u a b => by rw [a] at b; cases b⟩)) k
  unfold fLam at h
  cases q : fe e with
  | no => rw [q] at h; exact h.elim
  | er c =>
    rw [q] at h
    refine ⟨.er c, pst _ h, fun E' HZ Q' x2 tb2 k => ev E' HZ Q' x2 tb2 ?_⟩
    rw [q]
    exact fun C G2 H2 m g3 => k C H2 m g3.hh g3.tb
  | ok u =>
    rw [q] at h
    refine ⟨.ok (datT u), pst _ h, fun E' HZ Q' x2 tb2 k => ev E' HZ Q' x2 tb2 ?_⟩
    rw [q]
    exact fun v G2 H2 f g3 o rf => k v H2 g3.hh g3.tb (o.now nw_sub g3.gh)
section
variable {X : Cx}
/-- x(lambda: body) -/
theorem pe_lamc {sc : Scope} {P : Program} {w : World} {K : PySem.W.Frag} {mg : Str → Option Value} {base : Heap} {x q : Str} {c Pt : Addr} {j k : Nat} {F : Re Dat → Re T} {E : XK} {params : Arguments} {body : Expr} {scope : Scope} {t : XK → TE} {p lpos pos : Pos}
    (G : Ask P w K mg base x j k F) (hr : Room k X.A) (hg : Gl X x) (hx : Passes (L2.CX X.prog X.w) X E) (tb : LamX.TabB base mg c Pt) (hcode : X.env.code = .ref c) (hq : X.env.qual ++ "<lambda>" = q) (hmT : (Pt, q) ∈ TabI.ts) (hu : ∀ p ∈ TabI.ts, p.1 = Pt → p.2 = q)
    (L : LamX.LamS sc scope) (hbody : ∀ (A : Around) (outer : List PySem.Env) (s : Shared) (H : Hp) (E : XK) (f c' : Addr), Room j (A.deeper (LamX.lamEnv X scope s.heap.objs.size f c')) → Passes (L2.CX (LamX.lamCx X A outer s H E scope f c').prog (LamX.lamCx X A outer s H E scope f c').w) (LamX.lamCx X A outer s H E scope f c') E → PE (LamX.lamCx X A outer s H E scope f c') body (t E))
    (hdef : defaultsOf params X.env = ([], []) := by rfl)
    (hbind : ∀ (q : Str) (cl : List (Str × Addr)) (pm cv ctv : Value), bindArgs (PySem.W.kla_fn "<lambda>" q params body scope cl pm cv ctv) ⟨[], []⟩ = pure [] := by intros; rfl)
    (hdb : (x == ("__debug__" : Str)) = false := by decide) (hsc : X.env.scope = sc := by rfl)
    (z1 : X.prog = P := by rfl) (z2 : X.w = w := by rfl) (z3 : X.K = K := by rfl) (z4 : X.mg = mg := by rfl) (z5 : X.base = base := by rfl) :
    PE X (.Call (.Name x p) [.Lambda params body scope lpos] [] pos) (tLamc mg F t E) := by
  subst z1 z2 z3 z4 z5 hq hsc
  obtain ⟨g, hm, hk, run⟩ := G.ex
  refine ⟨fun pins s σ H Q I h => ?_⟩
  obtain ⟨hT, h⟩ := h
  refine wpAny_Call_Name_kw (ld_glob I hg hm ?_ hdb)
  refine PySem.W.callWith_K (h₀ := X.base) I.ok.mod.kin hk ?_ (by rfl) (by rfl)
  show wpAny _ _ (spliced ((false, eval (.Lambda params body scope lpos) X.env) :: backTo pos (starEach [] X.env))) _ _ s
  refine Calls.spliced_cons (lam_mk (P := Pt) I tb hcode (hT (Pt, X.env.qual ++ "<lambda>") hmT) hu hdef (L.has I.ok) fun f c' pm' ctv H1 s' I1 eN tN hf hfn hfr hco => ?_)
  refine Calls.spliced_nil ⟨I1.kIn, ?_⟩
  obtain ⟨r, h1, h2⟩ := h H1 eN tN
  have rc : codeAny (model X.prog X.w) X.A (.call (.ref g) ⟨[.ref f], []⟩) (CR (L2.CX X.prog X.w) X.stack X.prog X.w H1 s' Q E) s' := by
    refine run X.A X.stack s' H1 Q E f r hr I1.env0 (fun p m => tN p m (hT p m)) (fun N qg sg cdg a Eg pn xe E' W p1 p2 tk hW hr' hN hva hd hcd => ?_) h1
    have pa := LamX.pe_act (CXg := L2.CX X.prog X.w) (Eg := Eg) (Ng := N) (qg := qg) (sg := sg) (g := g) (cdg := cdg) (p1 := p1) (p2 := p2) (i := 0) (k := j) I1 L hf hfn hfr (hbind _ _ _ _ _) tk hW hr' (fun A outer s H hr2 => hbody A outer s H E' f c' hr2 (passLam X scope _ _ A outer s H E')) hN hva hd hcd
    refine ⟨fun pins2 s2 σ2 HZ Q2 I2 h3 => ?_⟩
    obtain ⟨y1, y2, y3, y4⟩ := h3
    exact pa.run pins2 s2 σ2 HZ Q2 I2 ⟨y1, (y2 _ _ hco).is, h2 E' HZ Q2 y2 y3 y4⟩
  refine wpAny_call (codeAny_mono rc fun r s2 hq => ?_)
  cases r with
  | error e => exact hx pins σ H1 s' e s2 I1 hq
  | ok fl =>
    cases fl with
    | ret u => exact I1.after hq
    | next => exact False.elim hq
    | brk => exact False.elim hq
    | cont => exact False.elim hq
end
/-! ### the end of a law row with tables -/
section
open LamX
/-- what the module's head has left of the tables -/
def TabsIn (q : Program) (K : PySem.W.Frag) (h : Heap) : Prop := ∀ (x : Str) (c P : Addr), ((recsOf q).find? (fun e => e.name == x)).isSome = true → PySem.W.tabIn K x = some (c, P) → PySem.W.CodeHd h c P ∧ h.get? P = some { cls := .none, data := .fields #[] }
theorem walk_T {l : PySem.W.OpenLaw} {n k : Nat} {q : Program} {loose : List Str} {XP : (Str → Option Value) → Heap → Prop} {YP : World → Heap → Prop} {d : DefRec} {K : Params → PySem.W.Frag} {CX : World → CXT} {x : Str}
    (hn : l.most = some n) (hn2 : n ≤ sizeLine) (hdf : d.params.defaults = []) (hr : Room k callerA) (hY : ∀ (w : World) (h : Heap), YP w h → (K w.params).In h)
    (F : ∀ (w : World) (mg : Str → Option Value) (fa : Addr) (h : Heap), TabsIn q (K w.params) h → (K w.params).In h → h.Ns mainGlobals mg → mg d.name = some (.ref fa) → LawAtS l w (K w.params) (CX w) k n x mg fa h)
    (hCX : ∀ (w : World) (H : Hp) (s : Shared) (e : Value) (s' : Shared), CX w [] H s (fun _ _ _ => False) e s' → False) :
    PySem.W.WalkO q loose XP YP l.row.toRowW d [] (fun f vs => PySem.call f vs) := by
  refine Att.attach_callB hn hdf fun w s₀ s₁ mg mb fa o pm cd doc a vs ns G Y ho hd hcd hmg hobj hints hlen hbits hg => ?_
  have KX := hY w _ Y
  have tt : TabsIn q (K w.params) s₁.heap := fun x c P hf ht => by
    obtain ⟨d, hd⟩ := Option.isSome_iff_exists.mp hf
    exact PySem.W.tab_of G.T KX hd ht
  obtain ⟨fd, cs, sp, hT, nT, C, hb, hsp, hF⟩ := F w mg fa _ tt KX G.T.g hmg
  exact law_callTs KX G.T.g G.T.b G.T.builtins G.T.nolimit hg hT nT C G.T.bmain hobj hints (Nat.le_trans hlen hn2) hr hF hb (fun H hH hS => hsp H a ns hlen hbits hH hS) fun H e s' => hCX w H s₁ e s'
end
end LS

/-! LS7: a statement that changes no owned tree of its entry: all is frozen while it runs, and owned again behind it. -/
namespace LS
open PySem PySem.Spec
open PyProof.Rows L2
/-! ### slots that a statement leaves as they are -/
def same (vs : List Nat) (σ σ' : L2.St) : Prop := σ'.length = σ.length ∧ ∀ j, j ∉ vs → σ'[j]? = σ[j]?
theorem same.refl (vs : List Nat) (σ : L2.St) : same vs σ σ := ⟨rfl, fun _ _ => rfl⟩
theorem same.trans {vs : List Nat} {a b c : L2.St} (x : same vs a b) (y : same vs b c) : same vs a c := ⟨y.1.trans x.1, fun j hj => (y.2 j hj).trans (x.2 j hj)⟩
def only (vs : List Nat) (σ : L2.St) (D : Ends) : Ends := ⟨fun σ' H' => same vs σ σ' → D.nx σ' H', D.rt, fun σ' H' => same vs σ σ' → D.bk σ' H', fun σ' H' => same vs σ σ' → D.ct σ' H'⟩
def KpS (vs : List Nat) (ts : TS) : Prop := ∀ D σ H, ts D σ H = ts (only vs σ D) σ H
def KpG (vs : List Nat) (g : TG) : Prop := ∀ x σ H k, g x σ H k = g x σ H fun σ' H' => same vs σ σ' → k σ' H'
theorem only2 {vs : List Nat} {a b : L2.St} (s : same vs a b) (D : Ends) : only vs b (only vs a D) = only vs b D := by
  have e : ∀ k : L2.St → Hp → Prop, (fun σ' H' => same vs b σ' → same vs a σ' → k σ' H') = fun σ' H' => same vs b σ' → k σ' H' := fun k => by
    funext σ' H'
    exact propext ⟨fun h x => h x (s.trans x), fun h x _ => h x⟩
  unfold only
  rw [e, e, e]
theorem kp_next {vs : List Nat} : KpS vs tNext := fun D σ H => propext ⟨fun h _ => h, fun h => h (same.refl vs σ)⟩
theorem kp_ret {vs : List Nat} {te : TE} : KpS vs (tRet te) := fun _ _ _ => rfl
theorem kp_drop {vs : List Nat} {te : TE} : KpS vs (tDrop te) := fun D σ H => by
  have e : ∀ H', D.nx σ H' = (same vs σ σ → D.nx σ H') := fun H' => propext ⟨fun h _ => h, fun h => h (same.refl vs σ)⟩
  show te σ H (fun _ H1 => D.nx σ H1) = te σ H fun _ H1 => same vs σ σ → D.nx σ H1
  congr 1
  funext _ H1
  exact e H1
theorem kp_seq {vs : List Nat} {t u : TS} (h1 : KpS vs t) (h2 : KpS vs u) : KpS vs (tSeq t u) := fun D σ H => by
  show t { D with nx := u D } σ H = t { only vs σ D with nx := u (only vs σ D) } σ H
  rw [h1, h1 { only vs σ D with nx := u (only vs σ D) }]
  congr 1
  have e : ∀ k : L2.St → Hp → Prop, (fun σ' H' => same vs σ σ' → k σ' H') = fun σ' H' => same vs σ σ' → same vs σ σ' → k σ' H' := fun k => by
    funext σ' H'
    exact propext ⟨fun h x _ => h x, fun h x => h x x⟩
  have e2 : (fun σ' H' => same vs σ σ' → u D σ' H') = fun σ' H' => same vs σ σ' → u (only vs σ D) σ' H' := by
    funext σ' H'
    refine propext (forall_congr' fun s => ?_)
    rw [h2 D, h2 (only vs σ D), only2 s]
  unfold only
  simp only [Ends.mk.injEq]
  exact ⟨e2, trivial, e _, e _⟩
theorem kp_if {vs : List Nat} {c : TT} {t u : TS} (h1 : KpS vs t) (h2 : KpS vs u) : KpS vs (tIfS c t u) := fun D σ H => by
  show (c σ H fun b H1 => if b = true then t D σ H1 else u D σ H1) = c σ H fun b H1 => if b = true then t (only vs σ D) σ H1 else u (only vs σ D) σ H1
  congr 1
  funext b H1
  rw [h1 D, h2 D]
theorem kpg_n {vs : List Nat} {i : Nat} (h : i ∈ vs) : KpG vs (gName i) := fun x σ H k => propext ⟨fun q _ => q, fun q => q ⟨by rw [List.length_set], fun j hj => List.getElem?_set_ne fun e => hj (by rw [← e]; exact h)⟩⟩
theorem kp_asg {vs : List Nat} {te : TE} {g : TG} (h : KpG vs g) : KpS vs (tAsg te g) := fun D σ H => by
  show (te σ H fun x H1 => g x σ H1 D.nx) = te σ H fun x H1 => g x σ H1 fun σ' H' => same vs σ σ' → D.nx σ' H'
  congr 1
  funext x H1
  exact h x σ H1 D.nx
theorem kp_for {vs : List Nat} {wi : TI} {g : TG} {tb : TS} (hg : KpG vs g) (hb : KpS vs tb) : KpS vs (tFor wi g tb) := fun D σ H => by
  have key : ∀ (N B : L2.St → Hp → Prop) (σ1 : L2.St), same vs σ σ1 → ∀ x H', (g x σ1 H' fun σ2 H2 => tb { D with nx := N, ct := N, bk := B } σ2 H2) =
      g x σ1 H' fun σ2 H2 => tb { D with nx := fun σ' H' => same vs σ σ' ∧ N σ' H', ct := fun σ' H' => same vs σ σ' ∧ N σ' H', bk := fun σ' H' => same vs σ σ' → B σ' H' } σ2 H2 := fun N B σ1 s x H' => by
    rw [hg, hg x σ1 H' fun σ2 H2 => tb { D with nx := fun σ' H' => same vs σ σ' ∧ N σ' H', ct := fun σ' H' => same vs σ σ' ∧ N σ' H', bk := fun σ' H' => same vs σ σ' → B σ' H' } σ2 H2]
    congr 1
    funext σ2 H2
    refine propext (forall_congr' fun s2 => ?_)
    have s3 := s.trans s2
    rw [hb, hb { D with nx := fun σ' H' => same vs σ σ' ∧ N σ' H', ct := fun σ' H' => same vs σ σ' ∧ N σ' H', bk := fun σ' H' => same vs σ σ' → B σ' H' }]
    have e1 : ∀ k : L2.St → Hp → Prop, (fun σ' H' => same vs σ2 σ' → k σ' H') = fun σ' H' => same vs σ2 σ' → same vs σ σ' ∧ k σ' H' := fun k => by
      funext σ' H'
      exact propext ⟨fun h x => ⟨s3.trans x, h x⟩, fun h x => (h x).2⟩
    have e2 : ∀ k : L2.St → Hp → Prop, (fun σ' H' => same vs σ2 σ' → k σ' H') = fun σ' H' => same vs σ2 σ' → same vs σ σ' → k σ' H' := fun k => by
      funext σ' H'
      exact propext ⟨fun h x _ => h x, fun h x => h x (s3.trans x)⟩
    have ends : only vs σ2 { D with nx := N, ct := N, bk := B } = only vs σ2 { D with nx := fun σ' H' => same vs σ σ' ∧ N σ' H', ct := fun σ' H' => same vs σ σ' ∧ N σ' H', bk := fun σ' H' => same vs σ σ' → B σ' H' } := by
      unfold only
      simp only [Ends.mk.injEq]
      exact ⟨e1 N, trivial, e2 B, e1 N⟩
    rw [ends]
  have keyB : ∀ (N : L2.St → Hp → Prop) (σ1 : L2.St), same vs σ σ1 → ∀ x H', (g x σ1 H' fun σ2 H2 => tb { D with nx := fun σ' H' => same vs σ σ' ∧ N σ' H', ct := fun σ' H' => same vs σ σ' ∧ N σ' H', bk := fun σ' H' => same vs σ σ' → D.nx σ' H' } σ2 H2) =
      g x σ1 H' fun σ2 H2 => tb { D with nx := fun σ' H' => same vs σ σ' ∧ N σ' H', ct := fun σ' H' => same vs σ σ' ∧ N σ' H', bk := D.nx } σ2 H2 := fun N σ1 s x H' => by
    rw [key (fun σ' H' => same vs σ σ' ∧ N σ' H') D.nx σ1 s x H']
    have e : (fun σ' H' => same vs σ σ' ∧ same vs σ σ' ∧ N σ' H') = fun σ' H' => same vs σ σ' ∧ N σ' H' := by
      funext σ' H'
      exact propext ⟨fun h => h.2, fun h => ⟨h.1, h⟩⟩
    rw [e]
  show (wi σ H fun J H1 => _) = wi σ H fun J H1 => _
  congr 1
  funext J H1
  refine propext ⟨fun ⟨W, ⟨m, w0⟩, turn⟩ => ⟨fun i m σ' H' => same vs σ σ' ∧ W i m σ' H', ⟨m, same.refl vs σ, w0⟩, fun i m σ1 H' w => ?_⟩, fun ⟨W, ⟨m, w0⟩, turn⟩ => ⟨fun i m σ' H' => same vs σ σ' ∧ W i m σ' H', ⟨m, same.refl vs σ, w0⟩, fun i m σ1 H' w => ?_⟩⟩
  · rcases turn i m σ1 H' w.2 with ⟨st, q⟩ | ⟨go, N, hN, step⟩
    · exact .inl ⟨st, fun _ => q⟩
    · refine .inr ⟨go, fun σ' H' => same vs σ σ' ∧ N σ' H', fun σ' H' n => ?_, fun x H2 y => ?_⟩
      · obtain ⟨m', a, b⟩ := hN σ' H' n.2
        exact ⟨m', a, n.1, b⟩
      · have q := step x H2 y
        rw [key N D.nx σ1 w.1] at q
        exact q
  · rcases turn i m σ1 H' w.2 with ⟨st, q⟩ | ⟨go, N, hN, step⟩
    · exact .inl ⟨st, q w.1⟩
    · refine .inr ⟨go, fun σ' H' => same vs σ σ' ∧ N σ' H', fun σ' H' n => ?_, fun x H2 y => ?_⟩
      · obtain ⟨m', a, b⟩ := hN σ' H' n.2
        exact ⟨m', a, n.1, b⟩
      · have q : g x σ1 H2 fun σ2 H2 => tb { D with nx := N, ct := N, bk := fun σ' H' => same vs σ σ' → D.nx σ' H' } σ2 H2 := step x H2 y
        rw [key N _ σ1 w.1] at q
        rw [← keyB N σ1 w.1]
        have e : (fun σ' H' => same vs σ σ' → same vs σ σ' → D.nx σ' H') = fun σ' H' => same vs σ σ' → D.nx σ' H' := by
          funext σ' H'
          exact propext ⟨fun h x => h x x, fun h x _ => h x⟩
        rw [e] at q
        exact q
/-! ### frozen and owned again -/
def frzE (e : Env) : Env := e.map (Option.map fun t => .leaf (kdT t) (datT t))
def sBor (vs : List Nat) (fs : FS) : FS := fun e => match fs (frzE e) with
  | .ok (.nx _) => .ok (.nx (wipeE e vs))
  | .ok (.rt e2 t) => .ok (.rt e2 t)
  | .er c => .er c
  | _ => .no
section
variable {mg : Str → Option Value} {N G H N' G' H' : Hp}
mutual
theorem Own.keepX : ∀ {v : V} {t : T} {f : List Addr}, Own mg N G H v t f → kdT t ≤ 1 → (∀ p ∈ f, ∀ o, H p = some o → LeO o (H' p)) → Own mg N G H' v t f
  | _, _, _, .leaf (k := 0) h, _, _ => .leaf h
  | _, _, _, .leaf (k := 1) h, _, _ => .leaf h
  | _, _, _, .leaf (k := k + 2) h, hk, _ => absurd hk (by simp only [kdT]; omega)
  | _, _, _, .lst h r, hk, hp => .lst (hp _ List.mem_cons_self _ h).is (Owns.keepX r (by simpa [kdT] using hk) fun p m => hp p (List.mem_cons_of_mem _ m))
  | _, _, _, .tup h r, hk, hp => .tup (hp _ List.mem_cons_self _ h).is (Owns.keepX r (by simpa [kdT] using hk) fun p m => hp p (List.mem_cons_of_mem _ m))
  | _, _, _, .ins m h l r, hk, hp => .ins m (hp _ List.mem_cons_self _ h).is l (Owns.keepX r (by simpa [kdT] using hk) fun p m => hp p (List.mem_cons_of_mem _ m))
  | _, _, _, .dtt h, hk, hp => .dtt (hp _ List.mem_cons_self _ h).is
theorem Owns.keepX : ∀ {vs : List V} {ts : List T} {f : List Addr}, Owns mg N G H vs ts f → kdTs ts ≤ 1 → (∀ p ∈ f, ∀ o, H p = some o → LeO o (H' p)) → Owns mg N G H' vs ts f
  | _, _, _, .nil, _, _ => .nil
  | _, _, _, .cons h r, hk, hp => .cons (Own.keepX h (by simp only [kdTs] at hk; omega) fun p m => hp p (List.mem_append_left _ m)) (Owns.keepX r (by simp only [kdTs] at hk; omega) fun p m => hp p (List.mem_append_right _ m))
end
theorem sl_frzE [TabI] {H0 G2 : Hp} (e2 : Ex G G2) (e3 : Ex G2 H) : ∀ {σ : L2.St} {e : Env} {fp : List Addr}, Sl mg (nw H0 G) G H σ e fp → (∀ p ∈ fp, G2 p = H p) → (∀ p ∈ fp, nw H0 G2 p = H p) → Sl mg (nw H0 G2) G2 H σ (frzE e) []
  | _, _, _, .n0, _, _ => .n0
  | _, _, _, .no r, a, b => .no (sl_frzE e2 e3 r a b)
  | _, _, _, .so (t := t) (f := f) o k r, a, b => by
    obtain ⟨k1, k2⟩ := frz_hk (H0 := H0) (H' := H) (f := f) e2 e3 (fun p m => a p (List.mem_append_left _ m)) (fun p m => b p (List.mem_append_left _ m)) (kdT t)
    exact .so (f := []) (fp := []) (.leaf (o.to k1 k2)) (by simpa [kdT] using k) (sl_frzE e2 e3 r (fun p m => a p (List.mem_append_right _ m)) fun p m => b p (List.mem_append_right _ m))
theorem sl_move : ∀ {σ σ' : L2.St} {e : Env} {fp : List Addr}, Sl mg N G H σ e fp → σ'.length = σ.length → (∀ (j : Nat) (t : T), e[j]? = some (some t) → σ'[j]? = σ[j]?) → (∀ p ∈ fp, ∀ o, H p = some o → LeO o (H' p)) → Sl mg N G H' σ' e fp
  | _, σ', _, _, .n0, l, _, _ => by
    rw [List.length_eq_zero_iff.mp (l.trans rfl)]
    exact .n0
  | _, σ', _, _, .no r, l, m, k => by
    match σ', l with
    | x :: σ', l => exact .no (sl_move r (by simpa using l) (fun j t h => by have := m (j + 1) t (by simpa using h); simpa using this) k)
  | _, σ', _, _, .so (t := t) o kd r, l, m, k => by
    match σ', l with
    | x :: σ', l =>
      have e : some x = some (some _) := m 0 t rfl
      rw [Option.some.inj e]
      exact .so (o.keepX kd fun p q => k p (List.mem_append_left _ q)) kd (sl_move r (by simpa using l) (fun j t h => by have := m (j + 1) t (by simpa using h); simpa using this) fun p q => k p (List.mem_append_right _ q))
theorem wipe_none : ∀ (vs : List Nat) (e : Env) (j : Nat) (t : T), (wipeE e vs)[j]? = some (some t) → j ∉ vs
  | [], _, _, _, _ => List.not_mem_nil
  | v :: vs, e, j, t, h => by
    have h' : ((wipeE e vs).set v none)[j]? = some (some t) := h
    by_cases q : v = j
    · rw [q, List.getElem?_set_self'] at h'
      cases z : (wipeE e vs)[j]? <;> rw [z] at h' <;> simp at h'
    · rw [List.getElem?_set_ne q] at h'
      exact fun m => (List.mem_cons.mp m).elim (fun z => q z.symm) (wipe_none vs e j t h')
end
variable [TabI]
section
variable {mg : Str → Option Value} {E : XK} {K : PySem.W.Frag} {H0 G H G' H' : Hp} {σ : L2.St} {e : Env} {fp : List Addr} {D : Ends}
theorem s_bor {vs : List Nat} {ts : TS} {fs : FS} (kp : KpS vs ts) (h : SS mg E ts fs) : SS mg E ts (sBor vs fs) := by
  intro H0 G H σ e fp D st hh
  have gp : ∀ p ∈ fp, (fun p => if p ∈ fp then H p else G p) p = H p := fun p m => if_pos m
  have e2 : Ex G (fun p => if p ∈ fp then H p else G p) := Ex.of fun p o h => by
    by_cases m : p ∈ fp
    · rw [st.out p m] at h
      cases h
    · exact (if_neg m).trans h
  have e3 : Ex (fun p => if p ∈ fp then H p else G p) H := fun p o h => by
    have h' : (if p ∈ fp then H p else G p) = some o := h
    by_cases m : p ∈ fp
    · rw [if_pos m] at h'
      exact .inl h'
    · rw [if_neg m] at h'
      exact st.gh p o h'
  have st1 : Stt mg H0 (fun p => if p ∈ fp then H p else G p) H σ (frzE e) [] := ⟨st.tb, st.h0.trans e2, e3, sl_frzE e2 e3 st.sl gp (fun p m => by
    unfold nw
    rw [none_back st.h0 (st.out p m)]
    exact if_pos m), List.nodup_nil, fun p m => nomatch m⟩
  generalize hG : (fun p => if p ∈ fp then H p else G p) = G1 at st1 e2 e3 gp
  obtain ⟨fpw, stw, subw⟩ := st.wipes vs
  rw [kp D σ H]
  refine h H0 G1 H σ (frzE e) [] (only vs σ D) st1 ?_
  unfold sBor at hh
  cases q : fs (frzE e) with
  | no => rw [q] at hh; exact hh.elim
  | er c => rw [q] at hh; exact hh
  | ok o =>
    rw [q] at hh
    cases o with
    | bk e' => exact hh.elim
    | ct e' => exact hh.elim
    | rt e' t => exact fun σ' v G2 H2 fp2 f x => hh σ' v G2 H2 fp2 f (e2.trans x)
    | nx e' =>
      intro σ' G2 H2 fp2 x st2 sm
      refine hh σ' G H2 fpw (Ex.refl _) ⟨st2.tb, st.h0, (e2.trans x).trans st2.gh, sl_move stw.sl sm.1 (fun j t hj => sm.2 j (wipe_none vs e j t hj)) (fun p m o ho => ?_), stw.nd, stw.out⟩
      have g1 := gp p (subw p m)
      rw [ho] at g1
      exact (x p o g1).trans st2.gh
/-! ### a new list of plain things that a call yields is the caller's own -/
def thaw (t : T) : T := match t with
  | .leaf 0 (.lst ds) => if ds.all scal then .lst (ds.map (mk 0)) else .leaf 0 (.lst ds)
  | t => t
def thawF (F : List Dat → Re T) : List Dat → Re T := fun ds => match F ds with
  | .ok t => .ok (thaw t)
  | .er c => .er c
  | .no => .no
theorem rs_scal {H H' : Hp} : ∀ {vs : List V} {ds : List Dat}, ds.all scal = true → Rs mg H vs ds → Rs mg H' vs ds
  | [], [], _, _ => .nil
  | v :: vs, d :: ds, h, .cons r rs => by
    have h2 : scal d = true ∧ _ := Bool.and_eq_true_iff.mp h
    refine .cons ?_ (rs_scal h2.2 rs)
    rw [r.isS h2.1]
    exact R.ofS h2.1
theorem thaw_kd {t : T} (h : kdT t = 0) : kdT (thaw t) = 0 := by
  unfold thaw
  split
  · split
    · have := kds_mk 0 ‹List Dat›
      simp only [kdT]
      omega
    · exact h
  · exact h
theorem kd_thaw {F : List Dat → Re T} (kd : KdF F) : KdF (thawF F) := fun ds t h => by
  unfold thawF at h
  cases q : F ds with
  | no => rw [q] at h; cases h
  | er c => rw [q] at h; cases h
  | ok u =>
    rw [q] at h
    cases h
    exact thaw_kd (kd ds u q)
theorem spF_thaw {F : List Dat → Re T} {vs : List V} {H : Hp} {Q : VK} {E : XK} (h : spF mg (thawF F) vs H Q E) : spF mg F vs H Q E := by
  obtain ⟨tb, ds, r, h⟩ := h
  refine ⟨tb, ds, r, ?_⟩
  unfold thawF at h
  cases q : F ds with
  | no => rw [q] at h; exact h
  | er c => rw [q] at h; exact h
  | ok t =>
    rw [q] at h
    have h' : Pe mg E H H H Q (.ok (thaw t)) := h
    unfold thaw at h'
    split at h'
    · split at h'
      · rename_i xs hs
        intro v G2 H2 f g o fr
        cases o with
        | leaf rr =>
          have rr : R mg (nw H G2) v (.lst xs) := rr
          cases rr with
          | @lst a vs _ ha rs =>
            have ha2 : G2 a = some (.lst vs) ∧ H a = none := by
              unfold nw at ha
              split at ha
              · cases ha
              · rename_i z
                refine ⟨ha, ?_⟩
                cases z2 : H a with
                | none => rfl
                | some u => rw [z2] at z; exact absurd rfl z
            have g1 : Grow H H (fun p => if p = a then none else G2 p) H2 := ⟨g.tb, g.hh, fun p o ho => by
                have ne : p ≠ a := fun e => by rw [e, ha2.2] at ho; cases ho
                show LeO o (if p = a then none else G2 p)
                rw [if_neg ne]
                exact g.gg p o ho, fun p o ho => by
                have ho' : (if p = a then none else G2 p) = some o := ho
                split at ho'
                · cases ho'
                · exact g.gh p o ho', fun p o _ n => n⟩
            exact h' (.ref a) _ H2 [a] g1 (.lst (fp := []) (g.gh a _ ha2.1).is (owns_mk (k := 0) (rs_scal hs rs))) ⟨by simp, fun p m => by
              rw [List.mem_singleton.mp m]
              exact ⟨ha2.2, if_pos rfl⟩⟩
      · exact h'
    · exact h'
end
theorem Cal.thaw {P : Program} {w : World} {K : PySem.W.Frag} {mg : Str → Option Value} {base : Heap} {x : Str} {k : Nat} {ps : List Str} {F : List Dat → Re T} (c : Cal P w K mg base x k ps F) : Cal P w K mg base x k ps (thawF F) := by
  obtain ⟨f, fd, a, b, ok, d⟩ := c.ex
  exact ⟨⟨f, fd, a, b, ok.imp fun _ _ _ _ h => spF_thaw h, d⟩⟩
end LS

/-! LS8: defs as values: named, held in a slot, called there. -/
namespace LS
open PySem PySem.Spec
open PyProof.Rows L2
def fFn (x : Str) : FE := fun _ => .ok (.leaf 0 (.fn x))
def fCallV (tab : List (Str × (List Dat → Re T))) (i : Nat) (fa : FA) : FE := fun e => match e[i]? with
  | some (some (.leaf _ (.fn x))) => (match tab.lookup x with
    | some F => fCall F fa e
    | none => .no)
  | _ => .no
def tFn (mg : Str → Option Value) (x : Str) : TE := fun _ H Q => ∃ f, mg x = some (.ref f) ∧ Q (.ref f) H
variable [TabI]
def tCallV (mg : Str → Option Value) (tab : List (Str × (List Dat → Re T))) (i : Nat) (E : XK) (t : TA) : TE := fun σ H Q => ∃ x F f, tab.lookup x = some F ∧ mg x = some (.ref f) ∧ σ[i]? = some (some (.ref f)) ∧ t σ H fun vs H1 => spF mg F vs H1 Q E
section
variable {w : World} {P : Program} {K : PySem.W.Frag} {mg : Str → Option Value} {base : Heap}
structure CalTab (P : Program) (w : World) (K : PySem.W.Frag) (mg : Str → Option Value) (base : Heap) (k : Nat) (tab : List (Str × (List Dat → Re T))) : Prop where
  ex : ∀ x F, tab.lookup x = some F → KdF F ∧ ∃ j ps, j ≤ k ∧ Cal P w K mg base x j ps F
theorem CalTab.nil {k : Nat} : CalTab P w K mg base k [] := ⟨fun x F h => nomatch h⟩
theorem CalTab.cons {k j : Nat} {x : Str} {ps : List Str} {F : List Dat → Re T} {tab : List (Str × (List Dat → Re T))} (c : Cal P w K mg base x j ps F) (kd : KdF F) (hj : j ≤ k) (r : CalTab P w K mg base k tab) : CalTab P w K mg base k ((x, F) :: tab) := ⟨fun y G h => by
  rw [List.lookup_cons] at h
  split at h
  · rename_i e
    cases h
    rw [beq_iff_eq.mp e]
    exact ⟨kd, j, ps, hj, c⟩
  · exact r.ex y G h⟩
variable {X : Cx} {k i : Nat} {tab : List (Str × (List Dat → Re T))} {E : XK} {a x : Str} {p pos : Pos} {e : Expr} {es : List Expr} {t : TA}
theorem pe_callv (A : CalTab P w K mg base k tab) (hr : Room k X.A) (hN : X.N[i]? = some a) (hv : Vis X.env.scope a) (hx : Passes (L2.CX X.prog X.w) X E) (ha : PA X (e :: es) t)
    (hdb : (a == ("__debug__" : Str)) = false := by decide) (hcd : (a == ("__classdict__" : Str)) = false := by decide)
    (he : starEach (e :: es) X.env = (false, eval e X.env) :: starEach es X.env := by rfl) (hpl : (backTo pos (starEach es X.env)).any (·.1) = false := by rfl)
    (z1 : X.prog = P := by rfl) (z2 : X.w = w := by rfl) (z3 : X.K = K := by rfl) (z4 : X.mg = mg := by rfl) (z5 : X.base = base := by rfl) : PE X (.Call (.Name a p) (e :: es) [] pos) (tCallV mg tab i E t) := by
  subst z1 z2 z3 z4 z5
  refine ⟨fun pins s σ H Q I h => ?_⟩
  obtain ⟨x, F, f, hF, hm, hs, ht⟩ := h
  obtain ⟨kd, j, ps, hj, c⟩ := A.ex x F hF
  obtain ⟨f', fd, hm', hk, G, hb⟩ := c.ex
  rw [hm] at hm'
  cases hm'
  refine (pe_callL (i := i) (f := f) (sp := spF X.mg F) (dvs := []) (E := E) (G.mono hj) hr hN hv hk hb .nil hx ha hdb hcd he hpl).run pins s σ H Q I ⟨hs, ?_⟩
  have e0 : (fun (vs : List V) (H1 : Hp) => spF X.mg F (vs ++ []) H1 Q E) = fun vs H1 => spF X.mg F vs H1 Q E := by
    funext vs H1
    rw [List.append_nil]
  show t σ H (fun vs H1 => spF X.mg F (vs ++ []) H1 Q E)
  rw [e0]
  exact ht
theorem pe_fn {ps : List Str} {F : List Dat → Re T} (c : Cal P w K mg base x k ps F) (hg : Gl X x) (hdb : (x == ("__debug__" : Str)) = false := by decide) (z4 : X.mg = mg := by rfl) : PE X (.Name x p) (tFn mg x) := by
  subst z4
  refine ⟨fun pins s σ H Q I h => ?_⟩
  obtain ⟨f, hm, h⟩ := h
  exact (pe_glob (v := .ref f) hg hm rfl hdb).run pins s σ H Q I h
variable {H0 G H G' H' : Hp} {σ : L2.St} {ev : Env} {fp : List Addr}
theorem se_fn {ps : List Str} {F : List Dat → Re T} (c : Cal P w K mg base x k ps F) : SE mg E (tFn mg x) (fFn x) := by
  intro H0 G H σ e fp Q st h
  obtain ⟨f, fd, hm, _⟩ := c.ex
  refine ⟨f, hm, ?_⟩
  exact h (.ref f) G H [] (Grow.refl st.gh) (.leaf (.fn hm)) Frs.nil
theorem slot_fn {i : Nat} {k : Nat} {x : Str} (st : Stt mg H0 G H σ ev fp) (h : ev[i]? = some (some (.leaf k (.fn x)))) : ∃ f, σ[i]? = some (some (.ref f)) ∧ mg x = some (.ref f) := by
  obtain ⟨v, f, h1, o, _⟩ := st.sl.get h
  cases o with
  | leaf r =>
    cases r with
    | fn hm => exact ⟨_, h1, hm⟩
theorem se_callv {ta : TA} {fa : FA} (A : CalTab P w K mg base k tab) (ha : SA mg E ta fa) : SE mg E (tCallV mg tab i E ta) (fCallV tab i fa) := by
  intro H0 G H σ e fp Q st h
  unfold fCallV at h
  split at h
  · rename_i kk x hx
    split at h
    · rename_i F hF
      obtain ⟨f, hs, hm⟩ := slot_fn st hx
      obtain ⟨kd, _⟩ := A.ex x F hF
      obtain ⟨_, q⟩ := (⟨trivial, se_call kd ha H0 G H σ e fp Q st h⟩ : True ∧ _)
      refine ⟨x, F, f, hF, hm, hs, ?_⟩
      have q' : ta σ H (fun vs H1 => spF mg F (vs ++ []) H1 Q E) := q
      have e0 : (fun (vs : List V) (H1 : Hp) => spF mg F (vs ++ []) H1 Q E) = fun vs H1 => spF mg F vs H1 Q E := by
        funext vs H1
        rw [List.append_nil]
      rw [e0] at q'
      exact q'
    · exact h.elim
  · exact h.elim
end
/-! ### len(set(xs)), some of xs alike -/
def ddup (ns : List Int) : List Int := PyProof.Rows.firstMet (fun i => ns.getD i 0) ns.length
def oLenSetA : Op
  | [.lst ds] => match intsD ds with
    | some ns => if ns.length ≤ 4000 then some (.int ((ddup ns).length : Int)) else none
    | none => none
  | _ => none
def tLenSetA (K : PySem.W.Frag) (ta : TE) : TE := fun σ H Q => ta σ H fun x H1 => ∃ (l : Addr) (ns : List Int), x = .ref l ∧ SqL K H1 l (ns.map V.int) ∧ ns.length ≤ 4000 ∧ Q (.int ((ddup ns).length : Nat)) H1
theorem pe_lenSetA {X : Cx} {a : Expr} {ta : TE} {p p2 q pos : Pos} (hg : Gl X "len") (hm : X.mg "len" = none) (hg2 : Gl X "set") (hm2 : X.mg "set" = none) (ha : PE X a ta) (hc : X.calm = true := by rfl)
    (na : starEach [a] X.env = (false, eval a X.env) :: starEach [] X.env := by rfl) : PE X (.Call (.Name "len" p) [.Call (.Name "set" p2) [a] [] q] [] pos) (tLenSetA X.K ta) := by
  refine ⟨fun pins s σ H Q I h => ?_⟩
  refine Call_ (ld_blt I hg hm boot_len ?_)
  refine PyProof.Rows.callWith_builtin1 (PyProof.Rows.args_cons ?_ rfl) rfl rfl
  refine Call_ (ld_blt I hg2 hm2 PyProof.Rows.boot_set ?_)
  refine PyProof.Rows.callWith_type1 (PyProof.Rows.args_cons (thn (ha.run pins s σ H _ I h) fun v s1 ⟨x, H1, I1, r1, q1⟩ => PyProof.Rows.args_nil ?_) na) na rfl
  obtain ⟨l, ns, rfl, hq, hl, q1⟩ := q1
  cases r1
  obtain ⟨its, r, pl, hz⟩ := I1.list hq
  have hlen : its.toArray.size = ns.length := by rw [List.size_toArray, ← r.length, List.length_map]
  refine call_set_list (I1.ok.hd hc) pl.isList (by simpa using ints_of_vals r) (by rw [hlen]; unfold scanBound; omega) fun h' tk hS hk => ?_
  refine PyProof.Rows.args_nil ?_
  rw [hlen] at hS
  have dl : (PyProof.Rows.firstMet (fun i => ns.getD i 0) ns.length).length ≤ ns.length := PyProof.Rows.firstMet_length_le _ _
  obtain ⟨o, es, ep, t, ho, hex, hd, _, _, _, hf, hn⟩ := hS
  have I2 : Inv X pins σ H1 { s1 with heap := h', toks := tk } := I1.kept fun b o e => hk b o (Heap.lt_size e) e
  exact call_len_set ho hex hd hf (by rw [hn] <;> omega) ⟨.int ((ddup ns).length : Nat), H1, I2.tok _, ⟨_, by rw [hn]; rfl⟩, q1⟩
theorem se_lenSetA {mg : Str → Option Value} {E : XK} {K : PySem.W.Frag} {tx : TE} {fx : FE} (h : SE mg E tx fx) : SE mg E (tLenSetA K tx) (fI oLenSetA (fA1 fx fA0)) :=
  se_op1 (r1 := fun x H1 Q => ∃ (l : Addr) (ns : List Int), x = .ref l ∧ SqL K H1 l (ns.map V.int) ∧ ns.length ≤ 4000 ∧ Q (.int ((ddup ns).length : Nat)) H1) h fun X H vs ds d ex rs q => by
    unfold oLenSetA at q
    split at q
    · rename_i ds0
      split at q
      · rename_i ns hns
        split at q
        · rename_i hc
          cases q
          have e := ints_of hns
          subst e
          cases rs with
          | cons r rr =>
            cases rr
            cases r with
            | lst ha rl =>
              rw [rl.ints] at ha
              exact ⟨_, .int _, fun Q hQ x hx => by
                cases hx
                exact ⟨_, ns, rfl, .of (ex _ _ ha).is, hc, hQ⟩⟩
        · cases q
      · cases q
    · cases q
/-! ### the law's own def makes lambdas -/
theorem FunC.okLaw {P : Program} {w : World} {K : PySem.W.Frag} {mg : Str → Option Value} {base : Heap} {x qual a : Str} {st : Stmt} {f c : Addr} {fd : FuncData} {N : List Str} {k n : Nat} {fs : FS} (F : FunC K x qual st f fd c) (S : FnScope (a :: N) [a] (defScope st)) (hn : N.length = n)
    (hb : ∀ (A : Around) (outer : List PySem.Env) (s : Shared) (H : Hp) (E : XK), Room k (A.deeper (envOfC qual (defScope st) s.heap.objs.size f (.ref c))) →
      ∃ t, PSs (cxOf (L2.CX P w) P w K mg base (a :: N) qual (defScope st) f (.ref c) A outer s H E) (defBody st) (tSeq (tAsg (tSl (rSlL K) (tVar 0) tNoPart (tPart (tC (.int 63)))) (gName 0)) t) ∧ SS mg E t fs)
    (hM : ∀ ns : List Int, ns.length ≤ 63 → runF (n + 1) 1 fs [.lst (ns.map .int)] = .ok (.leaf 0 (.bl true))) :
    FnOk P w K mg base (L2.CX P w) (k + 1) f fd [a] (spLaw K) := by
  obtain ⟨oc, od, kV, doc, pm, an, ct, osl, rfl, lk, hcd⟩ := F.ex
  refine fn_of lk hcd S (fun vs H Q E h => ?_) (fun A outer s H vs Q E hr h => ?_)
  · obtain ⟨_, b, ns, rfl, _⟩ := h
    rfl
  · obtain ⟨tb0, b, ns, rfl, hS, hl, hQ⟩ := h
    obtain ⟨t, hps, hss⟩ := hb A outer s H E hr
    refine ⟨_, hps, ?_⟩
    refine ⟨.ref b, rfl, 63, rfl, b, ns.map V.int, rfl, hS, fun p hp => ?_⟩
    have tb1 : LamX.Tabs TabI.ts (upd H p (.lst (ns.map V.int))) := fun q m => TB.new hp q m (tb0 q m)
    have ec : cutV (ns.map V.int) none (some 63) = ns.map V.int := by
      unfold cutV
      rw [HT.sIx_none, show HT.sIx (ns.map V.int).length (ns.map V.int).length (some 63) = min 63 (ns.map V.int).length from HT.sIx_nat _ _ 63]
      rw [List.length_map, Nat.min_eq_right hl]
      show ((ns.map V.int).drop 0).take (ns.length - 0) = _
      rw [List.drop_zero, Nat.sub_zero, List.take_of_length_le (by rw [List.length_map]; exact Nat.le_refl _)]
    rw [ec]
    have r : Rs mg (upd H p (.lst (ns.map V.int))) [V.ref p] [Dat.lst (ns.map .int)] := .cons (.lst upd_same (Rs.ofInts ns)) .nil
    have st0 := stt_start (N := a :: N) (n := n + 1) tb1 (by rw [List.length_cons, hn]) r
    refine hss _ _ _ _ _ [] _ st0 ?_
    refine run_post (p := 1) (E := E) (Q := Q) rfl ?_
    rw [hM ns hl]
    intro v G' H' f' g o r'
    cases o with
    | leaf hv =>
      cases hv
      exact hQ H'
end LS

/-! LS9: rows sorted, as a plain insertion reckons it. -/
namespace LS
open PySem PySem.Spec
open PyProof.Rows L2
variable [TabI]
def leL : List Int → List Int → Bool
  | [], _ => true
  | _ :: _, [] => false
  | x :: xs, y :: ys => if x < y then true else if x = y then leL xs ys else false
theorem leL_iff : ∀ xs ys : List Int, leL xs ys = decide (xs ≤ ys)
  | [], ys => by simp [leL]
  | x :: xs, [] => by simp [leL]
  | x :: xs, y :: ys => by
    unfold leL
    rw [leL_iff xs ys]
    by_cases h1 : x < y
    · simp [h1, List.cons_le_cons_iff]
    · by_cases h2 : x = y
      · subst h2
        simp [List.cons_le_cons_iff]
      · simp [h1, h2, List.cons_le_cons_iff]
def leD (p q : Dat) : Bool := leL (rowD p) (rowD q)
theorem leD_eq : leD = leR := by
  funext p q
  exact leL_iff _ _
def insD (d : Dat) : List Dat → List Dat
  | [] => [d]
  | e :: r => if leD d e then d :: e :: r else e :: insD d r
def isrtD : List Dat → List Dat
  | [] => []
  | d :: r => insD d (isrtD r)
theorem leR_tot (p q : Dat) : (leR p q || leR q p) = true := by
  unfold leR
  rw [Bool.or_eq_true, decide_eq_true_iff, decide_eq_true_iff]
  exact Std.le_total
theorem leR_trans (p q r : Dat) (h1 : leR p q = true) (h2 : leR q r = true) : leR p r = true := by
  unfold leR at *
  rw [decide_eq_true_iff] at *
  exact Std.le_trans h1 h2
theorem insD_perm (d : Dat) : ∀ r : List Dat, (insD d r).Perm (d :: r)
  | [] => .refl _
  | e :: r => by
    unfold insD
    split
    · exact .refl _
    · exact ((insD_perm d r).cons e).trans (.swap d e r)
theorem isrtD_perm : ∀ r : List Dat, (isrtD r).Perm r
  | [] => .refl _
  | d :: r => (insD_perm d _).trans ((isrtD_perm r).cons d)
theorem insD_up (d : Dat) : ∀ r : List Dat, r.Pairwise (fun a b => leR a b = true) → (insD d r).Pairwise (fun a b => leR a b = true)
  | [], _ => by simp [insD]
  | e :: r, h => by
    have hc := List.pairwise_cons.mp h
    unfold insD
    rw [leD_eq]
    split
    · rename_i c
      exact List.pairwise_cons.mpr ⟨fun x hx => (List.mem_cons.mp hx).elim (fun z => by rw [z]; exact c) fun z => leR_trans d e x c (hc.1 x z), h⟩
    · rename_i c
      refine List.pairwise_cons.mpr ⟨fun x hx => ?_, insD_up d r hc.2⟩
      rcases List.mem_cons.mp ((insD_perm d r).mem_iff.mp hx) with z | z
      · rw [z]
        have := leR_tot d e
        simp only [Bool.not_eq_true] at c
        rw [c, Bool.false_or] at this
        exact this
      · exact hc.1 x z
theorem isrtD_up : ∀ r : List Dat, (isrtD r).Pairwise (fun a b => leR a b = true)
  | [] => .nil
  | d :: r => insD_up d _ (isrtD_up r)
theorem srt_one : ∀ {xs ys : List Dat}, xs.Perm ys → xs.Pairwise (fun a b => leR a b = true) → ys.Pairwise (fun a b => leR a b = true) → (∀ a ∈ xs, ∀ b ∈ xs, leR a b = true → leR b a = true → a = b) → xs = ys
  | [], ys, p, _, _, _ => (List.nil_perm.mp p).symm
  | x :: xs, [], p, _, _, _ => absurd p.symm (by intro h; simpa using List.nil_perm.mp h)
  | x :: xs, y :: ys, p, h1, h2, an => by
    have c1 := List.pairwise_cons.mp h1
    have c2 := List.pairwise_cons.mp h2
    have e : x = y := by
      have hx : x ∈ y :: ys := p.mem_iff.mp List.mem_cons_self
      have hy : y ∈ x :: xs := p.mem_iff.mpr List.mem_cons_self
      rcases List.mem_cons.mp hx with z | z
      · exact z
      · rcases List.mem_cons.mp hy with z2 | z2
        · exact z2.symm
        · exact an x List.mem_cons_self y hy (c1.1 y z2) (c2.1 x z)
    subst e
    rw [srt_one (List.Perm.cons_inv p) c1.2 c2.2 fun a ha b hb => an a (List.mem_cons_of_mem _ ha) b (List.mem_cons_of_mem _ hb)]
theorem intsD_inj {ds es : List Dat} (h : (intsD ds).isSome = true) (h2 : (intsD es).isSome = true) (e : (intsD ds).getD [] = (intsD es).getD []) : ds = es := by
  obtain ⟨a, ha⟩ := Option.isSome_iff_exists.mp h
  obtain ⟨b, hb⟩ := Option.isSome_iff_exists.mp h2
  rw [ha, hb] at e
  have e' : a = b := e
  rw [ints_of ha, ints_of hb, e']
theorem row_anti {t : Bool} {a b : Dat} (ha : isRow t a = true) (hb : isRow t b = true) (h1 : leR a b = true) (h2 : leR b a = true) : a = b := by
  unfold leR at h1 h2
  rw [decide_eq_true_iff] at h1 h2
  have e : rowD a = rowD b := Std.le_antisymm h1 h2
  cases a <;> cases b <;> simp [isRow] at ha hb
  · rename_i ds es
    rw [intsD_inj ha.2 hb.2 e]
  · rename_i ds es
    simp [ha.1] at hb
  · rename_i ds es
    simp [ha.1.1] at hb
  · rename_i ds es
    rw [intsD_inj ha.1.2 hb.1.2 e]
def lSortB : OL := fun ds => match lSorted ds with
  | some e => some e
  | none => match ds with
    | [.lst es] => if es.all (isRow true) || es.all (isRow false) then some (isrtD es) else none
    | _ => none
theorem lSortB_eq : lSortB = lSortA := by
  funext ds
  unfold lSortB lSortA
  cases lSorted ds with
  | some e => rfl
  | none =>
    show (match ds with | [.lst es] => if (es.all (isRow true) || es.all (isRow false)) = true then some (isrtD es) else none | _ => none) = lSortR ds
    unfold lSortR
    match ds with
    | [.lst es] =>
      show (if (es.all (isRow true) || es.all (isRow false)) = true then some (isrtD es) else none) = if (es.all (isRow true) || es.all (isRow false)) = true then some (es.mergeSort leR) else none
      by_cases c : (es.all (isRow true) || es.all (isRow false)) = true
      · rw [if_pos c, if_pos c]
        congr 1
        obtain ⟨t, ht⟩ : ∃ t, es.all (isRow t) = true := by
          rcases Bool.or_eq_true_iff.mp c with h | h
          · exact ⟨true, h⟩
          · exact ⟨false, h⟩
        refine srt_one ((isrtD_perm es).trans (List.mergeSort_perm es leR).symm) (isrtD_up es) ?_ fun a ha b hb => row_anti (List.all_eq_true.mp ht a ((isrtD_perm es).mem_iff.mp ha)) (List.all_eq_true.mp ht b ((isrtD_perm es).mem_iff.mp hb))
        exact List.pairwise_mergeSort leR_trans leR_tot es
      · rw [if_neg c, if_neg c]
    | [] => rfl
    | [.non] | [.bl _] | [.int _] | [.str _] | [.tup _] | [.dct _ _] | [.ins _ _ _] | [.dtt _] | [.adr _] | [.fn _] => rfl
    | a :: _ :: _ => cases a <;> rfl
theorem rl_sortB {mg : Str → Option Value} {K : PySem.W.Frag} : RL mg (rSortA K) lSortB := by
  rw [lSortB_eq]
  exact rl_sortA
end LS

namespace LW
open PySem PySem.Spec
open PyProof.Rows L2 LS
/-! ### the text by places -/
def topS (i : Nat) : Stmt := PySem.Challenge.pw_lostseat_k09_refused.main.body.getD i (.Pass ⟨0, 0, 0, 0⟩)
abbrev s_wall : Stmt := topS 0
abbrev s_choices_of : Stmt := topS 2
abbrev s_Comes_init : Stmt := inClass (topS 4) 0
abbrev s_Comes_shows : Stmt := inClass (topS 4) 1
abbrev s_Bars_init : Stmt := inClass (topS 5) 0
abbrev s_Bars_shows : Stmt := inClass (topS 5) 1
abbrev s_is_count : Stmt := topS 22
abbrev s_are_all : Stmt := topS 23
abbrev s_are_rising : Stmt := topS 24
abbrev s_check_order : Stmt := topS 25
abbrev s_check_night : Stmt := topS 26
abbrev s_check_two : Stmt := topS 27
abbrev s_are_pairs : Stmt := topS 28
abbrev s_check_seating : Stmt := topS 29
abbrev s_common : Stmt := topS 30
abbrev s_part : Stmt := topS 31
abbrev s_summed : Stmt := topS 32
abbrev s_lost_ahead : Stmt := topS 33
abbrev s_room : Stmt := topS 34
abbrev s_share_of : Stmt := topS 36
abbrev s_share : Stmt := topS 37
abbrev s_free_share : Stmt := topS 38
abbrev s_seating : Stmt := topS 39
abbrev s_own : Stmt := topS 40
abbrev s_share_back : Stmt := topS 42
abbrev s_asked : Stmt := topS 43
abbrev s_Door_init : Stmt := inClass (topS 45) 0
abbrev s_Door_next_guest : Stmt := inClass (topS 45) 1
abbrev s_Door_open_seats : Stmt := inClass (topS 45) 2
abbrev s_Door_come : Stmt := inClass (topS 45) 3
abbrev s_Door_taken : Stmt := inClass (topS 45) 4
abbrev s_Door_so_far : Stmt := inClass (topS 45) 5
abbrev s_Row_init : Stmt := inClass (topS 47) 0
abbrev s_Row_drop : Stmt := inClass (topS 47) 1
abbrev s_Row_ahead : Stmt := inClass (topS 47) 2
abbrev s_Row_share_at : Stmt := inClass (topS 47) 3
abbrev s_Row_sit : Stmt := inClass (topS 47) 4
abbrev s_together : Stmt := topS 48
abbrev s_judged : Stmt := topS 51
abbrev s_must : Stmt := topS 52
abbrev s_all_seatings : Stmt := topS 53
abbrev s_check_small : Stmt := topS 54
abbrev s_how_many : Stmt := topS 55
abbrev s_seating_by : Stmt := topS 56
abbrev s_number_of : Stmt := topS 57
abbrev s_law_cell_at : Stmt := topS 59
abbrev s_law_draw : Stmt := topS 60
abbrev s_law_value : Stmt := topS 61
abbrev s_law_kinds : Stmt := topS 62
abbrev s_law_due_of : Stmt := topS 63
abbrev s_law_strange : Stmt := topS 64
abbrev s_law_no_orders : Stmt := topS 65
abbrev s_law_no_nights : Stmt := topS 66
abbrev s_law_nights_right : Stmt := topS 67
abbrev s_law_seatings_right : Stmt := topS 68
abbrev s_law_pairs_right : Stmt := topS 69
abbrev s_law_right : Stmt := topS 70
abbrev s_law : Stmt := topS 71
def tt_SeatError : List (PySem.Str × Bool) := [("AllCame", true), ("BadGuest", true), ("BadNight", true), ("BadNumber", true), ("BadOrder", true), ("BadPairs", true), ("BadSeat", true), ("BadSeating", true), ("BadSeats", true), ("BadTurn", true), ("NotSo", true), ("TooMany", true)]
def et_AllCame : List (PySem.Str × Bool) := [("AllCame", true), ("BadGuest", false), ("BadNight", false), ("BadNumber", false), ("BadOrder", false), ("BadPairs", false), ("BadSeat", false), ("BadSeating", false), ("BadSeats", false), ("BadTurn", false), ("NotSo", false), ("TooMany", false)]
def et_BadGuest : List (PySem.Str × Bool) := [("AllCame", false), ("BadGuest", true), ("BadNight", false), ("BadNumber", false), ("BadOrder", false), ("BadPairs", false), ("BadSeat", false), ("BadSeating", false), ("BadSeats", false), ("BadTurn", false), ("NotSo", false), ("TooMany", false)]
def et_BadNight : List (PySem.Str × Bool) := [("AllCame", false), ("BadGuest", false), ("BadNight", true), ("BadNumber", false), ("BadOrder", false), ("BadPairs", false), ("BadSeat", false), ("BadSeating", false), ("BadSeats", false), ("BadTurn", false), ("NotSo", false), ("TooMany", false)]
def et_BadNumber : List (PySem.Str × Bool) := [("AllCame", false), ("BadGuest", false), ("BadNight", false), ("BadNumber", true), ("BadOrder", false), ("BadPairs", false), ("BadSeat", false), ("BadSeating", false), ("BadSeats", false), ("BadTurn", false), ("NotSo", false), ("TooMany", false)]
def et_BadOrder : List (PySem.Str × Bool) := [("AllCame", false), ("BadGuest", false), ("BadNight", false), ("BadNumber", false), ("BadOrder", true), ("BadPairs", false), ("BadSeat", false), ("BadSeating", false), ("BadSeats", false), ("BadTurn", false), ("NotSo", false), ("TooMany", false)]
def et_BadPairs : List (PySem.Str × Bool) := [("AllCame", false), ("BadGuest", false), ("BadNight", false), ("BadNumber", false), ("BadOrder", false), ("BadPairs", true), ("BadSeat", false), ("BadSeating", false), ("BadSeats", false), ("BadTurn", false), ("NotSo", false), ("TooMany", false)]
def et_BadSeat : List (PySem.Str × Bool) := [("AllCame", false), ("BadGuest", false), ("BadNight", false), ("BadNumber", false), ("BadOrder", false), ("BadPairs", false), ("BadSeat", true), ("BadSeating", false), ("BadSeats", false), ("BadTurn", false), ("NotSo", false), ("TooMany", false)]
def et_BadSeating : List (PySem.Str × Bool) := [("AllCame", false), ("BadGuest", false), ("BadNight", false), ("BadNumber", false), ("BadOrder", false), ("BadPairs", false), ("BadSeat", false), ("BadSeating", true), ("BadSeats", false), ("BadTurn", false), ("NotSo", false), ("TooMany", false)]
def et_BadSeats : List (PySem.Str × Bool) := [("AllCame", false), ("BadGuest", false), ("BadNight", false), ("BadNumber", false), ("BadOrder", false), ("BadPairs", false), ("BadSeat", false), ("BadSeating", false), ("BadSeats", true), ("BadTurn", false), ("NotSo", false), ("TooMany", false)]
def et_BadTurn : List (PySem.Str × Bool) := [("AllCame", false), ("BadGuest", false), ("BadNight", false), ("BadNumber", false), ("BadOrder", false), ("BadPairs", false), ("BadSeat", false), ("BadSeating", false), ("BadSeats", false), ("BadTurn", true), ("NotSo", false), ("TooMany", false)]
def et_NotSo : List (PySem.Str × Bool) := [("AllCame", false), ("BadGuest", false), ("BadNight", false), ("BadNumber", false), ("BadOrder", false), ("BadPairs", false), ("BadSeat", false), ("BadSeating", false), ("BadSeats", false), ("BadTurn", false), ("NotSo", true), ("TooMany", false)]
def et_TooMany : List (PySem.Str × Bool) := [("AllCame", false), ("BadGuest", false), ("BadNight", false), ("BadNumber", false), ("BadOrder", false), ("BadPairs", false), ("BadSeat", false), ("BadSeating", false), ("BadSeats", false), ("BadTurn", false), ("NotSo", false), ("TooMany", true)]
def et_ValueError : List (PySem.Str × Bool) := [("AllCame", true), ("BadGuest", true), ("BadNight", true), ("BadNumber", true), ("BadOrder", true), ("BadPairs", true), ("BadSeat", true), ("BadSeating", true), ("BadSeats", true), ("BadTurn", true), ("NotSo", true), ("TooMany", true)]
/-! ### what each def computes -/
abbrev lamJ : Nat := 5
def b_wall_1 : FS := sNext
def b_wall : FS := (sWhile 1000 (fT (fC (.bl true))) b_wall_1)
def m_wall : List Dat → Re T := runF 1 1 b_wall
theorem kd_wall : KdF m_wall := @run_kd ⟨[]⟩ _ _ _
def b_choices_of_1 : FS := (sSeq (sIf (fOr (fT (fI (oIn false) (fA1 (fVar 7) (fA1 (fVar 3) fA0)))) (fT (fI (oIn true) (fA1 (fVar 7) (fA1 (fVar 4) fA0))))) (sMut (pS 5) mAppend (fA1 (fI oLen (fA1 (fVar 4) fA0)) fA0))
  (sIf (fT (fI oEq (fA1 (fI oIx (fA1 (fVar 1) (fA1 (fVar 7) fA0))) (fA1 (fVar 7) fA0)))) (sMut (pS 5) mAppend (fA1 (fC (.int 1)) fA0))
  (sSeq (sFrz 6) (sSeq (sFrz 5) (sRet (fTup (fA1 (fVar 5) (fA1 (fVar 6) fA0))))))))
  (sSeq (sFrz 1) (sMut (pS 4) mRemove (fA1 (fI oIx (fA1 (fVar 1) (fA1 (fVar 7) fA0))) fA0))))
def b_choices_of : FS := (sSeq (sSeq (sFrz 0) (sAsg (fVar 0) (gT [gN 2, gN 3])))
  (sSeq (sPar 4 5 (fA1 (fL lRg1 (fA1 (fI oLen (fA1 (fVar 2) fA0)) fA0)) (fA1 (fLst fA0) fA0)))
  (sSeq (sSeq (sFrz 2) (sFor (fEnum (fA1 (fVar 2) fA0)) (gT [gN 6, gN 7])
  b_choices_of_1))
  (sSeq (sFrz 5) (sRet (fTup (fA1 (fVar 5) (fA1 (fC .non) fA0))))))))
def m_choices_of : List Dat → Re T := runF 8 2 b_choices_of
theorem kd_choices_of : KdF m_choices_of := @run_kd ⟨[]⟩ _ _ _
def b_Comes_init : FS := (sFldS 0 "Comes" "choices" (fL lItems (fA1 (fVar 1) fA0)))
abbrev m_Comes_init : List Dat → Re T := makeF "Comes" 2 2 b_Comes_init
def b_Comes_shows : FS := (sDrop (fCall m_wall (fA1 (fC (.int 0)) fA0)))
def m_Comes_shows : List Dat → Re T := runF 3 3 b_Comes_shows
theorem kd_Comes_shows : KdF m_Comes_shows := @run_kd ⟨[]⟩ _ _ _
def b_Bars_init : FS := (sFldS 0 "Bars" "turn" (fVar 1))
abbrev m_Bars_init : List Dat → Re T := makeF "Bars" 2 2 b_Bars_init
def b_Bars_shows : FS := (sDrop (fCall m_wall (fA1 (fC (.int 1)) fA0)))
def m_Bars_shows : List Dat → Re T := runF 3 3 b_Bars_shows
theorem kd_Bars_shows : KdF m_Bars_shows := @run_kd ⟨[]⟩ _ _ _
def b_is_count : FS := (sRet (fAndV (fI (oIsi "int") (fA1 (fVar 0) fA0)) (fAndV (fI opNot (fA1 (fI (oIsi "bool") (fA1 (fVar 0) fA0)) fA0)) (fChain oLe oLe (fVar 1) (fVar 0) (fVar 2)))))
def m_is_count : List Dat → Re T := runF 3 3 b_is_count
theorem kd_is_count : KdF m_is_count := @run_kd ⟨[]⟩ _ _ _
def b_are_all : FS := (sSeq (sSeq (sFrz 0) (sIf (fOr (fNot (fT (fI (oIsi "list") (fA1 (fVar 0) fA0)))) (fOr (fT (fI oNe (fA1 (fI oLen (fA1 (fVar 0) fA0)) (fA1 (fVar 1) fA0)))) (fNot (fT (fI oAll (fA1 (fLc (fItems (fVar 0)) (gN 2) fYes (fCall m_is_count (fA1 (fVar 2) (fA1 (fC (.int 0)) (fA1 (fI oSub (fA1 (fVar 1) (fA1 (fC (.int 1)) fA0))) fA0)))) [2]) fA0)))))) (sRet (fC (.bl false)))
  sNext))
  (sRet (fI oEq (fA1 (fI oLenSetA (fA1 (fVar 0) fA0)) (fA1 (fVar 1) fA0)))))
def m_are_all : List Dat → Re T := runF 3 2 b_are_all
theorem kd_are_all : KdF m_are_all := @run_kd ⟨[]⟩ _ _ _
def b_are_rising : FS := (sSeq (sSeq (sFrz 0) (sIf (fOr (fNot (fT (fI (oIsi "list") (fA1 (fVar 0) fA0)))) (fNot (fT (fI oAll (fA1 (fLc (fItems (fVar 0)) (gN 2) fYes (fCall m_is_count (fA1 (fVar 2) (fA1 (fC (.int 0)) (fA1 (fI oSub (fA1 (fVar 1) (fA1 (fC (.int 1)) fA0))) fA0)))) [2]) fA0))))) (sRet (fC (.bl false)))
  sNext))
  (sSeq (sFrz 0) (sRet (fI oAll (fA1 (fLc (fZip (fA1 (fVar 0) (fA1 (fL lSl10 (fA1 (fVar 0) (fA1 (fC (.int 1)) fA0))) fA0))) (gT [gN 2, gN 3]) fYes (fI oLt (fA1 (fVar 2) (fA1 (fVar 3) fA0))) [2, 3]) fA0)))))
def m_are_rising : List Dat → Re T := runF 4 2 b_are_rising
theorem kd_are_rising : KdF m_are_rising := @run_kd ⟨[]⟩ _ _ _
def b_check_order : FS := (sIf (fOr (fNot (fT (fI (oIsi "list") (fA1 (fVar 0) fA0)))) (fOr (fNot (fT (fChain oLe oLe (fC (.int 1)) (fI oLen (fA1 (fVar 0) fA0)) (fC (.int 40))))) (fNot (fT (fCall m_are_all (fA1 (fVar 0) (fA1 (fI oLen (fA1 (fVar 0) fA0)) fA0))))))) (sRaise "BadOrder")
  sNext)
def m_check_order : List Dat → Re T := runF 1 1 b_check_order
theorem kd_check_order : KdF m_check_order := @run_kd ⟨[]⟩ _ _ _
def b_check_night : FS := (sSeq (sIf (fOr (fNot (fT (fI (oIsi "tuple") (fA1 (fVar 0) fA0)))) (fOr (fT (fI oNe (fA1 (fI oLen (fA1 (fVar 0) fA0)) (fA1 (fC (.int 2)) fA0)))) (fNot (fT (fI (oIsi "list") (fA1 (fI oIx (fA1 (fVar 0) (fA1 (fC (.int 0)) fA0))) fA0)))))) (sRaise "BadNight")
  sNext)
  (sSeq (sAsg (fI oLen (fA1 (fI oIx (fA1 (fVar 0) (fA1 (fC (.int 0)) fA0))) fA0)) (gN 1))
  (sIf (fOr (fNot (fT (fChain oLe oLe (fC (.int 1)) (fVar 1) (fC (.int 40))))) (fOr (fNot (fT (fCall m_are_all (fA1 (fI oIx (fA1 (fVar 0) (fA1 (fC (.int 0)) fA0))) (fA1 (fVar 1) fA0))))) (fNot (fT (fCall m_are_rising (fA1 (fI oIx (fA1 (fVar 0) (fA1 (fC (.int 1)) fA0))) (fA1 (fVar 1) fA0))))))) (sRaise "BadNight")
  sNext)))
def m_check_night : List Dat → Re T := runF 2 1 b_check_night
theorem kd_check_night : KdF m_check_night := @run_kd ⟨[]⟩ _ _ _
def b_check_two : FS := (sSeq (sDrop (fCall m_check_night (fA1 (fVar 0) fA0)))
  (sSeq (sIf (fNot (fT (fCall m_is_count (fA1 (fVar 1) (fA1 (fC (.int 0)) (fA1 (fI oSub (fA1 (fI oLen (fA1 (fI oIx (fA1 (fVar 0) (fA1 (fC (.int 0)) fA0))) fA0)) (fA1 (fC (.int 1)) fA0))) fA0)))))) (sRaise "BadGuest")
  sNext)
  (sIf (fNot (fT (fCall m_is_count (fA1 (fVar 2) (fA1 (fC (.int 0)) (fA1 (fI oSub (fA1 (fI oLen (fA1 (fI oIx (fA1 (fVar 0) (fA1 (fC (.int 0)) fA0))) fA0)) (fA1 (fC (.int 1)) fA0))) fA0)))))) (sRaise "BadSeat")
  sNext)))
def m_check_two : List Dat → Re T := runF 3 3 b_check_two
theorem kd_check_two : KdF m_check_two := @run_kd ⟨[]⟩ _ _ _
def b_are_pairs : FS := (sSeq (sSeq (sFrz 0) (sIf (fOr (fNot (fT (fI (oIsi "list") (fA1 (fVar 0) fA0)))) (fNot (fT (fI oAll (fA1 (fLc (fItems (fVar 0)) (gN 2) fYes (fAndV (fI (oIsi "tuple") (fA1 (fVar 2) fA0)) (fI oEq (fA1 (fI oLen (fA1 (fVar 2) fA0)) (fA1 (fC (.int 2)) fA0)))) [2]) fA0))))) (sRet (fC (.bl false)))
  sNext))
  (sSeq (sSeq (sFrz 0) (sIf (fNot (fT (fI oAll (fA1 (fLc (fItems (fVar 0)) (gN 2) fYes (fAndV (fCall m_is_count (fA1 (fI oIx (fA1 (fVar 2) (fA1 (fC (.int 0)) fA0))) (fA1 (fC (.int 0)) (fA1 (fI oSub (fA1 (fVar 1) (fA1 (fC (.int 1)) fA0))) fA0)))) (fCall m_is_count (fA1 (fI oIx (fA1 (fVar 2) (fA1 (fC (.int 1)) fA0))) (fA1 (fC (.int 0)) (fA1 (fI oSub (fA1 (fVar 1) (fA1 (fC (.int 1)) fA0))) fA0))))) [2]) fA0)))) (sRet (fC (.bl false)))
  sNext))
  (sSeq (sFrz 0) (sRet (fI oAll (fA1 (fLc (fZip (fA1 (fVar 0) (fA1 (fL lSl10 (fA1 (fVar 0) (fA1 (fC (.int 1)) fA0))) fA0))) (gT [gN 3, gN 4]) fYes (fI oLt (fA1 (fI oIx (fA1 (fVar 3) (fA1 (fC (.int 0)) fA0))) (fA1 (fI oIx (fA1 (fVar 4) (fA1 (fC (.int 0)) fA0))) fA0))) [3, 4]) fA0))))))
def m_are_pairs : List Dat → Re T := runF 5 2 b_are_pairs
theorem kd_are_pairs : KdF m_are_pairs := @run_kd ⟨[]⟩ _ _ _
def b_check_seating : FS := (sIf (fNot (fT (fCall m_are_all (fA1 (fVar 0) (fA1 (fVar 1) fA0))))) (sRaise "BadSeating")
  sNext)
def m_check_seating : List Dat → Re T := runF 2 2 b_check_seating
theorem kd_check_seating : KdF m_check_seating := @run_kd ⟨[]⟩ _ _ _
def b_common_1 : FS := (sSeq (sFrz 1) (sPar 0 1 (fA1 (fVar 1) (fA1 (fI oMod (fA1 (fVar 0) (fA1 (fVar 1) fA0))) fA0))))
def b_common : FS := (sSeq (sWhile 20000 (fT (fI oGt (fA1 (fVar 1) (fA1 (fC (.int 0)) fA0)))) b_common_1)
  (sSeq (sFrz 0) (sRet (fVar 0))))
def m_common : List Dat → Re T := runF 2 2 b_common
theorem kd_common : KdF m_common := @run_kd ⟨[]⟩ _ _ _
def b_part : FS := (sSeq (sAsg (fCall m_common (fA1 (fVar 0) (fA1 (fVar 1) fA0))) (gN 2))
  (sRet (fTup (fA1 (fI oDiv (fA1 (fVar 0) (fA1 (fVar 2) fA0))) (fA1 (fI oDiv (fA1 (fVar 1) (fA1 (fVar 2) fA0))) fA0)))))
def m_part : List Dat → Re T := runF 3 2 b_part
theorem kd_part : KdF m_part := @run_kd ⟨[]⟩ _ _ _
def b_summed_1 : FS := (sAsg (fCall m_part (fA1 (fAdd (fMul (fVar 1) (fVar 4)) (fMul (fVar 3) (fVar 2))) (fA1 (fMul (fVar 2) (fVar 4)) fA0))) (gT [gN 1, gN 2]))
def b_summed : FS := (sSeq (sAsg (fTup (fA1 (fC (.int 0)) (fA1 (fC (.int 1)) fA0))) (gT [gN 1, gN 2]))
  (sSeq (sSeq (sFrz 0) (sSeq (sFor (fItems (fVar 0)) (gW [3, 4] (gT [gN 3, gN 4]))
  b_summed_1) (sWipe [3, 4])))
  (sSeq (sFrz 2) (sSeq (sFrz 1) (sRet (fTup (fA1 (fVar 1) (fA1 (fVar 2) fA0))))))))
def m_summed : List Dat → Re T := runF 5 1 b_summed
theorem kd_summed : KdF m_summed := @run_kd ⟨[]⟩ _ _ _
def b_lost_ahead : FS := (sSeq (sFrz 0) (sRet (fI oLen (fA1 (fLc (fItems (fL lSl01 (fA1 (fI oIx (fA1 (fVar 0) (fA1 (fC (.int 0)) fA0))) (fA1 (fVar 1) fA0)))) (gN 2) (fT (fI (oIn false) (fA1 (fVar 2) (fA1 (fI oIx (fA1 (fVar 0) (fA1 (fC (.int 1)) fA0))) fA0)))) (fVar 2) [2]) fA0))))
def m_lost_ahead : List Dat → Re T := runF 3 2 b_lost_ahead
theorem kd_lost_ahead : KdF m_lost_ahead := @run_kd ⟨[]⟩ _ _ _
def b_room : FS := (sSeq (sSeq (sFrz 0) (sAsg (fVar 0) (gT [gN 2, gN 3])))
  (sSeq (sFrz 2) (sRet (fL lSorted (fA1 (fAdd (fL lSl10 (fA1 (fVar 2) (fA1 (fVar 1) fA0))) (fLc (fItems (fL lSl01 (fA1 (fVar 2) (fA1 (fVar 1) fA0)))) (gN 4) (fT (fI (oIn false) (fA1 (fVar 4) (fA1 (fVar 3) fA0)))) (fVar 4) [4])) fA0)))))
def m_room : List Dat → Re T := runF 5 2 b_room
theorem kd_room : KdF m_room := @run_kd ⟨[]⟩ _ _ _
def b_share_of : FS := (sSeq (sSeq (sFrz 0) (sAsg (fVar 0) (gT [gN 3, gN 4])))
  (sSeq (sAsg (fBm oIndex (fVar 3) (fA1 (fVar 1) fA0)) (gN 5))
  (sSeq (sPar 6 7 (fA1 (fI oSub (fA1 (fI oLen (fA1 (fVar 3) fA0)) (fA1 (fVar 5) fA0))) (fA1 (fCall m_lost_ahead (fA1 (fVar 0) (fA1 (fVar 5) fA0))) fA0)))
  (sSeq (sIf (fT (fI (oIn true) (fA1 (fVar 2) (fA1 (fCall m_room (fA1 (fVar 0) (fA1 (fVar 5) fA0))) fA0)))) (sRet (fTup (fA1 (fC (.int 0)) (fA1 (fC (.int 1)) fA0))))
  sNext)
  (sSeq (sIf (fT (fI (oIn false) (fA1 (fVar 1) (fA1 (fVar 4) fA0)))) (sRet (fTup (fA1 (fC (.int 1)) (fA1 (fAdd (fVar 6) (fVar 7)) fA0))))
  sNext)
  (sSeq (sIf (fT (fI oEq (fA1 (fVar 2) (fA1 (fVar 1) fA0)))) (sRet (fCall m_part (fA1 (fVar 6) (fA1 (fAdd (fVar 6) (fVar 7)) fA0))))
  sNext)
  (sRet (fCall m_part (fA1 (fVar 7) (fA1 (fMul (fAdd (fVar 6) (fVar 7)) (fI oSub (fA1 (fAdd (fVar 6) (fVar 7)) (fA1 (fC (.int 1)) fA0)))) fA0))))))))))
def m_share_of : List Dat → Re T := runF 8 3 b_share_of
theorem kd_share_of : KdF m_share_of := @run_kd ⟨[]⟩ _ _ _
def b_share : FS := (sSeq (sDrop (fCall m_check_two (fA1 (fVar 0) (fA1 (fVar 1) (fA1 (fVar 2) fA0)))))
  (sRet (fCall m_share_of (fA1 (fVar 0) (fA1 (fVar 1) (fA1 (fVar 2) fA0))))))
def m_share : List Dat → Re T := runF 3 3 b_share
theorem kd_share : KdF m_share := @run_kd ⟨[]⟩ _ _ _
def b_free_share_1 : FS := (sAsg (fI oDiv (fA1 (fMul (fVar 6) (fI oSub (fA1 (fI oLen (fA1 (fVar 4) fA0)) (fA1 (fVar 7) fA0)))) (fA1 (fAdd (fVar 7) (fC (.int 1))) fA0))) (gN 6))
def b_free_share : FS := (sSeq (sDrop (fCall m_check_night (fA1 (fVar 0) fA0)))
  (sSeq (sAsg (fI oLen (fA1 (fI oIx (fA1 (fVar 0) (fA1 (fC (.int 0)) fA0))) fA0)) (gN 3))
  (sSeq (sIf (fNot (fT (fCall m_is_count (fA1 (fVar 1) (fA1 (fC (.int 0)) (fA1 (fVar 3) fA0)))))) (sRaise "BadTurn")
  sNext)
  (sSeq (sIf (fNot (fT (fCall m_are_rising (fA1 (fVar 2) (fA1 (fVar 3) fA0))))) (sRaise "BadSeats")
  sNext)
  (sSeq (sAsg (fTup (fA1 (fCall m_room (fA1 (fVar 0) (fA1 (fVar 1) fA0))) (fA1 (fI oSub (fA1 (fVar 3) (fA1 (fVar 1) fA0))) fA0))) (gT [gN 4, gN 5]))
  (sSeq (sSeq (sFrz 2) (sIf (fOr (fT (fI oNe (fA1 (fI oLen (fA1 (fVar 2) fA0)) (fA1 (fVar 5) fA0)))) (fNot (fT (fI oAll (fA1 (fLc (fItems (fVar 2)) (gN 8) fYes (fI (oIn false) (fA1 (fVar 8) (fA1 (fVar 4) fA0))) [8]) fA0))))) (sRet (fTup (fA1 (fC (.int 0)) (fA1 (fC (.int 1)) fA0))))
  sNext))
  (sSeq (sAsg (fC (.int 1)) (gN 6))
  (sSeq (sSeq (sFor (fRng1 (fA1 (fVar 5) fA0)) (gW [7] (gN 7))
  b_free_share_1) (sWipe [7]))
  (sSeq (sFrz 6) (sRet (fTup (fA1 (fC (.int 1)) (fA1 (fVar 6) fA0)))))))))))))
def m_free_share : List Dat → Re T := runF 9 3 b_free_share
theorem kd_free_share : KdF m_free_share := @run_kd ⟨[]⟩ _ _ _
def b_seating_1 : FS := (sAug 4 oMulI (fVar 5))
def b_seating : FS := (sSeq (sDrop (fCall m_check_night (fA1 (fVar 0) fA0)))
  (sSeq (sDrop (fCall m_check_seating (fA1 (fVar 1) (fA1 (fI oLen (fA1 (fI oIx (fA1 (fVar 0) (fA1 (fC (.int 0)) fA0))) fA0)) fA0))))
  (sSeq (sAsg (fCall m_choices_of (fA1 (fVar 0) (fA1 (fVar 1) fA0))) (gT [gN 2, gN 3]))
  (sSeq (sIf (fT (fI (oIsN true) (fA1 (fVar 3) (fA1 (fC .non) fA0)))) (sRet (fTup (fA1 (fC (.int 0)) (fA1 (fC (.int 1)) fA0))))
  sNext)
  (sSeq (sAsg (fC (.int 1)) (gN 4))
  (sSeq (sSeq (sFrz 2) (sSeq (sFor (fItems (fVar 2)) (gW [5] (gN 5))
  b_seating_1) (sWipe [5])))
  (sSeq (sFrz 4) (sRet (fTup (fA1 (fC (.int 1)) (fA1 (fVar 4) fA0)))))))))))
def m_seating : List Dat → Re T := runF 6 2 b_seating
theorem kd_seating : KdF m_seating := @run_kd ⟨[]⟩ _ _ _
def b_own : FS := (sSeq (sDrop (fCall m_check_night (fA1 (fVar 0) fA0)))
  (sSeq (sFrz 0) (sRet (fCall m_summed (fA1 (fLc (fItems (fI oIx (fA1 (fVar 0) (fA1 (fC (.int 0)) fA0)))) (gN 1) fYes (fCall m_share_of (fA1 (fVar 0) (fA1 (fVar 1) (fA1 (fVar 1) fA0)))) [1]) fA0)))))
def m_own : List Dat → Re T := runF 2 1 b_own
theorem kd_own : KdF m_own := @run_kd ⟨[]⟩ _ _ _
def b_share_back : FS := (sSeq (sDrop (fCall m_check_two (fA1 (fVar 0) (fA1 (fVar 1) (fA1 (fVar 2) fA0)))))
  (sSeq (sSeq (sFrz 0) (sAsg (fI oIx (fA1 (fVar 0) (fA1 (fC (.int 1)) fA0))) (gN 3)))
  (sSeq (sIf (fT (fI (oIn true) (fA1 (fVar 1) (fA1 (fVar 3) fA0)))) (sRet (fTup (fA1 (fI oInt (fA1 (fI oEq (fA1 (fVar 1) (fA1 (fVar 2) fA0))) fA0)) (fA1 (fC (.int 1)) fA0))))
  sNext)
  (sRet (fIf (fT (fI (oIn false) (fA1 (fVar 2) (fA1 (fVar 3) fA0)))) (fTup (fA1 (fC (.int 1)) (fA1 (fI oLen (fA1 (fVar 3) fA0)) fA0))) (fTup (fA1 (fC (.int 0)) (fA1 (fC (.int 1)) fA0))))))))
def m_share_back : List Dat → Re T := runF 4 3 b_share_back
theorem kd_share_back : KdF m_share_back := @run_kd ⟨[]⟩ _ _ _
def b_asked_1 : FS := (sSeq (sAsg (fCall m_lost_ahead (fA1 (fVar 0) (fA1 (fVar 4) fA0))) (gN 6))
  (sIf (fT (fI (oIn true) (fA1 (fVar 5) (fA1 (fVar 2) fA0)))) (sMut (pS 3) mAppend (fA1 (fCall m_part (fA1 (fVar 6) (fA1 (fAdd (fI oSub (fA1 (fI oLen (fA1 (fVar 1) fA0)) (fA1 (fVar 4) fA0))) (fVar 6)) fA0))) fA0))
  sNext))
def b_asked : FS := (sSeq (sDrop (fCall m_check_night (fA1 (fVar 0) fA0)))
  (sSeq (sSeq (sFrz 0) (sAsg (fVar 0) (gT [gN 1, gN 2])))
  (sSeq (sAsg (fLst fA0) (gN 3))
  (sSeq (sSeq (sFrz 1) (sSeq (sFor (fEnum (fA1 (fVar 1) fA0)) (gW [4, 5, 6] (gT [gN 4, gN 5]))
  b_asked_1) (sWipe [4, 5, 6])))
  (sRet (fCall m_summed (fA1 (fVar 3) fA0)))))))
def m_asked : List Dat → Re T := runF 7 1 b_asked
theorem kd_asked : KdF m_asked := @run_kd ⟨[]⟩ _ _ _
def b_Door_init : FS := (sSeq (sDrop (fCall m_check_night (fA1 (fVar 1) fA0)))
  (sSeq (sFldS 0 "Door" "order" (fL lItems (fA1 (fI oIx (fA1 (fVar 1) (fA1 (fC (.int 0)) fA0))) fA0)))
  (sSeq (sFldS 0 "Door" "lost" (fL lItems (fA1 (fI oIx (fA1 (fVar 1) (fA1 (fC (.int 1)) fA0))) fA0)))
  (sSeq (sFldS 0 "Door" "seats" (fLst fA0))
  (sFldS 0 "Door" "bottom" (fC (.int 1)))))))
abbrev m_Door_init : List Dat → Re T := makeF "Door" 2 2 b_Door_init
def b_Door_next_guest : FS := (sSeq (sFrz 0) (sRet (fIf (fT (fI oLt (fA1 (fI oLen (fA1 (fI (oFld "Door" "seats") (fA1 (fVar 0) fA0)) fA0)) (fA1 (fI oLen (fA1 (fI (oFld "Door" "order") (fA1 (fVar 0) fA0)) fA0)) fA0)))) (fI oIx (fA1 (fI (oFld "Door" "order") (fA1 (fVar 0) fA0)) (fA1 (fI oLen (fA1 (fI (oFld "Door" "seats") (fA1 (fVar 0) fA0)) fA0)) fA0))) (fC .non))))
def m_Door_next_guest : List Dat → Re T := runF 1 1 b_Door_next_guest
theorem kd_Door_next_guest : KdF m_Door_next_guest := @run_kd ⟨[]⟩ _ _ _
def b_Door_open_seats : FS := (sSeq (sAsg (fMeth "Door" "next_guest" m_Door_next_guest (fVar 0) fA0) (gN 1))
  (sSeq (sIf (fT (fI (oIsN false) (fA1 (fVar 1) (fA1 (fC .non) fA0)))) (sRet (fLst fA0))
  sNext)
  (sSeq (sAsg (fLc (fRng1 (fA1 (fI oLen (fA1 (fI (oFld "Door" "order") (fA1 (fVar 0) fA0)) fA0)) fA0)) (gN 3) (fT (fI (oIn true) (fA1 (fVar 3) (fA1 (fI (oFld "Door" "seats") (fA1 (fVar 0) fA0)) fA0)))) (fVar 3) [3]) (gN 2))
  (sRetX (xIf (xTP (fAnd (fT (fI (oIn true) (fA1 (fVar 1) (fA1 (fI (oFld "Door" "lost") (fA1 (fVar 0) fA0)) fA0)))) (fT (fI (oIn false) (fA1 (fVar 1) (fA1 (fVar 2) fA0)))))) (xP (fLst (fA1 (fVar 1) fA0))) (xMove 2))))))
def m_Door_open_seats : List Dat → Re T := runF 4 1 b_Door_open_seats
theorem kd_Door_open_seats : KdF m_Door_open_seats := @run_kd ⟨[]⟩ _ _ _
def b_Door_come : FS := (sSeq (sPar 2 3 (fA1 (fMeth "Door" "next_guest" m_Door_next_guest (fVar 0) fA0) (fA1 (fMeth "Door" "open_seats" m_Door_open_seats (fVar 0) fA0) fA0)))
  (sSeq (sIf (fT (fI (oIsN false) (fA1 (fVar 2) (fA1 (fC .non) fA0)))) (sRaise "AllCame")
  sNext)
  (sSeq (sIf (fOr (fNot (fT (fCall m_is_count (fA1 (fVar 1) (fA1 (fC (.int 0)) (fA1 (fI oSub (fA1 (fI oLen (fA1 (fI (oFld "Door" "order") (fA1 (fVar 0) fA0)) fA0)) (fA1 (fC (.int 1)) fA0))) fA0)))))) (fT (fI (oIn true) (fA1 (fVar 1) (fA1 (fVar 3) fA0))))) (sRaise "BadSeat")
  sNext)
  (sSeq (sFldA 0 "Door" "bottom" oMulI (fI oLen (fA1 (fVar 3) fA0)))
  (sSeq (sSeq (sFrz 1) (sMut (pF "Door" "seats" (pS 0)) mAppend (fA1 (fVar 1) fA0)))
  (sSeq (sFrz 2) (sRet (fVar 2))))))))
def m_Door_come : List Dat → Re T := runF 4 2 b_Door_come
theorem kd_Door_come : KdF m_Door_come := @run_kd ⟨[]⟩ _ _ _
def bm_Door_come : FS := (sSeq (sPar 2 3 (fA1 (fMeth "Door" "next_guest" m_Door_next_guest (fVar 0) fA0) (fA1 (fMeth "Door" "open_seats" m_Door_open_seats (fVar 0) fA0) fA0)))
  (sSeq (sIf (fT (fI (oIsN false) (fA1 (fVar 2) (fA1 (fC .non) fA0)))) (sRaise "AllCame")
  sNext)
  (sSeq (sIf (fOr (fNot (fT (fCall m_is_count (fA1 (fVar 1) (fA1 (fC (.int 0)) (fA1 (fI oSub (fA1 (fI oLen (fA1 (fI (oFld "Door" "order") (fA1 (fVar 0) fA0)) fA0)) (fA1 (fC (.int 1)) fA0))) fA0)))))) (fT (fI (oIn true) (fA1 (fVar 1) (fA1 (fVar 3) fA0))))) (sRaise "BadSeat")
  sNext)
  (sSeq (sFldA 0 "Door" "bottom" oMulI (fI oLen (fA1 (fVar 3) fA0)))
  (sSeq (sSeq (sFrz 1) (sMut (pF "Door" "seats" (pS 0)) mAppend (fA1 (fVar 1) fA0)))
  (sSeq (sFrz 2) (sRet (fVar 2))))))))
def mm_Door_come : T → List Dat → Re (T × Dat) := runM 4 2 bm_Door_come
def b_Door_taken : FS := (sSeq (sSeq (sFrz 0) (sAsg (fDct (fLc (fZip (fA1 (fI (oFld "Door" "order") (fA1 (fVar 0) fA0)) (fA1 (fI (oFld "Door" "seats") (fA1 (fVar 0) fA0)) fA0))) (gT [gN 2, gN 3]) fYes (fTup (fA1 (fVar 2) (fA1 (fVar 3) fA0))) [2, 3])) (gN 1)))
  (sRet (fLc (fRng1 (fA1 (fI oLen (fA1 (fI (oFld "Door" "order") (fA1 (fVar 0) fA0)) fA0)) fA0)) (gN 2) fYes (fDm oDGet (fVar 1) (fA1 (fVar 2) (fA1 (fC .non) fA0))) [2])))
def m_Door_taken : List Dat → Re T := runF 4 1 b_Door_taken
theorem kd_Door_taken : KdF m_Door_taken := @run_kd ⟨[]⟩ _ _ _
def b_Door_so_far : FS := (sDrop (fCall m_wall (fA1 (fC (.int 2)) fA0)))
def m_Door_so_far : List Dat → Re T := runF 1 1 b_Door_so_far
theorem kd_Door_so_far : KdF m_Door_so_far := @run_kd ⟨[]⟩ _ _ _
def b_Row_init : FS := (sSeq (sFldS 0 "Row" "guests" (fL lItems (fA1 (fI oIx (fA1 (fVar 1) (fA1 (fC (.int 0)) fA0))) fA0)))
  (sSeq (sFldS 0 "Row" "seats" (fL lItems (fA1 (fI oIx (fA1 (fVar 1) (fA1 (fC (.int 0)) fA0))) fA0)))
  (sFldS 0 "Row" "lost" (fLc (fItems (fI oIx (fA1 (fVar 1) (fA1 (fC (.int 0)) fA0)))) (gN 2) fYes (fI (oIn false) (fA1 (fVar 2) (fA1 (fI oIx (fA1 (fVar 1) (fA1 (fC (.int 1)) fA0))) fA0))) [2]))))
abbrev m_Row_init : List Dat → Re T := makeF "Row" 3 2 b_Row_init
def b_Row_drop : FS := (sSeq (sSeq (sFrz 1) (sMut (pF "Row" "guests" (pS 0)) mPopAt (fA1 (fVar 1) fA0)))
  (sSeq (sSeq (sFrz 1) (sMut (pF "Row" "seats" (pS 0)) mPopAt (fA1 (fVar 1) fA0)))
  (sSeq (sFrz 1) (sMut (pF "Row" "lost" (pS 0)) mPopAt (fA1 (fVar 1) fA0)))))
def m_Row_drop : List Dat → Re T := runF 2 2 b_Row_drop
theorem kd_Row_drop : KdF m_Row_drop := @run_kd ⟨[]⟩ _ _ _
def bm_Row_drop : FS := (sSeq (sSeq (sFrz 1) (sMut (pF "Row" "guests" (pS 0)) mPopAt (fA1 (fVar 1) fA0)))
  (sSeq (sSeq (sFrz 1) (sMut (pF "Row" "seats" (pS 0)) mPopAt (fA1 (fVar 1) fA0)))
  (sSeq (sFrz 1) (sMut (pF "Row" "lost" (pS 0)) mPopAt (fA1 (fVar 1) fA0)))))
def mm_Row_drop : T → List Dat → Re (T × Dat) := runM 2 2 bm_Row_drop
def b_Row_ahead : FS := (sRet (fLc (fRng1 (fA1 (fVar 1) fA0)) (gN 2) (fT (fI oIx (fA1 (fI (oFld "Row" "lost") (fA1 (fVar 0) fA0)) (fA1 (fVar 2) fA0)))) (fVar 2) [2]))
def m_Row_ahead : List Dat → Re T := runF 3 2 b_Row_ahead
theorem kd_Row_ahead : KdF m_Row_ahead := @run_kd ⟨[]⟩ _ _ _
def b_Row_share_at : FS := (sSeq (sPar 3 4 (fA1 (fI oSub (fA1 (fI oLen (fA1 (fI (oFld "Row" "guests") (fA1 (fVar 0) fA0)) fA0)) (fA1 (fVar 1) fA0))) (fA1 (fMeth "Row" "ahead" m_Row_ahead (fVar 0) (fA1 (fVar 1) fA0)) fA0)))
  (sSeq (sSeq (sFrz 4) (sSeq (sFrz 0) (sIf (fT (fI (oIn true) (fA1 (fVar 2) (fA1 (fAdd (fL lSl10 (fA1 (fI (oFld "Row" "seats") (fA1 (fVar 0) fA0)) (fA1 (fVar 1) fA0))) (fLc (fItems (fVar 4)) (gN 5) fYes (fI oIx (fA1 (fI (oFld "Row" "seats") (fA1 (fVar 0) fA0)) (fA1 (fVar 5) fA0))) [5])) fA0)))) (sRet (fTup (fA1 (fC (.int 0)) (fA1 (fC (.int 1)) fA0))))
  sNext)))
  (sSeq (sIf (fT (fI oIx (fA1 (fI (oFld "Row" "lost") (fA1 (fVar 0) fA0)) (fA1 (fVar 1) fA0)))) (sRet (fTup (fA1 (fC (.int 1)) (fA1 (fAdd (fVar 3) (fI oLen (fA1 (fVar 4) fA0))) fA0))))
  sNext)
  (sSeq (sIf (fT (fI oEq (fA1 (fVar 2) (fA1 (fI oIx (fA1 (fI (oFld "Row" "seats") (fA1 (fVar 0) fA0)) (fA1 (fVar 1) fA0))) fA0)))) (sRet (fCall m_part (fA1 (fVar 3) (fA1 (fAdd (fVar 3) (fI oLen (fA1 (fVar 4) fA0))) fA0))))
  sNext)
  (sRet (fCall m_part (fA1 (fI oLen (fA1 (fVar 4) fA0)) (fA1 (fMul (fAdd (fVar 3) (fI oLen (fA1 (fVar 4) fA0))) (fI oSub (fA1 (fAdd (fVar 3) (fI oLen (fA1 (fVar 4) fA0))) (fA1 (fC (.int 1)) fA0)))) fA0))))))))
def m_Row_share_at : List Dat → Re T := runF 6 3 b_Row_share_at
theorem kd_Row_share_at : KdF m_Row_share_at := @run_kd ⟨[]⟩ _ _ _
def b_Row_sit : FS := (sSeq (sPar 3 4 (fA1 (fBm oIndex (fI (oFld "Row" "seats") (fA1 (fVar 0) fA0)) (fA1 (fVar 2) fA0)) (fA1 (fI oIx (fA1 (fI (oFld "Row" "seats") (fA1 (fVar 0) fA0)) (fA1 (fVar 1) fA0))) fA0)))
  (sIf (fT (fI oEq (fA1 (fVar 3) (fA1 (fVar 1) fA0)))) (sDrop (fMeth "Row" "drop" m_Row_drop (fVar 0) (fA1 (fVar 1) fA0)))
  (sIf (fT (fI oIx (fA1 (fI (oFld "Row" "lost") (fA1 (fVar 0) fA0)) (fA1 (fVar 1) fA0)))) (sSeq (sSeq (sFrz 4) (sSetIx (pF "Row" "seats" (pS 0)) (fVar 3) (fVar 4)))
  (sSeq (sSetIx (pF "Row" "lost" (pS 0)) (fVar 3) (fC (.bl true)))
  (sDrop (fMeth "Row" "drop" m_Row_drop (fVar 0) (fA1 (fVar 1) fA0)))))
  (sSeq (sAsg (fI oIx (fA1 (fMeth "Row" "ahead" m_Row_ahead (fVar 0) (fA1 (fVar 1) fA0)) (fA1 (fC (.int 0)) fA0))) (gN 5))
  (sSeq (sIf (fT (fI oLt (fA1 (fVar 3) (fA1 (fVar 1) fA0)))) (sSeq (sFrz 3) (sAsg (fVar 3) (gN 5)))
  (sSeq (sSetIx (pF "Row" "seats" (pS 0)) (fVar 3) (fI oIx (fA1 (fI (oFld "Row" "seats") (fA1 (fVar 0) fA0)) (fA1 (fVar 5) fA0))))
  (sSetIx (pF "Row" "lost" (pS 0)) (fVar 3) (fC (.bl true)))))
  (sSeq (sDrop (fMeth "Row" "drop" m_Row_drop (fVar 0) (fA1 (fVar 1) fA0)))
  (sDrop (fMeth "Row" "drop" m_Row_drop (fVar 0) (fA1 (fVar 5) fA0)))))))))
def m_Row_sit : List Dat → Re T := runF 6 3 b_Row_sit
theorem kd_Row_sit : KdF m_Row_sit := @run_kd ⟨[]⟩ _ _ _
def bm_Row_sit : FS := (sSeq (sPar 3 4 (fA1 (fBm oIndex (fI (oFld "Row" "seats") (fA1 (fVar 0) fA0)) (fA1 (fVar 2) fA0)) (fA1 (fI oIx (fA1 (fI (oFld "Row" "seats") (fA1 (fVar 0) fA0)) (fA1 (fVar 1) fA0))) fA0)))
  (sIf (fT (fI oEq (fA1 (fVar 3) (fA1 (fVar 1) fA0)))) (sDropX (fXM "Row" "drop" mm_Row_drop 0 (fA1 (fVar 1) fA0)))
  (sIf (fT (fI oIx (fA1 (fI (oFld "Row" "lost") (fA1 (fVar 0) fA0)) (fA1 (fVar 1) fA0)))) (sSeq (sSeq (sFrz 4) (sSetIx (pF "Row" "seats" (pS 0)) (fVar 3) (fVar 4)))
  (sSeq (sSetIx (pF "Row" "lost" (pS 0)) (fVar 3) (fC (.bl true)))
  (sDropX (fXM "Row" "drop" mm_Row_drop 0 (fA1 (fVar 1) fA0)))))
  (sSeq (sAsg (fI oIx (fA1 (fMeth "Row" "ahead" m_Row_ahead (fVar 0) (fA1 (fVar 1) fA0)) (fA1 (fC (.int 0)) fA0))) (gN 5))
  (sSeq (sIf (fT (fI oLt (fA1 (fVar 3) (fA1 (fVar 1) fA0)))) (sSeq (sFrz 3) (sAsg (fVar 3) (gN 5)))
  (sSeq (sSetIx (pF "Row" "seats" (pS 0)) (fVar 3) (fI oIx (fA1 (fI (oFld "Row" "seats") (fA1 (fVar 0) fA0)) (fA1 (fVar 5) fA0))))
  (sSetIx (pF "Row" "lost" (pS 0)) (fVar 3) (fC (.bl true)))))
  (sSeq (sDropX (fXM "Row" "drop" mm_Row_drop 0 (fA1 (fVar 1) fA0)))
  (sDropX (fXM "Row" "drop" mm_Row_drop 0 (fA1 (fVar 5) fA0)))))))))
def mm_Row_sit : T → List Dat → Re (T × Dat) := runM 6 3 bm_Row_sit
def b_together_1 : FS := (sSeq (sAsg (fBm oIndex (fI (oFld "Row" "guests") (fA1 (fVar 2) fA0)) (fA1 (fVar 5) fA0)) (gN 7))
  (sSeq (sAsg (fMeth "Row" "share_at" m_Row_share_at (fVar 2) (fA1 (fVar 7) (fA1 (fVar 6) fA0))) (gT [gN 8, gN 9]))
  (sSeq (sIf (fT (fI oEq (fA1 (fVar 8) (fA1 (fC (.int 0)) fA0)))) (sRet (fTup (fA1 (fC (.int 0)) (fA1 (fC (.int 1)) fA0))))
  sNext)
  (sSeq (sAsg (fCall m_part (fA1 (fMul (fI oIx (fA1 (fVar 3) (fA1 (fC (.int 0)) fA0))) (fVar 8)) (fA1 (fMul (fI oIx (fA1 (fVar 3) (fA1 (fC (.int 1)) fA0))) (fVar 9)) fA0))) (gN 3))
  (sDropX (fXM "Row" "sit" mm_Row_sit 2 (fA1 (fVar 7) (fA1 (fVar 6) fA0))))))))
def b_together : FS := (sSeq (sDrop (fCall m_check_night (fA1 (fVar 0) fA0)))
  (sSeq (sIf (fNot (fT (fCall m_are_pairs (fA1 (fVar 1) (fA1 (fI oLen (fA1 (fI oIx (fA1 (fVar 0) (fA1 (fC (.int 0)) fA0))) fA0)) fA0))))) (sRaise "BadPairs")
  sNext)
  (sSeq (sPar 2 3 (fA1 (fCall m_Row_init (fA1 (fVar 0) fA0)) (fA1 (fTup (fA1 (fC (.int 1)) (fA1 (fC (.int 1)) fA0))) fA0)))
  (sSeq (sSeq (sFrz 6) (sSeq (sFrz 5) (sSeq (sFrz 1) (sSeq (sFor (fItems (fL lSorted (fA1 (fLc (fItems (fVar 1)) (gT [gN 5, gN 6]) fYes (fTup (fA1 (fBm oIndex (fI oIx (fA1 (fVar 0) (fA1 (fC (.int 0)) fA0))) (fA1 (fVar 5) fA0)) (fA1 (fVar 5) (fA1 (fVar 6) fA0)))) [5, 6]) fA0))) (gW [4, 5, 6, 7, 8, 9] (gT [gN 4, gN 5, gN 6]))
  b_together_1) (sWipe [4, 5, 6, 7, 8, 9])))))
  (sSeq (sFrz 3) (sRet (fVar 3)))))))
def m_together : List Dat → Re T := runF 10 2 b_together
theorem kd_together : KdF m_together := @run_kd ⟨[]⟩ _ _ _
def b_judged : FS := (sSeq (sDrop (fCall m_check_night (fA1 (fVar 0) fA0)))
  (sSeq (sDrop (fCall m_check_seating (fA1 (fVar 1) (fA1 (fI oLen (fA1 (fI oIx (fA1 (fVar 0) (fA1 (fC (.int 0)) fA0))) fA0)) fA0))))
  (sSeq (sAsg (fCall m_choices_of (fA1 (fVar 0) (fA1 (fVar 1) fA0))) (gT [gN 2, gN 3]))
  (sRet (fIf (fT (fI (oIsN false) (fA1 (fVar 3) (fA1 (fC .non) fA0)))) (fCall m_Comes_init (fA1 (fVar 2) fA0)) (fCall m_Bars_init (fA1 (fVar 3) fA0)))))))
def m_judged : List Dat → Re T := runF 4 2 b_judged
theorem kd_judged : KdF m_judged := @run_kd ⟨[]⟩ _ _ _
def b_must_1 : FS := (sSeq (sIf (fAnd (fT (fI (oIn true) (fA1 (fVar 4) (fA1 (fVar 3) fA0)))) (fT (fI oNe (fA1 (fI oIx (fA1 (fVar 1) (fA1 (fVar 4) fA0))) (fA1 (fVar 4) fA0))))) (sSeq (sFrz 4) (sMut (pS 2) mAppend (fA1 (fVar 4) fA0)))
  sNext)
  (sSeq (sFrz 1) (sMut (pS 3) mAppend (fA1 (fI oIx (fA1 (fVar 1) (fA1 (fVar 4) fA0))) fA0))))
def b_must : FS := (sSeq (sDrop (fCall m_check_order (fA1 (fVar 0) fA0)))
  (sSeq (sDrop (fCall m_check_seating (fA1 (fVar 1) (fA1 (fI oLen (fA1 (fVar 0) fA0)) fA0))))
  (sSeq (sPar 2 3 (fA1 (fLst fA0) (fA1 (fLst fA0) fA0)))
  (sSeq (sSeq (sFrz 0) (sSeq (sFor (fItems (fVar 0)) (gW [4] (gN 4))
  b_must_1) (sWipe [4])))
  (sRet (fL lSorted (fA1 (fVar 2) fA0)))))))
def m_must : List Dat → Re T := runF 5 2 b_must
theorem kd_must : KdF m_must := @run_kd ⟨[]⟩ _ _ _
def b_all_seatings_1 : FS := (sSeq (sAsg (fLc (fRng1 (fA1 (fI oLen (fA1 (fVar 1) fA0)) fA0)) (gN 10) (fT (fI (oIn true) (fA1 (fVar 10) (fA1 (fVar 6) fA0)))) (fVar 10) [10]) (gN 7))
  (sSeq (sIf (fAnd (fT (fI (oIn true) (fA1 (fVar 4) (fA1 (fVar 2) fA0)))) (fT (fI (oIn false) (fA1 (fVar 4) (fA1 (fVar 7) fA0))))) (sSeq (sFrz 4) (sAsg (fLst (fA1 (fVar 4) fA0)) (gN 7)))
  sNext)
  (sSeq (sFrz 7) (sMut (pS 5) mExtend (fA1 (fLc (fItems (fVar 7)) (gN 10) fYes (fAdd (fVar 6) (fLst (fA1 (fVar 10) fA0))) [10]) fA0)))))
def b_all_seatings_2 : FS := (sSeq (sAsg (fLst fA0) (gN 5))
  (sSeq (sSeq (sFrz 3) (sSeq (sFor (fItems (fVar 3)) (gW [6, 7] (gN 6))
  b_all_seatings_1) (sWipe [6, 7])))
  (sSeq (sFrz 5) (sAsg (fVar 5) (gN 3)))))
def b_all_seatings_3 : FS := (sSeq (sSeq (sFrz 6) (sSeq (sFrz 4) (sSeq (sFrz 1) (sAsg (fDct (fLc (fZip (fA1 (fVar 1) (fA1 (fVar 6) fA0))) (gT [gN 4, gN 10]) fYes (fTup (fA1 (fVar 4) (fA1 (fVar 10) fA0))) [4, 10])) (gN 9)))))
  (sSeq (sFrz 9) (sMut (pS 8) mAppend (fA1 (fLc (fRng1 (fA1 (fI oLen (fA1 (fVar 1) fA0)) fA0)) (gN 4) fYes (fI oDIx (fA1 (fVar 9) (fA1 (fVar 4) fA0))) [4]) fA0))))
def b_all_seatings : FS := (sSeq (sSeq (sFrz 0) (sAsg (fVar 0) (gT [gN 1, gN 2])))
  (sSeq (sAsg (fL lAll (fA1 (fLst fA0) fA0)) (gN 3))
  (sSeq (sSeq (sFrz 1) (sSeq (sFor (fItems (fVar 1)) (gW [4, 5, 6, 7] (gN 4))
  b_all_seatings_2) (sWipe [4, 5, 6, 7])))
  (sSeq (sAsg (fLst fA0) (gN 8))
  (sSeq (sSeq (sFrz 3) (sSeq (sFor (fItems (fVar 3)) (gW [6, 9] (gN 6))
  b_all_seatings_3) (sWipe [6, 9])))
  (sSeq (sFrz 8) (sRet (fL lSortB (fA1 (fVar 8) fA0)))))))))
def m_all_seatings : List Dat → Re T := runF 11 1 b_all_seatings
theorem kd_all_seatings : KdF m_all_seatings := @run_kd ⟨[]⟩ _ _ _
def b_check_small : FS := (sSeq (sDrop (fCall m_check_night (fA1 (fVar 0) fA0)))
  (sIf (fT (fI oGt (fA1 (fI oLen (fA1 (fI oIx (fA1 (fVar 0) (fA1 (fC (.int 0)) fA0))) fA0)) (fA1 (fC (.int 6)) fA0)))) (sRaise "TooMany")
  sNext))
def m_check_small : List Dat → Re T := runF 1 1 b_check_small
theorem kd_check_small : KdF m_check_small := @run_kd ⟨[]⟩ _ _ _
def b_how_many : FS := (sSeq (sDrop (fCall m_check_small (fA1 (fVar 0) fA0)))
  (sRet (fI oLen (fA1 (fCall m_all_seatings (fA1 (fVar 0) fA0)) fA0))))
def m_how_many : List Dat → Re T := runF 1 1 b_how_many
theorem kd_how_many : KdF m_how_many := @run_kd ⟨[]⟩ _ _ _
def b_seating_by : FS := (sSeq (sDrop (fCall m_check_small (fA1 (fVar 0) fA0)))
  (sSeq (sAsg (fCall m_all_seatings (fA1 (fVar 0) fA0)) (gN 2))
  (sSeq (sIf (fNot (fT (fCall m_is_count (fA1 (fVar 1) (fA1 (fC (.int 0)) (fA1 (fI oSub (fA1 (fI oLen (fA1 (fVar 2) fA0)) (fA1 (fC (.int 1)) fA0))) fA0)))))) (sRaise "BadNumber")
  sNext)
  (sSeq (sFrz 2) (sRet (fI oIx (fA1 (fVar 2) (fA1 (fVar 1) fA0))))))))
def m_seating_by : List Dat → Re T := runF 3 2 b_seating_by
theorem kd_seating_by : KdF m_seating_by := @run_kd ⟨[]⟩ _ _ _
def b_number_of : FS := (sSeq (sDrop (fCall m_check_small (fA1 (fVar 0) fA0)))
  (sSeq (sDrop (fCall m_check_seating (fA1 (fVar 1) (fA1 (fI oLen (fA1 (fI oIx (fA1 (fVar 0) (fA1 (fC (.int 0)) fA0))) fA0)) fA0))))
  (sSeq (sAsg (fCall m_all_seatings (fA1 (fVar 0) fA0)) (gN 2))
  (sSeq (sIf (fT (fI (oIn true) (fA1 (fVar 1) (fA1 (fVar 2) fA0)))) (sRaise "NotSo")
  sNext)
  (sRet (fBm oIndexR (fVar 2) (fA1 (fVar 1) fA0)))))))
def m_number_of : List Dat → Re T := runF 3 2 b_number_of
theorem kd_number_of : KdF m_number_of := @run_kd ⟨[]⟩ _ _ _
def b_law_cell_at : FS := (sSeq (sIf (fT (fI oLt (fA1 (fVar 1) (fA1 (fI oLen (fA1 (fVar 0) fA0)) fA0)))) (sSeq (sFrz 0) (sRet (fI oIx (fA1 (fVar 0) (fA1 (fVar 1) fA0)))))
  sNext)
  (sRet (fC (.int 0))))
def m_law_cell_at : List Dat → Re T := runF 2 2 b_law_cell_at
theorem kd_law_cell_at : KdF m_law_cell_at := @run_kd ⟨[]⟩ _ _ _
def b_law_draw : FS := (sSeq (sAsg (fTup (fA1 (fC (.int 1000003)) (fA1 (fC (.int 1000033)) (fA1 (fC (.int 1000037)) (fA1 (fC (.int 1000039)) (fA1 (fC (.int 1000081)) (fA1 (fC (.int 1000099)) (fA1 (fC (.int 1000117)) (fA1 (fC (.int 1000121)) (fA1 (fC (.int 1000133)) (fA1 (fC (.int 1000151)) (fA1 (fC (.int 1000159)) (fA1 (fC (.int 1000171)) (fA1 (fC (.int 1000183)) (fA1 (fC (.int 1000187)) (fA1 (fC (.int 1000193)) (fA1 (fC (.int 1000199)) fA0))))))))))))))))) (gN 3))
  (sRet (fI oMod (fA1 (fI oMod (fA1 (fAdd (fMul (fVar 0) (fC (.int 48271))) (fMul (fVar 1) (fC (.int 69621)))) (fA1 (fI oIx (fA1 (fVar 3) (fA1 (fI oMod (fA1 (fVar 1) (fA1 (fC (.int 16)) fA0))) fA0))) fA0))) (fA1 (fVar 2) fA0)))))
def m_law_draw : List Dat → Re T := runF 4 3 b_law_draw
theorem kd_law_draw : KdF m_law_draw := @run_kd ⟨[]⟩ _ _ _
def b_law_value : FS := (sSeq (sIf (fT (fI oGe (fA1 (fVar 0) (fA1 (fI oPow (fA1 (fC (.int 10)) (fA1 (fC (.int 18)) fA0))) fA0)))) (sRet (fI oShr (fA1 (fI oMod (fA1 (fI oSub (fA1 (fVar 0) (fA1 (fI oPow (fA1 (fC (.int 10)) (fA1 (fC (.int 18)) fA0))) fA0))) (fA1 (fI oPow (fA1 (fC (.int 10)) (fA1 (fC (.int 40)) fA0))) fA0))) (fA1 (fMul (fC (.int 3)) (fVar 1)) fA0))))
  sNext)
  (sSeq (sAsg (fI oMod (fA1 (fVar 0) (fA1 (fI oPow (fA1 (fC (.int 10)) (fA1 (fC (.int 18)) fA0))) fA0))) (gN 2))
  (sSeq (sAsg (fCall m_law_draw (fA1 (fMul (fAdd (fVar 2) (fMul (fC (.int 977)) (fVar 1))) (fAdd (fAdd (fVar 2) (fMul (fC (.int 31)) (fVar 1))) (fC (.int 5)))) (fA1 (fAdd (fI oMod (fA1 (fVar 1) (fA1 (fC (.int 9)) fA0))) (fC (.int 1))) (fA1 (fC (.int 999983)) fA0)))) (gN 3))
  (sRet (fAdd (fMul (fVar 3) (fC (.int 1000003))) (fCall m_law_draw (fA1 (fAdd (fMul (fAdd (fVar 2) (fMul (fC (.int 31)) (fVar 1))) (fAdd (fVar 2) (fC (.int 7)))) (fMul (fC (.int 977)) (fVar 1))) (fA1 (fAdd (fI oMod (fA1 (fVar 1) (fA1 (fC (.int 7)) fA0))) (fC (.int 2))) (fA1 (fC (.int 1000003)) fA0)))))))))
def m_law_value : List Dat → Re T := runF 4 2 b_law_value
theorem kd_law_value : KdF m_law_value := @run_kd ⟨[]⟩ _ _ _
def b_law_kinds (af : Nat) (ar : Re Dat) : FS := (sSeq (sAsg (fLst fA0) (gN 1))
  (sSeq (sTry tt_SeatError 3 2 (fAsk af ar) (fun ea ec => (sSeq (sAsg (fLst (fA1 (fErrIs ea ec et_BadNight 2) (fA1 (fErrIs ea ec et_BadOrder 2) (fA1 (fErrIs ea ec et_BadGuest 2) fA0)))) (gN 1))
  (sSeq (sAsg (fAdd (fVar 1) (fLst (fA1 (fErrIs ea ec et_BadSeat 2) (fA1 (fErrIs ea ec et_BadTurn 2) (fA1 (fErrIs ea ec et_BadSeats 2) fA0))))) (gN 1))
  (sSeq (sAsg (fAdd (fVar 1) (fLst (fA1 (fErrIs ea ec et_BadSeating 2) (fA1 (fErrIs ea ec et_BadNumber 2) (fA1 (fErrIs ea ec et_TooMany 2) fA0))))) (gN 1))
  (sSeq (sAsg (fAdd (fVar 1) (fLst (fA1 (fErrIs ea ec et_NotSo 2) (fA1 (fErrIs ea ec et_AllCame 2) (fA1 (fErrIs ea ec et_BadPairs 2) fA0))))) (gN 1))
  (sMut (pS 1) mAppend (fA1 (fErrIs ea ec et_ValueError 2) fA0))))))))
  (sSeq (sFrz 1) (sRet (fVar 1)))))
def m_law_kinds (ar : Re Dat) : Re T := runF 3 1 (b_law_kinds 0 ar) [.adr 0]
theorem kd_law_kinds : ∀ r t, m_law_kinds r = .ok t → kdT t = 0 := fun r t h => @run_kd ⟨[]⟩ 3 1 (b_law_kinds 0 r) _ t h
def b_law_due_of : FS := (sRet (fAdd (fLc (fRng1 (fA1 (fC (.int 12)) fA0)) (gN 1) fYes (fI oEq (fA1 (fVar 0) (fA1 (fVar 1) fA0))) [1]) (fLst (fA1 (fC (.bl true)) fA0))))
def m_law_due_of : List Dat → Re T := runF 2 1 b_law_due_of
theorem kd_law_due_of : KdF m_law_due_of := @run_kd ⟨[]⟩ _ _ _
def b_law_strange : FS := (sRet (fL lAll (fA1 (fC .non) (fA1 (fC (.str "1")) (fA1 (fC (.bl true)) (fA1 (fC (.bl false)) (fA1 (fLst (fA1 (fC (.int 1)) fA0)) (fA1 (fTup (fA1 (fC (.int 1)) fA0)) (fA1 fDNew (fA1 (fI oNeg (fA1 (fC (.int 1)) fA0)) (fA1 (fI oSub (fA1 (fI oNeg (fA1 (fC (.int 1)) fA0)) (fA1 (fVar 0) fA0))) fA0)))))))))))
def m_law_strange : List Dat → Re T := runF 1 1 b_law_strange
theorem kd_law_strange : KdF m_law_strange := @run_kd ⟨[]⟩ _ _ _
def b_law_no_orders_1 : FS := (sSeq (sFrz 2) (sSeq (sFrz 1) (sAsg (fAdd (fVar 1) (fL lAll (fA1 (fLst (fA1 (fVar 2) fA0)) (fA1 (fLst (fA1 (fC (.int 0)) (fA1 (fVar 2) (fA1 (fC (.int 2)) fA0)))) fA0)))) (gN 1))))
def b_law_no_orders : FS := (sSeq (sAsg (fL lAll (fA1 (fC .non) (fA1 (fC (.int 5)) (fA1 (fC (.str "01")) (fA1 (fTup (fA1 (fC (.int 0)) (fA1 (fC (.int 1)) fA0))) (fA1 fDNew (fA1 (fLst fA0) (fA1 (fLst (fA1 (fC (.int 1)) fA0)) (fA1 (fLst (fA1 (fC (.int 0)) (fA1 (fC (.int 2)) fA0))) (fA1 (fLst (fA1 (fC (.int 0)) (fA1 (fC (.int 0)) fA0))) (fA1 (fLst (fA1 (fC (.int 0)) (fA1 (fC (.int 1)) (fA1 (fC (.int 1)) fA0)))) (fA1 (fL lRg1 (fA1 (fC (.int 41)) fA0)) (fA1 (fL lRg1 (fA1 (fAdd (fC (.int 41)) (fI oMod (fA1 (fVar 0) (fA1 (fC (.int 9)) fA0)))) fA0)) fA0))))))))))))) (gN 1))
  (sSeq (sSeq (sFor (fItems (fCall m_law_strange (fA1 (fVar 0) fA0))) (gW [2] (gN 2))
  b_law_no_orders_1) (sWipe [2]))
  (sSeq (sFrz 1) (sRet (fVar 1)))))
def m_law_no_orders : List Dat → Re T := runF 3 1 b_law_no_orders
theorem kd_law_no_orders : KdF m_law_no_orders := @run_kd ⟨[]⟩ _ _ _
def b_law_no_nights_1 : FS := (sSeq (sFrz 2) (sSeq (sFrz 1) (sAsg (fAdd (fVar 1) (fL lAll (fA1 (fTup (fA1 (fLst (fA1 (fC (.int 0)) (fA1 (fC (.int 1)) (fA1 (fC (.int 2)) fA0)))) (fA1 (fLst (fA1 (fVar 2) fA0)) fA0))) (fA1 (fTup (fA1 (fLst (fA1 (fC (.int 0)) (fA1 (fC (.int 1)) (fA1 (fC (.int 2)) fA0)))) (fA1 (fLst (fA1 (fC (.int 0)) (fA1 (fVar 2) fA0))) fA0))) fA0)))) (gN 1))))
def b_law_no_nights : FS := (sSeq (sAsg (fL lAll (fA1 (fC .non) (fA1 (fC (.int 5)) (fA1 (fC (.str "night")) (fA1 (fL lAll (fA1 (fLst (fA1 (fC (.int 0)) fA0)) (fA1 (fLst fA0) fA0))) (fA1 (fTup fA0) (fA1 fDNew (fA1 (fTup (fA1 (fLst (fA1 (fC (.int 0)) fA0)) fA0)) (fA1 (fTup (fA1 (fLst (fA1 (fC (.int 0)) fA0)) (fA1 (fLst fA0) (fA1 (fLst fA0) fA0)))) (fA1 (fTup (fA1 (fLst (fA1 (fC (.int 0)) fA0)) (fA1 (fC .non) fA0))) (fA1 (fTup (fA1 (fLst (fA1 (fC (.int 0)) fA0)) (fA1 (fTup (fA1 (fC (.int 0)) fA0)) fA0))) (fA1 (fTup (fA1 (fLst (fA1 (fC (.int 0)) fA0)) (fA1 fDNew fA0))) (fA1 (fTup (fA1 (fLst (fA1 (fC (.int 0)) fA0)) (fA1 (fC (.int 0)) fA0))) fA0))))))))))))) (gN 1))
  (sSeq (sSeq (sFrz 1) (sAsg (fAdd (fVar 1) (fLc (fItems (fCall m_law_no_orders (fA1 (fVar 0) fA0))) (gN 3) fYes (fTup (fA1 (fVar 3) (fA1 (fLst fA0) fA0))) [3])) (gN 1)))
  (sSeq (sSeq (sFrz 0) (sSeq (sFor (fItems (fAdd (fCall m_law_strange (fA1 (fVar 0) fA0)) (fLst (fA1 (fC (.int 3)) (fA1 (fAdd (fC (.int 2)) (fVar 0)) fA0))))) (gW [2] (gN 2))
  b_law_no_nights_1) (sWipe [2])))
  (sSeq (sFrz 1) (sRet (fAdd (fVar 1) (fL lAll (fA1 (fTup (fA1 (fLst (fA1 (fC (.int 0)) (fA1 (fC (.int 1)) (fA1 (fC (.int 2)) fA0)))) (fA1 (fLst (fA1 (fC (.int 1)) (fA1 (fC (.int 0)) fA0))) fA0))) (fA1 (fTup (fA1 (fLst (fA1 (fC (.int 0)) (fA1 (fC (.int 1)) (fA1 (fC (.int 2)) fA0)))) (fA1 (fLst (fA1 (fC (.int 1)) (fA1 (fC (.int 1)) fA0))) fA0))) fA0)))))))))
def m_law_no_nights : List Dat → Re T := runF 4 1 b_law_no_nights
theorem kd_law_no_nights : KdF m_law_no_nights := @run_kd ⟨[]⟩ _ _ _
def b_law_nights_right_1 : FS := (sIf (fT (fI oNe (fA1 (fLam m_law_kinds (fCallV [("own", m_own), ("asked", m_asked), ("how_many", m_how_many)] 2 (fA1 (fVar 1) fA0))) (fA1 (fCall m_law_due_of (fA1 (fC (.int 0)) fA0)) fA0)))) (sRet (fC (.bl false)))
  sNext)
def b_law_nights_right_2 : FS := (sIf (fT (fI oNe (fA1 (fLam m_law_kinds (fCallV [("share", m_share), ("share_back", m_share_back), ("free_share", m_free_share)] 2 (fA1 (fVar 1) (fA1 (fC .non) (fA1 (fC .non) fA0))))) (fA1 (fCall m_law_due_of (fA1 (fC (.int 0)) fA0)) fA0)))) (sRet (fC (.bl false)))
  sNext)
def b_law_nights_right_3 : FS := (sIf (fT (fI oNe (fA1 (fLam m_law_kinds (fCallV [("seating", m_seating), ("judged", m_judged), ("seating_by", m_seating_by), ("number_of", m_number_of), ("together", m_together)] 2 (fA1 (fVar 1) (fA1 (fC .non) fA0)))) (fA1 (fCall m_law_due_of (fA1 (fC (.int 0)) fA0)) fA0)))) (sRet (fC (.bl false)))
  sNext)
def b_law_nights_right_4 : FS := (sSeq (sSeq (sFor (fItems (fTup (fA1 (fFn "own") (fA1 (fFn "asked") (fA1 (fFn "how_many") fA0))))) (gW [2] (gN 2))
  b_law_nights_right_1) (sWipe [2]))
  (sSeq (sSeq (sFor (fItems (fTup (fA1 (fFn "share") (fA1 (fFn "share_back") (fA1 (fFn "free_share") fA0))))) (gW [2] (gN 2))
  b_law_nights_right_2) (sWipe [2]))
  (sSeq (sSeq (sFor (fItems (fTup (fA1 (fFn "seating") (fA1 (fFn "judged") (fA1 (fFn "seating_by") (fA1 (fFn "number_of") (fA1 (fFn "together") fA0))))))) (gW [2] (gN 2))
  b_law_nights_right_3) (sWipe [2]))
  (sIf (fT (fI oNe (fA1 (fLam m_law_kinds (fCall m_Door_init (fA1 (fVar 1) fA0))) (fA1 (fCall m_law_due_of (fA1 (fC (.int 0)) fA0)) fA0)))) (sRet (fC (.bl false)))
  sNext))))
def b_law_nights_right : FS := (sSeq (sSeq (sFor (fItems (fCall m_law_no_nights (fA1 (fVar 0) fA0))) (gW [1, 2] (gN 1))
  b_law_nights_right_4) (sWipe [1, 2]))
  (sRet (fI oAll (fA1 (fLc (fItems (fCall m_law_no_orders (fA1 (fVar 0) fA0))) (gN 1) fYes (fI oEq (fA1 (fLam m_law_kinds (fCall m_must (fA1 (fVar 1) (fA1 (fC .non) fA0)))) (fA1 (fCall m_law_due_of (fA1 (fC (.int 1)) fA0)) fA0))) [1]) fA0))))
def m_law_nights_right : List Dat → Re T := runF 3 1 b_law_nights_right
theorem kd_law_nights_right : KdF m_law_nights_right := @run_kd ⟨[]⟩ _ _ _
def b_law_seatings_right_1 : FS := (sSeq (sFrz 3) (sMut (pS 2) mAppend (fA1 (fLst (fA1 (fC (.int 0)) (fA1 (fVar 3) (fA1 (fC (.int 2)) fA0)))) fA0)))
def b_law_seatings_right_2 : FS := (sIf (fT (fI oNe (fA1 (fLam m_law_kinds (fCallV [("seating", m_seating), ("judged", m_judged), ("number_of", m_number_of)] 5 (fA1 (fVar 0) (fA1 (fVar 4) fA0)))) (fA1 (fCall m_law_due_of (fA1 (fC (.int 6)) fA0)) fA0)))) (sRet (fC (.bl false)))
  sNext)
def b_law_seatings_right_3 : FS := (sSeq (sSeq (sFor (fItems (fTup (fA1 (fFn "seating") (fA1 (fFn "judged") (fA1 (fFn "number_of") fA0))))) (gW [5] (gN 5))
  b_law_seatings_right_2) (sWipe [5]))
  (sIf (fT (fI oNe (fA1 (fLam m_law_kinds (fCall m_must (fA1 (fLst (fA1 (fC (.int 2)) (fA1 (fC (.int 1)) (fA1 (fC (.int 0)) fA0)))) (fA1 (fVar 4) fA0)))) (fA1 (fCall m_law_due_of (fA1 (fC (.int 6)) fA0)) fA0)))) (sRet (fC (.bl false)))
  sNext))
def b_law_seatings_right : FS := (sSeq (sAsg (fL lAll (fA1 (fC .non) (fA1 (fC (.int 5)) (fA1 (fC (.str "012")) (fA1 (fTup (fA1 (fC (.int 0)) (fA1 (fC (.int 1)) (fA1 (fC (.int 2)) fA0)))) (fA1 fDNew (fA1 (fLst fA0) (fA1 (fLst (fA1 (fC (.int 0)) (fA1 (fC (.int 1)) fA0))) (fA1 (fLst (fA1 (fC (.int 0)) (fA1 (fC (.int 1)) (fA1 (fC (.int 2)) (fA1 (fC (.int 3)) fA0))))) (fA1 (fLst (fA1 (fC (.int 0)) (fA1 (fC (.int 0)) (fA1 (fC (.int 1)) fA0)))) (fA1 (fLst (fA1 (fC (.int 0)) (fA1 (fC (.int 1)) (fA1 (fC (.int 3)) fA0)))) (fA1 (fLst (fA1 (fC (.int 0)) (fA1 (fC (.int 1)) (fA1 (fAdd (fC (.int 2)) (fVar 1)) fA0)))) fA0)))))))))))) (gN 2))
  (sSeq (sSeq (sFor (fItems (fCall m_law_strange (fA1 (fVar 1) fA0))) (gW [3] (gN 3))
  b_law_seatings_right_1) (sWipe [3]))
  (sSeq (sSeq (sFrz 2) (sSeq (sFor (fItems (fVar 2)) (gW [4, 5] (gN 4))
  b_law_seatings_right_3) (sWipe [4, 5])))
  (sRet (fC (.bl true))))))
def m_law_seatings_right : List Dat → Re T := runF 6 2 b_law_seatings_right
theorem kd_law_seatings_right : KdF m_law_seatings_right := @run_kd ⟨[]⟩ _ _ _
def b_law_pairs_right_1 : FS := (sSeq (sFrz 3) (sSeq (sFrz 2) (sAsg (fAdd (fVar 2) (fL lAll (fA1 (fL lAll (fA1 (fTup (fA1 (fVar 3) (fA1 (fC (.int 0)) fA0))) fA0)) (fA1 (fL lAll (fA1 (fTup (fA1 (fC (.int 0)) (fA1 (fC (.int 0)) fA0))) (fA1 (fTup (fA1 (fVar 3) (fA1 (fC (.int 1)) fA0))) fA0))) (fA1 (fL lAll (fA1 (fTup (fA1 (fC (.int 0)) (fA1 (fVar 3) fA0))) fA0)) (fA1 (fL lAll (fA1 (fTup (fA1 (fC (.int 0)) (fA1 (fC (.int 0)) fA0))) (fA1 (fTup (fA1 (fC (.int 1)) (fA1 (fVar 3) fA0))) fA0))) fA0)))))) (gN 2))))
def b_law_pairs_right : FS := (sSeq (sAsg (fL lAll (fA1 (fC .non) (fA1 (fC (.int 5)) (fA1 (fC (.str "00")) (fA1 (fTup fA0) (fA1 (fTup (fA1 (fTup (fA1 (fC (.int 0)) (fA1 (fC (.int 0)) fA0))) fA0)) (fA1 fDNew (fA1 (fLst (fA1 (fC .non) fA0)) (fA1 (fL lAll (fA1 (fTup fA0) fA0)) (fA1 (fL lAll (fA1 (fLst (fA1 (fC (.int 0)) (fA1 (fC (.int 0)) fA0))) fA0)) (fA1 (fL lAll (fA1 (fTup (fA1 (fC (.int 0)) fA0)) fA0)) (fA1 (fL lAll (fA1 (fTup (fA1 (fC (.int 0)) (fA1 (fC (.int 0)) (fA1 (fC (.int 0)) fA0)))) fA0)) (fA1 (fL lAll (fA1 (fTup (fA1 (fC (.int 1)) (fA1 (fC (.int 0)) fA0))) (fA1 (fTup (fA1 (fC (.int 0)) (fA1 (fC (.int 1)) fA0))) fA0))) fA0))))))))))))) (gN 2))
  (sSeq (sMut (pS 2) mAppend (fA1 (fL lAll (fA1 (fTup (fA1 (fC (.int 1)) (fA1 (fC (.int 1)) fA0))) (fA1 (fTup (fA1 (fC (.int 1)) (fA1 (fC (.int 1)) fA0))) fA0))) fA0))
  (sSeq (sSeq (sFrz 1) (sSeq (sFor (fItems (fAdd (fCall m_law_strange (fA1 (fVar 1) fA0)) (fLst (fA1 (fC (.int 3)) (fA1 (fAdd (fC (.int 2)) (fVar 1)) fA0))))) (gW [3] (gN 3))
  b_law_pairs_right_1) (sWipe [3])))
  (sSeq (sFrz 2) (sRet (fI oAll (fA1 (fLc (fItems (fVar 2)) (gN 4) fYes (fI oEq (fA1 (fLam m_law_kinds (fCall m_together (fA1 (fVar 0) (fA1 (fVar 4) fA0)))) (fA1 (fCall m_law_due_of (fA1 (fC (.int 11)) fA0)) fA0))) [4]) fA0)))))))
def m_law_pairs_right : List Dat → Re T := runF 5 2 b_law_pairs_right
theorem kd_law_pairs_right : KdF m_law_pairs_right := @run_kd ⟨[]⟩ _ _ _
def b_law_right_1 : FS := (sSeq (sIf (fT (fI oNe (fA1 (fLam m_law_kinds (fCallV [("share", m_share), ("share_back", m_share_back)] 3 (fA1 (fVar 1) (fA1 (fVar 2) (fA1 (fC .non) fA0))))) (fA1 (fCall m_law_due_of (fA1 (fC (.int 2)) fA0)) fA0)))) (sRet (fC (.bl false)))
  sNext)
  (sIf (fT (fI oNe (fA1 (fLam m_law_kinds (fCallV [("share", m_share), ("share_back", m_share_back)] 3 (fA1 (fVar 1) (fA1 (fC (.int 0)) (fA1 (fVar 2) fA0))))) (fA1 (fCall m_law_due_of (fA1 (fC (.int 3)) fA0)) fA0)))) (sRet (fC (.bl false)))
  sNext))
def b_law_right_2 : FS := (sSeq (sSeq (sFor (fItems (fTup (fA1 (fFn "share") (fA1 (fFn "share_back") fA0)))) (gW [3] (gN 3))
  b_law_right_1) (sWipe [3]))
  (sIf (fT (fI oNe (fA1 (fLam m_law_kinds (fMeth "Door" "come" m_Door_come (fCall m_Door_init (fA1 (fVar 1) fA0)) (fA1 (fVar 2) fA0))) (fA1 (fCall m_law_due_of (fA1 (fC (.int 3)) fA0)) fA0)))) (sRet (fC (.bl false)))
  sNext))
def b_law_right_3 : FS := (sIf (fT (fI oNe (fA1 (fLam m_law_kinds (fCall m_free_share (fA1 (fVar 1) (fA1 (fVar 2) (fA1 (fC .non) fA0))))) (fA1 (fCall m_law_due_of (fA1 (fC (.int 4)) fA0)) fA0)))) (sRet (fC (.bl false)))
  sNext)
def b_law_right_4 : FS := (sIf (fT (fI oNe (fA1 (fLam m_law_kinds (fCall m_free_share (fA1 (fVar 1) (fA1 (fC (.int 1)) (fA1 (fVar 2) fA0))))) (fA1 (fCall m_law_due_of (fA1 (fC (.int 5)) fA0)) fA0)))) (sRet (fC (.bl false)))
  sNext)
def b_law_right_5 : FS := (sIf (fT (fI oNe (fA1 (fLam m_law_kinds (fCall m_seating_by (fA1 (fVar 1) (fA1 (fVar 2) fA0)))) (fA1 (fCall m_law_due_of (fA1 (fC (.int 7)) fA0)) fA0)))) (sRet (fC (.bl false)))
  sNext)
def b_law_right : FS := (sSeq (sAsg (fTup (fA1 (fLst (fA1 (fC (.int 2)) (fA1 (fC (.int 0)) (fA1 (fC (.int 1)) fA0)))) (fA1 (fLst (fA1 (fC (.int 2)) fA0)) fA0))) (gN 1))
  (sSeq (sSeq (sFrz 0) (sSeq (sFor (fItems (fAdd (fCall m_law_strange (fA1 (fVar 0) fA0)) (fLst (fA1 (fC (.int 3)) (fA1 (fAdd (fC (.int 2)) (fVar 0)) fA0))))) (gW [2, 3] (gN 2))
  b_law_right_2) (sWipe [2, 3])))
  (sSeq (sSeq (sFrz 0) (sSeq (sFor (fItems (fAdd (fCall m_law_strange (fA1 (fVar 0) fA0)) (fLst (fA1 (fC (.int 4)) (fA1 (fAdd (fC (.int 3)) (fVar 0)) fA0))))) (gW [2] (gN 2))
  b_law_right_3) (sWipe [2])))
  (sSeq (sSeq (sFrz 0) (sAsg (fAdd (fL lAll (fA1 (fC .non) (fA1 (fC (.int 5)) (fA1 (fC (.str "0")) (fA1 (fTup (fA1 (fC (.int 0)) fA0)) (fA1 fDNew (fA1 (fLst (fA1 (fC (.int 1)) (fA1 (fC (.int 0)) fA0))) (fA1 (fLst (fA1 (fC (.int 0)) (fA1 (fC (.int 0)) fA0))) (fA1 (fLst (fA1 (fC (.int 3)) fA0)) (fA1 (fLst (fA1 (fC (.int 0)) (fA1 (fAdd (fC (.int 2)) (fVar 0)) fA0))) fA0)))))))))) (fLc (fItems (fCall m_law_strange (fA1 (fVar 0) fA0))) (gN 6) fYes (fLst (fA1 (fVar 6) fA0)) [6])) (gN 4)))
  (sSeq (sSeq (sFrz 4) (sSeq (sFor (fItems (fVar 4)) (gW [2] (gN 2))
  b_law_right_4) (sWipe [2])))
  (sSeq (sSeq (sFrz 0) (sSeq (sFor (fItems (fAdd (fCall m_law_strange (fA1 (fVar 0) fA0)) (fLst (fA1 (fC (.int 4)) (fA1 (fAdd (fC (.int 3)) (fVar 0)) fA0))))) (gW [2] (gN 2))
  b_law_right_5) (sWipe [2])))
  (sSeq (sIf (fNot (fT (fCall m_law_pairs_right (fA1 (fVar 1) (fA1 (fVar 0) fA0))))) (sRet (fC (.bl false)))
  sNext)
  (sSeq (sIf (fT (fI oNe (fA1 (fLam m_law_kinds (fCall m_number_of (fA1 (fVar 1) (fA1 (fLst (fA1 (fC (.int 1)) (fA1 (fC (.int 0)) (fA1 (fC (.int 2)) fA0)))) fA0)))) (fA1 (fCall m_law_due_of (fA1 (fC (.int 9)) fA0)) fA0)))) (sRet (fC (.bl false)))
  sNext)
  (sSeq (sAsg (fTup (fA1 (fLst (fA1 (fC (.int 6)) (fA1 (fC (.int 5)) (fA1 (fC (.int 4)) (fA1 (fC (.int 3)) (fA1 (fC (.int 2)) (fA1 (fC (.int 1)) (fA1 (fC (.int 0)) fA0)))))))) (fA1 (fLst (fA1 (fC (.int 0)) fA0)) fA0))) (gN 5))
  (sSeq (sIf (fT (fI oNe (fA1 (fLam m_law_kinds (fCall m_how_many (fA1 (fVar 5) fA0))) (fA1 (fCall m_law_due_of (fA1 (fC (.int 8)) fA0)) fA0)))) (sRet (fC (.bl false)))
  sNext)
  (sSeq (sIf (fT (fI oNe (fA1 (fLam m_law_kinds (fCall m_seating_by (fA1 (fVar 5) (fA1 (fC .non) fA0)))) (fA1 (fCall m_law_due_of (fA1 (fC (.int 8)) fA0)) fA0)))) (sRet (fC (.bl false)))
  sNext)
  (sRet (fAndV (fI oEq (fA1 (fLam m_law_kinds (fCall m_number_of (fA1 (fVar 5) (fA1 (fC .non) fA0)))) (fA1 (fCall m_law_due_of (fA1 (fC (.int 8)) fA0)) fA0))) (fCall m_law_seatings_right (fA1 (fVar 1) (fA1 (fVar 0) fA0))))))))))))))))
def m_law_right : List Dat → Re T := runF 7 1 b_law_right
theorem kd_law_right : KdF m_law_right := @run_kd ⟨[]⟩ _ _ _
def b_law_1 : FS := (sSeq (sAsg (fAdd (fC (.int 1)) (fI oMod (fA1 (fCall m_law_value (fA1 (fCall m_law_cell_at (fA1 (fVar 0) (fA1 (fVar 1) fA0))) (fA1 (fC (.int 7)) fA0))) (fA1 (fI oPow (fA1 (fC (.int 10)) (fA1 (fC (.int 20)) fA0))) fA0)))) (gN 2))
  (sIf (fOr (fNot (fT (fCall m_law_nights_right (fA1 (fVar 2) fA0)))) (fNot (fT (fCall m_law_right (fA1 (fVar 2) fA0))))) (sRet (fC (.bl false)))
  sNext))
def b_law : FS := (sSeq (sSeq (sFor (fItems (fTup (fA1 (fC (.int 0)) (fA1 (fC (.int 3)) fA0)))) (gW [1, 2] (gN 1))
  b_law_1) (sWipe [1, 2]))
  (sSeq (sAsg (fTup (fA1 (fL lRg3 (fA1 (fC (.int 39)) (fA1 (fI oNeg (fA1 (fC (.int 1)) fA0)) (fA1 (fI oNeg (fA1 (fC (.int 1)) fA0)) fA0)))) (fA1 (fL lRg1 (fA1 (fC (.int 40)) fA0)) fA0))) (gN 3))
  (sSeq (sAsg (fCall m_Door_init (fA1 (fTup (fA1 (fLst (fA1 (fC (.int 0)) fA0)) (fA1 (fLst fA0) fA0))) fA0)) (gN 4))
  (sSeq (sIfX (xOr (xTst (xI2 oNe (fXM "Door" "come" mm_Door_come 4 (fA1 (fC (.int 0)) fA0)) (xP (fC (.int 0))))) (xTP (fT (fI oNe (fA1 (fLam m_law_kinds (fMeth "Door" "come" m_Door_come (fVar 4) (fA1 (fC .non) fA0))) (fA1 (fCall m_law_due_of (fA1 (fC (.int 10)) fA0)) fA0)))))) (sRet (fC (.bl false)))
  sNext)
  (sSeq (sIf (fOr (fT (fI oNe (fA1 (fCall m_own (fA1 (fVar 3) fA0)) (fA1 (fTup (fA1 (fC (.int 1)) (fA1 (fC (.int 1)) fA0))) fA0)))) (fT (fI oNe (fA1 (fCall m_share (fA1 (fVar 3) (fA1 (fC (.int 0)) (fA1 (fC (.int 39)) fA0)))) (fA1 (fTup (fA1 (fC (.int 1)) (fA1 (fC (.int 40)) fA0))) fA0))))) (sRet (fC (.bl false)))
  sNext)
  (sRet (fAndV (fI oEq (fA1 (fCall m_must (fA1 (fLst (fA1 (fC (.int 0)) fA0)) (fA1 (fLst (fA1 (fC (.int 0)) fA0)) fA0))) (fA1 (fLst fA0) fA0))) (fI oEq (fA1 (fCall m_how_many (fA1 (fTup (fA1 (fLst (fA1 (fC (.int 0)) fA0)) (fA1 (fLst (fA1 (fC (.int 0)) fA0)) fA0))) fA0)) (fA1 (fC (.int 1)) fA0))))))))))
def m_law : List Dat → Re T := runF 5 1 b_law
theorem kd_law : KdF m_law := @run_kd ⟨[]⟩ _ _ _
end LW

/-! MN: the laws' own helpers, what they answer. -/
namespace LW
open LS
local instance ti_MN : TabI := ⟨[]⟩
theorem cell_ok (ns : List Int) (k : Nat) : ∃ v, m_law_cell_at [.lst (ns.map .int), .int k] = .ok (.leaf 0 (.int v)) := by
  by_cases h : k < ns.length
  · refine ⟨ns[k], ?_⟩
    have e := ix_ints ns k ns[k] (List.getElem?_eq_getElem h)
    simp [m_law_cell_at, runF, startE, b_law_cell_at, sSeq, sFrz, sIf, fT, fI, fA1, fA0, fVar, fC, sRet, lt_ints, len_ints, h, e]
  · refine ⟨0, ?_⟩
    simp [m_law_cell_at, runF, startE, b_law_cell_at, sSeq, sFrz, sIf, fT, fI, fA1, fA0, fVar, fC, sRet, sNext, lt_ints, len_ints, h]
def primesD : List Dat := [.int 1000003, .int 1000033, .int 1000037, .int 1000039, .int 1000081, .int 1000099, .int 1000117, .int 1000121, .int 1000133, .int 1000151, .int 1000159, .int 1000171, .int 1000183, .int 1000187, .int 1000193, .int 1000199]
theorem prime_at (j : Int) (h0 : 0 ≤ j) (h : j < 16) : ∃ p : Int, 0 < p ∧ oIx [.tup primesD, .int j] = some (.int p) := by
  have : j = 0 ∨ j = 1 ∨ j = 2 ∨ j = 3 ∨ j = 4 ∨ j = 5 ∨ j = 6 ∨ j = 7 ∨ j = 8 ∨ j = 9 ∨ j = 10 ∨ j = 11 ∨ j = 12 ∨ j = 13 ∨ j = 14 ∨ j = 15 := by omega
  rcases this with z | z | z | z | z | z | z | z | z | z | z | z | z | z | z | z <;> subst z <;> exact ⟨_, by decide, rfl⟩
theorem mul_ints (i j : Int) (h : j.natAbs < 1000000 ∨ i.natAbs < 1000000 ∨ i.natAbs.log2 + j.natAbs.log2 < 1000000) (k l : Nat) : mulF [.leaf k (.int i), .leaf l (.int j)] = .ok (.leaf 0 (.int (i * j))) := if_pos h
theorem add_ints (i j : Int) (k l : Nat) : addF [.leaf k (.int i), .leaf l (.int j)] = .ok (.leaf 0 (.int (i + j))) := rfl
theorem draw_ok (c k m : Int) (hm : 0 < m) : ∃ v, m_law_draw [.int c, .int k, .int m] = .ok (.leaf 0 (.int v)) ∧ 0 ≤ v ∧ v < m := by
  obtain ⟨p, hp, e⟩ := prime_at (k % 16) (Int.emod_nonneg _ (by decide)) (Int.emod_lt_of_pos _ (by decide))
  refine ⟨(c * 48271 + k * 69621) % p % m, ?_, Int.emod_nonneg _ (by omega), Int.emod_lt_of_pos _ hm⟩
  unfold primesD at e
  simp [m_law_draw, runF, startE, b_law_draw, sSeq, sAsg, gN, fTup, fT, fI, fA1, fA0, fVar, fC, sRet, fAdd, fMul, mul_ints, add_ints, mod_ints, e, hp, hm]
theorem log2_small {i : Int} (h : i.natAbs < 2 ^ 200) : i.natAbs.log2 < 200 := by
  by_cases z : i.natAbs = 0
  · rw [z]
    decide
  · exact (Nat.log2_lt z).mpr h
theorem value_ok (c t : Int) (h0 : 0 ≤ t) (h1 : t < 1000) : ∃ v, m_law_value [.int c, .int t] = .ok (.leaf 0 (.int v)) ∧ 0 ≤ v ∧ v < 10 ^ 41 := by
  by_cases h : 10 ^ 18 ≤ c
  · refine ⟨(c - 10 ^ 18) % 10 ^ 40 / 2 ^ (3 * t).toNat, ?_, ?_, ?_⟩
    · have h3 : 0 ≤ 3 * t := by omega
      have hh := h
      simp at hh
      simp [m_law_value, runF, startE, b_law_value, sSeq, sIf, fT, fI, fA1, fA0, fVar, fC, sRet, ge_ints, sub_ints, mod_ints, oPow, oShr, fMul, mul_ints, hh, h3]
    · exact Int.ediv_nonneg (Int.emod_nonneg _ (by decide)) (Int.le_of_lt (Int.pow_pos (by decide)))
    · have a1 : (c - 10 ^ 18) % 10 ^ 40 < 10 ^ 40 := Int.emod_lt_of_pos _ (by decide)
      have a0 : 0 ≤ (c - 10 ^ 18) % 10 ^ 40 := Int.emod_nonneg _ (by decide)
      have a2 : (c - 10 ^ 18) % 10 ^ 40 / 2 ^ (3 * t).toNat ≤ (c - 10 ^ 18) % 10 ^ 40 := Int.ediv_le_self _ a0
      omega
  · have r0 : 0 ≤ c % 10 ^ 18 := Int.emod_nonneg _ (by decide)
    have r1 : c % 10 ^ 18 < 10 ^ 18 := Int.emod_lt_of_pos _ (by decide)
    generalize hr : c % 10 ^ 18 = r at r0 r1
    obtain ⟨v1, e1, p1, q1⟩ := draw_ok ((r + 977 * t) * (r + 31 * t + 5)) (t % 9 + 1) 999983 (by decide)
    obtain ⟨v2, e2, p2, q2⟩ := draw_ok ((r + 31 * t) * (r + 7) + 977 * t) (t % 7 + 2) 1000003 (by decide)
    have b1 : (r + 977 * t).natAbs < 2 ^ 200 := Nat.lt_of_lt_of_le (show (r + 977 * t).natAbs < 2 ^ 64 by omega) (Nat.pow_le_pow_right (by decide) (by decide))
    have b2 : (r + 31 * t + 5).natAbs < 2 ^ 200 := Nat.lt_of_lt_of_le (show (r + 31 * t + 5).natAbs < 2 ^ 64 by omega) (Nat.pow_le_pow_right (by decide) (by decide))
    have b3 : (r + 31 * t).natAbs < 2 ^ 200 := Nat.lt_of_lt_of_le (show (r + 31 * t).natAbs < 2 ^ 64 by omega) (Nat.pow_le_pow_right (by decide) (by decide))
    have b4 : (r + 7).natAbs < 2 ^ 200 := Nat.lt_of_lt_of_le (show (r + 7).natAbs < 2 ^ 64 by omega) (Nat.pow_le_pow_right (by decide) (by decide))
    have c1 := mul_ints (r + 977 * t) (r + 31 * t + 5) (.inr (.inr (by have := log2_small b1; have := log2_small b2; omega))) 0 0
    have c2 := mul_ints (r + 31 * t) (r + 7) (.inr (.inr (by have := log2_small b3; have := log2_small b4; omega))) 0 0
    have c3 := mul_ints v1 1000003 (.inr (.inl (by omega))) 0 0
    refine ⟨v1 * 1000003 + v2, ?_, by omega, by omega⟩
    simp at hr
    have hn : ¬ (1000000000000000000 : Int) ≤ c := by simpa using h
    simp [m_law_value, runF, startE, b_law_value, sSeq, sIf, sNext, sAsg, gN, fCall, fT, fI, fA1, fA0, fVar, fC, sRet, ge_ints, sub_ints, mod_ints, oPow, fMul, fAdd, mul_ints, add_ints, hn, hr, e1, e2, c1, c2, c3]

end LW

/-! M9a: the lists of bad ones, a long list in them let stand. -/
namespace LW
open LS PySem.W
set_option maxRecDepth 1000000
set_option maxHeartbeats 0
def rgF (R : List LS.Dat) : FE := fun _ => .ok (.lst (R.map (mk 0)))
def bno (R : List LS.Dat) : FS := (sSeq (sAsg (fL lAll (fA1 (fC .non) (fA1 (fC (.int 5)) (fA1 (fC (.str "01")) (fA1 (fTup (fA1 (fC (.int 0)) (fA1 (fC (.int 1)) fA0))) (fA1 fDNew (fA1 (fLst fA0) (fA1 (fLst (fA1 (fC (.int 1)) fA0)) (fA1 (fLst (fA1 (fC (.int 0)) (fA1 (fC (.int 2)) fA0))) (fA1 (fLst (fA1 (fC (.int 0)) (fA1 (fC (.int 0)) fA0))) (fA1 (fLst (fA1 (fC (.int 0)) (fA1 (fC (.int 1)) (fA1 (fC (.int 1)) fA0)))) (fA1 (fL lRg1 (fA1 (fC (.int 41)) fA0)) (fA1 (rgF R) fA0))))))))))))) (gN 1))
  (sSeq (sSeq (sFor (fItems (fCall m_law_strange (fA1 (fVar 0) fA0))) (gW [2] (gN 2))
  b_law_no_orders_1) (sWipe [2]))
  (sSeq (sFrz 1) (sRet (fVar 1)))))
def mno (R : List LS.Dat) : List LS.Dat → Re T := runF 3 1 (bno R)
def bnn (G : List LS.Dat → Re T) : FS := (sSeq (sAsg (fL lAll (fA1 (fC .non) (fA1 (fC (.int 5)) (fA1 (fC (.str "night")) (fA1 (fL lAll (fA1 (fLst (fA1 (fC (.int 0)) fA0)) (fA1 (fLst fA0) fA0))) (fA1 (fTup fA0) (fA1 fDNew (fA1 (fTup (fA1 (fLst (fA1 (fC (.int 0)) fA0)) fA0)) (fA1 (fTup (fA1 (fLst (fA1 (fC (.int 0)) fA0)) (fA1 (fLst fA0) (fA1 (fLst fA0) fA0)))) (fA1 (fTup (fA1 (fLst (fA1 (fC (.int 0)) fA0)) (fA1 (fC .non) fA0))) (fA1 (fTup (fA1 (fLst (fA1 (fC (.int 0)) fA0)) (fA1 (fTup (fA1 (fC (.int 0)) fA0)) fA0))) (fA1 (fTup (fA1 (fLst (fA1 (fC (.int 0)) fA0)) (fA1 fDNew fA0))) (fA1 (fTup (fA1 (fLst (fA1 (fC (.int 0)) fA0)) (fA1 (fC (.int 0)) fA0))) fA0))))))))))))) (gN 1))
  (sSeq (sSeq (sFrz 1) (sAsg (fAdd (fVar 1) (fLc (fItems (fCall G (fA1 (fVar 0) fA0))) (gN 3) fYes (fTup (fA1 (fVar 3) (fA1 (fLst fA0) fA0))) [3])) (gN 1)))
  (sSeq (sSeq (sFrz 0) (sSeq (sFor (fItems (fAdd (fCall m_law_strange (fA1 (fVar 0) fA0)) (fLst (fA1 (fC (.int 3)) (fA1 (fAdd (fC (.int 2)) (fVar 0)) fA0))))) (gW [2] (gN 2))
  b_law_no_nights_1) (sWipe [2])))
  (sSeq (sFrz 1) (sRet (fAdd (fVar 1) (fL lAll (fA1 (fTup (fA1 (fLst (fA1 (fC (.int 0)) (fA1 (fC (.int 1)) (fA1 (fC (.int 2)) fA0)))) (fA1 (fLst (fA1 (fC (.int 1)) (fA1 (fC (.int 0)) fA0))) fA0))) (fA1 (fTup (fA1 (fLst (fA1 (fC (.int 0)) (fA1 (fC (.int 1)) (fA1 (fC (.int 2)) fA0)))) (fA1 (fLst (fA1 (fC (.int 1)) (fA1 (fC (.int 1)) fA0))) fA0))) fA0)))))))))
def mnn (G : List LS.Dat → Re T) : List LS.Dat → Re T := runF 4 1 (bnn G)
def bnr1 (G : List LS.Dat → Re T) : FS := (sSeq (sFor (fItems (fCall G (fA1 (fVar 0) fA0))) (gW [1, 2] (gN 1))
  b_law_nights_right_4) (sWipe [1, 2]))
def bnr2 (H : List LS.Dat → Re T) : FS := (sRet (fI oAll (fA1 (fLc (fItems (fCall H (fA1 (fVar 0) fA0))) (gN 1) fYes (fI oEq (fA1 (fLam m_law_kinds (fCall m_must (fA1 (fVar 1) (fA1 (fC .non) fA0)))) (fA1 (fCall m_law_due_of (fA1 (fC (.int 1)) fA0)) fA0))) [1]) fA0)))
theorem cg_seq1 {a a' b : FS} {e : LS.Env} (h : a e = a' e) : sSeq a b e = sSeq a' b e := by
  unfold sSeq
  rw [h]
theorem cg_seq2 {a b b' : FS} {e e1 : LS.Env} (h : a e = .ok (.nx e1)) (h2 : b e1 = b' e1) : sSeq a b e = sSeq a b' e := by
  rw [seq_ok h, seq_ok h, h2]
theorem cg_asg {f f' : FE} {g : FG} {e : LS.Env} (h : f e = f' e) : sAsg f g e = sAsg f' g e := by
  unfold sAsg
  rw [h]
theorem cg_L {op : OL} {f f' : FA} {e : LS.Env} (h : f e = f' e) : fL op f e = fL op f' e := by
  unfold fL
  rw [h]
theorem cg_A1 {a a' : FE} {f f' : FA} {e : LS.Env} (h : a e = a' e) (h2 : f e = f' e) : fA1 a f e = fA1 a' f' e := by
  unfold fA1
  rw [h, h2]
theorem cg_add {a b b' : FE} {e : LS.Env} (h : b e = b' e) : fAdd a b e = fAdd a b' e := by
  rw [s_fAdd, s_fAdd, h]
theorem cg_lc {it it' : FI} {g : FG} {c : FT} {el : FE} {vs : List Nat} {e : LS.Env} (h : it e = it' e) : fLc it g c el vs e = fLc it' g c el vs e := by
  unfold fLc
  rw [h]
theorem cg_items {f f' : FE} {e : LS.Env} (h : f e = f' e) : fItems f e = fItems f' e := by
  unfold fItems
  rw [h]
theorem cg_for {it it' : FI} {g : FG} {b : FS} {e : LS.Env} (h : it e = it' e) : sFor it g b e = sFor it' g b e := by
  unfold sFor
  rw [h]
theorem cg_ret {f f' : FE} {e : LS.Env} (h : f e = f' e) : sRet f e = sRet f' e := by
  unfold sRet
  rw [h]
theorem cg_I {op : Op} {f f' : FA} {e : LS.Env} (h : f e = f' e) : fI op f e = fI op f' e := by
  unfold fI
  rw [h]
theorem cg_call {F G : List LS.Dat → Re T} {e : LS.Env} {far : Int} (he : e[0]? = some (some (.leaf 0 (.int far)))) (h : F [.int far] = G [.int far]) : fCall F (fA1 (fVar 0) fA0) e = fCall G (fA1 (fVar 0) fA0) e := by
  simp [he, h]
def nxE : Re Out → LS.Env
  | .ok (.nx e) => e
  | _ => []
theorem no_eq {far : Int} {R : List LS.Dat} (hR : lRg1 [.int (41 + far % 9)] = some R) : m_law_no_orders [.int far] = mno R [.int far] := by
  have md : oMod [.int far, .int 9] = some (.int (far % 9)) := mod_ints far 9 (by decide)
  unfold m_law_no_orders mno
  rw [s_runF, s_runF]
  congr 1
  refine congrArg runK ?_
  show sSeq _ _ [some (.leaf 0 (.int far)), none, none] = sSeq _ _ [some (.leaf 0 (.int far)), none, none]
  refine cg_seq1 (cg_asg (cg_L (cg_A1 rfl (cg_A1 rfl (cg_A1 rfl (cg_A1 rfl (cg_A1 rfl (cg_A1 rfl (cg_A1 rfl (cg_A1 rfl (cg_A1 rfl (cg_A1 rfl (cg_A1 rfl (cg_A1 (by
    simp [rgF, hR, md, add_ints]) rfl))))))))))))))
theorem nn_eq {far : Int} {G : List LS.Dat → Re T} (h : m_law_no_orders [.int far] = G [.int far]) : m_law_no_nights [.int far] = mnn G [.int far] := by
  unfold m_law_no_nights mnn
  rw [s_runF, s_runF]
  congr 1
  refine congrArg runK ?_
  show sSeq _ _ [some (.leaf 0 (.int far)), none, none, none] = sSeq _ _ [some (.leaf 0 (.int far)), none, none, none]
  have h1 : ((sAsg (fL lAll (fA1 (fC .non) (fA1 (fC (.int 5)) (fA1 (fC (.str "night")) (fA1 (fL lAll (fA1 (fLst (fA1 (fC (.int 0)) fA0)) (fA1 (fLst fA0) fA0))) (fA1 (fTup fA0) (fA1 fDNew (fA1 (fTup (fA1 (fLst (fA1 (fC (.int 0)) fA0)) fA0)) (fA1 (fTup (fA1 (fLst (fA1 (fC (.int 0)) fA0)) (fA1 (fLst fA0) (fA1 (fLst fA0) fA0)))) (fA1 (fTup (fA1 (fLst (fA1 (fC (.int 0)) fA0)) (fA1 (fC .non) fA0))) (fA1 (fTup (fA1 (fLst (fA1 (fC (.int 0)) fA0)) (fA1 (fTup (fA1 (fC (.int 0)) fA0)) fA0))) (fA1 (fTup (fA1 (fLst (fA1 (fC (.int 0)) fA0)) (fA1 fDNew fA0))) (fA1 (fTup (fA1 (fLst (fA1 (fC (.int 0)) fA0)) (fA1 (fC (.int 0)) fA0))) fA0))))))))))))) (gN 1)) : FS) [some (.leaf 0 (.int far)), none, none, none] = .ok (.nx (nxE (((sAsg (fL lAll (fA1 (fC .non) (fA1 (fC (.int 5)) (fA1 (fC (.str "night")) (fA1 (fL lAll (fA1 (fLst (fA1 (fC (.int 0)) fA0)) (fA1 (fLst fA0) fA0))) (fA1 (fTup fA0) (fA1 fDNew (fA1 (fTup (fA1 (fLst (fA1 (fC (.int 0)) fA0)) fA0)) (fA1 (fTup (fA1 (fLst (fA1 (fC (.int 0)) fA0)) (fA1 (fLst fA0) (fA1 (fLst fA0) fA0)))) (fA1 (fTup (fA1 (fLst (fA1 (fC (.int 0)) fA0)) (fA1 (fC .non) fA0))) (fA1 (fTup (fA1 (fLst (fA1 (fC (.int 0)) fA0)) (fA1 (fTup (fA1 (fC (.int 0)) fA0)) fA0))) (fA1 (fTup (fA1 (fLst (fA1 (fC (.int 0)) fA0)) (fA1 fDNew fA0))) (fA1 (fTup (fA1 (fLst (fA1 (fC (.int 0)) fA0)) (fA1 (fC (.int 0)) fA0))) fA0))))))))))))) (gN 1)) : FS) [some (.leaf 0 (.int far)), none, none, none]))) := by kernel_rfl
  refine cg_seq2 h1 (cg_seq1 ?_)
  have h2 : sFrz 1 (nxE (((sAsg (fL lAll (fA1 (fC .non) (fA1 (fC (.int 5)) (fA1 (fC (.str "night")) (fA1 (fL lAll (fA1 (fLst (fA1 (fC (.int 0)) fA0)) (fA1 (fLst fA0) fA0))) (fA1 (fTup fA0) (fA1 fDNew (fA1 (fTup (fA1 (fLst (fA1 (fC (.int 0)) fA0)) fA0)) (fA1 (fTup (fA1 (fLst (fA1 (fC (.int 0)) fA0)) (fA1 (fLst fA0) (fA1 (fLst fA0) fA0)))) (fA1 (fTup (fA1 (fLst (fA1 (fC (.int 0)) fA0)) (fA1 (fC .non) fA0))) (fA1 (fTup (fA1 (fLst (fA1 (fC (.int 0)) fA0)) (fA1 (fTup (fA1 (fC (.int 0)) fA0)) fA0))) (fA1 (fTup (fA1 (fLst (fA1 (fC (.int 0)) fA0)) (fA1 fDNew fA0))) (fA1 (fTup (fA1 (fLst (fA1 (fC (.int 0)) fA0)) (fA1 (fC (.int 0)) fA0))) fA0))))))))))))) (gN 1)) : FS) [some (.leaf 0 (.int far)), none, none, none])) = .ok (.nx (nxE (sFrz 1 (nxE (((sAsg (fL lAll (fA1 (fC .non) (fA1 (fC (.int 5)) (fA1 (fC (.str "night")) (fA1 (fL lAll (fA1 (fLst (fA1 (fC (.int 0)) fA0)) (fA1 (fLst fA0) fA0))) (fA1 (fTup fA0) (fA1 fDNew (fA1 (fTup (fA1 (fLst (fA1 (fC (.int 0)) fA0)) fA0)) (fA1 (fTup (fA1 (fLst (fA1 (fC (.int 0)) fA0)) (fA1 (fLst fA0) (fA1 (fLst fA0) fA0)))) (fA1 (fTup (fA1 (fLst (fA1 (fC (.int 0)) fA0)) (fA1 (fC .non) fA0))) (fA1 (fTup (fA1 (fLst (fA1 (fC (.int 0)) fA0)) (fA1 (fTup (fA1 (fC (.int 0)) fA0)) fA0))) (fA1 (fTup (fA1 (fLst (fA1 (fC (.int 0)) fA0)) (fA1 fDNew fA0))) (fA1 (fTup (fA1 (fLst (fA1 (fC (.int 0)) fA0)) (fA1 (fC (.int 0)) fA0))) fA0))))))))))))) (gN 1)) : FS) [some (.leaf 0 (.int far)), none, none, none]))))) := by kernel_rfl
  refine cg_seq2 h2 (cg_asg (cg_add (cg_lc (cg_items (cg_call ?_ h)))))
  kernel_rfl
theorem nr_eq {far : Int} {G H : List LS.Dat → Re T} (h : m_law_no_nights [.int far] = G [.int far]) (h2 : m_law_no_orders [.int far] = H [.int far])
    (f1 : bnr1 G [some (.leaf 0 (.int far)), none, none] = .ok (.nx [some (.leaf 0 (.int far)), none, none])) (f2 : runK (bnr2 H [some (.leaf 0 (.int far)), none, none]) = .ok (.leaf 0 (.bl true))) : m_law_nights_right [.int far] = .ok (.leaf 0 (.bl true)) := by
  unfold m_law_nights_right
  rw [s_runF]
  have e1 : ((sSeq (sFor (fItems (fCall m_law_no_nights (fA1 (fVar 0) fA0))) (gW [1, 2] (gN 1))
  b_law_nights_right_4) (sWipe [1, 2])) : FS) [some (.leaf 0 (.int far)), none, none] = bnr1 G [some (.leaf 0 (.int far)), none, none] := cg_seq1 (cg_for (cg_items (cg_call rfl h)))
  have e2 : ((sRet (fI oAll (fA1 (fLc (fItems (fCall m_law_no_orders (fA1 (fVar 0) fA0))) (gN 1) fYes (fI oEq (fA1 (fLam m_law_kinds (fCall m_must (fA1 (fVar 1) (fA1 (fC .non) fA0)))) (fA1 (fCall m_law_due_of (fA1 (fC (.int 1)) fA0)) fA0))) [1]) fA0))) : FS) [some (.leaf 0 (.int far)), none, none] = bnr2 H [some (.leaf 0 (.int far)), none, none] := cg_ret (cg_I (cg_A1 (cg_lc (cg_items (cg_call rfl h2))) rfl))
  refine (congrArg runK ((seq_ok (e1.trans f1)).trans e2)).trans f2
end LW

/-! M9b: far ones, reckoned. -/
namespace LW
open LS PySem.W
set_option maxRecDepth 1000000
set_option maxHeartbeats 0
theorem far1 : m_law_nights_right [.int 1] = .ok (.leaf 0 (.bl true)) := by kernel_rfl
theorem far2 : m_law_nights_right [.int 2] = .ok (.leaf 0 (.bl true)) := by kernel_rfl
theorem far3 : m_law_nights_right [.int 3] = .ok (.leaf 0 (.bl true)) := by kernel_rfl
theorem rig1 : m_law_right [.int 1] = .ok (.leaf 0 (.bl true)) := by kernel_rfl
theorem rig2 : m_law_right [.int 2] = .ok (.leaf 0 (.bl true)) := by kernel_rfl
theorem rig3 : m_law_right [.int 3] = .ok (.leaf 0 (.bl true)) := by kernel_rfl
theorem rig4 (z : Nat) : m_law_right [.int ((z + 4 : Nat) : Int)] = .ok (.leaf 0 (.bl true)) := by kernel_rfl
def Rr (r : Nat) : List LS.Dat := (List.range (41 + r)).map fun i : Nat => LS.Dat.int i
theorem far4a_0 (z : Nat) : bnr1 (mnn (mno (Rr 0))) [some (.leaf 0 (.int ((z + 4 : Nat) : Int))), none, none] = .ok (.nx [some (.leaf 0 (.int ((z + 4 : Nat) : Int))), none, none]) := by kernel_rfl
theorem far4b_0 (z : Nat) : runK (bnr2 (mno (Rr 0)) [some (.leaf 0 (.int ((z + 4 : Nat) : Int))), none, none]) = .ok (.leaf 0 (.bl true)) := by kernel_rfl
theorem far4a_1 (z : Nat) : bnr1 (mnn (mno (Rr 1))) [some (.leaf 0 (.int ((z + 4 : Nat) : Int))), none, none] = .ok (.nx [some (.leaf 0 (.int ((z + 4 : Nat) : Int))), none, none]) := by kernel_rfl
theorem far4b_1 (z : Nat) : runK (bnr2 (mno (Rr 1)) [some (.leaf 0 (.int ((z + 4 : Nat) : Int))), none, none]) = .ok (.leaf 0 (.bl true)) := by kernel_rfl
theorem far4a_2 (z : Nat) : bnr1 (mnn (mno (Rr 2))) [some (.leaf 0 (.int ((z + 4 : Nat) : Int))), none, none] = .ok (.nx [some (.leaf 0 (.int ((z + 4 : Nat) : Int))), none, none]) := by kernel_rfl
theorem far4b_2 (z : Nat) : runK (bnr2 (mno (Rr 2)) [some (.leaf 0 (.int ((z + 4 : Nat) : Int))), none, none]) = .ok (.leaf 0 (.bl true)) := by kernel_rfl
theorem far4a_3 (z : Nat) : bnr1 (mnn (mno (Rr 3))) [some (.leaf 0 (.int ((z + 4 : Nat) : Int))), none, none] = .ok (.nx [some (.leaf 0 (.int ((z + 4 : Nat) : Int))), none, none]) := by kernel_rfl
theorem far4b_3 (z : Nat) : runK (bnr2 (mno (Rr 3)) [some (.leaf 0 (.int ((z + 4 : Nat) : Int))), none, none]) = .ok (.leaf 0 (.bl true)) := by kernel_rfl
theorem far4a_4 (z : Nat) : bnr1 (mnn (mno (Rr 4))) [some (.leaf 0 (.int ((z + 4 : Nat) : Int))), none, none] = .ok (.nx [some (.leaf 0 (.int ((z + 4 : Nat) : Int))), none, none]) := by kernel_rfl
theorem far4b_4 (z : Nat) : runK (bnr2 (mno (Rr 4)) [some (.leaf 0 (.int ((z + 4 : Nat) : Int))), none, none]) = .ok (.leaf 0 (.bl true)) := by kernel_rfl
theorem far4a_5 (z : Nat) : bnr1 (mnn (mno (Rr 5))) [some (.leaf 0 (.int ((z + 4 : Nat) : Int))), none, none] = .ok (.nx [some (.leaf 0 (.int ((z + 4 : Nat) : Int))), none, none]) := by kernel_rfl
theorem far4b_5 (z : Nat) : runK (bnr2 (mno (Rr 5)) [some (.leaf 0 (.int ((z + 4 : Nat) : Int))), none, none]) = .ok (.leaf 0 (.bl true)) := by kernel_rfl
theorem far4a_6 (z : Nat) : bnr1 (mnn (mno (Rr 6))) [some (.leaf 0 (.int ((z + 4 : Nat) : Int))), none, none] = .ok (.nx [some (.leaf 0 (.int ((z + 4 : Nat) : Int))), none, none]) := by kernel_rfl
theorem far4b_6 (z : Nat) : runK (bnr2 (mno (Rr 6)) [some (.leaf 0 (.int ((z + 4 : Nat) : Int))), none, none]) = .ok (.leaf 0 (.bl true)) := by kernel_rfl
theorem far4a_7 (z : Nat) : bnr1 (mnn (mno (Rr 7))) [some (.leaf 0 (.int ((z + 4 : Nat) : Int))), none, none] = .ok (.nx [some (.leaf 0 (.int ((z + 4 : Nat) : Int))), none, none]) := by kernel_rfl
theorem far4b_7 (z : Nat) : runK (bnr2 (mno (Rr 7)) [some (.leaf 0 (.int ((z + 4 : Nat) : Int))), none, none]) = .ok (.leaf 0 (.bl true)) := by kernel_rfl
theorem far4a_8 (z : Nat) : bnr1 (mnn (mno (Rr 8))) [some (.leaf 0 (.int ((z + 4 : Nat) : Int))), none, none] = .ok (.nx [some (.leaf 0 (.int ((z + 4 : Nat) : Int))), none, none]) := by kernel_rfl
theorem far4b_8 (z : Nat) : runK (bnr2 (mno (Rr 8)) [some (.leaf 0 (.int ((z + 4 : Nat) : Int))), none, none]) = .ok (.leaf 0 (.bl true)) := by kernel_rfl
end LW

/-! M9c: the law, whole. -/
namespace LW
open LS PySem.W
set_option maxRecDepth 1000000
set_option maxHeartbeats 0
theorem nights_all {far : Int} (h : 1 ≤ far) : m_law_nights_right [.int far] = .ok (.leaf 0 (.bl true)) := by
  obtain ⟨m, rfl⟩ : ∃ m : Nat, far = (m : Int) := ⟨far.toNat, by omega⟩
  match m, h with
  | 1, _ => exact far1
  | 2, _ => exact far2
  | 3, _ => exact far3
  | z + 4, _ =>
    have h9 : ((z + 4 : Nat) : Int) % 9 = 0 ∨ ((z + 4 : Nat) : Int) % 9 = 1 ∨ ((z + 4 : Nat) : Int) % 9 = 2 ∨ ((z + 4 : Nat) : Int) % 9 = 3 ∨ ((z + 4 : Nat) : Int) % 9 = 4 ∨ ((z + 4 : Nat) : Int) % 9 = 5 ∨ ((z + 4 : Nat) : Int) % 9 = 6 ∨ ((z + 4 : Nat) : Int) % 9 = 7 ∨ ((z + 4 : Nat) : Int) % 9 = 8 := by omega
    rcases h9 with h9 | h9 | h9 | h9 | h9 | h9 | h9 | h9 | h9
    · have hR : lRg1 [.int (41 + ((z + 4 : Nat) : Int) % 9)] = some (Rr 0) := by
        rw [h9]
        kernel_rfl
      exact nr_eq (nn_eq (no_eq hR)) (no_eq hR) (far4a_0 z) (far4b_0 z)
    · have hR : lRg1 [.int (41 + ((z + 4 : Nat) : Int) % 9)] = some (Rr 1) := by
        rw [h9]
        kernel_rfl
      exact nr_eq (nn_eq (no_eq hR)) (no_eq hR) (far4a_1 z) (far4b_1 z)
    · have hR : lRg1 [.int (41 + ((z + 4 : Nat) : Int) % 9)] = some (Rr 2) := by
        rw [h9]
        kernel_rfl
      exact nr_eq (nn_eq (no_eq hR)) (no_eq hR) (far4a_2 z) (far4b_2 z)
    · have hR : lRg1 [.int (41 + ((z + 4 : Nat) : Int) % 9)] = some (Rr 3) := by
        rw [h9]
        kernel_rfl
      exact nr_eq (nn_eq (no_eq hR)) (no_eq hR) (far4a_3 z) (far4b_3 z)
    · have hR : lRg1 [.int (41 + ((z + 4 : Nat) : Int) % 9)] = some (Rr 4) := by
        rw [h9]
        kernel_rfl
      exact nr_eq (nn_eq (no_eq hR)) (no_eq hR) (far4a_4 z) (far4b_4 z)
    · have hR : lRg1 [.int (41 + ((z + 4 : Nat) : Int) % 9)] = some (Rr 5) := by
        rw [h9]
        kernel_rfl
      exact nr_eq (nn_eq (no_eq hR)) (no_eq hR) (far4a_5 z) (far4b_5 z)
    · have hR : lRg1 [.int (41 + ((z + 4 : Nat) : Int) % 9)] = some (Rr 6) := by
        rw [h9]
        kernel_rfl
      exact nr_eq (nn_eq (no_eq hR)) (no_eq hR) (far4a_6 z) (far4b_6 z)
    · have hR : lRg1 [.int (41 + ((z + 4 : Nat) : Int) % 9)] = some (Rr 7) := by
        rw [h9]
        kernel_rfl
      exact nr_eq (nn_eq (no_eq hR)) (no_eq hR) (far4a_7 z) (far4b_7 z)
    · have hR : lRg1 [.int (41 + ((z + 4 : Nat) : Int) % 9)] = some (Rr 8) := by
        rw [h9]
        kernel_rfl
      exact nr_eq (nn_eq (no_eq hR)) (no_eq hR) (far4a_8 z) (far4b_8 z)
theorem right_all {far : Int} (h : 1 ≤ far) : m_law_right [.int far] = .ok (.leaf 0 (.bl true)) := by
  obtain ⟨m, rfl⟩ : ∃ m : Nat, far = (m : Int) := ⟨far.toNat, by omega⟩
  match m, h with
  | 1, _ => exact rig1
  | 2, _ => exact rig2
  | 3, _ => exact rig3
  | z + 4, _ => exact rig4 z
abbrev leE (ns : List Int) (x1 x2 : Option T) : LS.Env := [some (.leaf 1 (.lst (ns.map .int))), x1, x2, none, none]
theorem turn9 (ns : List Int) (k : Nat) : ∃ x2, b_law_1 (leE ns (some (.leaf 0 (.int k))) none) = .ok (.nx (leE ns (some (.leaf 0 (.int k))) x2)) := by
  obtain ⟨c, ec⟩ := cell_ok ns k
  obtain ⟨v, ev, v0, -⟩ := value_ok c 7 (by decide) (by decide)
  have pw : oPow [.int 10, .int 20] = some (.int 100000000000000000000) := by rfl
  have md := mod_ints v 100000000000000000000 (by decide)
  have hf : 1 ≤ 1 + v % 100000000000000000000 := by
    have := Int.emod_nonneg v (show (100000000000000000000 : Int) ≠ 0 by decide)
    omega
  have a1 := nights_all hf
  have a2 := right_all hf
  generalize (100000000000000000000 : Int) = B at *
  generalize hF : 1 + v % B = F at *
  refine ⟨some (.leaf 0 (.int F)), ?_⟩
  have s1 : sAsg (fAdd (fC (.int 1)) (fI oMod (fA1 (fCall m_law_value (fA1 (fCall m_law_cell_at (fA1 (fVar 0) (fA1 (fVar 1) fA0))) (fA1 (fC (.int 7)) fA0))) (fA1 (fI oPow (fA1 (fC (.int 10)) (fA1 (fC (.int 20)) fA0))) fA0)))) (gN 2) (leE ns (some (.leaf 0 (.int k))) none) = .ok (.nx (leE ns (some (.leaf 0 (.int k))) (some (.leaf 0 (.int F))))) := by
    simp [ec, ev, pw, md, add_ints, hF]
  unfold b_law_1
  rw [seq_ok s1]
  simp [a1, a2]
theorem rest9 (D : LS.Dat) : runK (((sSeq (sAsg (fTup (fA1 (fL lRg3 (fA1 (fC (.int 39)) (fA1 (fI oNeg (fA1 (fC (.int 1)) fA0)) (fA1 (fI oNeg (fA1 (fC (.int 1)) fA0)) fA0)))) (fA1 (fL lRg1 (fA1 (fC (.int 40)) fA0)) fA0))) (gN 3))
  (sSeq (sAsg (fCall m_Door_init (fA1 (fTup (fA1 (fLst (fA1 (fC (.int 0)) fA0)) (fA1 (fLst fA0) fA0))) fA0)) (gN 4))
  (sSeq (sIfX (xOr (xTst (xI2 oNe (fXM "Door" "come" mm_Door_come 4 (fA1 (fC (.int 0)) fA0)) (xP (fC (.int 0))))) (xTP (fT (fI oNe (fA1 (fLam m_law_kinds (fMeth "Door" "come" m_Door_come (fVar 4) (fA1 (fC .non) fA0))) (fA1 (fCall m_law_due_of (fA1 (fC (.int 10)) fA0)) fA0)))))) (sRet (fC (.bl false)))
  sNext)
  (sSeq (sIf (fOr (fT (fI oNe (fA1 (fCall m_own (fA1 (fVar 3) fA0)) (fA1 (fTup (fA1 (fC (.int 1)) (fA1 (fC (.int 1)) fA0))) fA0)))) (fT (fI oNe (fA1 (fCall m_share (fA1 (fVar 3) (fA1 (fC (.int 0)) (fA1 (fC (.int 39)) fA0)))) (fA1 (fTup (fA1 (fC (.int 1)) (fA1 (fC (.int 40)) fA0))) fA0))))) (sRet (fC (.bl false)))
  sNext)
  (sRet (fAndV (fI oEq (fA1 (fCall m_must (fA1 (fLst (fA1 (fC (.int 0)) fA0)) (fA1 (fLst (fA1 (fC (.int 0)) fA0)) fA0))) (fA1 (fLst fA0) fA0))) (fI oEq (fA1 (fCall m_how_many (fA1 (fTup (fA1 (fLst (fA1 (fC (.int 0)) fA0)) (fA1 (fLst (fA1 (fC (.int 0)) fA0)) fA0))) fA0)) (fA1 (fC (.int 1)) fA0))))))))) : FS) [some (.leaf 1 D), none, none, none, none]) = .ok (.leaf 0 (.bl true)) := by kernel_rfl
theorem law_true : ∀ ns : List Int, ns.length ≤ 63 → m_law [.lst (ns.map .int)] = .ok (.leaf 0 (.bl true)) := fun ns hn => by
  have lp : ((sSeq (sFor (fItems (fTup (fA1 (fC (.int 0)) (fA1 (fC (.int 3)) fA0)))) (gW [1, 2] (gN 1))
  b_law_1) (sWipe [1, 2])) : FS) (leE ns none none) = .ok (.nx (leE ns none none)) := by
    refine forW_ok (S := Unit) (env := fun _ => leE ns none none) (item := fun k : Nat => T.leaf 0 (.int (k : Int))) (xs := [0, 3]) (step := fun _ _ => ()) (s := ()) (vs := [1, 2]) (g := gN 1) (b := b_law_1) (fun _ _ => True) trivial (by rfl) (by rfl) fun _ a ys _ => ?_
    obtain ⟨x2, e⟩ := turn9 ns a
    exact ⟨trivial, _, _, by simp, e, .inl ⟨_, rfl, by rfl⟩⟩
  have un : m_law [.lst (ns.map .int)] = runK (b_law (leE ns none none)) := by
    unfold m_law
    rw [s_runF]
    rfl
  rw [un]
  unfold b_law
  rw [seq_ok lp]
  exact rest9 (.lst (ns.map .int))
end LW

namespace LW
open PySem PySem.Spec
open PyProof.Rows L2 LS
/-! ### what the walk asks of the names -/
structure Fx (K : PySem.W.Frag) (mg : Str → Option Value) : Prop where
  b_all : mg "all" = none
  b_bool : mg "bool" = none
  b_dict : mg "dict" = none
  b_enumerate : mg "enumerate" = none
  b_int : mg "int" = none
  b_isinstance : mg "isinstance" = none
  b_len : mg "len" = none
  b_list : mg "list" = none
  b_range : mg "range" = none
  b_set : mg "set" = none
  b_sorted : mg "sorted" = none
  b_tuple : mg "tuple" = none
  b_zip : mg "zip" = none
  f_Bars_turn : FldOk K mg "Bars" "turn"
  f_Comes_choices : FldOk K mg "Comes" "choices"
  f_Door_bottom : FldOk K mg "Door" "bottom"
  f_Door_lost : FldOk K mg "Door" "lost"
  f_Door_order : FldOk K mg "Door" "order"
  f_Door_seats : FldOk K mg "Door" "seats"
  f_Row_guests : FldOk K mg "Row" "guests"
  f_Row_lost : FldOk K mg "Row" "lost"
  f_Row_seats : FldOk K mg "Row" "seats"
  x_AllCame : XOk K mg "AllCame"
  x_BadGuest : XOk K mg "BadGuest"
  x_BadNight : XOk K mg "BadNight"
  x_BadNumber : XOk K mg "BadNumber"
  x_BadOrder : XOk K mg "BadOrder"
  x_BadPairs : XOk K mg "BadPairs"
  x_BadSeat : XOk K mg "BadSeat"
  x_BadSeating : XOk K mg "BadSeating"
  x_BadSeats : XOk K mg "BadSeats"
  x_BadTurn : XOk K mg "BadTurn"
  x_NotSo : XOk K mg "NotSo"
  x_TooMany : XOk K mg "TooMany"
  t_SeatError : TryOk K mg "SeatError" tt_SeatError
  e_AllCame : EisOk K mg "AllCame" et_AllCame
  e_BadGuest : EisOk K mg "BadGuest" et_BadGuest
  e_BadNight : EisOk K mg "BadNight" et_BadNight
  e_BadNumber : EisOk K mg "BadNumber" et_BadNumber
  e_BadOrder : EisOk K mg "BadOrder" et_BadOrder
  e_BadPairs : EisOk K mg "BadPairs" et_BadPairs
  e_BadSeat : EisOk K mg "BadSeat" et_BadSeat
  e_BadSeating : EisOk K mg "BadSeating" et_BadSeating
  e_BadSeats : EisOk K mg "BadSeats" et_BadSeats
  e_BadTurn : EisOk K mg "BadTurn" et_BadTurn
  e_NotSo : EisOk K mg "NotSo" et_NotSo
  e_TooMany : EisOk K mg "TooMany" et_TooMany
  e_ValueError : EisB K mg "ValueError" "ValueError" et_ValueError
  c_MOST_GUESTS : ∃ t, mg "MOST_GUESTS" = some (.int 40 t)
  c_MOST_SMALL : ∃ t, mg "MOST_SMALL" = some (.int 6 t)
section
variable [TabI]
variable {w : World} {P : Program} {K : PySem.W.Frag} {mg : Str → Option Value} {base : Heap}
abbrev N_wall : List Str := ["k"]
theorem sc_wall : FnScope N_wall ["k"] (defScope s_wall) := ⟨rfl, rfl, rfl, by decide +kernel, rfl, by decide +kernel, by decide +kernel⟩
theorem ok_wall {f : Addr} {fd : FuncData} (F : Fun K "_wall" "_wall" s_wall f fd) (T : Fx K mg) : FnOk P w K mg base (L2.CX P w) 1 f fd ["k"] (spF mg m_wall) := by
  have sc := sc_wall
  refine Fun.okF (k := 0) (fs := b_wall) F sc rfl rfl (fun cdv A outer s H E hr => ?_)
  have hu5 : (A.deeper (envOfC "_wall" (defScope s_wall) s.heap.objs.size f cdv)).units + 65 < cLine := by
    have := hr.un
    omega
  exact ⟨_, (pss_one (ps_while (passes_of rfl) (pt_val pe_bl) (pss_one ps_pass))),
    (s_while (n := 1000) (st_B (se_c rfl rfl)) s_next)⟩
abbrev N_choices_of : List Str := ["night", "seats", "order", "lost", "free", "found", "turn", "guest"]
theorem sc_choices_of : FnScope N_choices_of ["night", "seats"] (defScope s_choices_of) := ⟨rfl, rfl, rfl, by decide +kernel, rfl, by decide +kernel, by decide +kernel⟩
theorem ok_choices_of {f : Addr} {fd : FuncData} (F : Fun K "choices_of" "choices_of" s_choices_of f fd) (T : Fx K mg) : FnOk P w K mg base (L2.CX P w) 1 f fd ["night", "seats"] (spF mg m_choices_of) := by
  have sc := sc_choices_of
  refine Fun.okF (k := 0) (fs := b_choices_of) F sc rfl rfl (fun cdv A outer s H E hr => ?_)
  have hu5 : (A.deeper (envOfC "choices_of" (defScope s_choices_of) s.heap.objs.size f cdv)).units + 65 < cLine := by
    have := hr.un
    omega
  exact ⟨_, (pss_cons (ps_asg (pv 0) (pg_tup rfl (pgs_cons (pg_name (i := 2) sc.nd rfl (Or.inl rfl)) (pgs_cons (pg_name (i := 3) sc.nd rfl (Or.inl rfl)) pgs_nil))))
      (pss_cons (ps_par (by rfl) sc.nd rfl rfl (by decide) rfl rfl (pa_cons (pe_listRg rfl rfl T.b_list (prg_1 rfl T.b_range (pe_callB call_len_seq rfl T.b_len bt_len (pa_cons (pv 2) pa_nil)))) (pa_cons (pe_lst pa_nil) pa_nil)) (by rfl))
      (pss_cons (ps_for (passes_of rfl) rfl (pi_enum rfl T.b_enumerate (pa_cons (pv 2) pa_nil)) (pg_tup rfl (pgs_cons (pg_name (i := 6) sc.nd rfl (Or.inl rfl)) (pgs_cons (pg_name (i := 7) sc.nd rfl (Or.inl rfl)) pgs_nil)))
      (pss_cons (ps_if (PW.pt (pw_or (pt_cmpR (op_inA hu5) (pv 7) (pv 3) rfl) (pw_or1 (pt_cmpR (op_notInA hu5) (pv 7) (pv 4) rfl)))) (pss_one (ps_expr (pe_bm PySem.F.plainAttrs_list PySem.F.slot_list_append PySem.F.type_list_append mt_append (pv 5) (pa_cons (pe_callB call_len_seq rfl T.b_len bt_len (pa_cons (pv 4) pa_nil)) pa_nil)))) (pss_one (ps_if (pt_cmpR (op_eqD hr.units) (pe_ix ix_seq (pv 1) (pv 7) (fun _ _ => rfl)) (pv 7) (nomark _)) (pss_one (ps_expr (pe_bm PySem.F.plainAttrs_list PySem.F.slot_list_append PySem.F.type_list_append mt_append (pv 5) (pa_cons pe_int pa_nil)))) (pss_one (ps_ret (pe_tup (pa_cons (pv 5) (pa_cons (pv 6) pa_nil))))))))
      (pss_one (ps_expr (pe_bm PySem.F.plainAttrs_list PySem.F.slot_list_remove PySem.F.type_list_remove mt_remove (pv 4) (pa_cons (pe_ix ix_seq (pv 1) (pv 7) (fun _ _ => rfl)) pa_nil))))))
      (pss_one (ps_ret (pe_tup (pa_cons (pv 5) (pa_cons pe_non pa_nil)))))))),
    (s_seq (s_frz (i := 0) (s_asg (se_var 0) (sg_t (sgs_cons (sg_n 2) (sgs_cons (sg_n 3) sgs_nil)) rfl) (gt_er (gs_er [2, 3]))))
      (s_seq (s_par (sa_cons (se_rg1 (se_I (sa_cons (se_var 2) sa_nil) ri_len)) (sa_cons (se_lst sa_nil fan0 (by decide)) sa_nil)))
      (s_seq (s_frz (i := 2) (s_for (si_enum (sa_cons (se_var 2) sa_nil)) (sg_t (sgs_cons (sg_n 6) (sgs_cons (sg_n 7) sgs_nil)) rfl) (gt_er (gs_er [6, 7]))
      (s_seq (s_if (st_or (st_test (se_op2 (se_var 7) (se_var 3) ri_in)) (st_test (se_op2 (se_var 7) (se_var 4) ri_notIn))) (s_mut rm_append (sp_s 5) (sa_cons (se_I (sa_cons (se_var 4) sa_nil) ri_len) sa_nil)) (s_if (st_test (se_op2 (se_op2 (se_var 1) (se_var 7) ri_ix) (se_var 7) ri_eq)) (s_mut rm_append (sp_s 5) (sa_cons (se_c rfl rfl) sa_nil)) (s_frz (i := 6) (s_frz (i := 5) (s_ret (se_tup (sa_cons (se_var 5) (sa_cons (se_var 6) sa_nil)) (fanS (fanS fan0)) (by decide)))))))
      (s_frz (i := 1) (s_mut rm_remove (sp_s 4) (sa_cons (se_op2 (se_var 1) (se_var 7) ri_ix) sa_nil))))))
      (s_frz (i := 5) (s_ret (se_tup (sa_cons (se_var 5) (sa_cons (se_c rfl rfl) sa_nil)) (fanS (fanS fan0)) (by decide)))))))⟩
abbrev N_Comes_init : List Str := ["self", "choices"]
theorem sc_Comes_init : FnScope N_Comes_init ["self", "choices"] (defScope s_Comes_init) := ⟨rfl, rfl, rfl, by decide +kernel, rfl, by decide +kernel, by decide +kernel⟩
theorem ok_Comes_init {f : Addr} {fd : FuncData} (F : Fun K "__init__" "Comes.__init__" s_Comes_init f fd) (T : Fx K mg) : FnOk P w K mg base (L2.CX P w) 1 f fd ["self", "choices"] (spI mg "Comes" m_Comes_init) := by
  have sc := sc_Comes_init
  refine Fun.okI (k := 0) (fs := b_Comes_init) F sc rfl (by decide) rfl (fun cdv A outer s H E hr => ?_)
  have hu5 : (A.deeper (envOfC "Comes.__init__" (defScope s_Comes_init) s.heap.objs.size f cdv)).units + 65 < cLine := by
    have := hr.un
    omega
  exact ⟨_, (pss_one (ps_fld (pv 0) (pe_callTy call_list_of rfl T.b_list bt_list (pa_cons (pv 1) pa_nil)) rfl)),
    (k_fld (i := 0) T.f_Comes_choices (se_L (sa_cons (se_var 1) sa_nil) rl_list))⟩
abbrev N_Comes_shows : List Str := ["self", "night", "seats"]
theorem sc_Comes_shows : FnScope N_Comes_shows ["self", "night", "seats"] (defScope s_Comes_shows) := ⟨rfl, rfl, rfl, by decide +kernel, rfl, by decide +kernel, by decide +kernel⟩
theorem ok_Comes_shows {f : Addr} {fd : FuncData} (F : Fun K "shows" "Comes.shows" s_Comes_shows f fd) (T : Fx K mg) (c_wall : Cal P w K mg base "_wall" 1 ["k"] m_wall) : FnOk P w K mg base (L2.CX P w) 2 f fd ["self", "night", "seats"] (spF mg m_Comes_shows) := by
  have sc := sc_Comes_shows
  refine Fun.okF (k := 1) (fs := b_Comes_shows) F sc rfl rfl (fun cdv A outer s H E hr => ?_)
  have hu5 : (A.deeper (envOfC "Comes.shows" (defScope s_Comes_shows) s.heap.objs.size f cdv)).units + 65 < cLine := by
    have := hr.un
    omega
  exact ⟨_, (pss_one (ps_expr (pe_cal c_wall (hr.mono (by decide)) rfl passD (pa_cons pe_int pa_nil)))),
    (s_drop (se_call kd_wall (sa_cons (se_c rfl rfl) sa_nil)))⟩
abbrev N_Bars_init : List Str := ["self", "turn"]
theorem sc_Bars_init : FnScope N_Bars_init ["self", "turn"] (defScope s_Bars_init) := ⟨rfl, rfl, rfl, by decide +kernel, rfl, by decide +kernel, by decide +kernel⟩
theorem ok_Bars_init {f : Addr} {fd : FuncData} (F : Fun K "__init__" "Bars.__init__" s_Bars_init f fd) (T : Fx K mg) : FnOk P w K mg base (L2.CX P w) 1 f fd ["self", "turn"] (spI mg "Bars" m_Bars_init) := by
  have sc := sc_Bars_init
  refine Fun.okI (k := 0) (fs := b_Bars_init) F sc rfl (by decide) rfl (fun cdv A outer s H E hr => ?_)
  have hu5 : (A.deeper (envOfC "Bars.__init__" (defScope s_Bars_init) s.heap.objs.size f cdv)).units + 65 < cLine := by
    have := hr.un
    omega
  exact ⟨_, (pss_one (ps_fld (pv 0) (pv 1) rfl)),
    (k_fld (i := 0) T.f_Bars_turn (se_var 1))⟩
abbrev N_Bars_shows : List Str := ["self", "night", "seats"]
theorem sc_Bars_shows : FnScope N_Bars_shows ["self", "night", "seats"] (defScope s_Bars_shows) := ⟨rfl, rfl, rfl, by decide +kernel, rfl, by decide +kernel, by decide +kernel⟩
theorem ok_Bars_shows {f : Addr} {fd : FuncData} (F : Fun K "shows" "Bars.shows" s_Bars_shows f fd) (T : Fx K mg) (c_wall : Cal P w K mg base "_wall" 1 ["k"] m_wall) : FnOk P w K mg base (L2.CX P w) 2 f fd ["self", "night", "seats"] (spF mg m_Bars_shows) := by
  have sc := sc_Bars_shows
  refine Fun.okF (k := 1) (fs := b_Bars_shows) F sc rfl rfl (fun cdv A outer s H E hr => ?_)
  have hu5 : (A.deeper (envOfC "Bars.shows" (defScope s_Bars_shows) s.heap.objs.size f cdv)).units + 65 < cLine := by
    have := hr.un
    omega
  exact ⟨_, (pss_one (ps_expr (pe_cal c_wall (hr.mono (by decide)) rfl passD (pa_cons pe_int pa_nil)))),
    (s_drop (se_call kd_wall (sa_cons (se_c rfl rfl) sa_nil)))⟩
abbrev N_is_count : List Str := ["thing", "least", "most"]
theorem sc_is_count : FnScope N_is_count ["thing", "least", "most"] (defScope s_is_count) := ⟨rfl, rfl, rfl, by decide +kernel, rfl, by decide +kernel, by decide +kernel⟩
theorem ok_is_count {f : Addr} {fd : FuncData} (F : Fun K "is_count" "is_count" s_is_count f fd) (T : Fx K mg) : FnOk P w K mg base (L2.CX P w) 1 f fd ["thing", "least", "most"] (spF mg m_is_count) := by
  have sc := sc_is_count
  refine Fun.okF (k := 0) (fs := b_is_count) F sc rfl rfl (fun cdv A outer s H E hr => ?_)
  have hu5 : (A.deeper (envOfC "is_count" (defScope s_is_count) s.heap.objs.size f cdv)).units + 65 < cLine := by
    have := hr.un
    omega
  exact ⟨_, (pss_one (ps_ret (pe_and (pe_callB call_isi rfl T.b_isinstance bt_isi (pa_cons (pv 0) (pa_cons (pe_bltn (v := .ty "int") rfl T.b_int bt_int rfl) pa_nil))) (pe_and (pe_not (pe_callB call_isi rfl T.b_isinstance bt_isi (pa_cons (pv 0) (pa_cons (pe_bltn (v := .ty "bool") rfl T.b_bool bt_bool rfl) pa_nil)))) (pe_one (pe_chain op_le op_le (pv 1) (pv 0) (pv 2))))))),
    (s_ret (se_and (se_isi (t := "int") (se_var 0) (by decide)) (se_and (se_not (se_isi (t := "bool") (se_var 0) (by decide))) (se_chain (se_var 1) (se_var 0) (se_var 2) ri_le ri_le))))⟩
abbrev N_are_all : List Str := ["thing", "many", "one"]
theorem sc_are_all : FnScope N_are_all ["thing", "many"] (defScope s_are_all) := ⟨rfl, rfl, rfl, by decide +kernel, rfl, by decide +kernel, by decide +kernel⟩
theorem ok_are_all {f : Addr} {fd : FuncData} (F : Fun K "are_all" "are_all" s_are_all f fd) (T : Fx K mg) (c_is_count : Cal P w K mg base "is_count" 1 ["thing", "least", "most"] m_is_count) : FnOk P w K mg base (L2.CX P w) 2 f fd ["thing", "many"] (spF mg m_are_all) := by
  have sc := sc_are_all
  refine Fun.okF (k := 1) (fs := b_are_all) F sc rfl rfl (fun cdv A outer s H E hr => ?_)
  have hu5 : (A.deeper (envOfC "are_all" (defScope s_are_all) s.heap.objs.size f cdv)).units + 65 < cLine := by
    have := hr.un
    omega
  exact ⟨_, (pss_cons (ps_if (PW.pt (pw_or (pt_not (pt_val (pe_callB call_isi rfl T.b_isinstance bt_isi (pa_cons (pv 0) (pa_cons (pe_bltn (v := .ty "list") rfl T.b_list bt_list rfl) pa_nil))))) (pw_or (pt_cmpR (op_neD hr.units) (pe_callB call_len_seq rfl T.b_len bt_len (pa_cons (pv 0) pa_nil)) (pv 1) (nomark _)) (pw_or1 (pt_not (pt_val (pe_callB (cr_all rfl) rfl T.b_all bt_all (pa_cons (pe_lc (own := [("one", 2)]) rfl sc.nd (pi_seq (pv 0)) (blkOk_by (N := N_are_all) (sc := defScope s_are_all) (by decide +kernel)) (fun _ _ _ _ _ => (pg_name (i := 2) sc.nd rfl (Or.inl rfl))) (fun _ _ _ _ _ => pts_nil) (fun _ _ _ _ _ => (pe_cal c_is_count (hr.mono (by decide)) rfl passL (pa_cons (pv 2) (pa_cons pe_int (pa_cons (pe_op op_sub (pv 1) pe_int) pa_nil)))))) pa_nil)))))))) (pss_one (ps_ret pe_bl)) pss_nil)
      (pss_one (ps_ret (pe_cmpR (op_eqD hr.units) (pe_lenSetA rfl T.b_len rfl T.b_set (pv 0)) (pv 1) (nomark _))))),
    (s_seq (s_frz (i := 0) (s_if (st_or (st_not (st_B (se_isi (t := "list") (se_var 0) (by decide)))) (st_or (st_test (se_op2 (se_I (sa_cons (se_var 0) sa_nil) ri_len) (se_var 1) ri_ne)) (st_not (st_B (se_I (sa_cons (se_lc (si_items (se_var 0)) (sg_n 2) (fun _ h => h) st_yes (se_call kd_is_count (sa_cons (se_var 2) (sa_cons (se_c rfl rfl) (sa_cons (se_op2 (se_var 1) (se_c rfl rfl) ri_sub) sa_nil)))) (gn_er 2)) sa_nil) ri_all))))) (s_ret (se_c rfl rfl)) s_next))
      (s_ret (se_op2 (se_lenSetA (se_var 0)) (se_var 1) ri_eq)))⟩
abbrev N_are_rising : List Str := ["thing", "many", "one", "other"]
theorem sc_are_rising : FnScope N_are_rising ["thing", "many"] (defScope s_are_rising) := ⟨rfl, rfl, rfl, by decide +kernel, rfl, by decide +kernel, by decide +kernel⟩
theorem ok_are_rising {f : Addr} {fd : FuncData} (F : Fun K "are_rising" "are_rising" s_are_rising f fd) (T : Fx K mg) (c_is_count : Cal P w K mg base "is_count" 1 ["thing", "least", "most"] m_is_count) : FnOk P w K mg base (L2.CX P w) 2 f fd ["thing", "many"] (spF mg m_are_rising) := by
  have sc := sc_are_rising
  refine Fun.okF (k := 1) (fs := b_are_rising) F sc rfl rfl (fun cdv A outer s H E hr => ?_)
  have hu5 : (A.deeper (envOfC "are_rising" (defScope s_are_rising) s.heap.objs.size f cdv)).units + 65 < cLine := by
    have := hr.un
    omega
  exact ⟨_, (pss_cons (ps_if (PW.pt (pw_or (pt_not (pt_val (pe_callB call_isi rfl T.b_isinstance bt_isi (pa_cons (pv 0) (pa_cons (pe_bltn (v := .ty "list") rfl T.b_list bt_list rfl) pa_nil))))) (pw_or1 (pt_not (pt_val (pe_callB (cr_all rfl) rfl T.b_all bt_all (pa_cons (pe_lc (own := [("one", 2)]) rfl sc.nd (pi_seq (pv 0)) (blkOk_by (N := N_are_rising) (sc := defScope s_are_rising) (by decide +kernel)) (fun _ _ _ _ _ => (pg_name (i := 2) sc.nd rfl (Or.inl rfl))) (fun _ _ _ _ _ => pts_nil) (fun _ _ _ _ _ => (pe_cal c_is_count (hr.mono (by decide)) rfl passL (pa_cons (pv 2) (pa_cons pe_int (pa_cons (pe_op op_sub (pv 1) pe_int) pa_nil)))))) pa_nil))))))) (pss_one (ps_ret pe_bl)) pss_nil)
      (pss_one (ps_ret (pe_callB (cr_all rfl) rfl T.b_all bt_all (pa_cons (pe_lc (own := [("one", 2), ("other", 3)]) rfl sc.nd (pi_zip rfl T.b_zip (pa_cons (pv 0) (pa_cons (pe_slice sl_list (pv 0) (po_some pe_int) po_none) pa_nil))) (blkOk_by (N := N_are_rising) (sc := defScope s_are_rising) (by decide +kernel)) (fun _ _ _ _ _ => (pg_tup rfl (pgs_cons (pg_name (i := 2) sc.nd rfl (Or.inl rfl)) (pgs_cons (pg_name (i := 3) sc.nd rfl (Or.inl rfl)) pgs_nil)))) (fun _ _ _ _ _ => pts_nil) (fun _ _ _ _ _ => (pe_cmpR op_lt (pv 2) (pv 3) (nomark _)))) pa_nil))))),
    (s_seq (s_frz (i := 0) (s_if (st_or (st_not (st_B (se_isi (t := "list") (se_var 0) (by decide)))) (st_not (st_B (se_I (sa_cons (se_lc (si_items (se_var 0)) (sg_n 2) (fun _ h => h) st_yes (se_call kd_is_count (sa_cons (se_var 2) (sa_cons (se_c rfl rfl) (sa_cons (se_op2 (se_var 1) (se_c rfl rfl) ri_sub) sa_nil)))) (gn_er 2)) sa_nil) ri_all)))) (s_ret (se_c rfl rfl)) s_next))
      (s_frz (i := 0) (s_ret (se_I (sa_cons (se_lc (si_zip (sa_cons (se_var 0) (sa_cons (se_sl10 (se_var 0) (se_c rfl rfl)) sa_nil))) (sg_t (sgs_cons (sg_n 2) (sgs_cons (sg_n 3) sgs_nil)) rfl) (fun _ h => h) st_yes (se_op2 (se_var 2) (se_var 3) ri_lt) (gt_er (gs_er [2, 3]))) sa_nil) ri_all))))⟩
abbrev N_check_order : List Str := ["order"]
theorem sc_check_order : FnScope N_check_order ["order"] (defScope s_check_order) := ⟨rfl, rfl, rfl, by decide +kernel, rfl, by decide +kernel, by decide +kernel⟩
theorem ok_check_order {f : Addr} {fd : FuncData} (F : Fun K "check_order" "check_order" s_check_order f fd) (T : Fx K mg) (c_are_all : Cal P w K mg base "are_all" 2 ["thing", "many"] m_are_all) : FnOk P w K mg base (L2.CX P w) 3 f fd ["order"] (spF mg m_check_order) := by
  have sc := sc_check_order
  obtain ⟨t_MOST_GUESTS, c_MOST_GUESTS⟩ := T.c_MOST_GUESTS
  refine Fun.okF (k := 2) (fs := b_check_order) F sc rfl rfl (fun cdv A outer s H E hr => ?_)
  have hu5 : (A.deeper (envOfC "check_order" (defScope s_check_order) s.heap.objs.size f cdv)).units + 65 < cLine := by
    have := hr.un
    omega
  exact ⟨_, (pss_one (ps_if (PW.pt (pw_or (pt_not (pt_val (pe_callB call_isi rfl T.b_isinstance bt_isi (pa_cons (pv 0) (pa_cons (pe_bltn (v := .ty "list") rfl T.b_list bt_list rfl) pa_nil))))) (pw_or (pt_not (pt_chain op_le op_le pe_int (pe_callB call_len_seq rfl T.b_len bt_len (pa_cons (pv 0) pa_nil)) (pe_glob (v := .int 40) rfl c_MOST_GUESTS ⟨_, rfl⟩))) (pw_or1 (pt_not (pt_val (pe_cal c_are_all (hr.mono (by decide)) rfl passD (pa_cons (pv 0) (pa_cons (pe_callB call_len_seq rfl T.b_len bt_len (pa_cons (pv 0) pa_nil)) pa_nil))))))))) (pss_one (ps_rz T.x_BadOrder rfl (takes_of rfl rfl rfl rfl) rfl)) pss_nil)),
    (s_if (st_or (st_not (st_B (se_isi (t := "list") (se_var 0) (by decide)))) (st_or (st_not (st_test (se_chain (se_c rfl rfl) (se_I (sa_cons (se_var 0) sa_nil) ri_len) (se_c rfl rfl) ri_le ri_le))) (st_not (st_B (se_call kd_are_all (sa_cons (se_var 0) (sa_cons (se_I (sa_cons (se_var 0) sa_nil) ri_len) sa_nil))))))) (s_rz T.x_BadOrder) s_next)⟩
abbrev N_check_night : List Str := ["night", "many"]
theorem sc_check_night : FnScope N_check_night ["night"] (defScope s_check_night) := ⟨rfl, rfl, rfl, by decide +kernel, rfl, by decide +kernel, by decide +kernel⟩
theorem ok_check_night {f : Addr} {fd : FuncData} (F : Fun K "check_night" "check_night" s_check_night f fd) (T : Fx K mg) (c_are_all : Cal P w K mg base "are_all" 2 ["thing", "many"] m_are_all) (c_are_rising : Cal P w K mg base "are_rising" 2 ["thing", "many"] m_are_rising) : FnOk P w K mg base (L2.CX P w) 3 f fd ["night"] (spF mg m_check_night) := by
  have sc := sc_check_night
  obtain ⟨t_MOST_GUESTS, c_MOST_GUESTS⟩ := T.c_MOST_GUESTS
  refine Fun.okF (k := 2) (fs := b_check_night) F sc rfl rfl (fun cdv A outer s H E hr => ?_)
  have hu5 : (A.deeper (envOfC "check_night" (defScope s_check_night) s.heap.objs.size f cdv)).units + 65 < cLine := by
    have := hr.un
    omega
  exact ⟨_, (pss_cons (ps_if (PW.pt (pw_or (pt_not (pt_val (pe_callB call_isi rfl T.b_isinstance bt_isi (pa_cons (pv 0) (pa_cons (pe_bltn (v := .ty "tuple") rfl T.b_tuple bt_tuple rfl) pa_nil))))) (pw_or (pt_cmpR (op_neD hr.units) (pe_callB call_len_seq rfl T.b_len bt_len (pa_cons (pv 0) pa_nil)) pe_int (nomark _)) (pw_or1 (pt_not (pt_val (pe_callB call_isi rfl T.b_isinstance bt_isi (pa_cons (pe_ix ix_seq (pv 0) pe_int (fun _ _ => rfl)) (pa_cons (pe_bltn (v := .ty "list") rfl T.b_list bt_list rfl) pa_nil))))))))) (pss_one (ps_rz T.x_BadNight rfl (takes_of rfl rfl rfl rfl) rfl)) pss_nil)
      (pss_cons (ps_set (i := 1) sc.nd rfl (Or.inl rfl) (pe_callB call_len_seq rfl T.b_len bt_len (pa_cons (pe_ix ix_seq (pv 0) pe_int (fun _ _ => rfl)) pa_nil)))
      (pss_one (ps_if (PW.pt (pw_or (pt_not (pt_chain op_le op_le pe_int (pv 1) (pe_glob (v := .int 40) rfl c_MOST_GUESTS ⟨_, rfl⟩))) (pw_or (pt_not (pt_val (pe_cal c_are_all (hr.mono (by decide)) rfl passD (pa_cons (pe_ix ix_seq (pv 0) pe_int (fun _ _ => rfl)) (pa_cons (pv 1) pa_nil))))) (pw_or1 (pt_not (pt_val (pe_cal c_are_rising (hr.mono (by decide)) rfl passD (pa_cons (pe_ix ix_seq (pv 0) pe_int (fun _ _ => rfl)) (pa_cons (pv 1) pa_nil))))))))) (pss_one (ps_rz T.x_BadNight rfl (takes_of rfl rfl rfl rfl) rfl)) pss_nil)))),
    (s_seq (s_if (st_or (st_not (st_B (se_isi (t := "tuple") (se_var 0) (by decide)))) (st_or (st_test (se_op2 (se_I (sa_cons (se_var 0) sa_nil) ri_len) (se_c rfl rfl) ri_ne)) (st_not (st_B (se_isi (t := "list") (se_op2 (se_var 0) (se_c rfl rfl) ri_ix) (by decide)))))) (s_rz T.x_BadNight) s_next)
      (s_seq (s_asg (se_I (sa_cons (se_op2 (se_var 0) (se_c rfl rfl) ri_ix) sa_nil) ri_len) (sg_n 1) (gn_er 1))
      (s_if (st_or (st_not (st_test (se_chain (se_c rfl rfl) (se_var 1) (se_c rfl rfl) ri_le ri_le))) (st_or (st_not (st_B (se_call kd_are_all (sa_cons (se_op2 (se_var 0) (se_c rfl rfl) ri_ix) (sa_cons (se_var 1) sa_nil))))) (st_not (st_B (se_call kd_are_rising (sa_cons (se_op2 (se_var 0) (se_c rfl rfl) ri_ix) (sa_cons (se_var 1) sa_nil))))))) (s_rz T.x_BadNight) s_next)))⟩
abbrev N_check_two : List Str := ["night", "guest", "seat"]
theorem sc_check_two : FnScope N_check_two ["night", "guest", "seat"] (defScope s_check_two) := ⟨rfl, rfl, rfl, by decide +kernel, rfl, by decide +kernel, by decide +kernel⟩
theorem ok_check_two {f : Addr} {fd : FuncData} (F : Fun K "check_two" "check_two" s_check_two f fd) (T : Fx K mg) (c_check_night : Cal P w K mg base "check_night" 3 ["night"] m_check_night) (c_is_count : Cal P w K mg base "is_count" 1 ["thing", "least", "most"] m_is_count) : FnOk P w K mg base (L2.CX P w) 4 f fd ["night", "guest", "seat"] (spF mg m_check_two) := by
  have sc := sc_check_two
  refine Fun.okF (k := 3) (fs := b_check_two) F sc rfl rfl (fun cdv A outer s H E hr => ?_)
  have hu5 : (A.deeper (envOfC "check_two" (defScope s_check_two) s.heap.objs.size f cdv)).units + 65 < cLine := by
    have := hr.un
    omega
  exact ⟨_, (pss_cons (ps_expr (pe_cal c_check_night (hr.mono (by decide)) rfl passD (pa_cons (pv 0) pa_nil)))
      (pss_cons (ps_if (pt_not (pt_val (pe_cal c_is_count (hr.mono (by decide)) rfl passD (pa_cons (pv 1) (pa_cons pe_int (pa_cons (pe_op op_sub (pe_callB call_len_seq rfl T.b_len bt_len (pa_cons (pe_ix ix_seq (pv 0) pe_int (fun _ _ => rfl)) pa_nil)) pe_int) pa_nil)))))) (pss_one (ps_rz T.x_BadGuest rfl (takes_of rfl rfl rfl rfl) rfl)) pss_nil)
      (pss_one (ps_if (pt_not (pt_val (pe_cal c_is_count (hr.mono (by decide)) rfl passD (pa_cons (pv 2) (pa_cons pe_int (pa_cons (pe_op op_sub (pe_callB call_len_seq rfl T.b_len bt_len (pa_cons (pe_ix ix_seq (pv 0) pe_int (fun _ _ => rfl)) pa_nil)) pe_int) pa_nil)))))) (pss_one (ps_rz T.x_BadSeat rfl (takes_of rfl rfl rfl rfl) rfl)) pss_nil)))),
    (s_seq (s_drop (se_call kd_check_night (sa_cons (se_var 0) sa_nil)))
      (s_seq (s_if (st_not (st_B (se_call kd_is_count (sa_cons (se_var 1) (sa_cons (se_c rfl rfl) (sa_cons (se_op2 (se_I (sa_cons (se_op2 (se_var 0) (se_c rfl rfl) ri_ix) sa_nil) ri_len) (se_c rfl rfl) ri_sub) sa_nil)))))) (s_rz T.x_BadGuest) s_next)
      (s_if (st_not (st_B (se_call kd_is_count (sa_cons (se_var 2) (sa_cons (se_c rfl rfl) (sa_cons (se_op2 (se_I (sa_cons (se_op2 (se_var 0) (se_c rfl rfl) ri_ix) sa_nil) ri_len) (se_c rfl rfl) ri_sub) sa_nil)))))) (s_rz T.x_BadSeat) s_next)))⟩
abbrev N_are_pairs : List Str := ["thing", "many", "pair", "one", "other"]
theorem sc_are_pairs : FnScope N_are_pairs ["thing", "many"] (defScope s_are_pairs) := ⟨rfl, rfl, rfl, by decide +kernel, rfl, by decide +kernel, by decide +kernel⟩
theorem ok_are_pairs {f : Addr} {fd : FuncData} (F : Fun K "are_pairs" "are_pairs" s_are_pairs f fd) (T : Fx K mg) (c_is_count : Cal P w K mg base "is_count" 1 ["thing", "least", "most"] m_is_count) : FnOk P w K mg base (L2.CX P w) 2 f fd ["thing", "many"] (spF mg m_are_pairs) := by
  have sc := sc_are_pairs
  refine Fun.okF (k := 1) (fs := b_are_pairs) F sc rfl rfl (fun cdv A outer s H E hr => ?_)
  have hu5 : (A.deeper (envOfC "are_pairs" (defScope s_are_pairs) s.heap.objs.size f cdv)).units + 65 < cLine := by
    have := hr.un
    omega
  exact ⟨_, (pss_cons (ps_if (PW.pt (pw_or (pt_not (pt_val (pe_callB call_isi rfl T.b_isinstance bt_isi (pa_cons (pv 0) (pa_cons (pe_bltn (v := .ty "list") rfl T.b_list bt_list rfl) pa_nil))))) (pw_or1 (pt_not (pt_val (pe_callB (cr_all rfl) rfl T.b_all bt_all (pa_cons (pe_lc (own := [("pair", 2)]) rfl sc.nd (pi_seq (pv 0)) (blkOk_by (N := N_are_pairs) (sc := defScope s_are_pairs) (by decide +kernel)) (fun _ _ _ _ _ => (pg_name (i := 2) sc.nd rfl (Or.inl rfl))) (fun _ _ _ _ _ => pts_nil) (fun _ _ _ _ _ => (pe_and (pe_callB call_isi rfl T.b_isinstance bt_isi (pa_cons (pv 2) (pa_cons (pe_bltn (v := .ty "tuple") rfl T.b_tuple bt_tuple rfl) pa_nil))) (pe_one (pe_cmpR (op_eqD hr.units) (pe_callB call_len_seq rfl T.b_len bt_len (pa_cons (pv 2) pa_nil)) pe_int (nomark _)))))) pa_nil))))))) (pss_one (ps_ret pe_bl)) pss_nil)
      (pss_cons (ps_if (pt_not (pt_val (pe_callB (cr_all rfl) rfl T.b_all bt_all (pa_cons (pe_lc (own := [("pair", 2)]) rfl sc.nd (pi_seq (pv 0)) (blkOk_by (N := N_are_pairs) (sc := defScope s_are_pairs) (by decide +kernel)) (fun _ _ _ _ _ => (pg_name (i := 2) sc.nd rfl (Or.inl rfl))) (fun _ _ _ _ _ => pts_nil) (fun _ _ _ _ _ => (pe_and (pe_cal c_is_count (hr.mono (by decide)) rfl passL (pa_cons (pe_ix ix_seq (pv 2) pe_int (fun _ _ => rfl)) (pa_cons pe_int (pa_cons (pe_op op_sub (pv 1) pe_int) pa_nil)))) (pe_one (pe_cal c_is_count (hr.mono (by decide)) rfl passL (pa_cons (pe_ix ix_seq (pv 2) pe_int (fun _ _ => rfl)) (pa_cons pe_int (pa_cons (pe_op op_sub (pv 1) pe_int) pa_nil)))))))) pa_nil)))) (pss_one (ps_ret pe_bl)) pss_nil)
      (pss_one (ps_ret (pe_callB (cr_all rfl) rfl T.b_all bt_all (pa_cons (pe_lc (own := [("one", 3), ("other", 4)]) rfl sc.nd (pi_zip rfl T.b_zip (pa_cons (pv 0) (pa_cons (pe_slice sl_list (pv 0) (po_some pe_int) po_none) pa_nil))) (blkOk_by (N := N_are_pairs) (sc := defScope s_are_pairs) (by decide +kernel)) (fun _ _ _ _ _ => (pg_tup rfl (pgs_cons (pg_name (i := 3) sc.nd rfl (Or.inl rfl)) (pgs_cons (pg_name (i := 4) sc.nd rfl (Or.inl rfl)) pgs_nil)))) (fun _ _ _ _ _ => pts_nil) (fun _ _ _ _ _ => (pe_cmpR op_lt (pe_ix ix_seq (pv 3) pe_int (fun _ _ => rfl)) (pe_ix ix_seq (pv 4) pe_int (fun _ _ => rfl)) (nomark _)))) pa_nil)))))),
    (s_seq (s_frz (i := 0) (s_if (st_or (st_not (st_B (se_isi (t := "list") (se_var 0) (by decide)))) (st_not (st_B (se_I (sa_cons (se_lc (si_items (se_var 0)) (sg_n 2) (fun _ h => h) st_yes (se_and (se_isi (t := "tuple") (se_var 2) (by decide)) (se_op2 (se_I (sa_cons (se_var 2) sa_nil) ri_len) (se_c rfl rfl) ri_eq)) (gn_er 2)) sa_nil) ri_all)))) (s_ret (se_c rfl rfl)) s_next))
      (s_seq (s_frz (i := 0) (s_if (st_not (st_B (se_I (sa_cons (se_lc (si_items (se_var 0)) (sg_n 2) (fun _ h => h) st_yes (se_and (se_call kd_is_count (sa_cons (se_op2 (se_var 2) (se_c rfl rfl) ri_ix) (sa_cons (se_c rfl rfl) (sa_cons (se_op2 (se_var 1) (se_c rfl rfl) ri_sub) sa_nil)))) (se_call kd_is_count (sa_cons (se_op2 (se_var 2) (se_c rfl rfl) ri_ix) (sa_cons (se_c rfl rfl) (sa_cons (se_op2 (se_var 1) (se_c rfl rfl) ri_sub) sa_nil))))) (gn_er 2)) sa_nil) ri_all))) (s_ret (se_c rfl rfl)) s_next))
      (s_frz (i := 0) (s_ret (se_I (sa_cons (se_lc (si_zip (sa_cons (se_var 0) (sa_cons (se_sl10 (se_var 0) (se_c rfl rfl)) sa_nil))) (sg_t (sgs_cons (sg_n 3) (sgs_cons (sg_n 4) sgs_nil)) rfl) (fun _ h => h) st_yes (se_op2 (se_op2 (se_var 3) (se_c rfl rfl) ri_ix) (se_op2 (se_var 4) (se_c rfl rfl) ri_ix) ri_lt) (gt_er (gs_er [3, 4]))) sa_nil) ri_all)))))⟩
abbrev N_check_seating : List Str := ["seats", "many"]
theorem sc_check_seating : FnScope N_check_seating ["seats", "many"] (defScope s_check_seating) := ⟨rfl, rfl, rfl, by decide +kernel, rfl, by decide +kernel, by decide +kernel⟩
theorem ok_check_seating {f : Addr} {fd : FuncData} (F : Fun K "check_seating" "check_seating" s_check_seating f fd) (T : Fx K mg) (c_are_all : Cal P w K mg base "are_all" 2 ["thing", "many"] m_are_all) : FnOk P w K mg base (L2.CX P w) 3 f fd ["seats", "many"] (spF mg m_check_seating) := by
  have sc := sc_check_seating
  refine Fun.okF (k := 2) (fs := b_check_seating) F sc rfl rfl (fun cdv A outer s H E hr => ?_)
  have hu5 : (A.deeper (envOfC "check_seating" (defScope s_check_seating) s.heap.objs.size f cdv)).units + 65 < cLine := by
    have := hr.un
    omega
  exact ⟨_, (pss_one (ps_if (pt_not (pt_val (pe_cal c_are_all (hr.mono (by decide)) rfl passD (pa_cons (pv 0) (pa_cons (pv 1) pa_nil))))) (pss_one (ps_rz T.x_BadSeating rfl (takes_of rfl rfl rfl rfl) rfl)) pss_nil)),
    (s_if (st_not (st_B (se_call kd_are_all (sa_cons (se_var 0) (sa_cons (se_var 1) sa_nil))))) (s_rz T.x_BadSeating) s_next)⟩
abbrev N_common : List Str := ["one", "other"]
theorem sc_common : FnScope N_common ["one", "other"] (defScope s_common) := ⟨rfl, rfl, rfl, by decide +kernel, rfl, by decide +kernel, by decide +kernel⟩
theorem ok_common {f : Addr} {fd : FuncData} (F : Fun K "common" "common" s_common f fd) (T : Fx K mg) : FnOk P w K mg base (L2.CX P w) 1 f fd ["one", "other"] (spF mg m_common) := by
  have sc := sc_common
  refine Fun.okF (k := 0) (fs := b_common) F sc rfl rfl (fun cdv A outer s H E hr => ?_)
  have hu5 : (A.deeper (envOfC "common" (defScope s_common) s.heap.objs.size f cdv)).units + 65 < cLine := by
    have := hr.un
    omega
  exact ⟨_, (pss_cons (ps_while (passes_of rfl) (pt_cmpR op_gt (pv 1) pe_int (nomark _)) (pss_one (ps_par (by rfl) sc.nd rfl rfl (by decide) rfl rfl (pa_cons (pv 1) (pa_cons (pe_op op_mod (pv 0) (pv 1)) pa_nil)) (by rfl))))
      (pss_one (ps_ret (pv 0)))),
    (s_seq (s_while (n := 20000) (st_test (se_op2 (se_var 1) (se_c rfl rfl) ri_gt)) (s_frz (i := 1) (s_par (sa_cons (se_var 1) (sa_cons (se_op2 (se_var 0) (se_var 1) ri_mod) sa_nil)))))
      (s_frz (i := 0) (s_ret (se_var 0))))⟩
abbrev N_part : List Str := ["top", "bottom", "much"]
theorem sc_part : FnScope N_part ["top", "bottom"] (defScope s_part) := ⟨rfl, rfl, rfl, by decide +kernel, rfl, by decide +kernel, by decide +kernel⟩
theorem ok_part {f : Addr} {fd : FuncData} (F : Fun K "part" "part" s_part f fd) (T : Fx K mg) (c_common : Cal P w K mg base "common" 1 ["one", "other"] m_common) : FnOk P w K mg base (L2.CX P w) 2 f fd ["top", "bottom"] (spF mg m_part) := by
  have sc := sc_part
  refine Fun.okF (k := 1) (fs := b_part) F sc rfl rfl (fun cdv A outer s H E hr => ?_)
  have hu5 : (A.deeper (envOfC "part" (defScope s_part) s.heap.objs.size f cdv)).units + 65 < cLine := by
    have := hr.un
    omega
  exact ⟨_, (pss_cons (ps_set (i := 2) sc.nd rfl (Or.inl rfl) (pe_cal c_common (hr.mono (by decide)) rfl passD (pa_cons (pv 0) (pa_cons (pv 1) pa_nil))))
      (pss_one (ps_ret (pe_tup (pa_cons (pe_op op_fdivW (pv 0) (pv 2)) (pa_cons (pe_op op_fdivW (pv 1) (pv 2)) pa_nil)))))),
    (s_seq (s_asg (se_call kd_common (sa_cons (se_var 0) (sa_cons (se_var 1) sa_nil))) (sg_n 2) (gn_er 2))
      (s_ret (se_tup (sa_cons (se_op2 (se_var 0) (se_var 2) ri_div) (sa_cons (se_op2 (se_var 1) (se_var 2) ri_div) sa_nil)) (fanS (fanS fan0)) (by decide))))⟩
abbrev N_summed : List Str := ["shares", "top", "bottom", "one", "other"]
theorem sc_summed : FnScope N_summed ["shares"] (defScope s_summed) := ⟨rfl, rfl, rfl, by decide +kernel, rfl, by decide +kernel, by decide +kernel⟩
theorem ok_summed {f : Addr} {fd : FuncData} (F : Fun K "summed" "summed" s_summed f fd) (T : Fx K mg) (c_part : Cal P w K mg base "part" 2 ["top", "bottom"] m_part) : FnOk P w K mg base (L2.CX P w) 3 f fd ["shares"] (spF mg m_summed) := by
  have sc := sc_summed
  refine Fun.okF (k := 2) (fs := b_summed) F sc rfl rfl (fun cdv A outer s H E hr => ?_)
  have hu5 : (A.deeper (envOfC "summed" (defScope s_summed) s.heap.objs.size f cdv)).units + 65 < cLine := by
    have := hr.un
    omega
  exact ⟨_, (pss_cons (ps_asg (pe_tup (pa_cons pe_int (pa_cons pe_int pa_nil))) (pg_tup rfl (pgs_cons (pg_name (i := 1) sc.nd rfl (Or.inl rfl)) (pgs_cons (pg_name (i := 2) sc.nd rfl (Or.inl rfl)) pgs_nil))))
      (pss_cons (ps_for (passes_of rfl) rfl (pi_seq (pv 0)) (pg_tup rfl (pgs_cons (pg_name (i := 3) sc.nd rfl (Or.inl rfl)) (pgs_cons (pg_name (i := 4) sc.nd rfl (Or.inl rfl)) pgs_nil)))
      (pss_one (ps_asg (pe_cal c_part (hr.mono (by decide)) rfl passD (pa_cons (pe_op op_addA (pe_op op_mulA (pv 1) (pv 4)) (pe_op op_mulA (pv 3) (pv 2))) (pa_cons (pe_op op_mulA (pv 2) (pv 4)) pa_nil))) (pg_tup rfl (pgs_cons (pg_name (i := 1) sc.nd rfl (Or.inl rfl)) (pgs_cons (pg_name (i := 2) sc.nd rfl (Or.inl rfl)) pgs_nil))))))
      (pss_one (ps_ret (pe_tup (pa_cons (pv 1) (pa_cons (pv 2) pa_nil))))))),
    (s_seq (s_asg (se_tup (sa_cons (se_c rfl rfl) (sa_cons (se_c rfl rfl) sa_nil)) (fanS (fanS fan0)) (by decide)) (sg_t (sgs_cons (sg_n 1) (sgs_cons (sg_n 2) sgs_nil)) rfl) (gt_er (gs_er [1, 2])))
      (s_seq (s_frz (i := 0) (s_wipe [3, 4] (s_for (si_items (se_var 0)) (sg_w [3, 4] (sg_t (sgs_cons (sg_n 3) (sgs_cons (sg_n 4) sgs_nil)) rfl)) (gw_er [3, 4] (gt_er (gs_er [3, 4])))
      (s_asg (se_call kd_part (sa_cons (se_add (se_mul (se_var 1) (se_var 4)) (se_mul (se_var 3) (se_var 2))) (sa_cons (se_mul (se_var 2) (se_var 4)) sa_nil))) (sg_t (sgs_cons (sg_n 1) (sgs_cons (sg_n 2) sgs_nil)) rfl) (gt_er (gs_er [1, 2]))))))
      (s_frz (i := 2) (s_frz (i := 1) (s_ret (se_tup (sa_cons (se_var 1) (sa_cons (se_var 2) sa_nil)) (fanS (fanS fan0)) (by decide)))))))⟩
abbrev N_lost_ahead : List Str := ["night", "turn", "guest"]
theorem sc_lost_ahead : FnScope N_lost_ahead ["night", "turn"] (defScope s_lost_ahead) := ⟨rfl, rfl, rfl, by decide +kernel, rfl, by decide +kernel, by decide +kernel⟩
theorem ok_lost_ahead {f : Addr} {fd : FuncData} (F : Fun K "lost_ahead" "lost_ahead" s_lost_ahead f fd) (T : Fx K mg) : FnOk P w K mg base (L2.CX P w) 1 f fd ["night", "turn"] (spF mg m_lost_ahead) := by
  have sc := sc_lost_ahead
  refine Fun.okF (k := 0) (fs := b_lost_ahead) F sc rfl rfl (fun cdv A outer s H E hr => ?_)
  have hu5 : (A.deeper (envOfC "lost_ahead" (defScope s_lost_ahead) s.heap.objs.size f cdv)).units + 65 < cLine := by
    have := hr.un
    omega
  exact ⟨_, (pss_one (ps_ret (pe_callB call_len_seq rfl T.b_len bt_len (pa_cons (pe_lc (own := [("guest", 2)]) rfl sc.nd (pi_seq (pe_slice sl_list (pe_ix ix_seq (pv 0) pe_int (fun _ _ => rfl)) po_none (po_some (pv 1)))) (blkOk_by (N := N_lost_ahead) (sc := defScope s_lost_ahead) (by decide +kernel)) (fun _ _ _ _ _ => (pg_name (i := 2) sc.nd rfl (Or.inl rfl))) (fun _ _ _ _ _ => (pts_one (pt_cmpR (op_inA hu5) (pv 2) (pe_ix ix_seq (pv 0) pe_int (fun _ _ => rfl)) rfl))) (fun _ _ _ _ _ => (pv 2))) pa_nil)))),
    (s_frz (i := 0) (s_ret (se_I (sa_cons (se_lc (si_items (se_sl01 (se_op2 (se_var 0) (se_c rfl rfl) ri_ix) (se_var 1))) (sg_n 2) (fun _ h => h) (st_test (se_op2 (se_var 2) (se_op2 (se_var 0) (se_c rfl rfl) ri_ix) ri_in)) (se_var 2) (gn_er 2)) sa_nil) ri_len)))⟩
abbrev N_room : List Str := ["night", "turn", "order", "lost", "guest"]
theorem sc_room : FnScope N_room ["night", "turn"] (defScope s_room) := ⟨rfl, rfl, rfl, by decide +kernel, rfl, by decide +kernel, by decide +kernel⟩
theorem ok_room {f : Addr} {fd : FuncData} (F : Fun K "room" "room" s_room f fd) (T : Fx K mg) : FnOk P w K mg base (L2.CX P w) 1 f fd ["night", "turn"] (spF mg m_room) := by
  have sc := sc_room
  refine Fun.okF (k := 0) (fs := b_room) F sc rfl rfl (fun cdv A outer s H E hr => ?_)
  have hu5 : (A.deeper (envOfC "room" (defScope s_room) s.heap.objs.size f cdv)).units + 65 < cLine := by
    have := hr.un
    omega
  exact ⟨_, (pss_cons (ps_asg (pv 0) (pg_tup rfl (pgs_cons (pg_name (i := 2) sc.nd rfl (Or.inl rfl)) (pgs_cons (pg_name (i := 3) sc.nd rfl (Or.inr rfl)) pgs_nil))))
      (pss_one (ps_ret (pe_callB cr_sortedI rfl T.b_sorted bt_sorted (pa_cons (pe_op op_addA (pe_slice sl_list (pv 2) (po_some (pv 1)) po_none) (pe_lc (own := [("guest", 4)]) rfl sc.nd (pi_seq (pe_slice sl_list (pv 2) po_none (po_some (pv 1)))) (blkOk_by (N := N_room) (sc := defScope s_room) (by decide +kernel)) (fun _ _ _ _ _ => (pg_name (i := 4) sc.nd rfl (Or.inl rfl))) (fun _ _ _ _ _ => (pts_one (pt_cmpR (op_inA hu5) (pv 4) (pv 3) rfl))) (fun _ _ _ _ _ => (pv 4)))) pa_nil))))),
    (s_seq (s_frz (i := 0) (s_asg (se_var 0) (sg_t (sgs_cons (sg_n 2) (sgs_cons (sg_n 3) sgs_nil)) rfl) (gt_er (gs_er [2, 3]))))
      (s_frz (i := 2) (s_ret (se_L (sa_cons (se_add (se_sl10 (se_var 2) (se_var 1)) (se_lc (si_items (se_sl01 (se_var 2) (se_var 1))) (sg_n 4) (fun _ h => h) (st_test (se_op2 (se_var 4) (se_var 3) ri_in)) (se_var 4) (gn_er 4))) sa_nil) rl_sorted))))⟩
abbrev N_share_of : List Str := ["night", "guest", "seat", "order", "lost", "turn", "many", "ahead"]
theorem sc_share_of : FnScope N_share_of ["night", "guest", "seat"] (defScope s_share_of) := ⟨rfl, rfl, rfl, by decide +kernel, rfl, by decide +kernel, by decide +kernel⟩
theorem ok_share_of {f : Addr} {fd : FuncData} (F : Fun K "share_of" "share_of" s_share_of f fd) (T : Fx K mg) (c_lost_ahead : Cal P w K mg base "lost_ahead" 1 ["night", "turn"] m_lost_ahead) (c_part : Cal P w K mg base "part" 2 ["top", "bottom"] m_part) (c_room : Cal P w K mg base "room" 1 ["night", "turn"] m_room) : FnOk P w K mg base (L2.CX P w) 3 f fd ["night", "guest", "seat"] (spF mg m_share_of) := by
  have sc := sc_share_of
  refine Fun.okF (k := 2) (fs := b_share_of) F sc rfl rfl (fun cdv A outer s H E hr => ?_)
  have hu5 : (A.deeper (envOfC "share_of" (defScope s_share_of) s.heap.objs.size f cdv)).units + 65 < cLine := by
    have := hr.un
    omega
  exact ⟨_, (pss_cons (ps_asg (pv 0) (pg_tup rfl (pgs_cons (pg_name (i := 3) sc.nd rfl (Or.inl rfl)) (pgs_cons (pg_name (i := 4) sc.nd rfl (Or.inl rfl)) pgs_nil))))
      (pss_cons (ps_set (i := 5) sc.nd rfl (Or.inl rfl) (pe_bm PySem.F.plainAttrs_list PySem.F.slot_list_index PySem.F.type_list_index mt_index (pv 3) (pa_cons (pv 1) pa_nil)))
      (pss_cons (ps_par (by rfl) sc.nd rfl rfl (by decide) rfl rfl (pa_cons (pe_op op_sub (pe_callB call_len_seq rfl T.b_len bt_len (pa_cons (pv 3) pa_nil)) (pv 5)) (pa_cons (pe_cal c_lost_ahead (hr.mono (by decide)) rfl passD (pa_cons (pv 0) (pa_cons (pv 5) pa_nil))) pa_nil)) (by rfl))
      (pss_cons (ps_if (pt_cmpR (op_notInA hu5) (pv 2) (pe_cal c_room (hr.mono (by decide)) rfl passD (pa_cons (pv 0) (pa_cons (pv 5) pa_nil))) rfl) (pss_one (ps_ret (pe_tup (pa_cons pe_int (pa_cons pe_int pa_nil))))) pss_nil)
      (pss_cons (ps_if (pt_cmpR (op_inA hu5) (pv 1) (pv 4) rfl) (pss_one (ps_ret (pe_tup (pa_cons pe_int (pa_cons (pe_op op_addA (pv 6) (pv 7)) pa_nil))))) pss_nil)
      (pss_cons (ps_if (pt_cmpR (op_eqD hr.units) (pv 2) (pv 1) (nomark _)) (pss_one (ps_ret (pe_cal c_part (hr.mono (by decide)) rfl passD (pa_cons (pv 6) (pa_cons (pe_op op_addA (pv 6) (pv 7)) pa_nil))))) pss_nil)
      (pss_one (ps_ret (pe_cal c_part (hr.mono (by decide)) rfl passD (pa_cons (pv 7) (pa_cons (pe_op op_mulA (pe_op op_addA (pv 6) (pv 7)) (pe_op op_sub (pe_op op_addA (pv 6) (pv 7)) pe_int)) pa_nil))))))))))),
    (s_seq (s_frz (i := 0) (s_asg (se_var 0) (sg_t (sgs_cons (sg_n 3) (sgs_cons (sg_n 4) sgs_nil)) rfl) (gt_er (gs_er [3, 4]))))
      (s_seq (s_asg (se_bm ri_index (se_var 3) (sa_cons (se_var 1) sa_nil)) (sg_n 5) (gn_er 5))
      (s_seq (s_par (sa_cons (se_op2 (se_I (sa_cons (se_var 3) sa_nil) ri_len) (se_var 5) ri_sub) (sa_cons (se_call kd_lost_ahead (sa_cons (se_var 0) (sa_cons (se_var 5) sa_nil))) sa_nil)))
      (s_seq (s_if (st_test (se_op2 (se_var 2) (se_call kd_room (sa_cons (se_var 0) (sa_cons (se_var 5) sa_nil))) ri_notIn)) (s_ret (se_tup (sa_cons (se_c rfl rfl) (sa_cons (se_c rfl rfl) sa_nil)) (fanS (fanS fan0)) (by decide))) s_next)
      (s_seq (s_if (st_test (se_op2 (se_var 1) (se_var 4) ri_in)) (s_ret (se_tup (sa_cons (se_c rfl rfl) (sa_cons (se_add (se_var 6) (se_var 7)) sa_nil)) (fanS (fanS fan0)) (by decide))) s_next)
      (s_seq (s_if (st_test (se_op2 (se_var 2) (se_var 1) ri_eq)) (s_ret (se_call kd_part (sa_cons (se_var 6) (sa_cons (se_add (se_var 6) (se_var 7)) sa_nil)))) s_next)
      (s_ret (se_call kd_part (sa_cons (se_var 7) (sa_cons (se_mul (se_add (se_var 6) (se_var 7)) (se_op2 (se_add (se_var 6) (se_var 7)) (se_c rfl rfl) ri_sub)) sa_nil))))))))))⟩
abbrev N_share : List Str := ["night", "guest", "seat"]
theorem sc_share : FnScope N_share ["night", "guest", "seat"] (defScope s_share) := ⟨rfl, rfl, rfl, by decide +kernel, rfl, by decide +kernel, by decide +kernel⟩
theorem ok_share {f : Addr} {fd : FuncData} (F : Fun K "share" "share" s_share f fd) (T : Fx K mg) (c_check_two : Cal P w K mg base "check_two" 4 ["night", "guest", "seat"] m_check_two) (c_share_of : Cal P w K mg base "share_of" 3 ["night", "guest", "seat"] m_share_of) : FnOk P w K mg base (L2.CX P w) 5 f fd ["night", "guest", "seat"] (spF mg m_share) := by
  have sc := sc_share
  refine Fun.okF (k := 4) (fs := b_share) F sc rfl rfl (fun cdv A outer s H E hr => ?_)
  have hu5 : (A.deeper (envOfC "share" (defScope s_share) s.heap.objs.size f cdv)).units + 65 < cLine := by
    have := hr.un
    omega
  exact ⟨_, (pss_cons (ps_expr (pe_cal c_check_two (hr.mono (by decide)) rfl passD (pa_cons (pv 0) (pa_cons (pv 1) (pa_cons (pv 2) pa_nil)))))
      (pss_one (ps_ret (pe_cal c_share_of (hr.mono (by decide)) rfl passD (pa_cons (pv 0) (pa_cons (pv 1) (pa_cons (pv 2) pa_nil))))))),
    (s_seq (s_drop (se_call kd_check_two (sa_cons (se_var 0) (sa_cons (se_var 1) (sa_cons (se_var 2) sa_nil)))))
      (s_ret (se_call kd_share_of (sa_cons (se_var 0) (sa_cons (se_var 1) (sa_cons (se_var 2) sa_nil))))))⟩
abbrev N_free_share : List Str := ["night", "turn", "seats", "whole", "some", "many", "ways", "at", "seat"]
theorem sc_free_share : FnScope N_free_share ["night", "turn", "seats"] (defScope s_free_share) := ⟨rfl, rfl, rfl, by decide +kernel, rfl, by decide +kernel, by decide +kernel⟩
theorem ok_free_share {f : Addr} {fd : FuncData} (F : Fun K "free_share" "free_share" s_free_share f fd) (T : Fx K mg) (c_are_rising : Cal P w K mg base "are_rising" 2 ["thing", "many"] m_are_rising) (c_check_night : Cal P w K mg base "check_night" 3 ["night"] m_check_night) (c_is_count : Cal P w K mg base "is_count" 1 ["thing", "least", "most"] m_is_count) (c_room : Cal P w K mg base "room" 1 ["night", "turn"] m_room) : FnOk P w K mg base (L2.CX P w) 4 f fd ["night", "turn", "seats"] (spF mg m_free_share) := by
  have sc := sc_free_share
  refine Fun.okF (k := 3) (fs := b_free_share) F sc rfl rfl (fun cdv A outer s H E hr => ?_)
  have hu5 : (A.deeper (envOfC "free_share" (defScope s_free_share) s.heap.objs.size f cdv)).units + 65 < cLine := by
    have := hr.un
    omega
  exact ⟨_, (pss_cons (ps_expr (pe_cal c_check_night (hr.mono (by decide)) rfl passD (pa_cons (pv 0) pa_nil)))
      (pss_cons (ps_set (i := 3) sc.nd rfl (Or.inl rfl) (pe_callB call_len_seq rfl T.b_len bt_len (pa_cons (pe_ix ix_seq (pv 0) pe_int (fun _ _ => rfl)) pa_nil)))
      (pss_cons (ps_if (pt_not (pt_val (pe_cal c_is_count (hr.mono (by decide)) rfl passD (pa_cons (pv 1) (pa_cons pe_int (pa_cons (pv 3) pa_nil)))))) (pss_one (ps_rz T.x_BadTurn rfl (takes_of rfl rfl rfl rfl) rfl)) pss_nil)
      (pss_cons (ps_if (pt_not (pt_val (pe_cal c_are_rising (hr.mono (by decide)) rfl passD (pa_cons (pv 2) (pa_cons (pv 3) pa_nil))))) (pss_one (ps_rz T.x_BadSeats rfl (takes_of rfl rfl rfl rfl) rfl)) pss_nil)
      (pss_cons (ps_asg (pe_tup (pa_cons (pe_cal c_room (hr.mono (by decide)) rfl passD (pa_cons (pv 0) (pa_cons (pv 1) pa_nil))) (pa_cons (pe_op op_sub (pv 3) (pv 1)) pa_nil))) (pg_tup rfl (pgs_cons (pg_name (i := 4) sc.nd rfl (Or.inr rfl)) (pgs_cons (pg_name (i := 5) sc.nd rfl (Or.inl rfl)) pgs_nil))))
      (pss_cons (ps_if (PW.pt (pw_or (pt_cmpR (op_neD hr.units) (pe_callB call_len_seq rfl T.b_len bt_len (pa_cons (pv 2) pa_nil)) (pv 5) (nomark _)) (pw_or1 (pt_not (pt_val (pe_callB (cr_all rfl) rfl T.b_all bt_all (pa_cons (pe_lc (own := [("seat", 8)]) rfl sc.nd (pi_seq (pv 2)) (blkOk_by (N := N_free_share) (sc := defScope s_free_share) (by decide +kernel)) (fun _ _ _ _ _ => (pg_name (i := 8) sc.nd rfl (Or.inl rfl))) (fun _ _ _ _ _ => pts_nil) (fun _ _ _ _ _ => (pe_cmpR (op_inA hu5) (pv 8) (pv 4) rfl))) pa_nil))))))) (pss_one (ps_ret (pe_tup (pa_cons pe_int (pa_cons pe_int pa_nil))))) pss_nil)
      (pss_cons (ps_set (i := 6) sc.nd rfl (Or.inl rfl) pe_int)
      (pss_cons (ps_for (passes_of rfl) rfl (pi_range1 rfl T.b_range (pa_cons (pv 5) pa_nil)) (pg_name (i := 7) sc.nd rfl (Or.inl rfl))
      (pss_one (ps_set (i := 6) sc.nd rfl (Or.inl rfl) (pe_op op_fdivW (pe_op op_mulA (pv 6) (pe_op op_sub (pe_callB call_len_seq rfl T.b_len bt_len (pa_cons (pv 4) pa_nil)) (pv 7))) (pe_op op_addA (pv 7) pe_int)))))
      (pss_one (ps_ret (pe_tup (pa_cons pe_int (pa_cons (pv 6) pa_nil))))))))))))),
    (s_seq (s_drop (se_call kd_check_night (sa_cons (se_var 0) sa_nil)))
      (s_seq (s_asg (se_I (sa_cons (se_op2 (se_var 0) (se_c rfl rfl) ri_ix) sa_nil) ri_len) (sg_n 3) (gn_er 3))
      (s_seq (s_if (st_not (st_B (se_call kd_is_count (sa_cons (se_var 1) (sa_cons (se_c rfl rfl) (sa_cons (se_var 3) sa_nil)))))) (s_rz T.x_BadTurn) s_next)
      (s_seq (s_if (st_not (st_B (se_call kd_are_rising (sa_cons (se_var 2) (sa_cons (se_var 3) sa_nil))))) (s_rz T.x_BadSeats) s_next)
      (s_seq (s_asg (se_tup (sa_cons (se_call kd_room (sa_cons (se_var 0) (sa_cons (se_var 1) sa_nil))) (sa_cons (se_op2 (se_var 3) (se_var 1) ri_sub) sa_nil)) (fanS (fanS fan0)) (by decide)) (sg_t (sgs_cons (sg_n 4) (sgs_cons (sg_n 5) sgs_nil)) rfl) (gt_er (gs_er [4, 5])))
      (s_seq (s_frz (i := 2) (s_if (st_or (st_test (se_op2 (se_I (sa_cons (se_var 2) sa_nil) ri_len) (se_var 5) ri_ne)) (st_not (st_B (se_I (sa_cons (se_lc (si_items (se_var 2)) (sg_n 8) (fun _ h => h) st_yes (se_op2 (se_var 8) (se_var 4) ri_in) (gn_er 8)) sa_nil) ri_all)))) (s_ret (se_tup (sa_cons (se_c rfl rfl) (sa_cons (se_c rfl rfl) sa_nil)) (fanS (fanS fan0)) (by decide))) s_next))
      (s_seq (s_asg (se_c rfl rfl) (sg_n 6) (gn_er 6))
      (s_seq (s_wipe [7] (s_for (si_rng1 (sa_cons (se_var 5) sa_nil)) (sg_w [7] (sg_n 7)) (gw_er [7] (gn_er 7))
      (s_asg (se_op2 (se_mul (se_var 6) (se_op2 (se_I (sa_cons (se_var 4) sa_nil) ri_len) (se_var 7) ri_sub)) (se_add (se_var 7) (se_c rfl rfl)) ri_div) (sg_n 6) (gn_er 6))))
      (s_frz (i := 6) (s_ret (se_tup (sa_cons (se_c rfl rfl) (sa_cons (se_var 6) sa_nil)) (fanS (fanS fan0)) (by decide))))))))))))⟩
abbrev N_seating : List Str := ["night", "seats", "choices", "turn", "bottom", "many"]
theorem sc_seating : FnScope N_seating ["night", "seats"] (defScope s_seating) := ⟨rfl, rfl, rfl, by decide +kernel, rfl, by decide +kernel, by decide +kernel⟩
theorem ok_seating {f : Addr} {fd : FuncData} (F : Fun K "seating" "seating" s_seating f fd) (T : Fx K mg) (c_check_night : Cal P w K mg base "check_night" 3 ["night"] m_check_night) (c_check_seating : Cal P w K mg base "check_seating" 3 ["seats", "many"] m_check_seating) (c_choices_of : Cal P w K mg base "choices_of" 1 ["night", "seats"] m_choices_of) : FnOk P w K mg base (L2.CX P w) 4 f fd ["night", "seats"] (spF mg m_seating) := by
  have sc := sc_seating
  refine Fun.okF (k := 3) (fs := b_seating) F sc rfl rfl (fun cdv A outer s H E hr => ?_)
  have hu5 : (A.deeper (envOfC "seating" (defScope s_seating) s.heap.objs.size f cdv)).units + 65 < cLine := by
    have := hr.un
    omega
  exact ⟨_, (pss_cons (ps_expr (pe_cal c_check_night (hr.mono (by decide)) rfl passD (pa_cons (pv 0) pa_nil)))
      (pss_cons (ps_expr (pe_cal c_check_seating (hr.mono (by decide)) rfl passD (pa_cons (pv 1) (pa_cons (pe_callB call_len_seq rfl T.b_len bt_len (pa_cons (pe_ix ix_seq (pv 0) pe_int (fun _ _ => rfl)) pa_nil)) pa_nil))))
      (pss_cons (ps_asg (pe_cal c_choices_of (hr.mono (by decide)) rfl passD (pa_cons (pv 0) (pa_cons (pv 1) pa_nil))) (pg_tup rfl (pgs_cons (pg_name (i := 2) sc.nd rfl (Or.inl rfl)) (pgs_cons (pg_name (i := 3) sc.nd rfl (Or.inl rfl)) pgs_nil))))
      (pss_cons (ps_if (pt_cmpR op_notN (pv 3) pe_non (nomark _)) (pss_one (ps_ret (pe_tup (pa_cons pe_int (pa_cons pe_int pa_nil))))) pss_nil)
      (pss_cons (ps_set (i := 4) sc.nd rfl (Or.inl rfl) pe_int)
      (pss_cons (ps_for (passes_of rfl) rfl (pi_seq (pv 2)) (pg_name (i := 5) sc.nd rfl (Or.inl rfl))
      (pss_one (ps_aug (i := 4) sc.nd rfl (Or.inl rfl) (pv 5) ip_mulW)))
      (pss_one (ps_ret (pe_tup (pa_cons pe_int (pa_cons (pv 4) pa_nil))))))))))),
    (s_seq (s_drop (se_call kd_check_night (sa_cons (se_var 0) sa_nil)))
      (s_seq (s_drop (se_call kd_check_seating (sa_cons (se_var 1) (sa_cons (se_I (sa_cons (se_op2 (se_var 0) (se_c rfl rfl) ri_ix) sa_nil) ri_len) sa_nil))))
      (s_seq (s_asg (se_call kd_choices_of (sa_cons (se_var 0) (sa_cons (se_var 1) sa_nil))) (sg_t (sgs_cons (sg_n 2) (sgs_cons (sg_n 3) sgs_nil)) rfl) (gt_er (gs_er [2, 3])))
      (s_seq (s_if (st_test (se_op2 (se_var 3) (se_c rfl rfl) ri_notN)) (s_ret (se_tup (sa_cons (se_c rfl rfl) (sa_cons (se_c rfl rfl) sa_nil)) (fanS (fanS fan0)) (by decide))) s_next)
      (s_seq (s_asg (se_c rfl rfl) (sg_n 4) (gn_er 4))
      (s_seq (s_frz (i := 2) (s_wipe [5] (s_for (si_items (se_var 2)) (sg_w [5] (sg_n 5)) (gw_er [5] (gn_er 5))
      (s_aug (i := 4) (se_var 5) ri_mulW))))
      (s_frz (i := 4) (s_ret (se_tup (sa_cons (se_c rfl rfl) (sa_cons (se_var 4) sa_nil)) (fanS (fanS fan0)) (by decide))))))))))⟩
abbrev N_own : List Str := ["night", "guest"]
theorem sc_own : FnScope N_own ["night"] (defScope s_own) := ⟨rfl, rfl, rfl, by decide +kernel, rfl, by decide +kernel, by decide +kernel⟩
theorem ok_own {f : Addr} {fd : FuncData} (F : Fun K "own" "own" s_own f fd) (T : Fx K mg) (c_check_night : Cal P w K mg base "check_night" 3 ["night"] m_check_night) (c_share_of : Cal P w K mg base "share_of" 3 ["night", "guest", "seat"] m_share_of) (c_summed : Cal P w K mg base "summed" 3 ["shares"] m_summed) : FnOk P w K mg base (L2.CX P w) 4 f fd ["night"] (spF mg m_own) := by
  have sc := sc_own
  refine Fun.okF (k := 3) (fs := b_own) F sc rfl rfl (fun cdv A outer s H E hr => ?_)
  have hu5 : (A.deeper (envOfC "own" (defScope s_own) s.heap.objs.size f cdv)).units + 65 < cLine := by
    have := hr.un
    omega
  exact ⟨_, (pss_cons (ps_expr (pe_cal c_check_night (hr.mono (by decide)) rfl passD (pa_cons (pv 0) pa_nil)))
      (pss_one (ps_ret (pe_cal c_summed (hr.mono (by decide)) rfl passD (pa_cons (pe_lc (own := [("guest", 1)]) rfl sc.nd (pi_seq (pe_ix ix_seq (pv 0) pe_int (fun _ _ => rfl))) (blkOk_by (N := N_own) (sc := defScope s_own) (by decide +kernel)) (fun _ _ _ _ _ => (pg_name (i := 1) sc.nd rfl (Or.inl rfl))) (fun _ _ _ _ _ => pts_nil) (fun _ _ _ _ _ => (pe_cal c_share_of (hr.mono (by decide)) rfl passL (pa_cons (pv 0) (pa_cons (pv 1) (pa_cons (pv 1) pa_nil)))))) pa_nil))))),
    (s_seq (s_drop (se_call kd_check_night (sa_cons (se_var 0) sa_nil)))
      (s_frz (i := 0) (s_ret (se_call kd_summed (sa_cons (se_lc (si_items (se_op2 (se_var 0) (se_c rfl rfl) ri_ix)) (sg_n 1) (fun _ h => h) st_yes (se_call kd_share_of (sa_cons (se_var 0) (sa_cons (se_var 1) (sa_cons (se_var 1) sa_nil)))) (gn_er 1)) sa_nil)))))⟩
abbrev N_share_back : List Str := ["night", "guest", "seat", "lost"]
theorem sc_share_back : FnScope N_share_back ["night", "guest", "seat"] (defScope s_share_back) := ⟨rfl, rfl, rfl, by decide +kernel, rfl, by decide +kernel, by decide +kernel⟩
theorem ok_share_back {f : Addr} {fd : FuncData} (F : Fun K "share_back" "share_back" s_share_back f fd) (T : Fx K mg) (c_check_two : Cal P w K mg base "check_two" 4 ["night", "guest", "seat"] m_check_two) : FnOk P w K mg base (L2.CX P w) 5 f fd ["night", "guest", "seat"] (spF mg m_share_back) := by
  have sc := sc_share_back
  refine Fun.okF (k := 4) (fs := b_share_back) F sc rfl rfl (fun cdv A outer s H E hr => ?_)
  have hu5 : (A.deeper (envOfC "share_back" (defScope s_share_back) s.heap.objs.size f cdv)).units + 65 < cLine := by
    have := hr.un
    omega
  exact ⟨_, (pss_cons (ps_expr (pe_cal c_check_two (hr.mono (by decide)) rfl passD (pa_cons (pv 0) (pa_cons (pv 1) (pa_cons (pv 2) pa_nil)))))
      (pss_cons (ps_set (i := 3) sc.nd rfl (Or.inl rfl) (pe_ix ix_seq (pv 0) pe_int (fun _ _ => rfl)))
      (pss_cons (ps_if (pt_cmpR (op_notInA hu5) (pv 1) (pv 3) rfl) (pss_one (ps_ret (pe_tup (pa_cons (pe_callTy call_int1 rfl T.b_int bt_int (pa_cons (pe_cmpR (op_eqD hr.units) (pv 1) (pv 2) (nomark _)) pa_nil)) (pa_cons pe_int pa_nil))))) pss_nil)
      (pss_one (ps_ret (pe_ifExp (pt_cmpR (op_inA hu5) (pv 2) (pv 3) rfl) (pe_tup (pa_cons pe_int (pa_cons (pe_callB call_len_seq rfl T.b_len bt_len (pa_cons (pv 3) pa_nil)) pa_nil))) (pe_tup (pa_cons pe_int (pa_cons pe_int pa_nil))))))))),
    (s_seq (s_drop (se_call kd_check_two (sa_cons (se_var 0) (sa_cons (se_var 1) (sa_cons (se_var 2) sa_nil)))))
      (s_seq (s_frz (i := 0) (s_asg (se_op2 (se_var 0) (se_c rfl rfl) ri_ix) (sg_n 3) (gn_er 3)))
      (s_seq (s_if (st_test (se_op2 (se_var 1) (se_var 3) ri_notIn)) (s_ret (se_tup (sa_cons (se_I (sa_cons (se_op2 (se_var 1) (se_var 2) ri_eq) sa_nil) ri_int) (sa_cons (se_c rfl rfl) sa_nil)) (fanS (fanS fan0)) (by decide))) s_next)
      (s_ret (se_if (st_test (se_op2 (se_var 2) (se_var 3) ri_in)) (se_tup (sa_cons (se_c rfl rfl) (sa_cons (se_I (sa_cons (se_var 3) sa_nil) ri_len) sa_nil)) (fanS (fanS fan0)) (by decide)) (se_tup (sa_cons (se_c rfl rfl) (sa_cons (se_c rfl rfl) sa_nil)) (fanS (fanS fan0)) (by decide)))))))⟩
abbrev N_asked : List Str := ["night", "order", "lost", "some", "turn", "guest", "ahead"]
theorem sc_asked : FnScope N_asked ["night"] (defScope s_asked) := ⟨rfl, rfl, rfl, by decide +kernel, rfl, by decide +kernel, by decide +kernel⟩
theorem ok_asked {f : Addr} {fd : FuncData} (F : Fun K "asked" "asked" s_asked f fd) (T : Fx K mg) (c_check_night : Cal P w K mg base "check_night" 3 ["night"] m_check_night) (c_lost_ahead : Cal P w K mg base "lost_ahead" 1 ["night", "turn"] m_lost_ahead) (c_part : Cal P w K mg base "part" 2 ["top", "bottom"] m_part) (c_summed : Cal P w K mg base "summed" 3 ["shares"] m_summed) : FnOk P w K mg base (L2.CX P w) 4 f fd ["night"] (spF mg m_asked) := by
  have sc := sc_asked
  refine Fun.okF (k := 3) (fs := b_asked) F sc rfl rfl (fun cdv A outer s H E hr => ?_)
  have hu5 : (A.deeper (envOfC "asked" (defScope s_asked) s.heap.objs.size f cdv)).units + 65 < cLine := by
    have := hr.un
    omega
  exact ⟨_, (pss_cons (ps_expr (pe_cal c_check_night (hr.mono (by decide)) rfl passD (pa_cons (pv 0) pa_nil)))
      (pss_cons (ps_asg (pv 0) (pg_tup rfl (pgs_cons (pg_name (i := 1) sc.nd rfl (Or.inl rfl)) (pgs_cons (pg_name (i := 2) sc.nd rfl (Or.inl rfl)) pgs_nil))))
      (pss_cons (ps_set (i := 3) sc.nd rfl (Or.inl rfl) (pe_lst pa_nil))
      (pss_cons (ps_for (passes_of rfl) rfl (pi_enum rfl T.b_enumerate (pa_cons (pv 1) pa_nil)) (pg_tup rfl (pgs_cons (pg_name (i := 4) sc.nd rfl (Or.inl rfl)) (pgs_cons (pg_name (i := 5) sc.nd rfl (Or.inl rfl)) pgs_nil)))
      (pss_cons (ps_set (i := 6) sc.nd rfl (Or.inl rfl) (pe_cal c_lost_ahead (hr.mono (by decide)) rfl passD (pa_cons (pv 0) (pa_cons (pv 4) pa_nil))))
      (pss_one (ps_if (pt_cmpR (op_notInA hu5) (pv 5) (pv 2) rfl) (pss_one (ps_expr (pe_bm PySem.F.plainAttrs_list PySem.F.slot_list_append PySem.F.type_list_append mt_append (pv 3) (pa_cons (pe_cal c_part (hr.mono (by decide)) rfl passD (pa_cons (pv 6) (pa_cons (pe_op op_addA (pe_op op_sub (pe_callB call_len_seq rfl T.b_len bt_len (pa_cons (pv 1) pa_nil)) (pv 4)) (pv 6)) pa_nil))) pa_nil)))) pss_nil))))
      (pss_one (ps_ret (pe_cal c_summed (hr.mono (by decide)) rfl passD (pa_cons (pv 3) pa_nil)))))))),
    (s_seq (s_drop (se_call kd_check_night (sa_cons (se_var 0) sa_nil)))
      (s_seq (s_frz (i := 0) (s_asg (se_var 0) (sg_t (sgs_cons (sg_n 1) (sgs_cons (sg_n 2) sgs_nil)) rfl) (gt_er (gs_er [1, 2]))))
      (s_seq (s_asg (se_lst sa_nil fan0 (by decide)) (sg_n 3) (gn_er 3))
      (s_seq (s_frz (i := 1) (s_wipe [4, 5, 6] (s_for (si_enum (sa_cons (se_var 1) sa_nil)) (sg_w [4, 5, 6] (sg_t (sgs_cons (sg_n 4) (sgs_cons (sg_n 5) sgs_nil)) rfl)) (gw_er [4, 5, 6] (gt_er (gs_er [4, 5])))
      (s_seq (s_asg (se_call kd_lost_ahead (sa_cons (se_var 0) (sa_cons (se_var 4) sa_nil))) (sg_n 6) (gn_er 6))
      (s_if (st_test (se_op2 (se_var 5) (se_var 2) ri_notIn)) (s_mut rm_append (sp_s 3) (sa_cons (se_call kd_part (sa_cons (se_var 6) (sa_cons (se_add (se_op2 (se_I (sa_cons (se_var 1) sa_nil) ri_len) (se_var 4) ri_sub) (se_var 6)) sa_nil))) sa_nil)) s_next)))))
      (s_ret (se_call kd_summed (sa_cons (se_var 3) sa_nil)))))))⟩
abbrev N_Door_init : List Str := ["self", "night"]
theorem sc_Door_init : FnScope N_Door_init ["self", "night"] (defScope s_Door_init) := ⟨rfl, rfl, rfl, by decide +kernel, rfl, by decide +kernel, by decide +kernel⟩
theorem ok_Door_init {f : Addr} {fd : FuncData} (F : Fun K "__init__" "Door.__init__" s_Door_init f fd) (T : Fx K mg) (c_check_night : Cal P w K mg base "check_night" 3 ["night"] m_check_night) : FnOk P w K mg base (L2.CX P w) 4 f fd ["self", "night"] (spI mg "Door" m_Door_init) := by
  have sc := sc_Door_init
  refine Fun.okI (k := 3) (fs := b_Door_init) F sc rfl (by decide) rfl (fun cdv A outer s H E hr => ?_)
  have hu5 : (A.deeper (envOfC "Door.__init__" (defScope s_Door_init) s.heap.objs.size f cdv)).units + 65 < cLine := by
    have := hr.un
    omega
  exact ⟨_, (pss_cons (ps_expr (pe_cal c_check_night (hr.mono (by decide)) rfl passD (pa_cons (pv 1) pa_nil)))
      (pss_cons (ps_fld (pv 0) (pe_callTy call_list_of rfl T.b_list bt_list (pa_cons (pe_ix ix_seq (pv 1) pe_int (fun _ _ => rfl)) pa_nil)) rfl)
      (pss_cons (ps_fld (pv 0) (pe_callTy call_list_of rfl T.b_list bt_list (pa_cons (pe_ix ix_seq (pv 1) pe_int (fun _ _ => rfl)) pa_nil)) rfl)
      (pss_cons (ps_fld (pv 0) (pe_lst pa_nil) rfl)
      (pss_one (ps_fld (pv 0) pe_int rfl)))))),
    (k_seq (k_drop (se_call kd_check_night (sa_cons (se_var 1) sa_nil)))
      (k_seq (k_fld (i := 0) T.f_Door_order (se_L (sa_cons (se_op2 (se_var 1) (se_c rfl rfl) ri_ix) sa_nil) rl_list))
      (k_seq (k_fld (i := 0) T.f_Door_lost (se_L (sa_cons (se_op2 (se_var 1) (se_c rfl rfl) ri_ix) sa_nil) rl_list))
      (k_seq (k_fld (i := 0) T.f_Door_seats (se_lst sa_nil fan0 (by decide)))
      (k_fld (i := 0) T.f_Door_bottom (se_c rfl rfl))))))⟩
abbrev N_Door_next_guest : List Str := ["self"]
theorem sc_Door_next_guest : FnScope N_Door_next_guest ["self"] (defScope s_Door_next_guest) := ⟨rfl, rfl, rfl, by decide +kernel, rfl, by decide +kernel, by decide +kernel⟩
theorem ok_Door_next_guest {f : Addr} {fd : FuncData} (F : Fun K "next_guest" "Door.next_guest" s_Door_next_guest f fd) (T : Fx K mg) : FnOk P w K mg base (L2.CX P w) 1 f fd ["self"] (spF mg m_Door_next_guest) := by
  have sc := sc_Door_next_guest
  refine Fun.okF (k := 0) (fs := b_Door_next_guest) F sc rfl rfl (fun cdv A outer s H E hr => ?_)
  have hu5 : (A.deeper (envOfC "Door.next_guest" (defScope s_Door_next_guest) s.heap.objs.size f cdv)).units + 65 < cLine := by
    have := hr.un
    omega
  exact ⟨_, (pss_one (ps_ret (pe_ifExp (pt_cmpR op_lt (pe_callB call_len_seq rfl T.b_len bt_len (pa_cons (pe_fld (pv 0) rfl) pa_nil)) (pe_callB call_len_seq rfl T.b_len bt_len (pa_cons (pe_fld (pv 0) rfl) pa_nil)) (nomark _)) (pe_ix ix_seq (pe_fld (pv 0) rfl) (pe_callB call_len_seq rfl T.b_len bt_len (pa_cons (pe_fld (pv 0) rfl) pa_nil)) (fun _ _ => rfl)) pe_non))),
    (s_frz (i := 0) (s_ret (se_if (st_test (se_op2 (se_I (sa_cons (se_fld T.f_Door_seats (se_var 0)) sa_nil) ri_len) (se_I (sa_cons (se_fld T.f_Door_order (se_var 0)) sa_nil) ri_len) ri_lt)) (se_op2 (se_fld T.f_Door_order (se_var 0)) (se_I (sa_cons (se_fld T.f_Door_seats (se_var 0)) sa_nil) ri_len) ri_ix) (se_c rfl rfl))))⟩
abbrev N_Door_open_seats : List Str := ["self", "guest", "found", "seat"]
theorem sc_Door_open_seats : FnScope N_Door_open_seats ["self"] (defScope s_Door_open_seats) := ⟨rfl, rfl, rfl, by decide +kernel, rfl, by decide +kernel, by decide +kernel⟩
theorem ok_Door_open_seats {f : Addr} {fd : FuncData} (F : Fun K "open_seats" "Door.open_seats" s_Door_open_seats f fd) (T : Fx K mg) (c_Door_next_guest : MCal P w K mg base "Door" "next_guest" 1 ["self"] m_Door_next_guest) : FnOk P w K mg base (L2.CX P w) 2 f fd ["self"] (spF mg m_Door_open_seats) := by
  have sc := sc_Door_open_seats
  refine Fun.okF (k := 1) (fs := b_Door_open_seats) F sc rfl rfl (fun cdv A outer s H E hr => ?_)
  have hu5 : (A.deeper (envOfC "Door.open_seats" (defScope s_Door_open_seats) s.heap.objs.size f cdv)).units + 65 < cLine := by
    have := hr.un
    omega
  exact ⟨_, (pss_cons (ps_set (i := 1) sc.nd rfl (Or.inl rfl) (pe_mcal0 c_Door_next_guest (hr.mono (by decide)) passD (pv 0)))
      (pss_cons (ps_if (pt_cmpR op_isN (pv 1) pe_non (nomark _)) (pss_one (ps_ret (pe_lst pa_nil))) pss_nil)
      (pss_cons (ps_setLc (i := 2) (own := [("seat", 3)]) rfl sc.nd rfl rfl (sw_true rfl rfl rfl (by decide +kernel)) (pi_range1 rfl T.b_range (pa_cons (pe_callB call_len_seq rfl T.b_len bt_len (pa_cons (pe_fld (pv 0) rfl) pa_nil)) pa_nil)) (blkOk_by (N := N_Door_open_seats) (sc := defScope s_Door_open_seats) (by decide +kernel)) (fun _ _ _ _ _ => (pg_name (i := 3) sc.nd rfl (Or.inl rfl))) (fun _ _ _ _ _ => (pts_one (pt_cmpR (op_notInA hu5) (pv 3) (pe_fld (pv 0) rfl) rfl))) (fun _ _ _ _ _ => (pv 3)))
      (pss_one (ps_ret (pe_ifExp (PW.pt (pw_and (pt_cmpR (op_notInA hu5) (pv 1) (pe_fld (pv 0) rfl) rfl) (pw_and1 (pt_cmpR (op_inA hu5) (pv 1) (pv 2) rfl)))) (pe_lst (pa_cons (pv 1) pa_nil)) (pv 2))))))),
    (s_seq (s_asg (se_mcal c_Door_next_guest kd_Door_next_guest (se_var 0) sa_nil) (sg_n 1) (gn_er 1))
      (s_seq (s_if (st_test (se_op2 (se_var 1) (se_c rfl rfl) ri_isN)) (s_ret (se_lst sa_nil fan0 (by decide))) s_next)
      (s_seq (s_asg (se_lc (si_rng1 (sa_cons (se_I (sa_cons (se_fld T.f_Door_order (se_var 0)) sa_nil) ri_len) sa_nil)) (sg_n 3) (fun _ h => h) (st_test (se_op2 (se_var 3) (se_fld T.f_Door_seats (se_var 0)) ri_notIn)) (se_var 3) (gn_er 3)) (sg_n 2) (gn_er 2))
      (s_retX (sx_if (tx_p (st_and (st_test (se_op2 (se_var 1) (se_fld T.f_Door_lost (se_var 0)) ri_notIn)) (st_test (se_op2 (se_var 1) (se_var 2) ri_in)))).p (sx_p (se_lst (sa_cons (se_var 1) sa_nil) (fanS fan0) (by decide))).p (sx_move 2).p)))))⟩
abbrev N_Door_come : List Str := ["self", "seat", "guest", "some"]
theorem sc_Door_come : FnScope N_Door_come ["self", "seat"] (defScope s_Door_come) := ⟨rfl, rfl, rfl, by decide +kernel, rfl, by decide +kernel, by decide +kernel⟩
theorem ok_Door_come {f : Addr} {fd : FuncData} (F : Fun K "come" "Door.come" s_Door_come f fd) (T : Fx K mg) (c_Door_next_guest : MCal P w K mg base "Door" "next_guest" 1 ["self"] m_Door_next_guest) (c_Door_open_seats : MCal P w K mg base "Door" "open_seats" 2 ["self"] m_Door_open_seats) (c_is_count : Cal P w K mg base "is_count" 1 ["thing", "least", "most"] m_is_count) : FnOk P w K mg base (L2.CX P w) 3 f fd ["self", "seat"] (spF mg m_Door_come) := by
  have sc := sc_Door_come
  refine Fun.okF (k := 2) (fs := b_Door_come) F sc rfl rfl (fun cdv A outer s H E hr => ?_)
  have hu5 : (A.deeper (envOfC "Door.come" (defScope s_Door_come) s.heap.objs.size f cdv)).units + 65 < cLine := by
    have := hr.un
    omega
  exact ⟨_, (pss_cons (ps_par (by rfl) sc.nd rfl rfl (by decide) rfl rfl (pa_cons (pe_mcal0 c_Door_next_guest (hr.mono (by decide)) passD (pv 0)) (pa_cons (pe_mcal0 c_Door_open_seats (hr.mono (by decide)) passD (pv 0)) pa_nil)) (by rfl))
      (pss_cons (ps_if (pt_cmpR op_isN (pv 2) pe_non (nomark _)) (pss_one (ps_rz T.x_AllCame rfl (takes_of rfl rfl rfl rfl) rfl)) pss_nil)
      (pss_cons (ps_if (PW.pt (pw_or (pt_not (pt_val (pe_cal c_is_count (hr.mono (by decide)) rfl passD (pa_cons (pv 1) (pa_cons pe_int (pa_cons (pe_op op_sub (pe_callB call_len_seq rfl T.b_len bt_len (pa_cons (pe_fld (pv 0) rfl) pa_nil)) pe_int) pa_nil)))))) (pw_or1 (pt_cmpR (op_notInA hu5) (pv 1) (pv 3) rfl)))) (pss_one (ps_rz T.x_BadSeat rfl (takes_of rfl rfl rfl rfl) rfl)) pss_nil)
      (pss_cons (ps_fldaug (pv 0) (pe_callB call_len_seq rfl T.b_len bt_len (pa_cons (pv 3) pa_nil)) in_mulW)
      (pss_cons (ps_expr (pe_bm PySem.F.plainAttrs_list PySem.F.slot_list_append PySem.F.type_list_append mt_append (pe_fld (pv 0) rfl) (pa_cons (pv 1) pa_nil)))
      (pss_one (ps_ret (pv 2)))))))),
    (s_seq (s_par (sa_cons (se_mcal c_Door_next_guest kd_Door_next_guest (se_var 0) sa_nil) (sa_cons (se_mcal c_Door_open_seats kd_Door_open_seats (se_var 0) sa_nil) sa_nil)))
      (s_seq (s_if (st_test (se_op2 (se_var 2) (se_c rfl rfl) ri_isN)) (s_rz T.x_AllCame) s_next)
      (s_seq (s_if (st_or (st_not (st_B (se_call kd_is_count (sa_cons (se_var 1) (sa_cons (se_c rfl rfl) (sa_cons (se_op2 (se_I (sa_cons (se_fld T.f_Door_order (se_var 0)) sa_nil) ri_len) (se_c rfl rfl) ri_sub) sa_nil)))))) (st_test (se_op2 (se_var 1) (se_var 3) ri_notIn))) (s_rz T.x_BadSeat) s_next)
      (s_seq (s_fldA (i := 0) T.f_Door_bottom (se_I (sa_cons (se_var 3) sa_nil) ri_len) ri_mulW)
      (s_seq (s_frz (i := 1) (s_mut rm_append (sp_f T.f_Door_seats (sp_s 0)) (sa_cons (se_var 1) sa_nil)))
      (s_frz (i := 2) (s_ret (se_var 2))))))))⟩
theorem okm_Door_come {f : Addr} {fd : FuncData} (F : Fun K "come" "Door.come" s_Door_come f fd) (T : Fx K mg) (c_Door_next_guest : MCal P w K mg base "Door" "next_guest" 1 ["self"] m_Door_next_guest) (c_Door_open_seats : MCal P w K mg base "Door" "open_seats" 2 ["self"] m_Door_open_seats) (c_is_count : Cal P w K mg base "is_count" 1 ["thing", "least", "most"] m_is_count) : FnOk P w K mg base (L2.CX P w) 3 f fd ["self", "seat"] (spM mg mm_Door_come) := by
  have sc := sc_Door_come
  refine Fun.okM (k := 2) (fs := bm_Door_come) F sc rfl (by decide) rfl (fun cdv A outer s H E hr => ?_)
  have hu5 : (A.deeper (envOfC "Door.come" (defScope s_Door_come) s.heap.objs.size f cdv)).units + 65 < cLine := by
    have := hr.un
    omega
  exact ⟨_, (pss_cons (ps_par (by rfl) sc.nd rfl rfl (by decide) rfl rfl (pa_cons (pe_mcal0 c_Door_next_guest (hr.mono (by decide)) passD (pv 0)) (pa_cons (pe_mcal0 c_Door_open_seats (hr.mono (by decide)) passD (pv 0)) pa_nil)) (by rfl))
      (pss_cons (ps_if (pt_cmpR op_isN (pv 2) pe_non (nomark _)) (pss_one (ps_rz T.x_AllCame rfl (takes_of rfl rfl rfl rfl) rfl)) pss_nil)
      (pss_cons (ps_if (PW.pt (pw_or (pt_not (pt_val (pe_cal c_is_count (hr.mono (by decide)) rfl passD (pa_cons (pv 1) (pa_cons pe_int (pa_cons (pe_op op_sub (pe_callB call_len_seq rfl T.b_len bt_len (pa_cons (pe_fld (pv 0) rfl) pa_nil)) pe_int) pa_nil)))))) (pw_or1 (pt_cmpR (op_notInA hu5) (pv 1) (pv 3) rfl)))) (pss_one (ps_rz T.x_BadSeat rfl (takes_of rfl rfl rfl rfl) rfl)) pss_nil)
      (pss_cons (ps_fldaug (pv 0) (pe_callB call_len_seq rfl T.b_len bt_len (pa_cons (pv 3) pa_nil)) in_mulW)
      (pss_cons (ps_expr (pe_bm PySem.F.plainAttrs_list PySem.F.slot_list_append PySem.F.type_list_append mt_append (pe_fld (pv 0) rfl) (pa_cons (pv 1) pa_nil)))
      (pss_one (ps_ret (pv 2)))))))),
    (k_seq (k_par (sa_cons (se_mcal c_Door_next_guest kd_Door_next_guest (se_var 0) sa_nil) (sa_cons (se_mcal c_Door_open_seats kd_Door_open_seats (se_var 0) sa_nil) sa_nil)) (by decide) (by decide))
      (k_seq (k_if (st_test (se_op2 (se_var 2) (se_c rfl rfl) ri_isN)) (k_rz T.x_AllCame) k_next)
      (k_seq (k_if (st_or (st_not (st_B (se_call kd_is_count (sa_cons (se_var 1) (sa_cons (se_c rfl rfl) (sa_cons (se_op2 (se_I (sa_cons (se_fld T.f_Door_order (se_var 0)) sa_nil) ri_len) (se_c rfl rfl) ri_sub) sa_nil)))))) (st_test (se_op2 (se_var 1) (se_var 3) ri_notIn))) (k_rz T.x_BadSeat) k_next)
      (k_seq (k_fldA (i := 0) T.f_Door_bottom (se_I (sa_cons (se_var 3) sa_nil) ri_len) ri_mulW)
      (k_seq (k_frz (i := 1) (k_mut rm_append (sp_f T.f_Door_seats (sp_s 0)) (sa_cons (se_var 1) sa_nil)))
      (k_frz (i := 2) (k_ret (se_var 2))))))))⟩
abbrev N_Door_taken : List Str := ["self", "found", "guest", "seat"]
theorem sc_Door_taken : FnScope N_Door_taken ["self"] (defScope s_Door_taken) := ⟨rfl, rfl, rfl, by decide +kernel, rfl, by decide +kernel, by decide +kernel⟩
theorem ok_Door_taken {f : Addr} {fd : FuncData} (F : Fun K "taken" "Door.taken" s_Door_taken f fd) (T : Fx K mg) : FnOk P w K mg base (L2.CX P w) 1 f fd ["self"] (spF mg m_Door_taken) := by
  have sc := sc_Door_taken
  refine Fun.okF (k := 0) (fs := b_Door_taken) F sc rfl rfl (fun cdv A outer s H E hr => ?_)
  have hu5 : (A.deeper (envOfC "Door.taken" (defScope s_Door_taken) s.heap.objs.size f cdv)).units + 65 < cLine := by
    have := hr.un
    omega
  have hu1 : (A.deeper (envOfC "Door.taken" (defScope s_Door_taken) s.heap.objs.size f cdv)).units + 1 < cLine := by
    omega
  exact ⟨_, (pss_cons (ps_set (i := 1) sc.nd rfl (Or.inr rfl) (pe_callTy (call_dictP rfl) rfl T.b_dict bt_dict (pa_cons (pe_lc (own := [("guest", 2), ("seat", 3)]) rfl sc.nd (pi_zip rfl T.b_zip (pa_cons (pe_fld (pv 0) rfl) (pa_cons (pe_fld (pv 0) rfl) pa_nil))) (blkOk_by (N := N_Door_taken) (sc := defScope s_Door_taken) (by decide +kernel)) (fun _ _ _ _ _ => (pg_tup rfl (pgs_cons (pg_name (i := 2) sc.nd rfl (Or.inl rfl)) (pgs_cons (pg_name (i := 3) sc.nd rfl (Or.inl rfl)) pgs_nil)))) (fun _ _ _ _ _ => pts_nil) (fun _ _ _ _ _ => (pe_tup (pa_cons (pv 2) (pa_cons (pv 3) pa_nil))))) pa_nil)))
      (pss_one (ps_ret (pe_lc (own := [("guest", 2)]) rfl sc.nd (pi_range1 rfl T.b_range (pa_cons (pe_callB call_len_seq rfl T.b_len bt_len (pa_cons (pe_fld (pv 0) rfl) pa_nil)) pa_nil)) (blkOk_by (N := N_Door_taken) (sc := defScope s_Door_taken) (by decide +kernel)) (fun _ _ _ _ _ => (pg_name (i := 2) sc.nd rfl (Or.inl rfl))) (fun _ _ _ _ _ => pts_nil) (fun _ _ _ _ _ => (pe_dget2 hu1 (pv 1) (pv 2) pe_non ⟨rfl, rfl, rfl, rfl⟩)))))),
    (s_seq (s_frz (i := 0) (s_asg (se_dict (se_lc (si_zip (sa_cons (se_fld T.f_Door_order (se_var 0)) (sa_cons (se_fld T.f_Door_seats (se_var 0)) sa_nil))) (sg_t (sgs_cons (sg_n 2) (sgs_cons (sg_n 3) sgs_nil)) rfl) (fun _ h => h) st_yes (se_tup (sa_cons (se_var 2) (sa_cons (se_var 3) sa_nil)) (fanS (fanS fan0)) (by decide)) (gt_er (gs_er [2, 3])))) (sg_n 1) (gn_er 1)))
      (s_ret (se_lc (si_rng1 (sa_cons (se_I (sa_cons (se_fld T.f_Door_order (se_var 0)) sa_nil) ri_len) sa_nil)) (sg_n 2) (fun _ h => h) st_yes (se_dget2 (se_var 1) (se_var 2) (se_c rfl rfl)) (gn_er 2))))⟩
abbrev N_Door_so_far : List Str := ["self"]
theorem sc_Door_so_far : FnScope N_Door_so_far ["self"] (defScope s_Door_so_far) := ⟨rfl, rfl, rfl, by decide +kernel, rfl, by decide +kernel, by decide +kernel⟩
theorem ok_Door_so_far {f : Addr} {fd : FuncData} (F : Fun K "so_far" "Door.so_far" s_Door_so_far f fd) (T : Fx K mg) (c_wall : Cal P w K mg base "_wall" 1 ["k"] m_wall) : FnOk P w K mg base (L2.CX P w) 2 f fd ["self"] (spF mg m_Door_so_far) := by
  have sc := sc_Door_so_far
  refine Fun.okF (k := 1) (fs := b_Door_so_far) F sc rfl rfl (fun cdv A outer s H E hr => ?_)
  have hu5 : (A.deeper (envOfC "Door.so_far" (defScope s_Door_so_far) s.heap.objs.size f cdv)).units + 65 < cLine := by
    have := hr.un
    omega
  exact ⟨_, (pss_one (ps_expr (pe_cal c_wall (hr.mono (by decide)) rfl passD (pa_cons pe_int pa_nil)))),
    (s_drop (se_call kd_wall (sa_cons (se_c rfl rfl) sa_nil)))⟩
abbrev N_Row_init : List Str := ["self", "night", "guest"]
theorem sc_Row_init : FnScope N_Row_init ["self", "night"] (defScope s_Row_init) := ⟨rfl, rfl, rfl, by decide +kernel, rfl, by decide +kernel, by decide +kernel⟩
theorem ok_Row_init {f : Addr} {fd : FuncData} (F : Fun K "__init__" "Row.__init__" s_Row_init f fd) (T : Fx K mg) : FnOk P w K mg base (L2.CX P w) 1 f fd ["self", "night"] (spI mg "Row" m_Row_init) := by
  have sc := sc_Row_init
  refine Fun.okI (k := 0) (fs := b_Row_init) F sc rfl (by decide) rfl (fun cdv A outer s H E hr => ?_)
  have hu5 : (A.deeper (envOfC "Row.__init__" (defScope s_Row_init) s.heap.objs.size f cdv)).units + 65 < cLine := by
    have := hr.un
    omega
  exact ⟨_, (pss_cons (ps_fld (pv 0) (pe_callTy call_list_of rfl T.b_list bt_list (pa_cons (pe_ix ix_seq (pv 1) pe_int (fun _ _ => rfl)) pa_nil)) rfl)
      (pss_cons (ps_fld (pv 0) (pe_callTy call_list_of rfl T.b_list bt_list (pa_cons (pe_ix ix_seq (pv 1) pe_int (fun _ _ => rfl)) pa_nil)) rfl)
      (pss_one (ps_fld (pv 0) (pe_lc (own := [("guest", 2)]) rfl sc.nd (pi_seq (pe_ix ix_seq (pv 1) pe_int (fun _ _ => rfl))) (blkOk_by (N := N_Row_init) (sc := defScope s_Row_init) (by decide +kernel)) (fun _ _ _ _ _ => (pg_name (i := 2) sc.nd rfl (Or.inl rfl))) (fun _ _ _ _ _ => pts_nil) (fun _ _ _ _ _ => (pe_cmpR (op_inA hu5) (pv 2) (pe_ix ix_seq (pv 1) pe_int (fun _ _ => rfl)) rfl))) rfl)))),
    (k_seq (k_fld (i := 0) T.f_Row_guests (se_L (sa_cons (se_op2 (se_var 1) (se_c rfl rfl) ri_ix) sa_nil) rl_list))
      (k_seq (k_fld (i := 0) T.f_Row_seats (se_L (sa_cons (se_op2 (se_var 1) (se_c rfl rfl) ri_ix) sa_nil) rl_list))
      (k_fld (i := 0) T.f_Row_lost (se_lc (si_items (se_op2 (se_var 1) (se_c rfl rfl) ri_ix)) (sg_n 2) (fun _ h => h) st_yes (se_op2 (se_var 2) (se_op2 (se_var 1) (se_c rfl rfl) ri_ix) ri_in) (gn_er 2)))))⟩
abbrev N_Row_drop : List Str := ["self", "at"]
theorem sc_Row_drop : FnScope N_Row_drop ["self", "at"] (defScope s_Row_drop) := ⟨rfl, rfl, rfl, by decide +kernel, rfl, by decide +kernel, by decide +kernel⟩
theorem ok_Row_drop {f : Addr} {fd : FuncData} (F : Fun K "drop" "Row.drop" s_Row_drop f fd) (T : Fx K mg) : FnOk P w K mg base (L2.CX P w) 1 f fd ["self", "at"] (spF mg m_Row_drop) := by
  have sc := sc_Row_drop
  refine Fun.okF (k := 0) (fs := b_Row_drop) F sc rfl rfl (fun cdv A outer s H E hr => ?_)
  have hu5 : (A.deeper (envOfC "Row.drop" (defScope s_Row_drop) s.heap.objs.size f cdv)).units + 65 < cLine := by
    have := hr.un
    omega
  exact ⟨_, (pss_cons (ps_expr (pe_bm PySem.F.plainAttrs_list PySem.F.slot_list_pop PySem.F.type_list_pop mt_popAt (pe_fld (pv 0) rfl) (pa_cons (pv 1) pa_nil)))
      (pss_cons (ps_expr (pe_bm PySem.F.plainAttrs_list PySem.F.slot_list_pop PySem.F.type_list_pop mt_popAt (pe_fld (pv 0) rfl) (pa_cons (pv 1) pa_nil)))
      (pss_one (ps_expr (pe_bm PySem.F.plainAttrs_list PySem.F.slot_list_pop PySem.F.type_list_pop mt_popAt (pe_fld (pv 0) rfl) (pa_cons (pv 1) pa_nil)))))),
    (s_seq (s_frz (i := 1) (s_mut rm_popAt (sp_f T.f_Row_guests (sp_s 0)) (sa_cons (se_var 1) sa_nil)))
      (s_seq (s_frz (i := 1) (s_mut rm_popAt (sp_f T.f_Row_seats (sp_s 0)) (sa_cons (se_var 1) sa_nil)))
      (s_frz (i := 1) (s_mut rm_popAt (sp_f T.f_Row_lost (sp_s 0)) (sa_cons (se_var 1) sa_nil)))))⟩
theorem okm_Row_drop {f : Addr} {fd : FuncData} (F : Fun K "drop" "Row.drop" s_Row_drop f fd) (T : Fx K mg) : FnOk P w K mg base (L2.CX P w) 1 f fd ["self", "at"] (spM mg mm_Row_drop) := by
  have sc := sc_Row_drop
  refine Fun.okM (k := 0) (fs := bm_Row_drop) F sc rfl (by decide) rfl (fun cdv A outer s H E hr => ?_)
  have hu5 : (A.deeper (envOfC "Row.drop" (defScope s_Row_drop) s.heap.objs.size f cdv)).units + 65 < cLine := by
    have := hr.un
    omega
  exact ⟨_, (pss_cons (ps_expr (pe_bm PySem.F.plainAttrs_list PySem.F.slot_list_pop PySem.F.type_list_pop mt_popAt (pe_fld (pv 0) rfl) (pa_cons (pv 1) pa_nil)))
      (pss_cons (ps_expr (pe_bm PySem.F.plainAttrs_list PySem.F.slot_list_pop PySem.F.type_list_pop mt_popAt (pe_fld (pv 0) rfl) (pa_cons (pv 1) pa_nil)))
      (pss_one (ps_expr (pe_bm PySem.F.plainAttrs_list PySem.F.slot_list_pop PySem.F.type_list_pop mt_popAt (pe_fld (pv 0) rfl) (pa_cons (pv 1) pa_nil)))))),
    (k_seq (k_frz (i := 1) (k_mut rm_popAt (sp_f T.f_Row_guests (sp_s 0)) (sa_cons (se_var 1) sa_nil)))
      (k_seq (k_frz (i := 1) (k_mut rm_popAt (sp_f T.f_Row_seats (sp_s 0)) (sa_cons (se_var 1) sa_nil)))
      (k_frz (i := 1) (k_mut rm_popAt (sp_f T.f_Row_lost (sp_s 0)) (sa_cons (se_var 1) sa_nil)))))⟩
abbrev N_Row_ahead : List Str := ["self", "at", "one"]
theorem sc_Row_ahead : FnScope N_Row_ahead ["self", "at"] (defScope s_Row_ahead) := ⟨rfl, rfl, rfl, by decide +kernel, rfl, by decide +kernel, by decide +kernel⟩
theorem ok_Row_ahead {f : Addr} {fd : FuncData} (F : Fun K "ahead" "Row.ahead" s_Row_ahead f fd) (T : Fx K mg) : FnOk P w K mg base (L2.CX P w) 1 f fd ["self", "at"] (spF mg m_Row_ahead) := by
  have sc := sc_Row_ahead
  refine Fun.okF (k := 0) (fs := b_Row_ahead) F sc rfl rfl (fun cdv A outer s H E hr => ?_)
  have hu5 : (A.deeper (envOfC "Row.ahead" (defScope s_Row_ahead) s.heap.objs.size f cdv)).units + 65 < cLine := by
    have := hr.un
    omega
  exact ⟨_, (pss_one (ps_ret (pe_lc (own := [("one", 2)]) rfl sc.nd (pi_range1 rfl T.b_range (pa_cons (pv 1) pa_nil)) (blkOk_by (N := N_Row_ahead) (sc := defScope s_Row_ahead) (by decide +kernel)) (fun _ _ _ _ _ => (pg_name (i := 2) sc.nd rfl (Or.inl rfl))) (fun _ _ _ _ _ => (pts_one (pt_val (pe_ix ix_seq (pe_fld (pv 0) rfl) (pv 2) (fun _ _ => rfl))))) (fun _ _ _ _ _ => (pv 2))))),
    (s_ret (se_lc (si_rng1 (sa_cons (se_var 1) sa_nil)) (sg_n 2) (fun _ h => h) (st_B (se_op2 (se_fld T.f_Row_lost (se_var 0)) (se_var 2) ri_ix)) (se_var 2) (gn_er 2)))⟩
abbrev N_Row_share_at : List Str := ["self", "at", "seat", "many", "some", "one"]
theorem sc_Row_share_at : FnScope N_Row_share_at ["self", "at", "seat"] (defScope s_Row_share_at) := ⟨rfl, rfl, rfl, by decide +kernel, rfl, by decide +kernel, by decide +kernel⟩
theorem ok_Row_share_at {f : Addr} {fd : FuncData} (F : Fun K "share_at" "Row.share_at" s_Row_share_at f fd) (T : Fx K mg) (c_Row_ahead : MCal P w K mg base "Row" "ahead" 1 ["self", "at"] m_Row_ahead) (c_part : Cal P w K mg base "part" 2 ["top", "bottom"] m_part) : FnOk P w K mg base (L2.CX P w) 3 f fd ["self", "at", "seat"] (spF mg m_Row_share_at) := by
  have sc := sc_Row_share_at
  refine Fun.okF (k := 2) (fs := b_Row_share_at) F sc rfl rfl (fun cdv A outer s H E hr => ?_)
  have hu5 : (A.deeper (envOfC "Row.share_at" (defScope s_Row_share_at) s.heap.objs.size f cdv)).units + 65 < cLine := by
    have := hr.un
    omega
  exact ⟨_, (pss_cons (ps_par (by rfl) sc.nd rfl rfl (by decide) rfl rfl (pa_cons (pe_op op_sub (pe_callB call_len_seq rfl T.b_len bt_len (pa_cons (pe_fld (pv 0) rfl) pa_nil)) (pv 1)) (pa_cons (pe_mcal c_Row_ahead (hr.mono (by decide)) passD (pv 0) (pa_cons (pv 1) pa_nil)) pa_nil)) (by rfl))
      (pss_cons (ps_if (pt_cmpR (op_notInA hu5) (pv 2) (pe_op op_addA (pe_slice sl_list (pe_fld (pv 0) rfl) (po_some (pv 1)) po_none) (pe_lc (own := [("one", 5)]) rfl sc.nd (pi_seq (pv 4)) (blkOk_by (N := N_Row_share_at) (sc := defScope s_Row_share_at) (by decide +kernel)) (fun _ _ _ _ _ => (pg_name (i := 5) sc.nd rfl (Or.inl rfl))) (fun _ _ _ _ _ => pts_nil) (fun _ _ _ _ _ => (pe_ix ix_seq (pe_fld (pv 0) rfl) (pv 5) (fun _ _ => rfl))))) rfl) (pss_one (ps_ret (pe_tup (pa_cons pe_int (pa_cons pe_int pa_nil))))) pss_nil)
      (pss_cons (ps_if (pt_val (pe_ix ix_seq (pe_fld (pv 0) rfl) (pv 1) (fun _ _ => rfl))) (pss_one (ps_ret (pe_tup (pa_cons pe_int (pa_cons (pe_op op_addA (pv 3) (pe_callB call_len_seq rfl T.b_len bt_len (pa_cons (pv 4) pa_nil))) pa_nil))))) pss_nil)
      (pss_cons (ps_if (pt_cmpR (op_eqD hr.units) (pv 2) (pe_ix ix_seq (pe_fld (pv 0) rfl) (pv 1) (fun _ _ => rfl)) (nomark _)) (pss_one (ps_ret (pe_cal c_part (hr.mono (by decide)) rfl passD (pa_cons (pv 3) (pa_cons (pe_op op_addA (pv 3) (pe_callB call_len_seq rfl T.b_len bt_len (pa_cons (pv 4) pa_nil))) pa_nil))))) pss_nil)
      (pss_one (ps_ret (pe_cal c_part (hr.mono (by decide)) rfl passD (pa_cons (pe_callB call_len_seq rfl T.b_len bt_len (pa_cons (pv 4) pa_nil)) (pa_cons (pe_op op_mulA (pe_op op_addA (pv 3) (pe_callB call_len_seq rfl T.b_len bt_len (pa_cons (pv 4) pa_nil))) (pe_op op_sub (pe_op op_addA (pv 3) (pe_callB call_len_seq rfl T.b_len bt_len (pa_cons (pv 4) pa_nil))) pe_int)) pa_nil))))))))),
    (s_seq (s_par (sa_cons (se_op2 (se_I (sa_cons (se_fld T.f_Row_guests (se_var 0)) sa_nil) ri_len) (se_var 1) ri_sub) (sa_cons (se_mcal c_Row_ahead kd_Row_ahead (se_var 0) (sa_cons (se_var 1) sa_nil)) sa_nil)))
      (s_seq (s_frz (i := 4) (s_frz (i := 0) (s_if (st_test (se_op2 (se_var 2) (se_add (se_sl10 (se_fld T.f_Row_seats (se_var 0)) (se_var 1)) (se_lc (si_items (se_var 4)) (sg_n 5) (fun _ h => h) st_yes (se_op2 (se_fld T.f_Row_seats (se_var 0)) (se_var 5) ri_ix) (gn_er 5))) ri_notIn)) (s_ret (se_tup (sa_cons (se_c rfl rfl) (sa_cons (se_c rfl rfl) sa_nil)) (fanS (fanS fan0)) (by decide))) s_next)))
      (s_seq (s_if (st_B (se_op2 (se_fld T.f_Row_lost (se_var 0)) (se_var 1) ri_ix)) (s_ret (se_tup (sa_cons (se_c rfl rfl) (sa_cons (se_add (se_var 3) (se_I (sa_cons (se_var 4) sa_nil) ri_len)) sa_nil)) (fanS (fanS fan0)) (by decide))) s_next)
      (s_seq (s_if (st_test (se_op2 (se_var 2) (se_op2 (se_fld T.f_Row_seats (se_var 0)) (se_var 1) ri_ix) ri_eq)) (s_ret (se_call kd_part (sa_cons (se_var 3) (sa_cons (se_add (se_var 3) (se_I (sa_cons (se_var 4) sa_nil) ri_len)) sa_nil)))) s_next)
      (s_ret (se_call kd_part (sa_cons (se_I (sa_cons (se_var 4) sa_nil) ri_len) (sa_cons (se_mul (se_add (se_var 3) (se_I (sa_cons (se_var 4) sa_nil) ri_len)) (se_op2 (se_add (se_var 3) (se_I (sa_cons (se_var 4) sa_nil) ri_len)) (se_c rfl rfl) ri_sub)) sa_nil))))))))⟩
abbrev N_Row_sit : List Str := ["self", "at", "seat", "owner", "mine", "other"]
theorem sc_Row_sit : FnScope N_Row_sit ["self", "at", "seat"] (defScope s_Row_sit) := ⟨rfl, rfl, rfl, by decide +kernel, rfl, by decide +kernel, by decide +kernel⟩
theorem ok_Row_sit {f : Addr} {fd : FuncData} (F : Fun K "sit" "Row.sit" s_Row_sit f fd) (T : Fx K mg) (c_Row_ahead : MCal P w K mg base "Row" "ahead" 1 ["self", "at"] m_Row_ahead) (c_Row_drop : MCal P w K mg base "Row" "drop" 1 ["self", "at"] m_Row_drop) : FnOk P w K mg base (L2.CX P w) 2 f fd ["self", "at", "seat"] (spF mg m_Row_sit) := by
  have sc := sc_Row_sit
  refine Fun.okF (k := 1) (fs := b_Row_sit) F sc rfl rfl (fun cdv A outer s H E hr => ?_)
  have hu5 : (A.deeper (envOfC "Row.sit" (defScope s_Row_sit) s.heap.objs.size f cdv)).units + 65 < cLine := by
    have := hr.un
    omega
  exact ⟨_, (pss_cons (ps_par (by rfl) sc.nd rfl rfl (by decide) rfl rfl (pa_cons (pe_bm PySem.F.plainAttrs_list PySem.F.slot_list_index PySem.F.type_list_index mt_index (pe_fld (pv 0) rfl) (pa_cons (pv 2) pa_nil)) (pa_cons (pe_ix ix_seq (pe_fld (pv 0) rfl) (pv 1) (fun _ _ => rfl)) pa_nil)) (by rfl))
      (pss_one (ps_if (pt_cmpR (op_eqD hr.units) (pv 3) (pv 1) (nomark _)) (pss_one (ps_expr (pe_mcal c_Row_drop (hr.mono (by decide)) passD (pv 0) (pa_cons (pv 1) pa_nil)))) (pss_one (ps_if (pt_val (pe_ix ix_seq (pe_fld (pv 0) rfl) (pv 1) (fun _ _ => rfl))) (pss_cons (ps_asg (pv 4) (pg_sub (pe_fld (pv 0) rfl) (pv 3) set_list))
      (pss_cons (ps_asg pe_bl (pg_sub (pe_fld (pv 0) rfl) (pv 3) set_list))
      (pss_one (ps_expr (pe_mcal c_Row_drop (hr.mono (by decide)) passD (pv 0) (pa_cons (pv 1) pa_nil)))))) (pss_cons (ps_set (i := 5) sc.nd rfl (Or.inl rfl) (pe_ix ix_seq (pe_mcal c_Row_ahead (hr.mono (by decide)) passD (pv 0) (pa_cons (pv 1) pa_nil)) pe_int (fun _ _ => rfl)))
      (pss_cons (ps_if (pt_cmpR op_lt (pv 3) (pv 1) (nomark _)) (pss_one (ps_set (i := 5) sc.nd rfl (Or.inl rfl) (pv 3))) (pss_cons (ps_asg (pe_ix ix_seq (pe_fld (pv 0) rfl) (pv 5) (fun _ _ => rfl)) (pg_sub (pe_fld (pv 0) rfl) (pv 3) set_list))
      (pss_one (ps_asg pe_bl (pg_sub (pe_fld (pv 0) rfl) (pv 3) set_list)))))
      (pss_cons (ps_expr (pe_mcal c_Row_drop (hr.mono (by decide)) passD (pv 0) (pa_cons (pv 1) pa_nil)))
      (pss_one (ps_expr (pe_mcal c_Row_drop (hr.mono (by decide)) passD (pv 0) (pa_cons (pv 5) pa_nil)))))))))))),
    (s_seq (s_par (sa_cons (se_bm ri_index (se_fld T.f_Row_seats (se_var 0)) (sa_cons (se_var 2) sa_nil)) (sa_cons (se_op2 (se_fld T.f_Row_seats (se_var 0)) (se_var 1) ri_ix) sa_nil)))
      (s_if (st_test (se_op2 (se_var 3) (se_var 1) ri_eq)) (s_drop (se_mcal c_Row_drop kd_Row_drop (se_var 0) (sa_cons (se_var 1) sa_nil))) (s_if (st_B (se_op2 (se_fld T.f_Row_lost (se_var 0)) (se_var 1) ri_ix)) (s_seq (s_frz (i := 4) (s_setIx (sp_f T.f_Row_seats (sp_s 0)) (se_var 3) (se_var 4)))
      (s_seq (s_setIx (sp_f T.f_Row_lost (sp_s 0)) (se_var 3) (se_c rfl rfl))
      (s_drop (se_mcal c_Row_drop kd_Row_drop (se_var 0) (sa_cons (se_var 1) sa_nil))))) (s_seq (s_asg (se_op2 (se_mcal c_Row_ahead kd_Row_ahead (se_var 0) (sa_cons (se_var 1) sa_nil)) (se_c rfl rfl) ri_ix) (sg_n 5) (gn_er 5))
      (s_seq (s_if (st_test (se_op2 (se_var 3) (se_var 1) ri_lt)) (s_frz (i := 3) (s_asg (se_var 3) (sg_n 5) (gn_er 5))) (s_seq (s_setIx (sp_f T.f_Row_seats (sp_s 0)) (se_var 3) (se_op2 (se_fld T.f_Row_seats (se_var 0)) (se_var 5) ri_ix))
      (s_setIx (sp_f T.f_Row_lost (sp_s 0)) (se_var 3) (se_c rfl rfl))))
      (s_seq (s_drop (se_mcal c_Row_drop kd_Row_drop (se_var 0) (sa_cons (se_var 1) sa_nil)))
      (s_drop (se_mcal c_Row_drop kd_Row_drop (se_var 0) (sa_cons (se_var 5) sa_nil)))))))))⟩
theorem okm_Row_sit {f : Addr} {fd : FuncData} (F : Fun K "sit" "Row.sit" s_Row_sit f fd) (T : Fx K mg) (c_Row_ahead : MCal P w K mg base "Row" "ahead" 1 ["self", "at"] m_Row_ahead) (cm_Row_drop : MMal P w K mg base "Row" "drop" 1 ["self", "at"] mm_Row_drop) : FnOk P w K mg base (L2.CX P w) 2 f fd ["self", "at", "seat"] (spM mg mm_Row_sit) := by
  have sc := sc_Row_sit
  refine Fun.okM (k := 1) (fs := bm_Row_sit) F sc rfl (by decide) rfl (fun cdv A outer s H E hr => ?_)
  have hu5 : (A.deeper (envOfC "Row.sit" (defScope s_Row_sit) s.heap.objs.size f cdv)).units + 65 < cLine := by
    have := hr.un
    omega
  exact ⟨_, (pss_cons (ps_par (by rfl) sc.nd rfl rfl (by decide) rfl rfl (pa_cons (pe_bm PySem.F.plainAttrs_list PySem.F.slot_list_index PySem.F.type_list_index mt_index (pe_fld (pv 0) rfl) (pa_cons (pv 2) pa_nil)) (pa_cons (pe_ix ix_seq (pe_fld (pv 0) rfl) (pv 1) (fun _ _ => rfl)) pa_nil)) (by rfl))
      (pss_one (ps_if (pt_cmpR (op_eqD hr.units) (pv 3) (pv 1) (nomark _)) (pss_one (ps_expr (pe_mmal cm_Row_drop (hr.mono (by decide)) passD (pv 0) (pa_cons (pv 1) pa_nil)))) (pss_one (ps_if (pt_val (pe_ix ix_seq (pe_fld (pv 0) rfl) (pv 1) (fun _ _ => rfl))) (pss_cons (ps_asg (pv 4) (pg_sub (pe_fld (pv 0) rfl) (pv 3) set_list))
      (pss_cons (ps_asg pe_bl (pg_sub (pe_fld (pv 0) rfl) (pv 3) set_list))
      (pss_one (ps_expr (pe_mmal cm_Row_drop (hr.mono (by decide)) passD (pv 0) (pa_cons (pv 1) pa_nil)))))) (pss_cons (ps_set (i := 5) sc.nd rfl (Or.inl rfl) (pe_ix ix_seq (pe_mcal c_Row_ahead (hr.mono (by decide)) passD (pv 0) (pa_cons (pv 1) pa_nil)) pe_int (fun _ _ => rfl)))
      (pss_cons (ps_if (pt_cmpR op_lt (pv 3) (pv 1) (nomark _)) (pss_one (ps_set (i := 5) sc.nd rfl (Or.inl rfl) (pv 3))) (pss_cons (ps_asg (pe_ix ix_seq (pe_fld (pv 0) rfl) (pv 5) (fun _ _ => rfl)) (pg_sub (pe_fld (pv 0) rfl) (pv 3) set_list))
      (pss_one (ps_asg pe_bl (pg_sub (pe_fld (pv 0) rfl) (pv 3) set_list)))))
      (pss_cons (ps_expr (pe_mmal cm_Row_drop (hr.mono (by decide)) passD (pv 0) (pa_cons (pv 1) pa_nil)))
      (pss_one (ps_expr (pe_mmal cm_Row_drop (hr.mono (by decide)) passD (pv 0) (pa_cons (pv 5) pa_nil)))))))))))),
    (k_seq (k_par (sa_cons (se_bm ri_index (se_fld T.f_Row_seats (se_var 0)) (sa_cons (se_var 2) sa_nil)) (sa_cons (se_op2 (se_fld T.f_Row_seats (se_var 0)) (se_var 1) ri_ix) sa_nil)) (by decide) (by decide))
      (k_if (st_test (se_op2 (se_var 3) (se_var 1) ri_eq)) (k_dropX (sx_m (i := 0) cm_Row_drop (sa_cons (se_var 1) sa_nil)).p) (k_if (st_B (se_op2 (se_fld T.f_Row_lost (se_var 0)) (se_var 1) ri_ix)) (k_seq (k_frz (i := 4) (k_setIx (sp_f T.f_Row_seats (sp_s 0)) (se_var 3) (se_var 4)))
      (k_seq (k_setIx (sp_f T.f_Row_lost (sp_s 0)) (se_var 3) (se_c rfl rfl))
      (k_dropX (sx_m (i := 0) cm_Row_drop (sa_cons (se_var 1) sa_nil)).p))) (k_seq (k_asg (se_op2 (se_mcal c_Row_ahead kd_Row_ahead (se_var 0) (sa_cons (se_var 1) sa_nil)) (se_c rfl rfl) ri_ix) (by decide))
      (k_seq (k_if (st_test (se_op2 (se_var 3) (se_var 1) ri_lt)) (k_frz (i := 3) (k_asg (se_var 3) (by decide))) (k_seq (k_setIx (sp_f T.f_Row_seats (sp_s 0)) (se_var 3) (se_op2 (se_fld T.f_Row_seats (se_var 0)) (se_var 5) ri_ix))
      (k_setIx (sp_f T.f_Row_lost (sp_s 0)) (se_var 3) (se_c rfl rfl))))
      (k_seq (k_dropX (sx_m (i := 0) cm_Row_drop (sa_cons (se_var 1) sa_nil)).p)
      (k_dropX (sx_m (i := 0) cm_Row_drop (sa_cons (se_var 5) sa_nil)).p)))))))⟩
abbrev N_together : List Str := ["night", "pairs", "row", "found", "turn", "guest", "seat", "at", "top", "bottom"]
theorem sc_together : FnScope N_together ["night", "pairs"] (defScope s_together) := ⟨rfl, rfl, rfl, by decide +kernel, rfl, by decide +kernel, by decide +kernel⟩
theorem ok_together {f : Addr} {fd : FuncData} (F : Fun K "together" "together" s_together f fd) (T : Fx K mg) (c_Row_init : KCal P w K mg base "Row" 1 ["self", "night"] m_Row_init) (c_Row_share_at : MCal P w K mg base "Row" "share_at" 3 ["self", "at", "seat"] m_Row_share_at) (c_are_pairs : Cal P w K mg base "are_pairs" 2 ["thing", "many"] m_are_pairs) (c_check_night : Cal P w K mg base "check_night" 3 ["night"] m_check_night) (c_part : Cal P w K mg base "part" 2 ["top", "bottom"] m_part) (cm_Row_sit : MMal P w K mg base "Row" "sit" 2 ["self", "at", "seat"] mm_Row_sit) : FnOk P w K mg base (L2.CX P w) 4 f fd ["night", "pairs"] (spF mg m_together) := by
  have sc := sc_together
  refine Fun.okF (k := 3) (fs := b_together) F sc rfl rfl (fun cdv A outer s H E hr => ?_)
  have hu5 : (A.deeper (envOfC "together" (defScope s_together) s.heap.objs.size f cdv)).units + 65 < cLine := by
    have := hr.un
    omega
  exact ⟨_, (pss_cons (ps_expr (pe_cal c_check_night (hr.mono (by decide)) rfl passD (pa_cons (pv 0) pa_nil)))
      (pss_cons (ps_if (pt_not (pt_val (pe_cal c_are_pairs (hr.mono (by decide)) rfl passD (pa_cons (pv 1) (pa_cons (pe_callB call_len_seq rfl T.b_len bt_len (pa_cons (pe_ix ix_seq (pv 0) pe_int (fun _ _ => rfl)) pa_nil)) pa_nil))))) (pss_one (ps_rz T.x_BadPairs rfl (takes_of rfl rfl rfl rfl) rfl)) pss_nil)
      (pss_cons (ps_par (by rfl) sc.nd rfl rfl (by decide) rfl rfl (pa_cons (pe_kcal c_Row_init (hr.mono (by decide)) rfl passD (pa_cons (pv 0) pa_nil)) (pa_cons (pe_tup (pa_cons pe_int (pa_cons pe_int pa_nil))) pa_nil)) (by rfl))
      (pss_cons (ps_for (passes_of rfl) rfl (pi_seq (pe_callB cr_sortedI rfl T.b_sorted bt_sorted (pa_cons (pe_lc (own := [("guest", 5), ("seat", 6)]) rfl sc.nd (pi_seq (pv 1)) (blkOk_by (N := N_together) (sc := defScope s_together) (by decide +kernel)) (fun _ _ _ _ _ => (pg_tup rfl (pgs_cons (pg_name (i := 5) sc.nd rfl (Or.inl rfl)) (pgs_cons (pg_name (i := 6) sc.nd rfl (Or.inl rfl)) pgs_nil)))) (fun _ _ _ _ _ => pts_nil) (fun _ _ _ _ _ => (pe_tup (pa_cons (pe_bm PySem.F.plainAttrs_list PySem.F.slot_list_index PySem.F.type_list_index mt_index (pe_ix ix_seq (pv 0) pe_int (fun _ _ => rfl)) (pa_cons (pv 5) pa_nil)) (pa_cons (pv 5) (pa_cons (pv 6) pa_nil)))))) pa_nil))) (pg_tup rfl (pgs_cons (pg_name (i := 4) sc.nd rfl (Or.inl rfl)) (pgs_cons (pg_name (i := 5) sc.nd rfl (Or.inl rfl)) (pgs_cons (pg_name (i := 6) sc.nd rfl (Or.inl rfl)) pgs_nil))))
      (pss_cons (ps_set (i := 7) sc.nd rfl (Or.inl rfl) (pe_bm PySem.F.plainAttrs_list PySem.F.slot_list_index PySem.F.type_list_index mt_index (pe_fld (pv 2) rfl) (pa_cons (pv 5) pa_nil)))
      (pss_cons (ps_asg (pe_mcal c_Row_share_at (hr.mono (by decide)) passD (pv 2) (pa_cons (pv 7) (pa_cons (pv 6) pa_nil))) (pg_tup rfl (pgs_cons (pg_name (i := 8) sc.nd rfl (Or.inl rfl)) (pgs_cons (pg_name (i := 9) sc.nd rfl (Or.inl rfl)) pgs_nil))))
      (pss_cons (ps_if (pt_cmpR (op_eqD hr.units) (pv 8) pe_int (nomark _)) (pss_one (ps_ret (pe_tup (pa_cons pe_int (pa_cons pe_int pa_nil))))) pss_nil)
      (pss_cons (ps_set (i := 3) sc.nd rfl (Or.inl rfl) (pe_cal c_part (hr.mono (by decide)) rfl passD (pa_cons (pe_op op_mulA (pe_ix ix_seq (pv 3) pe_int (fun _ _ => rfl)) (pv 8)) (pa_cons (pe_op op_mulA (pe_ix ix_seq (pv 3) pe_int (fun _ _ => rfl)) (pv 9)) pa_nil))))
      (pss_one (ps_expr (pe_mmal cm_Row_sit (hr.mono (by decide)) passD (pv 2) (pa_cons (pv 7) (pa_cons (pv 6) pa_nil))))))))))
      (pss_one (ps_ret (pv 3))))))),
    (s_seq (s_drop (se_call kd_check_night (sa_cons (se_var 0) sa_nil)))
      (s_seq (s_if (st_not (st_B (se_call kd_are_pairs (sa_cons (se_var 1) (sa_cons (se_I (sa_cons (se_op2 (se_var 0) (se_c rfl rfl) ri_ix) sa_nil) ri_len) sa_nil))))) (s_rz T.x_BadPairs) s_next)
      (s_seq (s_par (sa_cons (se_kcal c_Row_init (sa_cons (se_var 0) sa_nil)) (sa_cons (se_tup (sa_cons (se_c rfl rfl) (sa_cons (se_c rfl rfl) sa_nil)) (fanS (fanS fan0)) (by decide)) sa_nil)))
      (s_seq (s_frz (i := 6) (s_frz (i := 5) (s_frz (i := 1) (s_wipe [4, 5, 6, 7, 8, 9] (s_for (si_items (se_L (sa_cons (se_lc (si_items (se_var 1)) (sg_t (sgs_cons (sg_n 5) (sgs_cons (sg_n 6) sgs_nil)) rfl) (fun _ h => h) st_yes (se_tup (sa_cons (se_bm ri_index (se_op2 (se_var 0) (se_c rfl rfl) ri_ix) (sa_cons (se_var 5) sa_nil)) (sa_cons (se_var 5) (sa_cons (se_var 6) sa_nil))) (fanS (fanS (fanS fan0))) (by decide)) (gt_er (gs_er [5, 6]))) sa_nil) rl_sorted)) (sg_w [4, 5, 6, 7, 8, 9] (sg_t (sgs_cons (sg_n 4) (sgs_cons (sg_n 5) (sgs_cons (sg_n 6) sgs_nil))) rfl)) (gw_er [4, 5, 6, 7, 8, 9] (gt_er (gs_er [4, 5, 6])))
      (s_seq (s_asg (se_bm ri_index (se_fld T.f_Row_guests (se_var 2)) (sa_cons (se_var 5) sa_nil)) (sg_n 7) (gn_er 7))
      (s_seq (s_asg (se_mcal c_Row_share_at kd_Row_share_at (se_var 2) (sa_cons (se_var 7) (sa_cons (se_var 6) sa_nil))) (sg_t (sgs_cons (sg_n 8) (sgs_cons (sg_n 9) sgs_nil)) rfl) (gt_er (gs_er [8, 9])))
      (s_seq (s_if (st_test (se_op2 (se_var 8) (se_c rfl rfl) ri_eq)) (s_ret (se_tup (sa_cons (se_c rfl rfl) (sa_cons (se_c rfl rfl) sa_nil)) (fanS (fanS fan0)) (by decide))) s_next)
      (s_seq (s_asg (se_call kd_part (sa_cons (se_mul (se_op2 (se_var 3) (se_c rfl rfl) ri_ix) (se_var 8)) (sa_cons (se_mul (se_op2 (se_var 3) (se_c rfl rfl) ri_ix) (se_var 9)) sa_nil))) (sg_n 3) (gn_er 3))
      (s_dropX (sx_m (i := 2) cm_Row_sit (sa_cons (se_var 7) (sa_cons (se_var 6) sa_nil))).p))))))))))
      (s_frz (i := 3) (s_ret (se_var 3)))))))⟩
abbrev N_judged : List Str := ["night", "seats", "choices", "turn"]
theorem sc_judged : FnScope N_judged ["night", "seats"] (defScope s_judged) := ⟨rfl, rfl, rfl, by decide +kernel, rfl, by decide +kernel, by decide +kernel⟩
theorem ok_judged {f : Addr} {fd : FuncData} (F : Fun K "judged" "judged" s_judged f fd) (T : Fx K mg) (c_Bars_init : KCal P w K mg base "Bars" 1 ["self", "turn"] m_Bars_init) (c_Comes_init : KCal P w K mg base "Comes" 1 ["self", "choices"] m_Comes_init) (c_check_night : Cal P w K mg base "check_night" 3 ["night"] m_check_night) (c_check_seating : Cal P w K mg base "check_seating" 3 ["seats", "many"] m_check_seating) (c_choices_of : Cal P w K mg base "choices_of" 1 ["night", "seats"] m_choices_of) : FnOk P w K mg base (L2.CX P w) 4 f fd ["night", "seats"] (spF mg m_judged) := by
  have sc := sc_judged
  refine Fun.okF (k := 3) (fs := b_judged) F sc rfl rfl (fun cdv A outer s H E hr => ?_)
  have hu5 : (A.deeper (envOfC "judged" (defScope s_judged) s.heap.objs.size f cdv)).units + 65 < cLine := by
    have := hr.un
    omega
  exact ⟨_, (pss_cons (ps_expr (pe_cal c_check_night (hr.mono (by decide)) rfl passD (pa_cons (pv 0) pa_nil)))
      (pss_cons (ps_expr (pe_cal c_check_seating (hr.mono (by decide)) rfl passD (pa_cons (pv 1) (pa_cons (pe_callB call_len_seq rfl T.b_len bt_len (pa_cons (pe_ix ix_seq (pv 0) pe_int (fun _ _ => rfl)) pa_nil)) pa_nil))))
      (pss_cons (ps_asg (pe_cal c_choices_of (hr.mono (by decide)) rfl passD (pa_cons (pv 0) (pa_cons (pv 1) pa_nil))) (pg_tup rfl (pgs_cons (pg_name (i := 2) sc.nd rfl (Or.inl rfl)) (pgs_cons (pg_name (i := 3) sc.nd rfl (Or.inl rfl)) pgs_nil))))
      (pss_one (ps_ret (pe_ifExp (pt_cmpR op_isN (pv 3) pe_non (nomark _)) (pe_kcal c_Comes_init (hr.mono (by decide)) rfl passD (pa_cons (pv 2) pa_nil)) (pe_kcal c_Bars_init (hr.mono (by decide)) rfl passD (pa_cons (pv 3) pa_nil)))))))),
    (s_seq (s_drop (se_call kd_check_night (sa_cons (se_var 0) sa_nil)))
      (s_seq (s_drop (se_call kd_check_seating (sa_cons (se_var 1) (sa_cons (se_I (sa_cons (se_op2 (se_var 0) (se_c rfl rfl) ri_ix) sa_nil) ri_len) sa_nil))))
      (s_seq (s_asg (se_call kd_choices_of (sa_cons (se_var 0) (sa_cons (se_var 1) sa_nil))) (sg_t (sgs_cons (sg_n 2) (sgs_cons (sg_n 3) sgs_nil)) rfl) (gt_er (gs_er [2, 3])))
      (s_ret (se_if (st_test (se_op2 (se_var 3) (se_c rfl rfl) ri_isN)) (se_kcal c_Comes_init (sa_cons (se_var 2) sa_nil)) (se_kcal c_Bars_init (sa_cons (se_var 3) sa_nil)))))))⟩
abbrev N_must : List Str := ["order", "seats", "found", "taken", "guest"]
theorem sc_must : FnScope N_must ["order", "seats"] (defScope s_must) := ⟨rfl, rfl, rfl, by decide +kernel, rfl, by decide +kernel, by decide +kernel⟩
theorem ok_must {f : Addr} {fd : FuncData} (F : Fun K "must" "must" s_must f fd) (T : Fx K mg) (c_check_order : Cal P w K mg base "check_order" 3 ["order"] m_check_order) (c_check_seating : Cal P w K mg base "check_seating" 3 ["seats", "many"] m_check_seating) : FnOk P w K mg base (L2.CX P w) 4 f fd ["order", "seats"] (spF mg m_must) := by
  have sc := sc_must
  refine Fun.okF (k := 3) (fs := b_must) F sc rfl rfl (fun cdv A outer s H E hr => ?_)
  have hu5 : (A.deeper (envOfC "must" (defScope s_must) s.heap.objs.size f cdv)).units + 65 < cLine := by
    have := hr.un
    omega
  exact ⟨_, (pss_cons (ps_expr (pe_cal c_check_order (hr.mono (by decide)) rfl passD (pa_cons (pv 0) pa_nil)))
      (pss_cons (ps_expr (pe_cal c_check_seating (hr.mono (by decide)) rfl passD (pa_cons (pv 1) (pa_cons (pe_callB call_len_seq rfl T.b_len bt_len (pa_cons (pv 0) pa_nil)) pa_nil))))
      (pss_cons (ps_par (by rfl) sc.nd rfl rfl (by decide) rfl rfl (pa_cons (pe_lst pa_nil) (pa_cons (pe_lst pa_nil) pa_nil)) (by rfl))
      (pss_cons (ps_for (passes_of rfl) rfl (pi_seq (pv 0)) (pg_name (i := 4) sc.nd rfl (Or.inl rfl))
      (pss_cons (ps_if (PW.pt (pw_and (pt_cmpR (op_notInA hu5) (pv 4) (pv 3) rfl) (pw_and1 (pt_cmpR (op_neD hr.units) (pe_ix ix_seq (pv 1) (pv 4) (fun _ _ => rfl)) (pv 4) (nomark _))))) (pss_one (ps_expr (pe_bm PySem.F.plainAttrs_list PySem.F.slot_list_append PySem.F.type_list_append mt_append (pv 2) (pa_cons (pv 4) pa_nil)))) pss_nil)
      (pss_one (ps_expr (pe_bm PySem.F.plainAttrs_list PySem.F.slot_list_append PySem.F.type_list_append mt_append (pv 3) (pa_cons (pe_ix ix_seq (pv 1) (pv 4) (fun _ _ => rfl)) pa_nil))))))
      (pss_one (ps_ret (pe_callB cr_sortedI rfl T.b_sorted bt_sorted (pa_cons (pv 2) pa_nil)))))))),
    (s_seq (s_drop (se_call kd_check_order (sa_cons (se_var 0) sa_nil)))
      (s_seq (s_drop (se_call kd_check_seating (sa_cons (se_var 1) (sa_cons (se_I (sa_cons (se_var 0) sa_nil) ri_len) sa_nil))))
      (s_seq (s_par (sa_cons (se_lst sa_nil fan0 (by decide)) (sa_cons (se_lst sa_nil fan0 (by decide)) sa_nil)))
      (s_seq (s_frz (i := 0) (s_wipe [4] (s_for (si_items (se_var 0)) (sg_w [4] (sg_n 4)) (gw_er [4] (gn_er 4))
      (s_seq (s_if (st_and (st_test (se_op2 (se_var 4) (se_var 3) ri_notIn)) (st_test (se_op2 (se_op2 (se_var 1) (se_var 4) ri_ix) (se_var 4) ri_ne))) (s_frz (i := 4) (s_mut rm_append (sp_s 2) (sa_cons (se_var 4) sa_nil))) s_next)
      (s_frz (i := 1) (s_mut rm_append (sp_s 3) (sa_cons (se_op2 (se_var 1) (se_var 4) ri_ix) sa_nil)))))))
      (s_ret (se_L (sa_cons (se_var 2) sa_nil) rl_sorted))))))⟩
abbrev N_all_seatings : List Str := ["night", "order", "lost", "found", "guest", "longer", "some", "free", "seated", "by_guest", "seat"]
theorem sc_all_seatings : FnScope N_all_seatings ["night"] (defScope s_all_seatings) := ⟨rfl, rfl, rfl, by decide +kernel, rfl, by decide +kernel, by decide +kernel⟩
theorem ok_all_seatings {f : Addr} {fd : FuncData} (F : Fun K "all_seatings" "all_seatings" s_all_seatings f fd) (T : Fx K mg) : FnOk P w K mg base (L2.CX P w) 1 f fd ["night"] (spF mg m_all_seatings) := by
  have sc := sc_all_seatings
  refine Fun.okF (k := 0) (fs := b_all_seatings) F sc rfl rfl (fun cdv A outer s H E hr => ?_)
  have hu5 : (A.deeper (envOfC "all_seatings" (defScope s_all_seatings) s.heap.objs.size f cdv)).units + 65 < cLine := by
    have := hr.un
    omega
  have hu1 : (A.deeper (envOfC "all_seatings" (defScope s_all_seatings) s.heap.objs.size f cdv)).units + 1 < cLine := by
    omega
  exact ⟨_, (pss_cons (ps_asg (pv 0) (pg_tup rfl (pgs_cons (pg_name (i := 1) sc.nd rfl (Or.inl rfl)) (pgs_cons (pg_name (i := 2) sc.nd rfl (Or.inl rfl)) pgs_nil))))
      (pss_cons (ps_set (i := 3) sc.nd rfl (Or.inl rfl) (pe_lst (pa_cons (pe_lst pa_nil) pa_nil)))
      (pss_cons (ps_for (passes_of rfl) rfl (pi_seq (pv 1)) (pg_name (i := 4) sc.nd rfl (Or.inl rfl))
      (pss_cons (ps_set (i := 5) sc.nd rfl (Or.inl rfl) (pe_lst pa_nil))
      (pss_cons (ps_for (passes_of rfl) rfl (pi_seq (pv 3)) (pg_name (i := 6) sc.nd rfl (Or.inr rfl))
      (pss_cons (ps_setLc (i := 7) (own := [("seat", 10)]) rfl sc.nd rfl rfl (sw_true rfl rfl rfl (by decide +kernel)) (pi_range1 rfl T.b_range (pa_cons (pe_callB call_len_seq rfl T.b_len bt_len (pa_cons (pv 1) pa_nil)) pa_nil)) (blkOk_by (N := N_all_seatings) (sc := defScope s_all_seatings) (by decide +kernel)) (fun _ _ _ _ _ => (pg_name (i := 10) sc.nd rfl (Or.inl rfl))) (fun _ _ _ _ _ => (pts_one (pt_cmpR (op_notInA hu5) (pv 10) (pv 6) rfl))) (fun _ _ _ _ _ => (pv 10)))
      (pss_cons (ps_if (PW.pt (pw_and (pt_cmpR (op_notInA hu5) (pv 4) (pv 2) rfl) (pw_and1 (pt_cmpR (op_inA hu5) (pv 4) (pv 7) rfl)))) (pss_one (ps_set (i := 7) sc.nd rfl (Or.inl rfl) (pe_lst (pa_cons (pv 4) pa_nil)))) pss_nil)
      (pss_one (ps_expr (pe_bm PySem.F.plainAttrs_list PySem.F.slot_list_extend PySem.F.type_list_extend mt_extend (pv 5) (pa_cons (pe_lc (own := [("seat", 10)]) rfl sc.nd (pi_seq (pv 7)) (blkOk_by (N := N_all_seatings) (sc := defScope s_all_seatings) (by decide +kernel)) (fun _ _ _ _ _ => (pg_name (i := 10) sc.nd rfl (Or.inl rfl))) (fun _ _ _ _ _ => pts_nil) (fun _ _ _ _ _ => (pe_op op_addA (pv 6) (pe_lst (pa_cons (pv 10) pa_nil))))) pa_nil)))))))
      (pss_one (ps_set (i := 3) sc.nd rfl (Or.inl rfl) (pv 5))))))
      (pss_cons (ps_set (i := 8) sc.nd rfl (Or.inl rfl) (pe_lst pa_nil))
      (pss_cons (ps_for (passes_of rfl) rfl (pi_seq (pv 3)) (pg_name (i := 6) sc.nd rfl (Or.inr rfl))
      (pss_cons (ps_set (i := 9) sc.nd rfl (Or.inr rfl) (pe_callTy (call_dictP rfl) rfl T.b_dict bt_dict (pa_cons (pe_lc (own := [("guest", 4), ("seat", 10)]) rfl sc.nd (pi_zip rfl T.b_zip (pa_cons (pv 1) (pa_cons (pv 6) pa_nil))) (blkOk_by (N := N_all_seatings) (sc := defScope s_all_seatings) (by decide +kernel)) (fun _ _ _ _ _ => (pg_tup rfl (pgs_cons (pg_name (i := 4) sc.nd rfl (Or.inl rfl)) (pgs_cons (pg_name (i := 10) sc.nd rfl (Or.inl rfl)) pgs_nil)))) (fun _ _ _ _ _ => pts_nil) (fun _ _ _ _ _ => (pe_tup (pa_cons (pv 4) (pa_cons (pv 10) pa_nil))))) pa_nil)))
      (pss_one (ps_expr (pe_bm PySem.F.plainAttrs_list PySem.F.slot_list_append PySem.F.type_list_append mt_append (pv 8) (pa_cons (pe_lc (own := [("guest", 4)]) rfl sc.nd (pi_range1 rfl T.b_range (pa_cons (pe_callB call_len_seq rfl T.b_len bt_len (pa_cons (pv 1) pa_nil)) pa_nil)) (blkOk_by (N := N_all_seatings) (sc := defScope s_all_seatings) (by decide +kernel)) (fun _ _ _ _ _ => (pg_name (i := 4) sc.nd rfl (Or.inl rfl))) (fun _ _ _ _ _ => pts_nil) (fun _ _ _ _ _ => (pe_dget hu1 (pv 9) (pv 4) (fun _ _ => rfl)))) pa_nil))))))
      (pss_one (ps_ret (pe_callB (cr_sortA hr.units) rfl T.b_sorted bt_sorted (pa_cons (pv 8) pa_nil))))))))),
    (s_seq (s_frz (i := 0) (s_asg (se_var 0) (sg_t (sgs_cons (sg_n 1) (sgs_cons (sg_n 2) sgs_nil)) rfl) (gt_er (gs_er [1, 2]))))
      (s_seq (s_asg (se_lstF (sa_cons (se_lst sa_nil fan0 (by decide)) sa_nil)) (sg_n 3) (gn_er 3))
      (s_seq (s_frz (i := 1) (s_wipe [4, 5, 6, 7] (s_for (si_items (se_var 1)) (sg_w [4, 5, 6, 7] (sg_n 4)) (gw_er [4, 5, 6, 7] (gn_er 4))
      (s_seq (s_asg (se_lst sa_nil fan0 (by decide)) (sg_n 5) (gn_er 5))
      (s_seq (s_frz (i := 3) (s_wipe [6, 7] (s_for (si_items (se_var 3)) (sg_w [6, 7] (sg_n 6)) (gw_er [6, 7] (gn_er 6))
      (s_seq (s_asg (se_lc (si_rng1 (sa_cons (se_I (sa_cons (se_var 1) sa_nil) ri_len) sa_nil)) (sg_n 10) (fun _ h => h) (st_test (se_op2 (se_var 10) (se_var 6) ri_notIn)) (se_var 10) (gn_er 10)) (sg_n 7) (gn_er 7))
      (s_seq (s_if (st_and (st_test (se_op2 (se_var 4) (se_var 2) ri_notIn)) (st_test (se_op2 (se_var 4) (se_var 7) ri_in))) (s_frz (i := 4) (s_asg (se_lst (sa_cons (se_var 4) sa_nil) (fanS fan0) (by decide)) (sg_n 7) (gn_er 7))) s_next)
      (s_frz (i := 7) (s_mut rm_extend (sp_s 5) (sa_cons (se_lc (si_items (se_var 7)) (sg_n 10) (fun _ h => h) st_yes (se_add (se_var 6) (se_lst (sa_cons (se_var 10) sa_nil) (fanS fan0) (by decide))) (gn_er 10)) sa_nil))))))))
      (s_frz (i := 5) (s_asg (se_var 5) (sg_n 3) (gn_er 3))))))))
      (s_seq (s_asg (se_lst sa_nil fan0 (by decide)) (sg_n 8) (gn_er 8))
      (s_seq (s_frz (i := 3) (s_wipe [6, 9] (s_for (si_items (se_var 3)) (sg_w [6, 9] (sg_n 6)) (gw_er [6, 9] (gn_er 6))
      (s_seq (s_frz (i := 6) (s_frz (i := 4) (s_frz (i := 1) (s_asg (se_dict (se_lc (si_zip (sa_cons (se_var 1) (sa_cons (se_var 6) sa_nil))) (sg_t (sgs_cons (sg_n 4) (sgs_cons (sg_n 10) sgs_nil)) rfl) (fun _ h => h) st_yes (se_tup (sa_cons (se_var 4) (sa_cons (se_var 10) sa_nil)) (fanS (fanS fan0)) (by decide)) (gt_er (gs_er [4, 10])))) (sg_n 9) (gn_er 9)))))
      (s_frz (i := 9) (s_mut rm_append (sp_s 8) (sa_cons (se_lc (si_rng1 (sa_cons (se_I (sa_cons (se_var 1) sa_nil) ri_len) sa_nil)) (sg_n 4) (fun _ h => h) st_yes (se_dix (se_var 9) (se_var 4)) (gn_er 4)) sa_nil)))))))
      (s_frz (i := 8) (s_ret (se_L (sa_cons (se_var 8) sa_nil) rl_sortB))))))))⟩
abbrev N_check_small : List Str := ["night"]
theorem sc_check_small : FnScope N_check_small ["night"] (defScope s_check_small) := ⟨rfl, rfl, rfl, by decide +kernel, rfl, by decide +kernel, by decide +kernel⟩
theorem ok_check_small {f : Addr} {fd : FuncData} (F : Fun K "check_small" "check_small" s_check_small f fd) (T : Fx K mg) (c_check_night : Cal P w K mg base "check_night" 3 ["night"] m_check_night) : FnOk P w K mg base (L2.CX P w) 4 f fd ["night"] (spF mg m_check_small) := by
  have sc := sc_check_small
  obtain ⟨t_MOST_SMALL, c_MOST_SMALL⟩ := T.c_MOST_SMALL
  refine Fun.okF (k := 3) (fs := b_check_small) F sc rfl rfl (fun cdv A outer s H E hr => ?_)
  have hu5 : (A.deeper (envOfC "check_small" (defScope s_check_small) s.heap.objs.size f cdv)).units + 65 < cLine := by
    have := hr.un
    omega
  exact ⟨_, (pss_cons (ps_expr (pe_cal c_check_night (hr.mono (by decide)) rfl passD (pa_cons (pv 0) pa_nil)))
      (pss_one (ps_if (pt_cmpR op_gt (pe_callB call_len_seq rfl T.b_len bt_len (pa_cons (pe_ix ix_seq (pv 0) pe_int (fun _ _ => rfl)) pa_nil)) (pe_glob (v := .int 6) rfl c_MOST_SMALL ⟨_, rfl⟩) (nomark _)) (pss_one (ps_rz T.x_TooMany rfl (takes_of rfl rfl rfl rfl) rfl)) pss_nil))),
    (s_seq (s_drop (se_call kd_check_night (sa_cons (se_var 0) sa_nil)))
      (s_if (st_test (se_op2 (se_I (sa_cons (se_op2 (se_var 0) (se_c rfl rfl) ri_ix) sa_nil) ri_len) (se_c rfl rfl) ri_gt)) (s_rz T.x_TooMany) s_next))⟩
abbrev N_how_many : List Str := ["night"]
theorem sc_how_many : FnScope N_how_many ["night"] (defScope s_how_many) := ⟨rfl, rfl, rfl, by decide +kernel, rfl, by decide +kernel, by decide +kernel⟩
theorem ok_how_many {f : Addr} {fd : FuncData} (F : Fun K "how_many" "how_many" s_how_many f fd) (T : Fx K mg) (c_all_seatings : Cal P w K mg base "all_seatings" 1 ["night"] m_all_seatings) (c_check_small : Cal P w K mg base "check_small" 4 ["night"] m_check_small) : FnOk P w K mg base (L2.CX P w) 5 f fd ["night"] (spF mg m_how_many) := by
  have sc := sc_how_many
  refine Fun.okF (k := 4) (fs := b_how_many) F sc rfl rfl (fun cdv A outer s H E hr => ?_)
  have hu5 : (A.deeper (envOfC "how_many" (defScope s_how_many) s.heap.objs.size f cdv)).units + 65 < cLine := by
    have := hr.un
    omega
  exact ⟨_, (pss_cons (ps_expr (pe_cal c_check_small (hr.mono (by decide)) rfl passD (pa_cons (pv 0) pa_nil)))
      (pss_one (ps_ret (pe_callB call_len_seq rfl T.b_len bt_len (pa_cons (pe_cal c_all_seatings (hr.mono (by decide)) rfl passD (pa_cons (pv 0) pa_nil)) pa_nil))))),
    (s_seq (s_drop (se_call kd_check_small (sa_cons (se_var 0) sa_nil)))
      (s_ret (se_I (sa_cons (se_call kd_all_seatings (sa_cons (se_var 0) sa_nil)) sa_nil) ri_len)))⟩
abbrev N_seating_by : List Str := ["night", "number", "found"]
theorem sc_seating_by : FnScope N_seating_by ["night", "number"] (defScope s_seating_by) := ⟨rfl, rfl, rfl, by decide +kernel, rfl, by decide +kernel, by decide +kernel⟩
theorem ok_seating_by {f : Addr} {fd : FuncData} (F : Fun K "seating_by" "seating_by" s_seating_by f fd) (T : Fx K mg) (c_all_seatings : Cal P w K mg base "all_seatings" 1 ["night"] m_all_seatings) (c_check_small : Cal P w K mg base "check_small" 4 ["night"] m_check_small) (c_is_count : Cal P w K mg base "is_count" 1 ["thing", "least", "most"] m_is_count) : FnOk P w K mg base (L2.CX P w) 5 f fd ["night", "number"] (spF mg m_seating_by) := by
  have sc := sc_seating_by
  refine Fun.okF (k := 4) (fs := b_seating_by) F sc rfl rfl (fun cdv A outer s H E hr => ?_)
  have hu5 : (A.deeper (envOfC "seating_by" (defScope s_seating_by) s.heap.objs.size f cdv)).units + 65 < cLine := by
    have := hr.un
    omega
  exact ⟨_, (pss_cons (ps_expr (pe_cal c_check_small (hr.mono (by decide)) rfl passD (pa_cons (pv 0) pa_nil)))
      (pss_cons (ps_set (i := 2) sc.nd rfl (Or.inl rfl) (pe_cal c_all_seatings (hr.mono (by decide)) rfl passD (pa_cons (pv 0) pa_nil)))
      (pss_cons (ps_if (pt_not (pt_val (pe_cal c_is_count (hr.mono (by decide)) rfl passD (pa_cons (pv 1) (pa_cons pe_int (pa_cons (pe_op op_sub (pe_callB call_len_seq rfl T.b_len bt_len (pa_cons (pv 2) pa_nil)) pe_int) pa_nil)))))) (pss_one (ps_rz T.x_BadNumber rfl (takes_of rfl rfl rfl rfl) rfl)) pss_nil)
      (pss_one (ps_ret (pe_ix ix_seq (pv 2) (pv 1) (fun _ _ => rfl))))))),
    (s_seq (s_drop (se_call kd_check_small (sa_cons (se_var 0) sa_nil)))
      (s_seq (s_asg (se_call kd_all_seatings (sa_cons (se_var 0) sa_nil)) (sg_n 2) (gn_er 2))
      (s_seq (s_if (st_not (st_B (se_call kd_is_count (sa_cons (se_var 1) (sa_cons (se_c rfl rfl) (sa_cons (se_op2 (se_I (sa_cons (se_var 2) sa_nil) ri_len) (se_c rfl rfl) ri_sub) sa_nil)))))) (s_rz T.x_BadNumber) s_next)
      (s_frz (i := 2) (s_ret (se_op2 (se_var 2) (se_var 1) ri_ix))))))⟩
abbrev N_number_of : List Str := ["night", "seats", "found"]
theorem sc_number_of : FnScope N_number_of ["night", "seats"] (defScope s_number_of) := ⟨rfl, rfl, rfl, by decide +kernel, rfl, by decide +kernel, by decide +kernel⟩
theorem ok_number_of {f : Addr} {fd : FuncData} (F : Fun K "number_of" "number_of" s_number_of f fd) (T : Fx K mg) (c_all_seatings : Cal P w K mg base "all_seatings" 1 ["night"] m_all_seatings) (c_check_seating : Cal P w K mg base "check_seating" 3 ["seats", "many"] m_check_seating) (c_check_small : Cal P w K mg base "check_small" 4 ["night"] m_check_small) : FnOk P w K mg base (L2.CX P w) 5 f fd ["night", "seats"] (spF mg m_number_of) := by
  have sc := sc_number_of
  refine Fun.okF (k := 4) (fs := b_number_of) F sc rfl rfl (fun cdv A outer s H E hr => ?_)
  have hu5 : (A.deeper (envOfC "number_of" (defScope s_number_of) s.heap.objs.size f cdv)).units + 65 < cLine := by
    have := hr.un
    omega
  exact ⟨_, (pss_cons (ps_expr (pe_cal c_check_small (hr.mono (by decide)) rfl passD (pa_cons (pv 0) pa_nil)))
      (pss_cons (ps_expr (pe_cal c_check_seating (hr.mono (by decide)) rfl passD (pa_cons (pv 1) (pa_cons (pe_callB call_len_seq rfl T.b_len bt_len (pa_cons (pe_ix ix_seq (pv 0) pe_int (fun _ _ => rfl)) pa_nil)) pa_nil))))
      (pss_cons (ps_set (i := 2) sc.nd rfl (Or.inl rfl) (pe_cal c_all_seatings (hr.mono (by decide)) rfl passD (pa_cons (pv 0) pa_nil)))
      (pss_cons (ps_if (pt_cmpR (op_notInA hu5) (pv 1) (pv 2) rfl) (pss_one (ps_rz T.x_NotSo rfl (takes_of rfl rfl rfl rfl) rfl)) pss_nil)
      (pss_one (ps_ret (pe_bm PySem.F.plainAttrs_list PySem.F.slot_list_index PySem.F.type_list_index (mt_indexD hu5) (pv 2) (pa_cons (pv 1) pa_nil)))))))),
    (s_seq (s_drop (se_call kd_check_small (sa_cons (se_var 0) sa_nil)))
      (s_seq (s_drop (se_call kd_check_seating (sa_cons (se_var 1) (sa_cons (se_I (sa_cons (se_op2 (se_var 0) (se_c rfl rfl) ri_ix) sa_nil) ri_len) sa_nil))))
      (s_seq (s_asg (se_call kd_all_seatings (sa_cons (se_var 0) sa_nil)) (sg_n 2) (gn_er 2))
      (s_seq (s_if (st_test (se_op2 (se_var 1) (se_var 2) ri_notIn)) (s_rz T.x_NotSo) s_next)
      (s_ret (se_bm ri_indexR (se_var 2) (sa_cons (se_var 1) sa_nil)))))))⟩
abbrev N_law_cell_at : List Str := ["_law_script", "_law_k"]
theorem sc_law_cell_at : FnScope N_law_cell_at ["_law_script", "_law_k"] (defScope s_law_cell_at) := ⟨rfl, rfl, rfl, by decide +kernel, rfl, by decide +kernel, by decide +kernel⟩
theorem ok_law_cell_at {f : Addr} {fd : FuncData} (F : Fun K "_law_cell_at" "_law_cell_at" s_law_cell_at f fd) (T : Fx K mg) : FnOk P w K mg base (L2.CX P w) 1 f fd ["_law_script", "_law_k"] (spF mg m_law_cell_at) := by
  have sc := sc_law_cell_at
  refine Fun.okF (k := 0) (fs := b_law_cell_at) F sc rfl rfl (fun cdv A outer s H E hr => ?_)
  have hu5 : (A.deeper (envOfC "_law_cell_at" (defScope s_law_cell_at) s.heap.objs.size f cdv)).units + 65 < cLine := by
    have := hr.un
    omega
  exact ⟨_, (pss_cons (ps_if (pt_cmpR op_lt (pv 1) (pe_callB call_len_seq rfl T.b_len bt_len (pa_cons (pv 0) pa_nil)) (nomark _)) (pss_one (ps_ret (pe_ix ix_seq (pv 0) (pv 1) (fun _ _ => rfl)))) pss_nil)
      (pss_one (ps_ret pe_int))),
    (s_seq (s_if (st_test (se_op2 (se_var 1) (se_I (sa_cons (se_var 0) sa_nil) ri_len) ri_lt)) (s_frz (i := 0) (s_ret (se_op2 (se_var 0) (se_var 1) ri_ix))) s_next)
      (s_ret (se_c rfl rfl)))⟩
abbrev N_law_draw : List Str := ["_law_cell", "_law_k", "_law_many", "_law_primes"]
theorem sc_law_draw : FnScope N_law_draw ["_law_cell", "_law_k", "_law_many"] (defScope s_law_draw) := ⟨rfl, rfl, rfl, by decide +kernel, rfl, by decide +kernel, by decide +kernel⟩
theorem ok_law_draw {f : Addr} {fd : FuncData} (F : Fun K "_law_draw" "_law_draw" s_law_draw f fd) (T : Fx K mg) : FnOk P w K mg base (L2.CX P w) 1 f fd ["_law_cell", "_law_k", "_law_many"] (spF mg m_law_draw) := by
  have sc := sc_law_draw
  refine Fun.okF (k := 0) (fs := b_law_draw) F sc rfl rfl (fun cdv A outer s H E hr => ?_)
  have hu5 : (A.deeper (envOfC "_law_draw" (defScope s_law_draw) s.heap.objs.size f cdv)).units + 65 < cLine := by
    have := hr.un
    omega
  exact ⟨_, (pss_cons (ps_set (i := 3) sc.nd rfl (Or.inl rfl) (pe_tup (pa_cons pe_int (pa_cons pe_int (pa_cons pe_int (pa_cons pe_int (pa_cons pe_int (pa_cons pe_int (pa_cons pe_int (pa_cons pe_int (pa_cons pe_int (pa_cons pe_int (pa_cons pe_int (pa_cons pe_int (pa_cons pe_int (pa_cons pe_int (pa_cons pe_int (pa_cons pe_int pa_nil))))))))))))))))))
      (pss_one (ps_ret (pe_op op_mod (pe_op op_mod (pe_op op_addA (pe_op op_mulA (pv 0) pe_int) (pe_op op_mulA (pv 1) pe_int)) (pe_ix ix_seq (pv 3) (pe_op op_mod (pv 1) pe_int) (fun _ _ => rfl))) (pv 2))))),
    (s_seq (s_asg (se_tup (sa_cons (se_c rfl rfl) (sa_cons (se_c rfl rfl) (sa_cons (se_c rfl rfl) (sa_cons (se_c rfl rfl) (sa_cons (se_c rfl rfl) (sa_cons (se_c rfl rfl) (sa_cons (se_c rfl rfl) (sa_cons (se_c rfl rfl) (sa_cons (se_c rfl rfl) (sa_cons (se_c rfl rfl) (sa_cons (se_c rfl rfl) (sa_cons (se_c rfl rfl) (sa_cons (se_c rfl rfl) (sa_cons (se_c rfl rfl) (sa_cons (se_c rfl rfl) (sa_cons (se_c rfl rfl) sa_nil)))))))))))))))) (fanS (fanS (fanS (fanS (fanS (fanS (fanS (fanS (fanS (fanS (fanS (fanS (fanS (fanS (fanS (fanS fan0)))))))))))))))) (by decide)) (sg_n 3) (gn_er 3))
      (s_ret (se_op2 (se_op2 (se_add (se_mul (se_var 0) (se_c rfl rfl)) (se_mul (se_var 1) (se_c rfl rfl))) (se_op2 (se_var 3) (se_op2 (se_var 1) (se_c rfl rfl) ri_mod) ri_ix) ri_mod) (se_var 2) ri_mod)))⟩
abbrev N_law_value : List Str := ["_law_cell", "_law_turn", "_law_rest", "_law_blend"]
theorem sc_law_value : FnScope N_law_value ["_law_cell", "_law_turn"] (defScope s_law_value) := ⟨rfl, rfl, rfl, by decide +kernel, rfl, by decide +kernel, by decide +kernel⟩
theorem ok_law_value {f : Addr} {fd : FuncData} (F : Fun K "_law_value" "_law_value" s_law_value f fd) (T : Fx K mg) (c_law_draw : Cal P w K mg base "_law_draw" 1 ["_law_cell", "_law_k", "_law_many"] m_law_draw) : FnOk P w K mg base (L2.CX P w) 2 f fd ["_law_cell", "_law_turn"] (spF mg m_law_value) := by
  have sc := sc_law_value
  refine Fun.okF (k := 1) (fs := b_law_value) F sc rfl rfl (fun cdv A outer s H E hr => ?_)
  have hu5 : (A.deeper (envOfC "_law_value" (defScope s_law_value) s.heap.objs.size f cdv)).units + 65 < cLine := by
    have := hr.un
    omega
  exact ⟨_, (pss_cons (ps_if (pt_cmpR op_ge (pv 0) (pe_op op_pow pe_int pe_int) (nomark _)) (pss_one (ps_ret (pe_op op_shr (pe_op op_mod (pe_op op_sub (pv 0) (pe_op op_pow pe_int pe_int)) (pe_op op_pow pe_int pe_int)) (pe_op op_mulA pe_int (pv 1))))) pss_nil)
      (pss_cons (ps_set (i := 2) sc.nd rfl (Or.inl rfl) (pe_op op_mod (pv 0) (pe_op op_pow pe_int pe_int)))
      (pss_cons (ps_set (i := 3) sc.nd rfl (Or.inl rfl) (pe_cal c_law_draw (hr.mono (by decide)) rfl passD (pa_cons (pe_op op_mulA (pe_op op_addA (pv 2) (pe_op op_mulA pe_int (pv 1))) (pe_op op_addA (pe_op op_addA (pv 2) (pe_op op_mulA pe_int (pv 1))) pe_int)) (pa_cons (pe_op op_addA (pe_op op_mod (pv 1) pe_int) pe_int) (pa_cons pe_int pa_nil)))))
      (pss_one (ps_ret (pe_op op_addA (pe_op op_mulA (pv 3) pe_int) (pe_cal c_law_draw (hr.mono (by decide)) rfl passD (pa_cons (pe_op op_addA (pe_op op_mulA (pe_op op_addA (pv 2) (pe_op op_mulA pe_int (pv 1))) (pe_op op_addA (pv 2) pe_int)) (pe_op op_mulA pe_int (pv 1))) (pa_cons (pe_op op_addA (pe_op op_mod (pv 1) pe_int) pe_int) (pa_cons pe_int pa_nil)))))))))),
    (s_seq (s_if (st_test (se_op2 (se_var 0) (se_op2 (se_c rfl rfl) (se_c rfl rfl) ri_pow) ri_ge)) (s_ret (se_op2 (se_op2 (se_op2 (se_var 0) (se_op2 (se_c rfl rfl) (se_c rfl rfl) ri_pow) ri_sub) (se_op2 (se_c rfl rfl) (se_c rfl rfl) ri_pow) ri_mod) (se_mul (se_c rfl rfl) (se_var 1)) ri_shr)) s_next)
      (s_seq (s_asg (se_op2 (se_var 0) (se_op2 (se_c rfl rfl) (se_c rfl rfl) ri_pow) ri_mod) (sg_n 2) (gn_er 2))
      (s_seq (s_asg (se_call kd_law_draw (sa_cons (se_mul (se_add (se_var 2) (se_mul (se_c rfl rfl) (se_var 1))) (se_add (se_add (se_var 2) (se_mul (se_c rfl rfl) (se_var 1))) (se_c rfl rfl))) (sa_cons (se_add (se_op2 (se_var 1) (se_c rfl rfl) ri_mod) (se_c rfl rfl)) (sa_cons (se_c rfl rfl) sa_nil)))) (sg_n 3) (gn_er 3))
      (s_ret (se_add (se_mul (se_var 3) (se_c rfl rfl)) (se_call kd_law_draw (sa_cons (se_add (se_mul (se_add (se_var 2) (se_mul (se_c rfl rfl) (se_var 1))) (se_add (se_var 2) (se_c rfl rfl))) (se_mul (se_c rfl rfl) (se_var 1))) (sa_cons (se_add (se_op2 (se_var 1) (se_c rfl rfl) ri_mod) (se_c rfl rfl)) (sa_cons (se_c rfl rfl) sa_nil)))))))))⟩
abbrev N_law_kinds : List Str := ["_law_ask", "_law_found", "error"]
theorem sc_law_kinds : FnScope N_law_kinds ["_law_ask"] (defScope s_law_kinds) := ⟨rfl, rfl, rfl, by decide +kernel, rfl, by decide +kernel, by decide +kernel⟩
theorem ok_law_kinds {f : Addr} {fd : FuncData} (F : Fun K "_law_kinds" "_law_kinds" s_law_kinds f fd) (T : Fx K mg) (gm : mg "_law_kinds" = some (.ref f)) (Bn : Binds K fd ["_law_ask"] []) : Ask P w K mg base "_law_kinds" lamJ (lamJ + 2) m_law_kinds := by
  have sc := sc_law_kinds
  refine Fun.okAsk (j := lamJ) (k := lamJ + 1) (fs := b_law_kinds) F gm Bn sc rfl (fun cdv A outer s H E af ar hr act => ⟨_, (pss_cons (ps_set (i := 1) sc.nd rfl (Or.inl rfl) (pe_lst pa_nil))
      (pss_cons (ps_tryT T.t_SeatError sc.nd rfl rfl rfl (fun E2 pn xe W tk hW => act _ _ _ _ _ _ pn xe E2 W _ _ tk hW hr rfl (.inl rfl) (by decide) (by decide))
      (fun ea oe C ec pn hc hl hz hf => (pss_cons (ps_set (i := 1) sc.nd rfl (Or.inl rfl) (pe_lst (pa_cons (pe_isE T.e_BadNight hc hl hz hf rfl T.b_isinstance rfl (pv 2)) (pa_cons (pe_isE T.e_BadOrder hc hl hz hf rfl T.b_isinstance rfl (pv 2)) (pa_cons (pe_isE T.e_BadGuest hc hl hz hf rfl T.b_isinstance rfl (pv 2)) pa_nil)))))
      (pss_cons (ps_set (i := 1) sc.nd rfl (Or.inl rfl) (pe_op op_addA (pv 1) (pe_lst (pa_cons (pe_isE T.e_BadSeat hc hl hz hf rfl T.b_isinstance rfl (pv 2)) (pa_cons (pe_isE T.e_BadTurn hc hl hz hf rfl T.b_isinstance rfl (pv 2)) (pa_cons (pe_isE T.e_BadSeats hc hl hz hf rfl T.b_isinstance rfl (pv 2)) pa_nil))))))
      (pss_cons (ps_set (i := 1) sc.nd rfl (Or.inl rfl) (pe_op op_addA (pv 1) (pe_lst (pa_cons (pe_isE T.e_BadSeating hc hl hz hf rfl T.b_isinstance rfl (pv 2)) (pa_cons (pe_isE T.e_BadNumber hc hl hz hf rfl T.b_isinstance rfl (pv 2)) (pa_cons (pe_isE T.e_TooMany hc hl hz hf rfl T.b_isinstance rfl (pv 2)) pa_nil))))))
      (pss_cons (ps_set (i := 1) sc.nd rfl (Or.inl rfl) (pe_op op_addA (pv 1) (pe_lst (pa_cons (pe_isE T.e_NotSo hc hl hz hf rfl T.b_isinstance rfl (pv 2)) (pa_cons (pe_isE T.e_AllCame hc hl hz hf rfl T.b_isinstance rfl (pv 2)) (pa_cons (pe_isE T.e_BadPairs hc hl hz hf rfl T.b_isinstance rfl (pv 2)) pa_nil))))))
      (pss_one (ps_expr (pe_bm PySem.F.plainAttrs_list PySem.F.slot_list_append PySem.F.type_list_append mt_append (pv 1) (pa_cons (pe_isB T.e_ValueError hc hl hz hf (by rfl) T.b_isinstance (by rfl) (by decide +kernel) (by decide) (pv 2)) pa_nil))))))))))
      (pss_one (ps_ret (pv 1))))),
    (sa_seq (SS.at (s_asg (se_lst sa_nil fan0 (by decide)) (sg_n 1) (gn_er 1)))
      (sa_seq (sa_try (n := 3) (i := 2) T.t_SeatError (by decide) (fun E => se_ask) (fun ea C ec E hc hl => (s_seq (s_asg (se_lst (sa_cons (se_isE T.e_BadNight hc hl) (sa_cons (se_isE T.e_BadOrder hc hl) (sa_cons (se_isE T.e_BadGuest hc hl) sa_nil))) (fanS (fanS (fanS fan0))) (by decide)) (sg_n 1) (gn_er 1))
      (s_seq (s_asg (se_add (se_var 1) (se_lst (sa_cons (se_isE T.e_BadSeat hc hl) (sa_cons (se_isE T.e_BadTurn hc hl) (sa_cons (se_isE T.e_BadSeats hc hl) sa_nil))) (fanS (fanS (fanS fan0))) (by decide))) (sg_n 1) (gn_er 1))
      (s_seq (s_asg (se_add (se_var 1) (se_lst (sa_cons (se_isE T.e_BadSeating hc hl) (sa_cons (se_isE T.e_BadNumber hc hl) (sa_cons (se_isE T.e_TooMany hc hl) sa_nil))) (fanS (fanS (fanS fan0))) (by decide))) (sg_n 1) (gn_er 1))
      (s_seq (s_asg (se_add (se_var 1) (se_lst (sa_cons (se_isE T.e_NotSo hc hl) (sa_cons (se_isE T.e_AllCame hc hl) (sa_cons (se_isE T.e_BadPairs hc hl) sa_nil))) (fanS (fanS (fanS fan0))) (by decide))) (sg_n 1) (gn_er 1))
      (s_mut rm_append (sp_s 1) (sa_cons (se_isB T.e_ValueError hc hl) sa_nil)))))))
      (fun ea ec => by simp [hwp, errE, fErrIs, addF, mAppend, mk, LS.scal, sMut, mutR, mutE, slotP, getP, setP, ofO, leafs, isLeaf]))
      (SS.at (s_frz (i := 1) (s_ret (se_var 1))))))⟩) (fun f r => ?_)
  cases r <;> simp [m_law_kinds, b_law_kinds, runF, runK, sTry, fAsk, startE, mk, LS.scal, hwp, errE, fErrIs, addF, mAppend, sMut, mutR, mutE, slotP, getP, setP, ofO, leafs, isLeaf]
abbrev N_law_due_of : List Str := ["_law_at", "_law_one"]
theorem sc_law_due_of : FnScope N_law_due_of ["_law_at"] (defScope s_law_due_of) := ⟨rfl, rfl, rfl, by decide +kernel, rfl, by decide +kernel, by decide +kernel⟩
theorem ok_law_due_of {f : Addr} {fd : FuncData} (F : Fun K "_law_due_of" "_law_due_of" s_law_due_of f fd) (T : Fx K mg) : FnOk P w K mg base (L2.CX P w) 1 f fd ["_law_at"] (spF mg m_law_due_of) := by
  have sc := sc_law_due_of
  refine Fun.okF (k := 0) (fs := b_law_due_of) F sc rfl rfl (fun cdv A outer s H E hr => ?_)
  have hu5 : (A.deeper (envOfC "_law_due_of" (defScope s_law_due_of) s.heap.objs.size f cdv)).units + 65 < cLine := by
    have := hr.un
    omega
  exact ⟨_, (pss_one (ps_ret (pe_op op_addA (pe_lc (own := [("_law_one", 1)]) rfl sc.nd (pi_range1 rfl T.b_range (pa_cons pe_int pa_nil)) (blkOk_by (N := N_law_due_of) (sc := defScope s_law_due_of) (by decide +kernel)) (fun _ _ _ _ _ => (pg_name (i := 1) sc.nd rfl (Or.inl rfl))) (fun _ _ _ _ _ => pts_nil) (fun _ _ _ _ _ => (pe_cmpR (op_eqD hr.units) (pv 0) (pv 1) (nomark _)))) (pe_lst (pa_cons pe_bl pa_nil))))),
    (s_ret (se_add (se_lc (si_rng1 (sa_cons (se_c rfl rfl) sa_nil)) (sg_n 1) (fun _ h => h) st_yes (se_op2 (se_var 0) (se_var 1) ri_eq) (gn_er 1)) (se_lst (sa_cons (se_c rfl rfl) sa_nil) (fanS fan0) (by decide))))⟩
abbrev N_law_strange : List Str := ["_law_far"]
theorem sc_law_strange : FnScope N_law_strange ["_law_far"] (defScope s_law_strange) := ⟨rfl, rfl, rfl, by decide +kernel, rfl, by decide +kernel, by decide +kernel⟩
theorem ok_law_strange {f : Addr} {fd : FuncData} (F : Fun K "_law_strange" "_law_strange" s_law_strange f fd) (T : Fx K mg) : FnOk P w K mg base (L2.CX P w) 1 f fd ["_law_far"] (spF mg m_law_strange) := by
  have sc := sc_law_strange
  refine Fun.okF (k := 0) (fs := b_law_strange) F sc rfl rfl (fun cdv A outer s H E hr => ?_)
  have hu5 : (A.deeper (envOfC "_law_strange" (defScope s_law_strange) s.heap.objs.size f cdv)).units + 65 < cLine := by
    have := hr.un
    omega
  exact ⟨_, (pss_one (ps_ret (pe_lst (pa_cons pe_non (pa_cons pe_str (pa_cons pe_bl (pa_cons pe_bl (pa_cons (pe_lst (pa_cons pe_int pa_nil)) (pa_cons (pe_tup (pa_cons pe_int pa_nil)) (pa_cons pe_dnewT (pa_cons (pe_un un_neg pe_int) (pa_cons (pe_op op_sub (pe_un un_neg pe_int) (pv 0)) pa_nil)))))))))))),
    (s_ret (se_lstF (sa_cons (se_c rfl rfl) (sa_cons (se_c rfl rfl) (sa_cons (se_c rfl rfl) (sa_cons (se_c rfl rfl) (sa_cons (se_lst (sa_cons (se_c rfl rfl) sa_nil) (fanS fan0) (by decide)) (sa_cons (se_tup (sa_cons (se_c rfl rfl) sa_nil) (fanS fan0) (by decide)) (sa_cons se_dnewT (sa_cons (se_neg (se_c rfl rfl)) (sa_cons (se_op2 (se_neg (se_c rfl rfl)) (se_var 0) ri_sub) sa_nil)))))))))))⟩
abbrev N_law_no_orders : List Str := ["_law_far", "_law_bad", "_law_one"]
theorem sc_law_no_orders : FnScope N_law_no_orders ["_law_far"] (defScope s_law_no_orders) := ⟨rfl, rfl, rfl, by decide +kernel, rfl, by decide +kernel, by decide +kernel⟩
theorem ok_law_no_orders {f : Addr} {fd : FuncData} (F : Fun K "_law_no_orders" "_law_no_orders" s_law_no_orders f fd) (T : Fx K mg) (c_law_strange : Cal P w K mg base "_law_strange" 1 ["_law_far"] m_law_strange) : FnOk P w K mg base (L2.CX P w) 2 f fd ["_law_far"] (spF mg m_law_no_orders) := by
  have sc := sc_law_no_orders
  refine Fun.okF (k := 1) (fs := b_law_no_orders) F sc rfl rfl (fun cdv A outer s H E hr => ?_)
  have hu5 : (A.deeper (envOfC "_law_no_orders" (defScope s_law_no_orders) s.heap.objs.size f cdv)).units + 65 < cLine := by
    have := hr.un
    omega
  exact ⟨_, (pss_cons (ps_set (i := 1) sc.nd rfl (Or.inl rfl) (pe_lst (pa_cons pe_non (pa_cons pe_int (pa_cons pe_str (pa_cons (pe_tup (pa_cons pe_int (pa_cons pe_int pa_nil))) (pa_cons pe_dnewT (pa_cons (pe_lst pa_nil) (pa_cons (pe_lst (pa_cons pe_int pa_nil)) (pa_cons (pe_lst (pa_cons pe_int (pa_cons pe_int pa_nil))) (pa_cons (pe_lst (pa_cons pe_int (pa_cons pe_int pa_nil))) (pa_cons (pe_lst (pa_cons pe_int (pa_cons pe_int (pa_cons pe_int pa_nil)))) (pa_cons (pe_listRg rfl rfl T.b_list (prg_1 rfl T.b_range pe_int)) (pa_cons (pe_listRg rfl rfl T.b_list (prg_1 rfl T.b_range (pe_op op_addA pe_int (pe_op op_mod (pv 0) pe_int)))) pa_nil))))))))))))))
      (pss_cons (ps_for (passes_of rfl) rfl (pi_seq (pe_cal c_law_strange (hr.mono (by decide)) rfl passD (pa_cons (pv 0) pa_nil))) (pg_name (i := 2) sc.nd rfl (Or.inl rfl))
      (pss_one (ps_set (i := 1) sc.nd rfl (Or.inl rfl) (pe_op op_addA (pv 1) (pe_lst (pa_cons (pe_lst (pa_cons (pv 2) pa_nil)) (pa_cons (pe_lst (pa_cons pe_int (pa_cons (pv 2) (pa_cons pe_int pa_nil)))) pa_nil)))))))
      (pss_one (ps_ret (pv 1))))),
    (s_seq (s_asg (se_lstF (sa_cons (se_c rfl rfl) (sa_cons (se_c rfl rfl) (sa_cons (se_c rfl rfl) (sa_cons (se_tup (sa_cons (se_c rfl rfl) (sa_cons (se_c rfl rfl) sa_nil)) (fanS (fanS fan0)) (by decide)) (sa_cons se_dnewT (sa_cons (se_lst sa_nil fan0 (by decide)) (sa_cons (se_lst (sa_cons (se_c rfl rfl) sa_nil) (fanS fan0) (by decide)) (sa_cons (se_lst (sa_cons (se_c rfl rfl) (sa_cons (se_c rfl rfl) sa_nil)) (fanS (fanS fan0)) (by decide)) (sa_cons (se_lst (sa_cons (se_c rfl rfl) (sa_cons (se_c rfl rfl) sa_nil)) (fanS (fanS fan0)) (by decide)) (sa_cons (se_lst (sa_cons (se_c rfl rfl) (sa_cons (se_c rfl rfl) (sa_cons (se_c rfl rfl) sa_nil))) (fanS (fanS (fanS fan0))) (by decide)) (sa_cons (se_rg1 (se_c rfl rfl)) (sa_cons (se_rg1 (se_add (se_c rfl rfl) (se_op2 (se_var 0) (se_c rfl rfl) ri_mod))) sa_nil))))))))))))) (sg_n 1) (gn_er 1))
      (s_seq (s_wipe [2] (s_for (si_items (se_call kd_law_strange (sa_cons (se_var 0) sa_nil))) (sg_w [2] (sg_n 2)) (gw_er [2] (gn_er 2))
      (s_frz (i := 2) (s_frz (i := 1) (s_asg (se_add (se_var 1) (se_lstF (sa_cons (se_lst (sa_cons (se_var 2) sa_nil) (fanS fan0) (by decide)) (sa_cons (se_lst (sa_cons (se_c rfl rfl) (sa_cons (se_var 2) (sa_cons (se_c rfl rfl) sa_nil))) (fanS (fanS (fanS fan0))) (by decide)) sa_nil)))) (sg_n 1) (gn_er 1))))))
      (s_frz (i := 1) (s_ret (se_var 1)))))⟩
abbrev N_law_no_nights : List Str := ["_law_far", "_law_bad", "_law_one", "_law_order"]
theorem sc_law_no_nights : FnScope N_law_no_nights ["_law_far"] (defScope s_law_no_nights) := ⟨rfl, rfl, rfl, by decide +kernel, rfl, by decide +kernel, by decide +kernel⟩
theorem ok_law_no_nights {f : Addr} {fd : FuncData} (F : Fun K "_law_no_nights" "_law_no_nights" s_law_no_nights f fd) (T : Fx K mg) (c_law_no_orders : Cal P w K mg base "_law_no_orders" 2 ["_law_far"] m_law_no_orders) (c_law_strange : Cal P w K mg base "_law_strange" 1 ["_law_far"] m_law_strange) : FnOk P w K mg base (L2.CX P w) 3 f fd ["_law_far"] (spF mg m_law_no_nights) := by
  have sc := sc_law_no_nights
  refine Fun.okF (k := 2) (fs := b_law_no_nights) F sc rfl rfl (fun cdv A outer s H E hr => ?_)
  have hu5 : (A.deeper (envOfC "_law_no_nights" (defScope s_law_no_nights) s.heap.objs.size f cdv)).units + 65 < cLine := by
    have := hr.un
    omega
  exact ⟨_, (pss_cons (ps_set (i := 1) sc.nd rfl (Or.inl rfl) (pe_lst (pa_cons pe_non (pa_cons pe_int (pa_cons pe_str (pa_cons (pe_lst (pa_cons (pe_lst (pa_cons pe_int pa_nil)) (pa_cons (pe_lst pa_nil) pa_nil))) (pa_cons (pe_tup pa_nil) (pa_cons pe_dnewT (pa_cons (pe_tup (pa_cons (pe_lst (pa_cons pe_int pa_nil)) pa_nil)) (pa_cons (pe_tup (pa_cons (pe_lst (pa_cons pe_int pa_nil)) (pa_cons (pe_lst pa_nil) (pa_cons (pe_lst pa_nil) pa_nil)))) (pa_cons (pe_tup (pa_cons (pe_lst (pa_cons pe_int pa_nil)) (pa_cons pe_non pa_nil))) (pa_cons (pe_tup (pa_cons (pe_lst (pa_cons pe_int pa_nil)) (pa_cons (pe_tup (pa_cons pe_int pa_nil)) pa_nil))) (pa_cons (pe_tup (pa_cons (pe_lst (pa_cons pe_int pa_nil)) (pa_cons pe_dnewT pa_nil))) (pa_cons (pe_tup (pa_cons (pe_lst (pa_cons pe_int pa_nil)) (pa_cons pe_int pa_nil))) pa_nil))))))))))))))
      (pss_cons (ps_set (i := 1) sc.nd rfl (Or.inl rfl) (pe_op op_addA (pv 1) (pe_lc (own := [("_law_order", 3)]) rfl sc.nd (pi_seq (pe_cal c_law_no_orders (hr.mono (by decide)) rfl passD (pa_cons (pv 0) pa_nil))) (blkOk_by (N := N_law_no_nights) (sc := defScope s_law_no_nights) (by decide +kernel)) (fun _ _ _ _ _ => (pg_name (i := 3) sc.nd rfl (Or.inl rfl))) (fun _ _ _ _ _ => pts_nil) (fun _ _ _ _ _ => (pe_tup (pa_cons (pv 3) (pa_cons (pe_lst pa_nil) pa_nil)))))))
      (pss_cons (ps_for (passes_of rfl) rfl (pi_seq (pe_op op_addA (pe_cal c_law_strange (hr.mono (by decide)) rfl passD (pa_cons (pv 0) pa_nil)) (pe_lst (pa_cons pe_int (pa_cons (pe_op op_addA pe_int (pv 0)) pa_nil))))) (pg_name (i := 2) sc.nd rfl (Or.inl rfl))
      (pss_one (ps_set (i := 1) sc.nd rfl (Or.inl rfl) (pe_op op_addA (pv 1) (pe_lst (pa_cons (pe_tup (pa_cons (pe_lst (pa_cons pe_int (pa_cons pe_int (pa_cons pe_int pa_nil)))) (pa_cons (pe_lst (pa_cons (pv 2) pa_nil)) pa_nil))) (pa_cons (pe_tup (pa_cons (pe_lst (pa_cons pe_int (pa_cons pe_int (pa_cons pe_int pa_nil)))) (pa_cons (pe_lst (pa_cons pe_int (pa_cons (pv 2) pa_nil))) pa_nil))) pa_nil)))))))
      (pss_one (ps_ret (pe_op op_addA (pv 1) (pe_lst (pa_cons (pe_tup (pa_cons (pe_lst (pa_cons pe_int (pa_cons pe_int (pa_cons pe_int pa_nil)))) (pa_cons (pe_lst (pa_cons pe_int (pa_cons pe_int pa_nil))) pa_nil))) (pa_cons (pe_tup (pa_cons (pe_lst (pa_cons pe_int (pa_cons pe_int (pa_cons pe_int pa_nil)))) (pa_cons (pe_lst (pa_cons pe_int (pa_cons pe_int pa_nil))) pa_nil))) pa_nil))))))))),
    (s_seq (s_asg (se_lstF (sa_cons (se_c rfl rfl) (sa_cons (se_c rfl rfl) (sa_cons (se_c rfl rfl) (sa_cons (se_lstF (sa_cons (se_lst (sa_cons (se_c rfl rfl) sa_nil) (fanS fan0) (by decide)) (sa_cons (se_lst sa_nil fan0 (by decide)) sa_nil))) (sa_cons (se_tup sa_nil fan0 (by decide)) (sa_cons se_dnewT (sa_cons (se_tup (sa_cons (se_lst (sa_cons (se_c rfl rfl) sa_nil) (fanS fan0) (by decide)) sa_nil) (fanS fan0) (by decide)) (sa_cons (se_tup (sa_cons (se_lst (sa_cons (se_c rfl rfl) sa_nil) (fanS fan0) (by decide)) (sa_cons (se_lst sa_nil fan0 (by decide)) (sa_cons (se_lst sa_nil fan0 (by decide)) sa_nil))) (fanS (fanS (fanS fan0))) (by decide)) (sa_cons (se_tup (sa_cons (se_lst (sa_cons (se_c rfl rfl) sa_nil) (fanS fan0) (by decide)) (sa_cons (se_c rfl rfl) sa_nil)) (fanS (fanS fan0)) (by decide)) (sa_cons (se_tup (sa_cons (se_lst (sa_cons (se_c rfl rfl) sa_nil) (fanS fan0) (by decide)) (sa_cons (se_tup (sa_cons (se_c rfl rfl) sa_nil) (fanS fan0) (by decide)) sa_nil)) (fanS (fanS fan0)) (by decide)) (sa_cons (se_tup (sa_cons (se_lst (sa_cons (se_c rfl rfl) sa_nil) (fanS fan0) (by decide)) (sa_cons se_dnewT sa_nil)) (fanS (fanS fan0)) (by decide)) (sa_cons (se_tup (sa_cons (se_lst (sa_cons (se_c rfl rfl) sa_nil) (fanS fan0) (by decide)) (sa_cons (se_c rfl rfl) sa_nil)) (fanS (fanS fan0)) (by decide)) sa_nil))))))))))))) (sg_n 1) (gn_er 1))
      (s_seq (s_frz (i := 1) (s_asg (se_add (se_var 1) (se_lc (si_items (se_call kd_law_no_orders (sa_cons (se_var 0) sa_nil))) (sg_n 3) (fun _ h => h) st_yes (se_tup (sa_cons (se_var 3) (sa_cons (se_lst sa_nil fan0 (by decide)) sa_nil)) (fanS (fanS fan0)) (by decide)) (gn_er 3))) (sg_n 1) (gn_er 1)))
      (s_seq (s_frz (i := 0) (s_wipe [2] (s_for (si_items (se_add (se_call kd_law_strange (sa_cons (se_var 0) sa_nil)) (se_lst (sa_cons (se_c rfl rfl) (sa_cons (se_add (se_c rfl rfl) (se_var 0)) sa_nil)) (fanS (fanS fan0)) (by decide)))) (sg_w [2] (sg_n 2)) (gw_er [2] (gn_er 2))
      (s_frz (i := 2) (s_frz (i := 1) (s_asg (se_add (se_var 1) (se_lstF (sa_cons (se_tup (sa_cons (se_lst (sa_cons (se_c rfl rfl) (sa_cons (se_c rfl rfl) (sa_cons (se_c rfl rfl) sa_nil))) (fanS (fanS (fanS fan0))) (by decide)) (sa_cons (se_lst (sa_cons (se_var 2) sa_nil) (fanS fan0) (by decide)) sa_nil)) (fanS (fanS fan0)) (by decide)) (sa_cons (se_tup (sa_cons (se_lst (sa_cons (se_c rfl rfl) (sa_cons (se_c rfl rfl) (sa_cons (se_c rfl rfl) sa_nil))) (fanS (fanS (fanS fan0))) (by decide)) (sa_cons (se_lst (sa_cons (se_c rfl rfl) (sa_cons (se_var 2) sa_nil)) (fanS (fanS fan0)) (by decide)) sa_nil)) (fanS (fanS fan0)) (by decide)) sa_nil)))) (sg_n 1) (gn_er 1)))))))
      (s_frz (i := 1) (s_ret (se_add (se_var 1) (se_lstF (sa_cons (se_tup (sa_cons (se_lst (sa_cons (se_c rfl rfl) (sa_cons (se_c rfl rfl) (sa_cons (se_c rfl rfl) sa_nil))) (fanS (fanS (fanS fan0))) (by decide)) (sa_cons (se_lst (sa_cons (se_c rfl rfl) (sa_cons (se_c rfl rfl) sa_nil)) (fanS (fanS fan0)) (by decide)) sa_nil)) (fanS (fanS fan0)) (by decide)) (sa_cons (se_tup (sa_cons (se_lst (sa_cons (se_c rfl rfl) (sa_cons (se_c rfl rfl) (sa_cons (se_c rfl rfl) sa_nil))) (fanS (fanS (fanS fan0))) (by decide)) (sa_cons (se_lst (sa_cons (se_c rfl rfl) (sa_cons (se_c rfl rfl) sa_nil)) (fanS (fanS fan0)) (by decide)) sa_nil)) (fanS (fanS fan0)) (by decide)) sa_nil)))))))))⟩
abbrev N_law_nights_right : List Str := ["_law_far", "_law_bad", "_law_ask"]
theorem sc_law_nights_right : FnScope N_law_nights_right ["_law_far"] (defScope s_law_nights_right) := ⟨rfl, rfl, rfl, by decide +kernel, rfl, by decide +kernel, by decide +kernel⟩
theorem ok_law_nights_right {f : Addr} {fd : FuncData} {cA PA : Addr} (F : FunC K "_law_nights_right" "_law_nights_right" s_law_nights_right f fd cA) (T : Fx K mg) (tb : LamX.TabB base mg cA PA) (hmT : (PA, ("_law_nights_right.<locals>.<lambda>" : Str)) ∈ TabI.ts) (hu : ∀ p ∈ TabI.ts, p.1 = PA → p.2 = ("_law_nights_right.<locals>.<lambda>" : Str)) (c_Door_init : KCal P w K mg base "Door" 4 ["self", "night"] m_Door_init) (c_law_due_of : Cal P w K mg base "_law_due_of" 1 ["_law_at"] m_law_due_of) (c_law_no_nights : Cal P w K mg base "_law_no_nights" 3 ["_law_far"] m_law_no_nights) (c_law_no_orders : Cal P w K mg base "_law_no_orders" 2 ["_law_far"] m_law_no_orders) (c_asked : Cal P w K mg base "asked" 4 ["night"] m_asked) (c_free_share : Cal P w K mg base "free_share" 4 ["night", "turn", "seats"] m_free_share) (c_how_many : Cal P w K mg base "how_many" 5 ["night"] m_how_many) (c_judged : Cal P w K mg base "judged" 4 ["night", "seats"] m_judged) (c_must : Cal P w K mg base "must" 4 ["order", "seats"] m_must) (c_number_of : Cal P w K mg base "number_of" 5 ["night", "seats"] m_number_of) (c_own : Cal P w K mg base "own" 4 ["night"] m_own) (c_seating : Cal P w K mg base "seating" 4 ["night", "seats"] m_seating) (c_seating_by : Cal P w K mg base "seating_by" 5 ["night", "number"] m_seating_by) (c_share : Cal P w K mg base "share" 5 ["night", "guest", "seat"] m_share) (c_share_back : Cal P w K mg base "share_back" 5 ["night", "guest", "seat"] m_share_back) (c_together : Cal P w K mg base "together" 4 ["night", "pairs"] m_together) (c_law_kinds : Ask P w K mg base "_law_kinds" lamJ (lamJ + 2) m_law_kinds) : FnOk P w K mg base (L2.CX P w) 8 f fd ["_law_far"] (spF mg m_law_nights_right) := by
  have sc := sc_law_nights_right
  refine FunC.okF (k := 7) (fs := b_law_nights_right) F sc rfl rfl (fun A outer s H E hr => ?_)
  have hu5 : (A.deeper (envOfC "_law_nights_right" (defScope s_law_nights_right) s.heap.objs.size f (.ref cA))).units + 65 < cLine := by
    have := hr.un
    omega
  exact ⟨_, (pss_cons (ps_for (passes_of rfl) rfl (pi_seq (pe_cal c_law_no_nights (hr.mono (by decide)) rfl passD (pa_cons (pv 0) pa_nil))) (pg_name (i := 1) sc.nd rfl (Or.inr rfl))
      (pss_cons (ps_for (passes_of rfl) rfl (pi_seq (pe_tup (pa_cons (pe_fn c_own rfl) (pa_cons (pe_fn c_asked rfl) (pa_cons (pe_fn c_how_many rfl) pa_nil))))) (pg_name (i := 2) sc.nd rfl (Or.inr rfl))
      (pss_one (ps_if (pt_cmpR (op_neD hr.units) (pe_lamc (j := lamJ) (k := lamJ + 2) c_law_kinds (hr.mono (by decide)) rfl passD tb rfl rfl hmT hu (LamX.lamS_by (sc := defScope s_law_nights_right) (by decide +kernel)) (fun A2 outer2 s2 H2 E2 f2 c2 hr px2 => (pe_callv (i := 2) ((CalTab.cons c_own kd_own (by decide) (CalTab.cons c_asked kd_asked (by decide) (CalTab.cons c_how_many kd_how_many (by decide) CalTab.nil))) : CalTab P w K mg base lamJ [("own", m_own), ("asked", m_asked), ("how_many", m_how_many)]) (hr.mono (by decide)) rfl (.inr (.inr rfl)) px2 (pa_cons (pv 1) pa_nil)))) (pe_cal c_law_due_of (hr.mono (by decide)) rfl passD (pa_cons pe_int pa_nil)) (nomark _)) (pss_one (ps_ret pe_bl)) pss_nil)))
      (pss_cons (ps_for (passes_of rfl) rfl (pi_seq (pe_tup (pa_cons (pe_fn c_share rfl) (pa_cons (pe_fn c_share_back rfl) (pa_cons (pe_fn c_free_share rfl) pa_nil))))) (pg_name (i := 2) sc.nd rfl (Or.inr rfl))
      (pss_one (ps_if (pt_cmpR (op_neD hr.units) (pe_lamc (j := lamJ) (k := lamJ + 2) c_law_kinds (hr.mono (by decide)) rfl passD tb rfl rfl hmT hu (LamX.lamS_by (sc := defScope s_law_nights_right) (by decide +kernel)) (fun A2 outer2 s2 H2 E2 f2 c2 hr px2 => (pe_callv (i := 2) ((CalTab.cons c_share kd_share (by decide) (CalTab.cons c_share_back kd_share_back (by decide) (CalTab.cons c_free_share kd_free_share (by decide) CalTab.nil))) : CalTab P w K mg base lamJ [("share", m_share), ("share_back", m_share_back), ("free_share", m_free_share)]) (hr.mono (by decide)) rfl (.inr (.inr rfl)) px2 (pa_cons (pv 1) (pa_cons pe_non (pa_cons pe_non pa_nil)))))) (pe_cal c_law_due_of (hr.mono (by decide)) rfl passD (pa_cons pe_int pa_nil)) (nomark _)) (pss_one (ps_ret pe_bl)) pss_nil)))
      (pss_cons (ps_for (passes_of rfl) rfl (pi_seq (pe_tup (pa_cons (pe_fn c_seating rfl) (pa_cons (pe_fn c_judged rfl) (pa_cons (pe_fn c_seating_by rfl) (pa_cons (pe_fn c_number_of rfl) (pa_cons (pe_fn c_together rfl) pa_nil))))))) (pg_name (i := 2) sc.nd rfl (Or.inr rfl))
      (pss_one (ps_if (pt_cmpR (op_neD hr.units) (pe_lamc (j := lamJ) (k := lamJ + 2) c_law_kinds (hr.mono (by decide)) rfl passD tb rfl rfl hmT hu (LamX.lamS_by (sc := defScope s_law_nights_right) (by decide +kernel)) (fun A2 outer2 s2 H2 E2 f2 c2 hr px2 => (pe_callv (i := 2) ((CalTab.cons c_seating kd_seating (by decide) (CalTab.cons c_judged kd_judged (by decide) (CalTab.cons c_seating_by kd_seating_by (by decide) (CalTab.cons c_number_of kd_number_of (by decide) (CalTab.cons c_together kd_together (by decide) CalTab.nil))))) : CalTab P w K mg base lamJ [("seating", m_seating), ("judged", m_judged), ("seating_by", m_seating_by), ("number_of", m_number_of), ("together", m_together)]) (hr.mono (by decide)) rfl (.inr (.inr rfl)) px2 (pa_cons (pv 1) (pa_cons pe_non pa_nil))))) (pe_cal c_law_due_of (hr.mono (by decide)) rfl passD (pa_cons pe_int pa_nil)) (nomark _)) (pss_one (ps_ret pe_bl)) pss_nil)))
      (pss_one (ps_if (pt_cmpR (op_neD hr.units) (pe_lamc (j := lamJ) (k := lamJ + 2) c_law_kinds (hr.mono (by decide)) rfl passD tb rfl rfl hmT hu (LamX.lamS_by (sc := defScope s_law_nights_right) (by decide +kernel)) (fun A2 outer2 s2 H2 E2 f2 c2 hr px2 => (pe_kcal c_Door_init (hr.mono (by decide)) rfl px2 (pa_cons (pv 1) pa_nil)))) (pe_cal c_law_due_of (hr.mono (by decide)) rfl passD (pa_cons pe_int pa_nil)) (nomark _)) (pss_one (ps_ret pe_bl)) pss_nil))))))
      (pss_one (ps_ret (pe_callB (cr_all rfl) rfl T.b_all bt_all (pa_cons (pe_lc (own := [("_law_bad", 1)]) rfl sc.nd (pi_seq (pe_cal c_law_no_orders (hr.mono (by decide)) rfl passD (pa_cons (pv 0) pa_nil))) (blkOk_by (N := N_law_nights_right) (sc := defScope s_law_nights_right) (by decide +kernel)) (fun _ _ _ _ _ => (pg_name (i := 1) sc.nd rfl (Or.inr rfl))) (fun _ _ _ _ _ => pts_nil) (fun _ _ _ _ _ => (pe_cmpR (op_eqD hr.units) (pe_lamc (j := lamJ) (k := lamJ + 2) c_law_kinds (hr.mono (by decide)) rfl passL tb rfl rfl hmT hu (LamX.lamS_by (by kernel_rfl)) (fun A2 outer2 s2 H2 E2 f2 c2 hr px2 => (pe_cal c_must (hr.mono (by decide)) rfl px2 (pa_cons (pv 1) (pa_cons pe_non pa_nil))))) (pe_cal c_law_due_of (hr.mono (by decide)) rfl passL (pa_cons pe_int pa_nil)) (nomark _)))) pa_nil))))),
    (s_seq (s_wipe [1, 2] (s_for (si_items (se_call kd_law_no_nights (sa_cons (se_var 0) sa_nil))) (sg_w [1, 2] (sg_n 1)) (gw_er [1, 2] (gn_er 1))
      (s_seq (s_wipe [2] (s_for (si_items (se_tup (sa_cons (se_fn c_own) (sa_cons (se_fn c_asked) (sa_cons (se_fn c_how_many) sa_nil))) (fanS (fanS (fanS fan0))) (by decide))) (sg_w [2] (sg_n 2)) (gw_er [2] (gn_er 2))
      (s_if (st_test (se_op2 (se_lamc kd_law_kinds (fun E2 => (se_callv ((CalTab.cons c_own kd_own (by decide) (CalTab.cons c_asked kd_asked (by decide) (CalTab.cons c_how_many kd_how_many (by decide) CalTab.nil))) : CalTab P w K mg base lamJ [("own", m_own), ("asked", m_asked), ("how_many", m_how_many)]) (sa_cons (se_var 1) sa_nil)))) (se_call kd_law_due_of (sa_cons (se_c rfl rfl) sa_nil)) ri_ne)) (s_ret (se_c rfl rfl)) s_next)))
      (s_seq (s_wipe [2] (s_for (si_items (se_tup (sa_cons (se_fn c_share) (sa_cons (se_fn c_share_back) (sa_cons (se_fn c_free_share) sa_nil))) (fanS (fanS (fanS fan0))) (by decide))) (sg_w [2] (sg_n 2)) (gw_er [2] (gn_er 2))
      (s_if (st_test (se_op2 (se_lamc kd_law_kinds (fun E2 => (se_callv ((CalTab.cons c_share kd_share (by decide) (CalTab.cons c_share_back kd_share_back (by decide) (CalTab.cons c_free_share kd_free_share (by decide) CalTab.nil))) : CalTab P w K mg base lamJ [("share", m_share), ("share_back", m_share_back), ("free_share", m_free_share)]) (sa_cons (se_var 1) (sa_cons (se_c rfl rfl) (sa_cons (se_c rfl rfl) sa_nil)))))) (se_call kd_law_due_of (sa_cons (se_c rfl rfl) sa_nil)) ri_ne)) (s_ret (se_c rfl rfl)) s_next)))
      (s_seq (s_wipe [2] (s_for (si_items (se_tup (sa_cons (se_fn c_seating) (sa_cons (se_fn c_judged) (sa_cons (se_fn c_seating_by) (sa_cons (se_fn c_number_of) (sa_cons (se_fn c_together) sa_nil))))) (fanS (fanS (fanS (fanS (fanS fan0))))) (by decide))) (sg_w [2] (sg_n 2)) (gw_er [2] (gn_er 2))
      (s_if (st_test (se_op2 (se_lamc kd_law_kinds (fun E2 => (se_callv ((CalTab.cons c_seating kd_seating (by decide) (CalTab.cons c_judged kd_judged (by decide) (CalTab.cons c_seating_by kd_seating_by (by decide) (CalTab.cons c_number_of kd_number_of (by decide) (CalTab.cons c_together kd_together (by decide) CalTab.nil))))) : CalTab P w K mg base lamJ [("seating", m_seating), ("judged", m_judged), ("seating_by", m_seating_by), ("number_of", m_number_of), ("together", m_together)]) (sa_cons (se_var 1) (sa_cons (se_c rfl rfl) sa_nil))))) (se_call kd_law_due_of (sa_cons (se_c rfl rfl) sa_nil)) ri_ne)) (s_ret (se_c rfl rfl)) s_next)))
      (s_if (st_test (se_op2 (se_lamc kd_law_kinds (fun E2 => (se_kcal c_Door_init (sa_cons (se_var 1) sa_nil)))) (se_call kd_law_due_of (sa_cons (se_c rfl rfl) sa_nil)) ri_ne)) (s_ret (se_c rfl rfl)) s_next))))))
      (s_ret (se_I (sa_cons (se_lc (si_items (se_call kd_law_no_orders (sa_cons (se_var 0) sa_nil))) (sg_n 1) (fun _ h => h) st_yes (se_op2 (se_lamc kd_law_kinds (fun E2 => (se_call kd_must (sa_cons (se_var 1) (sa_cons (se_c rfl rfl) sa_nil))))) (se_call kd_law_due_of (sa_cons (se_c rfl rfl) sa_nil)) ri_eq) (gn_er 1)) sa_nil) ri_all)))⟩
abbrev N_law_seatings_right : List Str := ["_law_night", "_law_far", "_law_bad", "_law_one", "_law_some", "_law_ask"]
theorem sc_law_seatings_right : FnScope N_law_seatings_right ["_law_night", "_law_far"] (defScope s_law_seatings_right) := ⟨rfl, rfl, rfl, by decide +kernel, rfl, by decide +kernel, by decide +kernel⟩
theorem ok_law_seatings_right {f : Addr} {fd : FuncData} {cA PA : Addr} (F : FunC K "_law_seatings_right" "_law_seatings_right" s_law_seatings_right f fd cA) (T : Fx K mg) (tb : LamX.TabB base mg cA PA) (hmT : (PA, ("_law_seatings_right.<locals>.<lambda>" : Str)) ∈ TabI.ts) (hu : ∀ p ∈ TabI.ts, p.1 = PA → p.2 = ("_law_seatings_right.<locals>.<lambda>" : Str)) (c_law_due_of : Cal P w K mg base "_law_due_of" 1 ["_law_at"] m_law_due_of) (c_law_strange : Cal P w K mg base "_law_strange" 1 ["_law_far"] m_law_strange) (c_judged : Cal P w K mg base "judged" 4 ["night", "seats"] m_judged) (c_must : Cal P w K mg base "must" 4 ["order", "seats"] m_must) (c_number_of : Cal P w K mg base "number_of" 5 ["night", "seats"] m_number_of) (c_seating : Cal P w K mg base "seating" 4 ["night", "seats"] m_seating) (c_law_kinds : Ask P w K mg base "_law_kinds" lamJ (lamJ + 2) m_law_kinds) : FnOk P w K mg base (L2.CX P w) 8 f fd ["_law_night", "_law_far"] (spF mg m_law_seatings_right) := by
  have sc := sc_law_seatings_right
  refine FunC.okF (k := 7) (fs := b_law_seatings_right) F sc rfl rfl (fun A outer s H E hr => ?_)
  have hu5 : (A.deeper (envOfC "_law_seatings_right" (defScope s_law_seatings_right) s.heap.objs.size f (.ref cA))).units + 65 < cLine := by
    have := hr.un
    omega
  exact ⟨_, (pss_cons (ps_set (i := 2) sc.nd rfl (Or.inl rfl) (pe_lst (pa_cons pe_non (pa_cons pe_int (pa_cons pe_str (pa_cons (pe_tup (pa_cons pe_int (pa_cons pe_int (pa_cons pe_int pa_nil)))) (pa_cons pe_dnewT (pa_cons (pe_lst pa_nil) (pa_cons (pe_lst (pa_cons pe_int (pa_cons pe_int pa_nil))) (pa_cons (pe_lst (pa_cons pe_int (pa_cons pe_int (pa_cons pe_int (pa_cons pe_int pa_nil))))) (pa_cons (pe_lst (pa_cons pe_int (pa_cons pe_int (pa_cons pe_int pa_nil)))) (pa_cons (pe_lst (pa_cons pe_int (pa_cons pe_int (pa_cons pe_int pa_nil)))) (pa_cons (pe_lst (pa_cons pe_int (pa_cons pe_int (pa_cons (pe_op op_addA pe_int (pv 1)) pa_nil)))) pa_nil)))))))))))))
      (pss_cons (ps_for (passes_of rfl) rfl (pi_seq (pe_cal c_law_strange (hr.mono (by decide)) rfl passD (pa_cons (pv 1) pa_nil))) (pg_name (i := 3) sc.nd rfl (Or.inl rfl))
      (pss_one (ps_expr (pe_bm PySem.F.plainAttrs_list PySem.F.slot_list_append PySem.F.type_list_append mt_append (pv 2) (pa_cons (pe_lst (pa_cons pe_int (pa_cons (pv 3) (pa_cons pe_int pa_nil)))) pa_nil)))))
      (pss_cons (ps_for (passes_of rfl) rfl (pi_seq (pv 2)) (pg_name (i := 4) sc.nd rfl (Or.inr rfl))
      (pss_cons (ps_for (passes_of rfl) rfl (pi_seq (pe_tup (pa_cons (pe_fn c_seating rfl) (pa_cons (pe_fn c_judged rfl) (pa_cons (pe_fn c_number_of rfl) pa_nil))))) (pg_name (i := 5) sc.nd rfl (Or.inr rfl))
      (pss_one (ps_if (pt_cmpR (op_neD hr.units) (pe_lamc (j := lamJ) (k := lamJ + 2) c_law_kinds (hr.mono (by decide)) rfl passD tb rfl rfl hmT hu (LamX.lamS_by (sc := defScope s_law_seatings_right) (by decide +kernel)) (fun A2 outer2 s2 H2 E2 f2 c2 hr px2 => (pe_callv (i := 5) ((CalTab.cons c_seating kd_seating (by decide) (CalTab.cons c_judged kd_judged (by decide) (CalTab.cons c_number_of kd_number_of (by decide) CalTab.nil))) : CalTab P w K mg base lamJ [("seating", m_seating), ("judged", m_judged), ("number_of", m_number_of)]) (hr.mono (by decide)) rfl (.inr (.inr rfl)) px2 (pa_cons (pv 0) (pa_cons (pv 4) pa_nil))))) (pe_cal c_law_due_of (hr.mono (by decide)) rfl passD (pa_cons pe_int pa_nil)) (nomark _)) (pss_one (ps_ret pe_bl)) pss_nil)))
      (pss_one (ps_if (pt_cmpR (op_neD hr.units) (pe_lamc (j := lamJ) (k := lamJ + 2) c_law_kinds (hr.mono (by decide)) rfl passD tb rfl rfl hmT hu (LamX.lamS_by (sc := defScope s_law_seatings_right) (by decide +kernel)) (fun A2 outer2 s2 H2 E2 f2 c2 hr px2 => (pe_cal c_must (hr.mono (by decide)) rfl px2 (pa_cons (pe_lst (pa_cons pe_int (pa_cons pe_int (pa_cons pe_int pa_nil)))) (pa_cons (pv 4) pa_nil))))) (pe_cal c_law_due_of (hr.mono (by decide)) rfl passD (pa_cons pe_int pa_nil)) (nomark _)) (pss_one (ps_ret pe_bl)) pss_nil))))
      (pss_one (ps_ret pe_bl))))),
    (s_seq (s_asg (se_lstF (sa_cons (se_c rfl rfl) (sa_cons (se_c rfl rfl) (sa_cons (se_c rfl rfl) (sa_cons (se_tup (sa_cons (se_c rfl rfl) (sa_cons (se_c rfl rfl) (sa_cons (se_c rfl rfl) sa_nil))) (fanS (fanS (fanS fan0))) (by decide)) (sa_cons se_dnewT (sa_cons (se_lst sa_nil fan0 (by decide)) (sa_cons (se_lst (sa_cons (se_c rfl rfl) (sa_cons (se_c rfl rfl) sa_nil)) (fanS (fanS fan0)) (by decide)) (sa_cons (se_lst (sa_cons (se_c rfl rfl) (sa_cons (se_c rfl rfl) (sa_cons (se_c rfl rfl) (sa_cons (se_c rfl rfl) sa_nil)))) (fanS (fanS (fanS (fanS fan0)))) (by decide)) (sa_cons (se_lst (sa_cons (se_c rfl rfl) (sa_cons (se_c rfl rfl) (sa_cons (se_c rfl rfl) sa_nil))) (fanS (fanS (fanS fan0))) (by decide)) (sa_cons (se_lst (sa_cons (se_c rfl rfl) (sa_cons (se_c rfl rfl) (sa_cons (se_c rfl rfl) sa_nil))) (fanS (fanS (fanS fan0))) (by decide)) (sa_cons (se_lst (sa_cons (se_c rfl rfl) (sa_cons (se_c rfl rfl) (sa_cons (se_add (se_c rfl rfl) (se_var 1)) sa_nil))) (fanS (fanS (fanS fan0))) (by decide)) sa_nil)))))))))))) (sg_n 2) (gn_er 2))
      (s_seq (s_wipe [3] (s_for (si_items (se_call kd_law_strange (sa_cons (se_var 1) sa_nil))) (sg_w [3] (sg_n 3)) (gw_er [3] (gn_er 3))
      (s_frz (i := 3) (s_mut rm_append (sp_s 2) (sa_cons (se_lst (sa_cons (se_c rfl rfl) (sa_cons (se_var 3) (sa_cons (se_c rfl rfl) sa_nil))) (fanS (fanS (fanS fan0))) (by decide)) sa_nil)))))
      (s_seq (s_frz (i := 2) (s_wipe [4, 5] (s_for (si_items (se_var 2)) (sg_w [4, 5] (sg_n 4)) (gw_er [4, 5] (gn_er 4))
      (s_seq (s_wipe [5] (s_for (si_items (se_tup (sa_cons (se_fn c_seating) (sa_cons (se_fn c_judged) (sa_cons (se_fn c_number_of) sa_nil))) (fanS (fanS (fanS fan0))) (by decide))) (sg_w [5] (sg_n 5)) (gw_er [5] (gn_er 5))
      (s_if (st_test (se_op2 (se_lamc kd_law_kinds (fun E2 => (se_callv ((CalTab.cons c_seating kd_seating (by decide) (CalTab.cons c_judged kd_judged (by decide) (CalTab.cons c_number_of kd_number_of (by decide) CalTab.nil))) : CalTab P w K mg base lamJ [("seating", m_seating), ("judged", m_judged), ("number_of", m_number_of)]) (sa_cons (se_var 0) (sa_cons (se_var 4) sa_nil))))) (se_call kd_law_due_of (sa_cons (se_c rfl rfl) sa_nil)) ri_ne)) (s_ret (se_c rfl rfl)) s_next)))
      (s_if (st_test (se_op2 (se_lamc kd_law_kinds (fun E2 => (se_call kd_must (sa_cons (se_lst (sa_cons (se_c rfl rfl) (sa_cons (se_c rfl rfl) (sa_cons (se_c rfl rfl) sa_nil))) (fanS (fanS (fanS fan0))) (by decide)) (sa_cons (se_var 4) sa_nil))))) (se_call kd_law_due_of (sa_cons (se_c rfl rfl) sa_nil)) ri_ne)) (s_ret (se_c rfl rfl)) s_next)))))
      (s_ret (se_c rfl rfl)))))⟩
abbrev N_law_pairs_right : List Str := ["_law_night", "_law_far", "_law_bad", "_law_one", "_law_some"]
theorem sc_law_pairs_right : FnScope N_law_pairs_right ["_law_night", "_law_far"] (defScope s_law_pairs_right) := ⟨rfl, rfl, rfl, by decide +kernel, rfl, by decide +kernel, by decide +kernel⟩
theorem ok_law_pairs_right {f : Addr} {fd : FuncData} {cA PA : Addr} (F : FunC K "_law_pairs_right" "_law_pairs_right" s_law_pairs_right f fd cA) (T : Fx K mg) (tb : LamX.TabB base mg cA PA) (hmT : (PA, ("_law_pairs_right.<locals>.<lambda>" : Str)) ∈ TabI.ts) (hu : ∀ p ∈ TabI.ts, p.1 = PA → p.2 = ("_law_pairs_right.<locals>.<lambda>" : Str)) (c_law_due_of : Cal P w K mg base "_law_due_of" 1 ["_law_at"] m_law_due_of) (c_law_strange : Cal P w K mg base "_law_strange" 1 ["_law_far"] m_law_strange) (c_together : Cal P w K mg base "together" 4 ["night", "pairs"] m_together) (c_law_kinds : Ask P w K mg base "_law_kinds" lamJ (lamJ + 2) m_law_kinds) : FnOk P w K mg base (L2.CX P w) 8 f fd ["_law_night", "_law_far"] (spF mg m_law_pairs_right) := by
  have sc := sc_law_pairs_right
  refine FunC.okF (k := 7) (fs := b_law_pairs_right) F sc rfl rfl (fun A outer s H E hr => ?_)
  have hu5 : (A.deeper (envOfC "_law_pairs_right" (defScope s_law_pairs_right) s.heap.objs.size f (.ref cA))).units + 65 < cLine := by
    have := hr.un
    omega
  exact ⟨_, (pss_cons (ps_set (i := 2) sc.nd rfl (Or.inl rfl) (pe_lst (pa_cons pe_non (pa_cons pe_int (pa_cons pe_str (pa_cons (pe_tup pa_nil) (pa_cons (pe_tup (pa_cons (pe_tup (pa_cons pe_int (pa_cons pe_int pa_nil))) pa_nil)) (pa_cons pe_dnewT (pa_cons (pe_lst (pa_cons pe_non pa_nil)) (pa_cons (pe_lst (pa_cons (pe_tup pa_nil) pa_nil)) (pa_cons (pe_lst (pa_cons (pe_lst (pa_cons pe_int (pa_cons pe_int pa_nil))) pa_nil)) (pa_cons (pe_lst (pa_cons (pe_tup (pa_cons pe_int pa_nil)) pa_nil)) (pa_cons (pe_lst (pa_cons (pe_tup (pa_cons pe_int (pa_cons pe_int (pa_cons pe_int pa_nil)))) pa_nil)) (pa_cons (pe_lst (pa_cons (pe_tup (pa_cons pe_int (pa_cons pe_int pa_nil))) (pa_cons (pe_tup (pa_cons pe_int (pa_cons pe_int pa_nil))) pa_nil))) pa_nil))))))))))))))
      (pss_cons (ps_expr (pe_bm PySem.F.plainAttrs_list PySem.F.slot_list_append PySem.F.type_list_append mt_append (pv 2) (pa_cons (pe_lst (pa_cons (pe_tup (pa_cons pe_int (pa_cons pe_int pa_nil))) (pa_cons (pe_tup (pa_cons pe_int (pa_cons pe_int pa_nil))) pa_nil))) pa_nil)))
      (pss_cons (ps_for (passes_of rfl) rfl (pi_seq (pe_op op_addA (pe_cal c_law_strange (hr.mono (by decide)) rfl passD (pa_cons (pv 1) pa_nil)) (pe_lst (pa_cons pe_int (pa_cons (pe_op op_addA pe_int (pv 1)) pa_nil))))) (pg_name (i := 3) sc.nd rfl (Or.inl rfl))
      (pss_one (ps_set (i := 2) sc.nd rfl (Or.inl rfl) (pe_op op_addA (pv 2) (pe_lst (pa_cons (pe_lst (pa_cons (pe_tup (pa_cons (pv 3) (pa_cons pe_int pa_nil))) pa_nil)) (pa_cons (pe_lst (pa_cons (pe_tup (pa_cons pe_int (pa_cons pe_int pa_nil))) (pa_cons (pe_tup (pa_cons (pv 3) (pa_cons pe_int pa_nil))) pa_nil))) (pa_cons (pe_lst (pa_cons (pe_tup (pa_cons pe_int (pa_cons (pv 3) pa_nil))) pa_nil)) (pa_cons (pe_lst (pa_cons (pe_tup (pa_cons pe_int (pa_cons pe_int pa_nil))) (pa_cons (pe_tup (pa_cons pe_int (pa_cons (pv 3) pa_nil))) pa_nil))) pa_nil)))))))))
      (pss_one (ps_ret (pe_callB (cr_all rfl) rfl T.b_all bt_all (pa_cons (pe_lc (own := [("_law_some", 4)]) rfl sc.nd (pi_seq (pv 2)) (blkOk_by (N := N_law_pairs_right) (sc := defScope s_law_pairs_right) (by decide +kernel)) (fun _ _ _ _ _ => (pg_name (i := 4) sc.nd rfl (Or.inr rfl))) (fun _ _ _ _ _ => pts_nil) (fun _ _ _ _ _ => (pe_cmpR (op_eqD hr.units) (pe_lamc (j := lamJ) (k := lamJ + 2) c_law_kinds (hr.mono (by decide)) rfl passL tb rfl rfl hmT hu (LamX.lamS_by (by kernel_rfl)) (fun A2 outer2 s2 H2 E2 f2 c2 hr px2 => (pe_cal c_together (hr.mono (by decide)) rfl px2 (pa_cons (pv 0) (pa_cons (pv 4) pa_nil))))) (pe_cal c_law_due_of (hr.mono (by decide)) rfl passL (pa_cons pe_int pa_nil)) (nomark _)))) pa_nil))))))),
    (s_seq (s_asg (se_lstF (sa_cons (se_c rfl rfl) (sa_cons (se_c rfl rfl) (sa_cons (se_c rfl rfl) (sa_cons (se_tup sa_nil fan0 (by decide)) (sa_cons (se_tup (sa_cons (se_tup (sa_cons (se_c rfl rfl) (sa_cons (se_c rfl rfl) sa_nil)) (fanS (fanS fan0)) (by decide)) sa_nil) (fanS fan0) (by decide)) (sa_cons se_dnewT (sa_cons (se_lst (sa_cons (se_c rfl rfl) sa_nil) (fanS fan0) (by decide)) (sa_cons (se_lstF (sa_cons (se_tup sa_nil fan0 (by decide)) sa_nil)) (sa_cons (se_lstF (sa_cons (se_lst (sa_cons (se_c rfl rfl) (sa_cons (se_c rfl rfl) sa_nil)) (fanS (fanS fan0)) (by decide)) sa_nil)) (sa_cons (se_lstF (sa_cons (se_tup (sa_cons (se_c rfl rfl) sa_nil) (fanS fan0) (by decide)) sa_nil)) (sa_cons (se_lstF (sa_cons (se_tup (sa_cons (se_c rfl rfl) (sa_cons (se_c rfl rfl) (sa_cons (se_c rfl rfl) sa_nil))) (fanS (fanS (fanS fan0))) (by decide)) sa_nil)) (sa_cons (se_lstF (sa_cons (se_tup (sa_cons (se_c rfl rfl) (sa_cons (se_c rfl rfl) sa_nil)) (fanS (fanS fan0)) (by decide)) (sa_cons (se_tup (sa_cons (se_c rfl rfl) (sa_cons (se_c rfl rfl) sa_nil)) (fanS (fanS fan0)) (by decide)) sa_nil))) sa_nil))))))))))))) (sg_n 2) (gn_er 2))
      (s_seq (s_mut rm_append (sp_s 2) (sa_cons (se_lstF (sa_cons (se_tup (sa_cons (se_c rfl rfl) (sa_cons (se_c rfl rfl) sa_nil)) (fanS (fanS fan0)) (by decide)) (sa_cons (se_tup (sa_cons (se_c rfl rfl) (sa_cons (se_c rfl rfl) sa_nil)) (fanS (fanS fan0)) (by decide)) sa_nil))) sa_nil))
      (s_seq (s_frz (i := 1) (s_wipe [3] (s_for (si_items (se_add (se_call kd_law_strange (sa_cons (se_var 1) sa_nil)) (se_lst (sa_cons (se_c rfl rfl) (sa_cons (se_add (se_c rfl rfl) (se_var 1)) sa_nil)) (fanS (fanS fan0)) (by decide)))) (sg_w [3] (sg_n 3)) (gw_er [3] (gn_er 3))
      (s_frz (i := 3) (s_frz (i := 2) (s_asg (se_add (se_var 2) (se_lstF (sa_cons (se_lstF (sa_cons (se_tup (sa_cons (se_var 3) (sa_cons (se_c rfl rfl) sa_nil)) (fanS (fanS fan0)) (by decide)) sa_nil)) (sa_cons (se_lstF (sa_cons (se_tup (sa_cons (se_c rfl rfl) (sa_cons (se_c rfl rfl) sa_nil)) (fanS (fanS fan0)) (by decide)) (sa_cons (se_tup (sa_cons (se_var 3) (sa_cons (se_c rfl rfl) sa_nil)) (fanS (fanS fan0)) (by decide)) sa_nil))) (sa_cons (se_lstF (sa_cons (se_tup (sa_cons (se_c rfl rfl) (sa_cons (se_var 3) sa_nil)) (fanS (fanS fan0)) (by decide)) sa_nil)) (sa_cons (se_lstF (sa_cons (se_tup (sa_cons (se_c rfl rfl) (sa_cons (se_c rfl rfl) sa_nil)) (fanS (fanS fan0)) (by decide)) (sa_cons (se_tup (sa_cons (se_c rfl rfl) (sa_cons (se_var 3) sa_nil)) (fanS (fanS fan0)) (by decide)) sa_nil))) sa_nil)))))) (sg_n 2) (gn_er 2)))))))
      (s_frz (i := 2) (s_ret (se_I (sa_cons (se_lc (si_items (se_var 2)) (sg_n 4) (fun _ h => h) st_yes (se_op2 (se_lamc kd_law_kinds (fun E2 => (se_call kd_together (sa_cons (se_var 0) (sa_cons (se_var 4) sa_nil))))) (se_call kd_law_due_of (sa_cons (se_c rfl rfl) sa_nil)) ri_eq) (gn_er 4)) sa_nil) ri_all))))))⟩
abbrev N_law_right : List Str := ["_law_far", "_law_night", "_law_bad", "_law_ask", "_law_some", "_law_seven", "_law_one"]
theorem sc_law_right : FnScope N_law_right ["_law_far"] (defScope s_law_right) := ⟨rfl, rfl, rfl, by decide +kernel, rfl, by decide +kernel, by decide +kernel⟩
theorem ok_law_right {f : Addr} {fd : FuncData} {cA PA : Addr} (F : FunC K "_law_right" "_law_right" s_law_right f fd cA) (T : Fx K mg) (tb : LamX.TabB base mg cA PA) (hmT : (PA, ("_law_right.<locals>.<lambda>" : Str)) ∈ TabI.ts) (hu : ∀ p ∈ TabI.ts, p.1 = PA → p.2 = ("_law_right.<locals>.<lambda>" : Str)) (c_Door_init : KCal P w K mg base "Door" 4 ["self", "night"] m_Door_init) (c_Door_come : MCal P w K mg base "Door" "come" 3 ["self", "seat"] m_Door_come) (c_law_due_of : Cal P w K mg base "_law_due_of" 1 ["_law_at"] m_law_due_of) (c_law_pairs_right : Cal P w K mg base "_law_pairs_right" 8 ["_law_night", "_law_far"] m_law_pairs_right) (c_law_seatings_right : Cal P w K mg base "_law_seatings_right" 8 ["_law_night", "_law_far"] m_law_seatings_right) (c_law_strange : Cal P w K mg base "_law_strange" 1 ["_law_far"] m_law_strange) (c_free_share : Cal P w K mg base "free_share" 4 ["night", "turn", "seats"] m_free_share) (c_how_many : Cal P w K mg base "how_many" 5 ["night"] m_how_many) (c_number_of : Cal P w K mg base "number_of" 5 ["night", "seats"] m_number_of) (c_seating_by : Cal P w K mg base "seating_by" 5 ["night", "number"] m_seating_by) (c_share : Cal P w K mg base "share" 5 ["night", "guest", "seat"] m_share) (c_share_back : Cal P w K mg base "share_back" 5 ["night", "guest", "seat"] m_share_back) (c_law_kinds : Ask P w K mg base "_law_kinds" lamJ (lamJ + 2) m_law_kinds) : FnOk P w K mg base (L2.CX P w) 9 f fd ["_law_far"] (spF mg m_law_right) := by
  have sc := sc_law_right
  refine FunC.okF (k := 8) (fs := b_law_right) F sc rfl rfl (fun A outer s H E hr => ?_)
  have hu5 : (A.deeper (envOfC "_law_right" (defScope s_law_right) s.heap.objs.size f (.ref cA))).units + 65 < cLine := by
    have := hr.un
    omega
  exact ⟨_, (pss_cons (ps_set (i := 1) sc.nd rfl (Or.inr rfl) (pe_tup (pa_cons (pe_lst (pa_cons pe_int (pa_cons pe_int (pa_cons pe_int pa_nil)))) (pa_cons (pe_lst (pa_cons pe_int pa_nil)) pa_nil))))
      (pss_cons (ps_for (passes_of rfl) rfl (pi_seq (pe_op op_addA (pe_cal c_law_strange (hr.mono (by decide)) rfl passD (pa_cons (pv 0) pa_nil)) (pe_lst (pa_cons pe_int (pa_cons (pe_op op_addA pe_int (pv 0)) pa_nil))))) (pg_name (i := 2) sc.nd rfl (Or.inr rfl))
      (pss_cons (ps_for (passes_of rfl) rfl (pi_seq (pe_tup (pa_cons (pe_fn c_share rfl) (pa_cons (pe_fn c_share_back rfl) pa_nil)))) (pg_name (i := 3) sc.nd rfl (Or.inr rfl))
      (pss_cons (ps_if (pt_cmpR (op_neD hr.units) (pe_lamc (j := lamJ) (k := lamJ + 2) c_law_kinds (hr.mono (by decide)) rfl passD tb rfl rfl hmT hu (LamX.lamS_by (sc := defScope s_law_right) (by decide +kernel)) (fun A2 outer2 s2 H2 E2 f2 c2 hr px2 => (pe_callv (i := 3) ((CalTab.cons c_share kd_share (by decide) (CalTab.cons c_share_back kd_share_back (by decide) CalTab.nil)) : CalTab P w K mg base lamJ [("share", m_share), ("share_back", m_share_back)]) (hr.mono (by decide)) rfl (.inr (.inr rfl)) px2 (pa_cons (pv 1) (pa_cons (pv 2) (pa_cons pe_non pa_nil)))))) (pe_cal c_law_due_of (hr.mono (by decide)) rfl passD (pa_cons pe_int pa_nil)) (nomark _)) (pss_one (ps_ret pe_bl)) pss_nil)
      (pss_one (ps_if (pt_cmpR (op_neD hr.units) (pe_lamc (j := lamJ) (k := lamJ + 2) c_law_kinds (hr.mono (by decide)) rfl passD tb rfl rfl hmT hu (LamX.lamS_by (sc := defScope s_law_right) (by decide +kernel)) (fun A2 outer2 s2 H2 E2 f2 c2 hr px2 => (pe_callv (i := 3) ((CalTab.cons c_share kd_share (by decide) (CalTab.cons c_share_back kd_share_back (by decide) CalTab.nil)) : CalTab P w K mg base lamJ [("share", m_share), ("share_back", m_share_back)]) (hr.mono (by decide)) rfl (.inr (.inr rfl)) px2 (pa_cons (pv 1) (pa_cons pe_int (pa_cons (pv 2) pa_nil)))))) (pe_cal c_law_due_of (hr.mono (by decide)) rfl passD (pa_cons pe_int pa_nil)) (nomark _)) (pss_one (ps_ret pe_bl)) pss_nil))))
      (pss_one (ps_if (pt_cmpR (op_neD hr.units) (pe_lamc (j := lamJ) (k := lamJ + 2) c_law_kinds (hr.mono (by decide)) rfl passD tb rfl rfl hmT hu (LamX.lamS_by (sc := defScope s_law_right) (by decide +kernel)) (fun A2 outer2 s2 H2 E2 f2 c2 hr px2 => (pe_mcal c_Door_come (hr.mono (by decide)) px2 (pe_kcal c_Door_init (hr.mono (by decide)) rfl px2 (pa_cons (pv 1) pa_nil)) (pa_cons (pv 2) pa_nil)))) (pe_cal c_law_due_of (hr.mono (by decide)) rfl passD (pa_cons pe_int pa_nil)) (nomark _)) (pss_one (ps_ret pe_bl)) pss_nil))))
      (pss_cons (ps_for (passes_of rfl) rfl (pi_seq (pe_op op_addA (pe_cal c_law_strange (hr.mono (by decide)) rfl passD (pa_cons (pv 0) pa_nil)) (pe_lst (pa_cons pe_int (pa_cons (pe_op op_addA pe_int (pv 0)) pa_nil))))) (pg_name (i := 2) sc.nd rfl (Or.inr rfl))
      (pss_one (ps_if (pt_cmpR (op_neD hr.units) (pe_lamc (j := lamJ) (k := lamJ + 2) c_law_kinds (hr.mono (by decide)) rfl passD tb rfl rfl hmT hu (LamX.lamS_by (sc := defScope s_law_right) (by decide +kernel)) (fun A2 outer2 s2 H2 E2 f2 c2 hr px2 => (pe_cal c_free_share (hr.mono (by decide)) rfl px2 (pa_cons (pv 1) (pa_cons (pv 2) (pa_cons pe_non pa_nil)))))) (pe_cal c_law_due_of (hr.mono (by decide)) rfl passD (pa_cons pe_int pa_nil)) (nomark _)) (pss_one (ps_ret pe_bl)) pss_nil)))
      (pss_cons (ps_set (i := 4) sc.nd rfl (Or.inl rfl) (pe_op op_addA (pe_lst (pa_cons pe_non (pa_cons pe_int (pa_cons pe_str (pa_cons (pe_tup (pa_cons pe_int pa_nil)) (pa_cons pe_dnewT (pa_cons (pe_lst (pa_cons pe_int (pa_cons pe_int pa_nil))) (pa_cons (pe_lst (pa_cons pe_int (pa_cons pe_int pa_nil))) (pa_cons (pe_lst (pa_cons pe_int pa_nil)) (pa_cons (pe_lst (pa_cons pe_int (pa_cons (pe_op op_addA pe_int (pv 0)) pa_nil))) pa_nil)))))))))) (pe_lc (own := [("_law_one", 6)]) rfl sc.nd (pi_seq (pe_cal c_law_strange (hr.mono (by decide)) rfl passD (pa_cons (pv 0) pa_nil))) (blkOk_by (N := N_law_right) (sc := defScope s_law_right) (by decide +kernel)) (fun _ _ _ _ _ => (pg_name (i := 6) sc.nd rfl (Or.inl rfl))) (fun _ _ _ _ _ => pts_nil) (fun _ _ _ _ _ => (pe_lst (pa_cons (pv 6) pa_nil))))))
      (pss_cons (ps_for (passes_of rfl) rfl (pi_seq (pv 4)) (pg_name (i := 2) sc.nd rfl (Or.inr rfl))
      (pss_one (ps_if (pt_cmpR (op_neD hr.units) (pe_lamc (j := lamJ) (k := lamJ + 2) c_law_kinds (hr.mono (by decide)) rfl passD tb rfl rfl hmT hu (LamX.lamS_by (sc := defScope s_law_right) (by decide +kernel)) (fun A2 outer2 s2 H2 E2 f2 c2 hr px2 => (pe_cal c_free_share (hr.mono (by decide)) rfl px2 (pa_cons (pv 1) (pa_cons pe_int (pa_cons (pv 2) pa_nil)))))) (pe_cal c_law_due_of (hr.mono (by decide)) rfl passD (pa_cons pe_int pa_nil)) (nomark _)) (pss_one (ps_ret pe_bl)) pss_nil)))
      (pss_cons (ps_for (passes_of rfl) rfl (pi_seq (pe_op op_addA (pe_cal c_law_strange (hr.mono (by decide)) rfl passD (pa_cons (pv 0) pa_nil)) (pe_lst (pa_cons pe_int (pa_cons (pe_op op_addA pe_int (pv 0)) pa_nil))))) (pg_name (i := 2) sc.nd rfl (Or.inr rfl))
      (pss_one (ps_if (pt_cmpR (op_neD hr.units) (pe_lamc (j := lamJ) (k := lamJ + 2) c_law_kinds (hr.mono (by decide)) rfl passD tb rfl rfl hmT hu (LamX.lamS_by (sc := defScope s_law_right) (by decide +kernel)) (fun A2 outer2 s2 H2 E2 f2 c2 hr px2 => (pe_cal c_seating_by (hr.mono (by decide)) rfl px2 (pa_cons (pv 1) (pa_cons (pv 2) pa_nil))))) (pe_cal c_law_due_of (hr.mono (by decide)) rfl passD (pa_cons pe_int pa_nil)) (nomark _)) (pss_one (ps_ret pe_bl)) pss_nil)))
      (pss_cons (ps_if (pt_not (pt_val (pe_cal c_law_pairs_right (hr.mono (by decide)) rfl passD (pa_cons (pv 1) (pa_cons (pv 0) pa_nil))))) (pss_one (ps_ret pe_bl)) pss_nil)
      (pss_cons (ps_if (pt_cmpR (op_neD hr.units) (pe_lamc (j := lamJ) (k := lamJ + 2) c_law_kinds (hr.mono (by decide)) rfl passD tb rfl rfl hmT hu (LamX.lamS_by (sc := defScope s_law_right) (by decide +kernel)) (fun A2 outer2 s2 H2 E2 f2 c2 hr px2 => (pe_cal c_number_of (hr.mono (by decide)) rfl px2 (pa_cons (pv 1) (pa_cons (pe_lst (pa_cons pe_int (pa_cons pe_int (pa_cons pe_int pa_nil)))) pa_nil))))) (pe_cal c_law_due_of (hr.mono (by decide)) rfl passD (pa_cons pe_int pa_nil)) (nomark _)) (pss_one (ps_ret pe_bl)) pss_nil)
      (pss_cons (ps_set (i := 5) sc.nd rfl (Or.inr rfl) (pe_tup (pa_cons (pe_lst (pa_cons pe_int (pa_cons pe_int (pa_cons pe_int (pa_cons pe_int (pa_cons pe_int (pa_cons pe_int (pa_cons pe_int pa_nil)))))))) (pa_cons (pe_lst (pa_cons pe_int pa_nil)) pa_nil))))
      (pss_cons (ps_if (pt_cmpR (op_neD hr.units) (pe_lamc (j := lamJ) (k := lamJ + 2) c_law_kinds (hr.mono (by decide)) rfl passD tb rfl rfl hmT hu (LamX.lamS_by (sc := defScope s_law_right) (by decide +kernel)) (fun A2 outer2 s2 H2 E2 f2 c2 hr px2 => (pe_cal c_how_many (hr.mono (by decide)) rfl px2 (pa_cons (pv 5) pa_nil)))) (pe_cal c_law_due_of (hr.mono (by decide)) rfl passD (pa_cons pe_int pa_nil)) (nomark _)) (pss_one (ps_ret pe_bl)) pss_nil)
      (pss_cons (ps_if (pt_cmpR (op_neD hr.units) (pe_lamc (j := lamJ) (k := lamJ + 2) c_law_kinds (hr.mono (by decide)) rfl passD tb rfl rfl hmT hu (LamX.lamS_by (sc := defScope s_law_right) (by decide +kernel)) (fun A2 outer2 s2 H2 E2 f2 c2 hr px2 => (pe_cal c_seating_by (hr.mono (by decide)) rfl px2 (pa_cons (pv 5) (pa_cons pe_non pa_nil))))) (pe_cal c_law_due_of (hr.mono (by decide)) rfl passD (pa_cons pe_int pa_nil)) (nomark _)) (pss_one (ps_ret pe_bl)) pss_nil)
      (pss_one (ps_ret (pe_and (pe_cmpR (op_eqD hr.units) (pe_lamc (j := lamJ) (k := lamJ + 2) c_law_kinds (hr.mono (by decide)) rfl passD tb rfl rfl hmT hu (LamX.lamS_by (sc := defScope s_law_right) (by decide +kernel)) (fun A2 outer2 s2 H2 E2 f2 c2 hr px2 => (pe_cal c_number_of (hr.mono (by decide)) rfl px2 (pa_cons (pv 5) (pa_cons pe_non pa_nil))))) (pe_cal c_law_due_of (hr.mono (by decide)) rfl passD (pa_cons pe_int pa_nil)) (nomark _)) (pe_one (pe_cal c_law_seatings_right (hr.mono (by decide)) rfl passD (pa_cons (pv 1) (pa_cons (pv 0) pa_nil)))))))))))))))))),
    (s_seq (s_asg (se_tup (sa_cons (se_lst (sa_cons (se_c rfl rfl) (sa_cons (se_c rfl rfl) (sa_cons (se_c rfl rfl) sa_nil))) (fanS (fanS (fanS fan0))) (by decide)) (sa_cons (se_lst (sa_cons (se_c rfl rfl) sa_nil) (fanS fan0) (by decide)) sa_nil)) (fanS (fanS fan0)) (by decide)) (sg_n 1) (gn_er 1))
      (s_seq (s_frz (i := 0) (s_wipe [2, 3] (s_for (si_items (se_add (se_call kd_law_strange (sa_cons (se_var 0) sa_nil)) (se_lst (sa_cons (se_c rfl rfl) (sa_cons (se_add (se_c rfl rfl) (se_var 0)) sa_nil)) (fanS (fanS fan0)) (by decide)))) (sg_w [2, 3] (sg_n 2)) (gw_er [2, 3] (gn_er 2))
      (s_seq (s_wipe [3] (s_for (si_items (se_tup (sa_cons (se_fn c_share) (sa_cons (se_fn c_share_back) sa_nil)) (fanS (fanS fan0)) (by decide))) (sg_w [3] (sg_n 3)) (gw_er [3] (gn_er 3))
      (s_seq (s_if (st_test (se_op2 (se_lamc kd_law_kinds (fun E2 => (se_callv ((CalTab.cons c_share kd_share (by decide) (CalTab.cons c_share_back kd_share_back (by decide) CalTab.nil)) : CalTab P w K mg base lamJ [("share", m_share), ("share_back", m_share_back)]) (sa_cons (se_var 1) (sa_cons (se_var 2) (sa_cons (se_c rfl rfl) sa_nil)))))) (se_call kd_law_due_of (sa_cons (se_c rfl rfl) sa_nil)) ri_ne)) (s_ret (se_c rfl rfl)) s_next)
      (s_if (st_test (se_op2 (se_lamc kd_law_kinds (fun E2 => (se_callv ((CalTab.cons c_share kd_share (by decide) (CalTab.cons c_share_back kd_share_back (by decide) CalTab.nil)) : CalTab P w K mg base lamJ [("share", m_share), ("share_back", m_share_back)]) (sa_cons (se_var 1) (sa_cons (se_c rfl rfl) (sa_cons (se_var 2) sa_nil)))))) (se_call kd_law_due_of (sa_cons (se_c rfl rfl) sa_nil)) ri_ne)) (s_ret (se_c rfl rfl)) s_next))))
      (s_if (st_test (se_op2 (se_lamc kd_law_kinds (fun E2 => (se_mcal c_Door_come kd_Door_come (se_kcal c_Door_init (sa_cons (se_var 1) sa_nil)) (sa_cons (se_var 2) sa_nil)))) (se_call kd_law_due_of (sa_cons (se_c rfl rfl) sa_nil)) ri_ne)) (s_ret (se_c rfl rfl)) s_next)))))
      (s_seq (s_frz (i := 0) (s_wipe [2] (s_for (si_items (se_add (se_call kd_law_strange (sa_cons (se_var 0) sa_nil)) (se_lst (sa_cons (se_c rfl rfl) (sa_cons (se_add (se_c rfl rfl) (se_var 0)) sa_nil)) (fanS (fanS fan0)) (by decide)))) (sg_w [2] (sg_n 2)) (gw_er [2] (gn_er 2))
      (s_if (st_test (se_op2 (se_lamc kd_law_kinds (fun E2 => (se_call kd_free_share (sa_cons (se_var 1) (sa_cons (se_var 2) (sa_cons (se_c rfl rfl) sa_nil)))))) (se_call kd_law_due_of (sa_cons (se_c rfl rfl) sa_nil)) ri_ne)) (s_ret (se_c rfl rfl)) s_next))))
      (s_seq (s_frz (i := 0) (s_asg (se_add (se_lstF (sa_cons (se_c rfl rfl) (sa_cons (se_c rfl rfl) (sa_cons (se_c rfl rfl) (sa_cons (se_tup (sa_cons (se_c rfl rfl) sa_nil) (fanS fan0) (by decide)) (sa_cons se_dnewT (sa_cons (se_lst (sa_cons (se_c rfl rfl) (sa_cons (se_c rfl rfl) sa_nil)) (fanS (fanS fan0)) (by decide)) (sa_cons (se_lst (sa_cons (se_c rfl rfl) (sa_cons (se_c rfl rfl) sa_nil)) (fanS (fanS fan0)) (by decide)) (sa_cons (se_lst (sa_cons (se_c rfl rfl) sa_nil) (fanS fan0) (by decide)) (sa_cons (se_lst (sa_cons (se_c rfl rfl) (sa_cons (se_add (se_c rfl rfl) (se_var 0)) sa_nil)) (fanS (fanS fan0)) (by decide)) sa_nil)))))))))) (se_lc (si_items (se_call kd_law_strange (sa_cons (se_var 0) sa_nil))) (sg_n 6) (fun _ h => h) st_yes (se_lst (sa_cons (se_var 6) sa_nil) (fanS fan0) (by decide)) (gn_er 6))) (sg_n 4) (gn_er 4)))
      (s_seq (s_frz (i := 4) (s_wipe [2] (s_for (si_items (se_var 4)) (sg_w [2] (sg_n 2)) (gw_er [2] (gn_er 2))
      (s_if (st_test (se_op2 (se_lamc kd_law_kinds (fun E2 => (se_call kd_free_share (sa_cons (se_var 1) (sa_cons (se_c rfl rfl) (sa_cons (se_var 2) sa_nil)))))) (se_call kd_law_due_of (sa_cons (se_c rfl rfl) sa_nil)) ri_ne)) (s_ret (se_c rfl rfl)) s_next))))
      (s_seq (s_frz (i := 0) (s_wipe [2] (s_for (si_items (se_add (se_call kd_law_strange (sa_cons (se_var 0) sa_nil)) (se_lst (sa_cons (se_c rfl rfl) (sa_cons (se_add (se_c rfl rfl) (se_var 0)) sa_nil)) (fanS (fanS fan0)) (by decide)))) (sg_w [2] (sg_n 2)) (gw_er [2] (gn_er 2))
      (s_if (st_test (se_op2 (se_lamc kd_law_kinds (fun E2 => (se_call kd_seating_by (sa_cons (se_var 1) (sa_cons (se_var 2) sa_nil))))) (se_call kd_law_due_of (sa_cons (se_c rfl rfl) sa_nil)) ri_ne)) (s_ret (se_c rfl rfl)) s_next))))
      (s_seq (s_if (st_not (st_B (se_call kd_law_pairs_right (sa_cons (se_var 1) (sa_cons (se_var 0) sa_nil))))) (s_ret (se_c rfl rfl)) s_next)
      (s_seq (s_if (st_test (se_op2 (se_lamc kd_law_kinds (fun E2 => (se_call kd_number_of (sa_cons (se_var 1) (sa_cons (se_lst (sa_cons (se_c rfl rfl) (sa_cons (se_c rfl rfl) (sa_cons (se_c rfl rfl) sa_nil))) (fanS (fanS (fanS fan0))) (by decide)) sa_nil))))) (se_call kd_law_due_of (sa_cons (se_c rfl rfl) sa_nil)) ri_ne)) (s_ret (se_c rfl rfl)) s_next)
      (s_seq (s_asg (se_tup (sa_cons (se_lst (sa_cons (se_c rfl rfl) (sa_cons (se_c rfl rfl) (sa_cons (se_c rfl rfl) (sa_cons (se_c rfl rfl) (sa_cons (se_c rfl rfl) (sa_cons (se_c rfl rfl) (sa_cons (se_c rfl rfl) sa_nil))))))) (fanS (fanS (fanS (fanS (fanS (fanS (fanS fan0))))))) (by decide)) (sa_cons (se_lst (sa_cons (se_c rfl rfl) sa_nil) (fanS fan0) (by decide)) sa_nil)) (fanS (fanS fan0)) (by decide)) (sg_n 5) (gn_er 5))
      (s_seq (s_if (st_test (se_op2 (se_lamc kd_law_kinds (fun E2 => (se_call kd_how_many (sa_cons (se_var 5) sa_nil)))) (se_call kd_law_due_of (sa_cons (se_c rfl rfl) sa_nil)) ri_ne)) (s_ret (se_c rfl rfl)) s_next)
      (s_seq (s_if (st_test (se_op2 (se_lamc kd_law_kinds (fun E2 => (se_call kd_seating_by (sa_cons (se_var 5) (sa_cons (se_c rfl rfl) sa_nil))))) (se_call kd_law_due_of (sa_cons (se_c rfl rfl) sa_nil)) ri_ne)) (s_ret (se_c rfl rfl)) s_next)
      (s_ret (se_and (se_op2 (se_lamc kd_law_kinds (fun E2 => (se_call kd_number_of (sa_cons (se_var 5) (sa_cons (se_c rfl rfl) sa_nil))))) (se_call kd_law_due_of (sa_cons (se_c rfl rfl) sa_nil)) ri_eq) (se_call kd_law_seatings_right (sa_cons (se_var 1) (sa_cons (se_var 0) sa_nil))))))))))))))))⟩
abbrev N_law : List Str := ["_law_script", "_law_by", "_law_far", "_law_great", "_law_door"]
theorem sc_law : FnScope ["_law_script", "_law_by", "_law_far", "_law_great", "_law_door"] ["_law_script"] (defScope s_law) := ⟨rfl, rfl, rfl, by decide +kernel, rfl, by decide +kernel, by decide +kernel⟩
theorem ok_law {f : Addr} {fd : FuncData} {cA PA : Addr} (F : FunC K "law" "law" s_law f fd cA) (T : Fx K mg) (tb : LamX.TabB base mg cA PA) (hmT : (PA, ("law.<locals>.<lambda>" : Str)) ∈ TabI.ts) (hu : ∀ p ∈ TabI.ts, p.1 = PA → p.2 = ("law.<locals>.<lambda>" : Str)) (c_Door_init : KCal P w K mg base "Door" 4 ["self", "night"] m_Door_init) (c_Door_come : MCal P w K mg base "Door" "come" 3 ["self", "seat"] m_Door_come) (c_law_cell_at : Cal P w K mg base "_law_cell_at" 1 ["_law_script", "_law_k"] m_law_cell_at) (c_law_due_of : Cal P w K mg base "_law_due_of" 1 ["_law_at"] m_law_due_of) (c_law_nights_right : Cal P w K mg base "_law_nights_right" 8 ["_law_far"] m_law_nights_right) (c_law_right : Cal P w K mg base "_law_right" 9 ["_law_far"] m_law_right) (c_law_value : Cal P w K mg base "_law_value" 2 ["_law_cell", "_law_turn"] m_law_value) (c_how_many : Cal P w K mg base "how_many" 5 ["night"] m_how_many) (c_must : Cal P w K mg base "must" 4 ["order", "seats"] m_must) (c_own : Cal P w K mg base "own" 4 ["night"] m_own) (c_share : Cal P w K mg base "share" 5 ["night", "guest", "seat"] m_share) (cm_Door_come : MMal P w K mg base "Door" "come" 3 ["self", "seat"] mm_Door_come) (c_law_kinds : Ask P w K mg base "_law_kinds" lamJ (lamJ + 2) m_law_kinds) (hM : ∀ ns : List Int, ns.length ≤ 63 → m_law [.lst (ns.map .int)] = .ok (.leaf 0 (.bl true))) : FnOk P w K mg base (L2.CX P w) 10 f fd ["_law_script"] (spLaw K) := by
  have sc := sc_law
  refine FunC.okLaw (k := 9) (fs := b_law) F sc rfl (fun A outer s H E hr => ?_) hM
  have hu5 : (A.deeper (envOfC "law" (defScope s_law) s.heap.objs.size f (.ref cA))).units + 65 < cLine := by
    have := hr.un
    omega
  exact ⟨_, (pss_cons (ps_set (i := 0) sc.nd rfl (Or.inl rfl) (pe_slice sl_list (pv 0) po_none (po_some pe_int)))
      (pss_cons (ps_for (passes_of rfl) rfl (pi_seq (pe_tup (pa_cons pe_int (pa_cons pe_int pa_nil)))) (pg_name (i := 1) sc.nd rfl (Or.inl rfl))
      (pss_cons (ps_set (i := 2) sc.nd rfl (Or.inl rfl) (pe_op op_addA pe_int (pe_op op_mod (pe_cal c_law_value (hr.mono (by decide)) rfl passD (pa_cons (pe_cal c_law_cell_at (hr.mono (by decide)) rfl passD (pa_cons (pv 0) (pa_cons (pv 1) pa_nil))) (pa_cons pe_int pa_nil))) (pe_op op_pow pe_int pe_int))))
      (pss_one (ps_if (PW.pt (pw_or (pt_not (pt_val (pe_cal c_law_nights_right (hr.mono (by decide)) rfl passD (pa_cons (pv 2) pa_nil)))) (pw_or1 (pt_not (pt_val (pe_cal c_law_right (hr.mono (by decide)) rfl passD (pa_cons (pv 2) pa_nil))))))) (pss_one (ps_ret pe_bl)) pss_nil))))
      (pss_cons (ps_set (i := 3) sc.nd rfl (Or.inl rfl) (pe_tup (pa_cons (pe_list3 rfl rfl T.b_list rfl T.b_range (pa_cons pe_int (pa_cons (pe_un un_neg pe_int) (pa_cons (pe_un un_neg pe_int) pa_nil)))) (pa_cons (pe_listRg rfl rfl T.b_list (prg_1 rfl T.b_range pe_int)) pa_nil))))
      (pss_cons (ps_set (i := 4) sc.nd rfl (Or.inr rfl) (pe_kcal c_Door_init (hr.mono (by decide)) rfl passD (pa_cons (pe_tup (pa_cons (pe_lst (pa_cons pe_int pa_nil)) (pa_cons (pe_lst pa_nil) pa_nil))) pa_nil)))
      (pss_cons (ps_if (PW.pt (pw_or (pt_cmpR (op_neD hr.units) (pe_mmal cm_Door_come (hr.mono (by decide)) passD (pv 4) (pa_cons pe_int pa_nil)) pe_int (nomark _)) (pw_or1 (pt_cmpR (op_neD hr.units) (pe_lamc (j := lamJ) (k := lamJ + 2) c_law_kinds (hr.mono (by decide)) rfl passD tb rfl rfl hmT hu (LamX.lamS_by (sc := defScope s_law) (by decide +kernel)) (fun A2 outer2 s2 H2 E2 f2 c2 hr px2 => (pe_mcal c_Door_come (hr.mono (by decide)) px2 (pv 4) (pa_cons pe_non pa_nil)))) (pe_cal c_law_due_of (hr.mono (by decide)) rfl passD (pa_cons pe_int pa_nil)) (nomark _))))) (pss_one (ps_ret pe_bl)) pss_nil)
      (pss_cons (ps_if (PW.pt (pw_or (pt_cmpR (op_neD hr.units) (pe_cal c_own (hr.mono (by decide)) rfl passD (pa_cons (pv 3) pa_nil)) (pe_tup (pa_cons pe_int (pa_cons pe_int pa_nil))) (nomark _)) (pw_or1 (pt_cmpR (op_neD hr.units) (pe_cal c_share (hr.mono (by decide)) rfl passD (pa_cons (pv 3) (pa_cons pe_int (pa_cons pe_int pa_nil)))) (pe_tup (pa_cons pe_int (pa_cons pe_int pa_nil))) (nomark _))))) (pss_one (ps_ret pe_bl)) pss_nil)
      (pss_one (ps_ret (pe_and (pe_cmpR (op_eqD hr.units) (pe_cal c_must (hr.mono (by decide)) rfl passD (pa_cons (pe_lst (pa_cons pe_int pa_nil)) (pa_cons (pe_lst (pa_cons pe_int pa_nil)) pa_nil))) (pe_lst pa_nil) (nomark _)) (pe_one (pe_cmpR (op_eqD hr.units) (pe_cal c_how_many (hr.mono (by decide)) rfl passD (pa_cons (pe_tup (pa_cons (pe_lst (pa_cons pe_int pa_nil)) (pa_cons (pe_lst (pa_cons pe_int pa_nil)) pa_nil))) pa_nil)) pe_int (nomark _)))))))))))),
    (s_seq (s_wipe [1, 2] (s_for (si_items (se_tup (sa_cons (se_c rfl rfl) (sa_cons (se_c rfl rfl) sa_nil)) (fanS (fanS fan0)) (by decide))) (sg_w [1, 2] (sg_n 1)) (gw_er [1, 2] (gn_er 1))
      (s_seq (s_asg (se_add (se_c rfl rfl) (se_op2 (se_call kd_law_value (sa_cons (se_call kd_law_cell_at (sa_cons (se_var 0) (sa_cons (se_var 1) sa_nil))) (sa_cons (se_c rfl rfl) sa_nil))) (se_op2 (se_c rfl rfl) (se_c rfl rfl) ri_pow) ri_mod)) (sg_n 2) (gn_er 2))
      (s_if (st_or (st_not (st_B (se_call kd_law_nights_right (sa_cons (se_var 2) sa_nil)))) (st_not (st_B (se_call kd_law_right (sa_cons (se_var 2) sa_nil))))) (s_ret (se_c rfl rfl)) s_next))))
      (s_seq (s_asg (se_tup (sa_cons (se_rg3 (se_c rfl rfl) (se_neg (se_c rfl rfl)) (se_neg (se_c rfl rfl))) (sa_cons (se_rg1 (se_c rfl rfl)) sa_nil)) (fanS (fanS fan0)) (by decide)) (sg_n 3) (gn_er 3))
      (s_seq (s_asg (se_kcal c_Door_init (sa_cons (se_tup (sa_cons (se_lst (sa_cons (se_c rfl rfl) sa_nil) (fanS fan0) (by decide)) (sa_cons (se_lst sa_nil fan0 (by decide)) sa_nil)) (fanS (fanS fan0)) (by decide)) sa_nil)) (sg_n 4) (gn_er 4))
      (s_seq (s_ifX (tx_or (tx_tst (sx_op2 (sx_m (i := 4) cm_Door_come (sa_cons (se_c rfl rfl) sa_nil)).p (sx_p (se_c rfl rfl)).p ri_ne)) (tx_p (st_test (se_op2 (se_lamc kd_law_kinds (fun E2 => (se_mcal c_Door_come kd_Door_come (se_var 4) (sa_cons (se_c rfl rfl) sa_nil)))) (se_call kd_law_due_of (sa_cons (se_c rfl rfl) sa_nil)) ri_ne))).p) (s_ret (se_c rfl rfl)) s_next)
      (s_seq (s_if (st_or (st_test (se_op2 (se_call kd_own (sa_cons (se_var 3) sa_nil)) (se_tup (sa_cons (se_c rfl rfl) (sa_cons (se_c rfl rfl) sa_nil)) (fanS (fanS fan0)) (by decide)) ri_ne)) (st_test (se_op2 (se_call kd_share (sa_cons (se_var 3) (sa_cons (se_c rfl rfl) (sa_cons (se_c rfl rfl) sa_nil)))) (se_tup (sa_cons (se_c rfl rfl) (sa_cons (se_c rfl rfl) sa_nil)) (fanS (fanS fan0)) (by decide)) ri_ne))) (s_ret (se_c rfl rfl)) s_next)
      (s_ret (se_and (se_op2 (se_call kd_must (sa_cons (se_lst (sa_cons (se_c rfl rfl) sa_nil) (fanS fan0) (by decide)) (sa_cons (se_lst (sa_cons (se_c rfl rfl) sa_nil) (fanS fan0) (by decide)) sa_nil))) (se_lst sa_nil fan0 (by decide)) ri_eq) (se_op2 (se_call kd_how_many (sa_cons (se_tup (sa_cons (se_lst (sa_cons (se_c rfl rfl) sa_nil) (fanS fan0) (by decide)) (sa_cons (se_lst (sa_cons (se_c rfl rfl) sa_nil) (fanS fan0) (by decide)) sa_nil)) (fanS (fanS fan0)) (by decide)) sa_nil)) (se_c rfl rfl) ri_eq))))))))⟩
end
end LW

namespace LW
open PySem PySem.Spec
open PyProof.Rows L2 LS
theorem tabIn_of {K : PySem.W.Frag} {x : Str} {f c P : Addr} {oc oc2 : Value} {od od2 : Option Addr} {fd : FuncData} {vs : Array Value} {sl sl2 : Array (Option Value)} (a : PySem.W.nsIn K mainGlobals x = some (some (.ref f))) (l : K.lookup f = some ⟨oc, od, .func fd, sl⟩) (hc : fd.code = .ref c) (lc : K.lookup c = some ⟨oc2, od2, .fields vs, sl2⟩) (p : (vs[11]? : Option Value) = some (.ref P)) : PySem.W.tabIn K x = some (c, P) := by
  unfold PySem.W.tabIn
  simp only [a, l, hc, lc, p]
theorem all_mk {q : Program} {l : PySem.W.OpenLaw} {w : World} {K : PySem.W.Frag} {h : Heap} {mg : Str → Option Value} {fa : Addr} (tt : TabsIn q K h) (X : K.In h) (G : h.Ns mainGlobals mg) (hfa : mg "law" = some (.ref fa))
    {C1 : Addr}
    {C2 : Addr}
    {C16 : Addr}
    {C17 : Addr}
    {f0 : Addr} {od0 an0 : Option Addr} {sl0 : Array (Option Value)} {oc0 kV0 dc0 pm0 cd0 ct0 : Value}
    {f1 : Addr} {od1 an1 : Option Addr} {sl1 : Array (Option Value)} {oc1 kV1 dc1 pm1 cd1 ct1 : Value}
    {f2 : Addr} {od2 an2 : Option Addr} {sl2 : Array (Option Value)} {oc2 kV2 dc2 pm2 cd2 ct2 : Value}
    {f3 : Addr} {od3 an3 : Option Addr} {sl3 : Array (Option Value)} {oc3 kV3 dc3 pm3 cd3 ct3 : Value}
    {f4 : Addr} {od4 an4 : Option Addr} {sl4 : Array (Option Value)} {oc4 kV4 dc4 pm4 cd4 ct4 : Value}
    {f5 : Addr} {od5 an5 : Option Addr} {sl5 : Array (Option Value)} {oc5 kV5 dc5 pm5 cd5 ct5 : Value}
    {f6 : Addr} {od6 an6 : Option Addr} {sl6 : Array (Option Value)} {oc6 kV6 dc6 pm6 cd6 ct6 : Value}
    {f7 : Addr} {od7 an7 : Option Addr} {sl7 : Array (Option Value)} {oc7 kV7 dc7 pm7 cd7 ct7 : Value}
    {f8 : Addr} {od8 an8 : Option Addr} {sl8 : Array (Option Value)} {oc8 kV8 dc8 pm8 cd8 ct8 : Value}
    {f9 : Addr} {od9 an9 : Option Addr} {sl9 : Array (Option Value)} {oc9 kV9 dc9 pm9 cd9 ct9 : Value}
    {f10 : Addr} {od10 an10 : Option Addr} {sl10 : Array (Option Value)} {oc10 kV10 dc10 pm10 cd10 ct10 : Value}
    {f11 : Addr} {od11 an11 : Option Addr} {sl11 : Array (Option Value)} {oc11 kV11 dc11 pm11 cd11 ct11 : Value}
    {f12 : Addr} {od12 an12 : Option Addr} {sl12 : Array (Option Value)} {oc12 kV12 dc12 pm12 cd12 ct12 : Value}
    {f13 : Addr} {od13 an13 : Option Addr} {sl13 : Array (Option Value)} {oc13 kV13 dc13 pm13 cd13 ct13 : Value}
    {f14 : Addr} {od14 an14 : Option Addr} {sl14 : Array (Option Value)} {oc14 kV14 dc14 pm14 cd14 ct14 : Value}
    {f15 : Addr} {od15 an15 : Option Addr} {sl15 : Array (Option Value)} {oc15 kV15 dc15 pm15 cd15 ct15 : Value}
    {f16 : Addr} {od16 an16 : Option Addr} {sl16 : Array (Option Value)} {oc16 kV16 dc16 pm16 cd16 ct16 : Value}
    {f17 : Addr} {od17 an17 : Option Addr} {sl17 : Array (Option Value)} {oc17 kV17 dc17 pm17 cd17 ct17 : Value}
    {f18 : Addr} {od18 an18 : Option Addr} {sl18 : Array (Option Value)} {oc18 kV18 dc18 pm18 cd18 ct18 : Value}
    {f19 : Addr} {od19 an19 : Option Addr} {sl19 : Array (Option Value)} {oc19 kV19 dc19 pm19 cd19 ct19 : Value}
    {f20 : Addr} {od20 an20 : Option Addr} {sl20 : Array (Option Value)} {oc20 kV20 dc20 pm20 cd20 ct20 : Value}
    {f21 : Addr} {od21 an21 : Option Addr} {sl21 : Array (Option Value)} {oc21 kV21 dc21 pm21 cd21 ct21 : Value}
    {f22 : Addr} {od22 an22 : Option Addr} {sl22 : Array (Option Value)} {oc22 kV22 dc22 pm22 cd22 ct22 : Value}
    {f23 : Addr} {od23 an23 : Option Addr} {sl23 : Array (Option Value)} {oc23 kV23 dc23 pm23 cd23 ct23 : Value}
    {f24 : Addr} {od24 an24 : Option Addr} {sl24 : Array (Option Value)} {oc24 kV24 dc24 pm24 cd24 ct24 : Value}
    {f25 : Addr} {od25 an25 : Option Addr} {sl25 : Array (Option Value)} {oc25 kV25 dc25 pm25 cd25 ct25 : Value}
    {f26 : Addr} {od26 an26 : Option Addr} {sl26 : Array (Option Value)} {oc26 kV26 dc26 pm26 cd26 ct26 : Value}
    {f27 : Addr} {od27 an27 : Option Addr} {sl27 : Array (Option Value)} {oc27 kV27 dc27 pm27 cd27 ct27 : Value}
    {f28 : Addr} {od28 an28 : Option Addr} {sl28 : Array (Option Value)} {oc28 kV28 dc28 pm28 cd28 ct28 : Value}
    {f29 : Addr} {od29 an29 : Option Addr} {sl29 : Array (Option Value)} {oc29 kV29 dc29 pm29 cd29 ct29 : Value}
    {f30 : Addr} {od30 an30 : Option Addr} {sl30 : Array (Option Value)} {oc30 kV30 dc30 pm30 cd30 ct30 : Value}
    {f31 : Addr} {od31 an31 : Option Addr} {sl31 : Array (Option Value)} {oc31 kV31 dc31 pm31 cd31 ct31 : Value}
    {f32 : Addr} {od32 an32 : Option Addr} {sl32 : Array (Option Value)} {oc32 kV32 dc32 pm32 cd32 ct32 : Value}
    {f33 : Addr} {od33 an33 : Option Addr} {sl33 : Array (Option Value)} {oc33 kV33 dc33 pm33 cd33 ct33 : Value}
    {f34 : Addr} {od34 an34 : Option Addr} {sl34 : Array (Option Value)} {oc34 kV34 dc34 pm34 cd34 ct34 : Value}
    {f35 : Addr} {od35 an35 : Option Addr} {sl35 : Array (Option Value)} {oc35 kV35 dc35 pm35 cd35 ct35 : Value}
    {f36 : Addr} {od36 an36 : Option Addr} {sl36 : Array (Option Value)} {oc36 kV36 dc36 pm36 cd36 ct36 : Value}
    {f37 : Addr} {od37 an37 : Option Addr} {sl37 : Array (Option Value)} {oc37 kV37 dc37 pm37 cd37 ct37 : Value}
    {f38 : Addr} {od38 an38 : Option Addr} {sl38 : Array (Option Value)} {oc38 kV38 dc38 pm38 cd38 ct38 : Value}
    {f39 : Addr} {od39 an39 : Option Addr} {sl39 : Array (Option Value)} {oc39 kV39 dc39 pm39 cd39 ct39 : Value}
    {f40 : Addr} {od40 an40 : Option Addr} {sl40 : Array (Option Value)} {oc40 kV40 dc40 pm40 cd40 ct40 : Value}
    {f41 : Addr} {od41 an41 : Option Addr} {sl41 : Array (Option Value)} {oc41 kV41 dc41 pm41 cd41 ct41 : Value}
    {f42 : Addr} {od42 an42 : Option Addr} {sl42 : Array (Option Value)} {oc42 kV42 dc42 pm42 cd42 ct42 : Value}
    {f43 : Addr} {od43 an43 : Option Addr} {sl43 : Array (Option Value)} {oc43 kV43 dc43 pm43 cd43 ct43 : Value}
    {f44 : Addr} {od44 an44 : Option Addr} {sl44 : Array (Option Value)} {oc44 kV44 dc44 pm44 cd44 ct44 : Value}
    {f45 : Addr} {od45 an45 : Option Addr} {sl45 : Array (Option Value)} {oc45 kV45 dc45 pm45 cd45 ct45 : Value}
    {f46 : Addr} {od46 an46 : Option Addr} {sl46 : Array (Option Value)} {oc46 kV46 dc46 pm46 cd46 ct46 : Value}
    {f47 : Addr} {od47 an47 : Option Addr} {sl47 : Array (Option Value)} {oc47 kV47 dc47 pm47 cd47 ct47 : Value}
    {f48 : Addr} {od48 an48 : Option Addr} {sl48 : Array (Option Value)} {oc48 kV48 dc48 pm48 cd48 ct48 : Value}
    {f49 : Addr} {od49 an49 : Option Addr} {sl49 : Array (Option Value)} {oc49 kV49 dc49 pm49 cd49 ct49 : Value}
    {f50 : Addr} {od50 an50 : Option Addr} {sl50 : Array (Option Value)} {oc50 kV50 dc50 pm50 cd50 ct50 : Value}
    {f51 : Addr} {od51 an51 : Option Addr} {sl51 : Array (Option Value)} {oc51 kV51 dc51 pm51 cd51 ct51 : Value}
    {f52 : Addr} {od52 an52 : Option Addr} {sl52 : Array (Option Value)} {oc52 kV52 dc52 pm52 cd52 ct52 : Value}
    {f53 : Addr} {od53 an53 : Option Addr} {sl53 : Array (Option Value)} {oc53 kV53 dc53 pm53 ct53 : Value}
    {cA53 PA53 : Addr} {ocA53 : Value} {odA53 : Option Addr} {vsA53 : Array Value} {slA53 : Array (Option Value)}
    {f54 : Addr} {od54 an54 : Option Addr} {sl54 : Array (Option Value)} {oc54 kV54 dc54 pm54 ct54 : Value}
    {cA54 PA54 : Addr} {ocA54 : Value} {odA54 : Option Addr} {vsA54 : Array Value} {slA54 : Array (Option Value)}
    {f55 : Addr} {od55 an55 : Option Addr} {sl55 : Array (Option Value)} {oc55 kV55 dc55 pm55 ct55 : Value}
    {cA55 PA55 : Addr} {ocA55 : Value} {odA55 : Option Addr} {vsA55 : Array Value} {slA55 : Array (Option Value)}
    {f56 : Addr} {od56 an56 : Option Addr} {sl56 : Array (Option Value)} {oc56 kV56 dc56 pm56 ct56 : Value}
    {cA56 PA56 : Addr} {ocA56 : Value} {odA56 : Option Addr} {vsA56 : Array Value} {slA56 : Array (Option Value)}
    {f57 : Addr} {od57 an57 : Option Addr} {sl57 : Array (Option Value)} {oc57 kV57 dc57 pm57 ct57 : Value}
    {cA57 PA57 : Addr} {ocA57 : Value} {odA57 : Option Addr} {vsA57 : Array Value} {slA57 : Array (Option Value)}
    {X15 : Addr}
    {X6 : Addr}
    {X4 : Addr}
    {X12 : Addr}
    {X5 : Addr}
    {X10 : Addr}
    {X7 : Addr}
    {X11 : Addr}
    {X9 : Addr}
    {X8 : Addr}
    {X14 : Addr}
    {X13 : Addr}
    {X3 : Addr}
    {t_MOST_GUESTS : Tok}
    {t_MOST_SMALL : Tok}
    (aC1 : PySem.W.nsIn K mainGlobals "Comes" = some (some (.ref C1)))
    (pg1 : PySem.W.plainGet K C1 Str.empty = true)
    (hd1 : PySem.W.hasDictIn K C1 = true)
    (po1 : PySem.W.plainOver K C1 = true)
    (sa1 : PySem.W.findIn K (.ref C1) "__setattr__" = some (some (.builtin "object.__setattr__")))
    (mk1 : PySem.W.makesIn K C1 = true)
    (kc1 : PySem.W.keepIn K (.ref C1) = true)
    (aC2 : PySem.W.nsIn K mainGlobals "Bars" = some (some (.ref C2)))
    (pg2 : PySem.W.plainGet K C2 Str.empty = true)
    (hd2 : PySem.W.hasDictIn K C2 = true)
    (po2 : PySem.W.plainOver K C2 = true)
    (sa2 : PySem.W.findIn K (.ref C2) "__setattr__" = some (some (.builtin "object.__setattr__")))
    (mk2 : PySem.W.makesIn K C2 = true)
    (kc2 : PySem.W.keepIn K (.ref C2) = true)
    (aC16 : PySem.W.nsIn K mainGlobals "Door" = some (some (.ref C16)))
    (pg16 : PySem.W.plainGet K C16 Str.empty = true)
    (hd16 : PySem.W.hasDictIn K C16 = true)
    (po16 : PySem.W.plainOver K C16 = true)
    (sa16 : PySem.W.findIn K (.ref C16) "__setattr__" = some (some (.builtin "object.__setattr__")))
    (mk16 : PySem.W.makesIn K C16 = true)
    (kc16 : PySem.W.keepIn K (.ref C16) = true)
    (aC17 : PySem.W.nsIn K mainGlobals "Row" = some (some (.ref C17)))
    (pg17 : PySem.W.plainGet K C17 Str.empty = true)
    (hd17 : PySem.W.hasDictIn K C17 = true)
    (po17 : PySem.W.plainOver K C17 = true)
    (sa17 : PySem.W.findIn K (.ref C17) "__setattr__" = some (some (.builtin "object.__setattr__")))
    (mk17 : PySem.W.makesIn K C17 = true)
    (kc17 : PySem.W.keepIn K (.ref C17) = true)
    (nf0 : PySem.W.findIn K (.ref C2) "turn" = some none)
    (nf1 : PySem.W.findIn K (.ref C1) "choices" = some none)
    (nf2 : PySem.W.findIn K (.ref C16) "bottom" = some none)
    (nf3 : PySem.W.findIn K (.ref C16) "lost" = some none)
    (nf4 : PySem.W.findIn K (.ref C16) "order" = some none)
    (nf5 : PySem.W.findIn K (.ref C16) "seats" = some none)
    (nf6 : PySem.W.findIn K (.ref C17) "guests" = some none)
    (nf7 : PySem.W.findIn K (.ref C17) "lost" = some none)
    (nf8 : PySem.W.findIn K (.ref C17) "seats" = some none)
    (a0 : PySem.W.nsIn K mainGlobals "_wall" = some (some (.ref f0)))
    (l0 : K.lookup f0 = some ⟨oc0, od0, .func (PySem.W.fnOf "_wall" "_wall" (defArgs s_wall) (defBody s_wall) (defScope s_wall) .none kV0 dc0 pm0 an0 cd0 ct0), sl0⟩)
    (c0 : PySem.W.codeIn K cd0 "_wall" = true)
    (k0 : PySem.W.keepIn K (.ref f0) = true)
    (a1 : PySem.W.nsIn K mainGlobals "choices_of" = some (some (.ref f1)))
    (l1 : K.lookup f1 = some ⟨oc1, od1, .func (PySem.W.fnOf "choices_of" "choices_of" (defArgs s_choices_of) (defBody s_choices_of) (defScope s_choices_of) .none kV1 dc1 pm1 an1 cd1 ct1), sl1⟩)
    (c1 : PySem.W.codeIn K cd1 "choices_of" = true)
    (k1 : PySem.W.keepIn K (.ref f1) = true)
    (a2 : PySem.W.findIn K (.ref C1) "__init__" = some (some (.ref f2)))
    (i2 : PySem.W.isFn K (.ref f2) = true)
    (l2 : K.lookup f2 = some ⟨oc2, od2, .func (PySem.W.fnOf "__init__" "Comes.__init__" (defArgs s_Comes_init) (defBody s_Comes_init) (defScope s_Comes_init) .none kV2 dc2 pm2 an2 cd2 ct2), sl2⟩)
    (c2 : PySem.W.codeIn K cd2 "Comes.__init__" = true)
    (k2 : PySem.W.keepIn K (.ref f2) = true)
    (a3 : PySem.W.findIn K (.ref C1) "shows" = some (some (.ref f3)))
    (i3 : PySem.W.isFn K (.ref f3) = true)
    (l3 : K.lookup f3 = some ⟨oc3, od3, .func (PySem.W.fnOf "shows" "Comes.shows" (defArgs s_Comes_shows) (defBody s_Comes_shows) (defScope s_Comes_shows) .none kV3 dc3 pm3 an3 cd3 ct3), sl3⟩)
    (c3 : PySem.W.codeIn K cd3 "Comes.shows" = true)
    (k3 : PySem.W.keepIn K (.ref f3) = true)
    (a4 : PySem.W.findIn K (.ref C2) "__init__" = some (some (.ref f4)))
    (i4 : PySem.W.isFn K (.ref f4) = true)
    (l4 : K.lookup f4 = some ⟨oc4, od4, .func (PySem.W.fnOf "__init__" "Bars.__init__" (defArgs s_Bars_init) (defBody s_Bars_init) (defScope s_Bars_init) .none kV4 dc4 pm4 an4 cd4 ct4), sl4⟩)
    (c4 : PySem.W.codeIn K cd4 "Bars.__init__" = true)
    (k4 : PySem.W.keepIn K (.ref f4) = true)
    (a5 : PySem.W.findIn K (.ref C2) "shows" = some (some (.ref f5)))
    (i5 : PySem.W.isFn K (.ref f5) = true)
    (l5 : K.lookup f5 = some ⟨oc5, od5, .func (PySem.W.fnOf "shows" "Bars.shows" (defArgs s_Bars_shows) (defBody s_Bars_shows) (defScope s_Bars_shows) .none kV5 dc5 pm5 an5 cd5 ct5), sl5⟩)
    (c5 : PySem.W.codeIn K cd5 "Bars.shows" = true)
    (k5 : PySem.W.keepIn K (.ref f5) = true)
    (a6 : PySem.W.nsIn K mainGlobals "is_count" = some (some (.ref f6)))
    (l6 : K.lookup f6 = some ⟨oc6, od6, .func (PySem.W.fnOf "is_count" "is_count" (defArgs s_is_count) (defBody s_is_count) (defScope s_is_count) .none kV6 dc6 pm6 an6 cd6 ct6), sl6⟩)
    (c6 : PySem.W.codeIn K cd6 "is_count" = true)
    (k6 : PySem.W.keepIn K (.ref f6) = true)
    (a7 : PySem.W.nsIn K mainGlobals "are_all" = some (some (.ref f7)))
    (l7 : K.lookup f7 = some ⟨oc7, od7, .func (PySem.W.fnOf "are_all" "are_all" (defArgs s_are_all) (defBody s_are_all) (defScope s_are_all) .none kV7 dc7 pm7 an7 cd7 ct7), sl7⟩)
    (c7 : PySem.W.codeIn K cd7 "are_all" = true)
    (k7 : PySem.W.keepIn K (.ref f7) = true)
    (a8 : PySem.W.nsIn K mainGlobals "are_rising" = some (some (.ref f8)))
    (l8 : K.lookup f8 = some ⟨oc8, od8, .func (PySem.W.fnOf "are_rising" "are_rising" (defArgs s_are_rising) (defBody s_are_rising) (defScope s_are_rising) .none kV8 dc8 pm8 an8 cd8 ct8), sl8⟩)
    (c8 : PySem.W.codeIn K cd8 "are_rising" = true)
    (k8 : PySem.W.keepIn K (.ref f8) = true)
    (a9 : PySem.W.nsIn K mainGlobals "check_order" = some (some (.ref f9)))
    (l9 : K.lookup f9 = some ⟨oc9, od9, .func (PySem.W.fnOf "check_order" "check_order" (defArgs s_check_order) (defBody s_check_order) (defScope s_check_order) .none kV9 dc9 pm9 an9 cd9 ct9), sl9⟩)
    (c9 : PySem.W.codeIn K cd9 "check_order" = true)
    (k9 : PySem.W.keepIn K (.ref f9) = true)
    (a10 : PySem.W.nsIn K mainGlobals "check_night" = some (some (.ref f10)))
    (l10 : K.lookup f10 = some ⟨oc10, od10, .func (PySem.W.fnOf "check_night" "check_night" (defArgs s_check_night) (defBody s_check_night) (defScope s_check_night) .none kV10 dc10 pm10 an10 cd10 ct10), sl10⟩)
    (c10 : PySem.W.codeIn K cd10 "check_night" = true)
    (k10 : PySem.W.keepIn K (.ref f10) = true)
    (a11 : PySem.W.nsIn K mainGlobals "check_two" = some (some (.ref f11)))
    (l11 : K.lookup f11 = some ⟨oc11, od11, .func (PySem.W.fnOf "check_two" "check_two" (defArgs s_check_two) (defBody s_check_two) (defScope s_check_two) .none kV11 dc11 pm11 an11 cd11 ct11), sl11⟩)
    (c11 : PySem.W.codeIn K cd11 "check_two" = true)
    (k11 : PySem.W.keepIn K (.ref f11) = true)
    (a12 : PySem.W.nsIn K mainGlobals "are_pairs" = some (some (.ref f12)))
    (l12 : K.lookup f12 = some ⟨oc12, od12, .func (PySem.W.fnOf "are_pairs" "are_pairs" (defArgs s_are_pairs) (defBody s_are_pairs) (defScope s_are_pairs) .none kV12 dc12 pm12 an12 cd12 ct12), sl12⟩)
    (c12 : PySem.W.codeIn K cd12 "are_pairs" = true)
    (k12 : PySem.W.keepIn K (.ref f12) = true)
    (a13 : PySem.W.nsIn K mainGlobals "check_seating" = some (some (.ref f13)))
    (l13 : K.lookup f13 = some ⟨oc13, od13, .func (PySem.W.fnOf "check_seating" "check_seating" (defArgs s_check_seating) (defBody s_check_seating) (defScope s_check_seating) .none kV13 dc13 pm13 an13 cd13 ct13), sl13⟩)
    (c13 : PySem.W.codeIn K cd13 "check_seating" = true)
    (k13 : PySem.W.keepIn K (.ref f13) = true)
    (a14 : PySem.W.nsIn K mainGlobals "common" = some (some (.ref f14)))
    (l14 : K.lookup f14 = some ⟨oc14, od14, .func (PySem.W.fnOf "common" "common" (defArgs s_common) (defBody s_common) (defScope s_common) .none kV14 dc14 pm14 an14 cd14 ct14), sl14⟩)
    (c14 : PySem.W.codeIn K cd14 "common" = true)
    (k14 : PySem.W.keepIn K (.ref f14) = true)
    (a15 : PySem.W.nsIn K mainGlobals "part" = some (some (.ref f15)))
    (l15 : K.lookup f15 = some ⟨oc15, od15, .func (PySem.W.fnOf "part" "part" (defArgs s_part) (defBody s_part) (defScope s_part) .none kV15 dc15 pm15 an15 cd15 ct15), sl15⟩)
    (c15 : PySem.W.codeIn K cd15 "part" = true)
    (k15 : PySem.W.keepIn K (.ref f15) = true)
    (a16 : PySem.W.nsIn K mainGlobals "summed" = some (some (.ref f16)))
    (l16 : K.lookup f16 = some ⟨oc16, od16, .func (PySem.W.fnOf "summed" "summed" (defArgs s_summed) (defBody s_summed) (defScope s_summed) .none kV16 dc16 pm16 an16 cd16 ct16), sl16⟩)
    (c16 : PySem.W.codeIn K cd16 "summed" = true)
    (k16 : PySem.W.keepIn K (.ref f16) = true)
    (a17 : PySem.W.nsIn K mainGlobals "lost_ahead" = some (some (.ref f17)))
    (l17 : K.lookup f17 = some ⟨oc17, od17, .func (PySem.W.fnOf "lost_ahead" "lost_ahead" (defArgs s_lost_ahead) (defBody s_lost_ahead) (defScope s_lost_ahead) .none kV17 dc17 pm17 an17 cd17 ct17), sl17⟩)
    (c17 : PySem.W.codeIn K cd17 "lost_ahead" = true)
    (k17 : PySem.W.keepIn K (.ref f17) = true)
    (a18 : PySem.W.nsIn K mainGlobals "room" = some (some (.ref f18)))
    (l18 : K.lookup f18 = some ⟨oc18, od18, .func (PySem.W.fnOf "room" "room" (defArgs s_room) (defBody s_room) (defScope s_room) .none kV18 dc18 pm18 an18 cd18 ct18), sl18⟩)
    (c18 : PySem.W.codeIn K cd18 "room" = true)
    (k18 : PySem.W.keepIn K (.ref f18) = true)
    (a19 : PySem.W.nsIn K mainGlobals "share_of" = some (some (.ref f19)))
    (l19 : K.lookup f19 = some ⟨oc19, od19, .func (PySem.W.fnOf "share_of" "share_of" (defArgs s_share_of) (defBody s_share_of) (defScope s_share_of) .none kV19 dc19 pm19 an19 cd19 ct19), sl19⟩)
    (c19 : PySem.W.codeIn K cd19 "share_of" = true)
    (k19 : PySem.W.keepIn K (.ref f19) = true)
    (a20 : PySem.W.nsIn K mainGlobals "share" = some (some (.ref f20)))
    (l20 : K.lookup f20 = some ⟨oc20, od20, .func (PySem.W.fnOf "share" "share" (defArgs s_share) (defBody s_share) (defScope s_share) .none kV20 dc20 pm20 an20 cd20 ct20), sl20⟩)
    (c20 : PySem.W.codeIn K cd20 "share" = true)
    (k20 : PySem.W.keepIn K (.ref f20) = true)
    (a21 : PySem.W.nsIn K mainGlobals "free_share" = some (some (.ref f21)))
    (l21 : K.lookup f21 = some ⟨oc21, od21, .func (PySem.W.fnOf "free_share" "free_share" (defArgs s_free_share) (defBody s_free_share) (defScope s_free_share) .none kV21 dc21 pm21 an21 cd21 ct21), sl21⟩)
    (c21 : PySem.W.codeIn K cd21 "free_share" = true)
    (k21 : PySem.W.keepIn K (.ref f21) = true)
    (a22 : PySem.W.nsIn K mainGlobals "seating" = some (some (.ref f22)))
    (l22 : K.lookup f22 = some ⟨oc22, od22, .func (PySem.W.fnOf "seating" "seating" (defArgs s_seating) (defBody s_seating) (defScope s_seating) .none kV22 dc22 pm22 an22 cd22 ct22), sl22⟩)
    (c22 : PySem.W.codeIn K cd22 "seating" = true)
    (k22 : PySem.W.keepIn K (.ref f22) = true)
    (a23 : PySem.W.nsIn K mainGlobals "own" = some (some (.ref f23)))
    (l23 : K.lookup f23 = some ⟨oc23, od23, .func (PySem.W.fnOf "own" "own" (defArgs s_own) (defBody s_own) (defScope s_own) .none kV23 dc23 pm23 an23 cd23 ct23), sl23⟩)
    (c23 : PySem.W.codeIn K cd23 "own" = true)
    (k23 : PySem.W.keepIn K (.ref f23) = true)
    (a24 : PySem.W.nsIn K mainGlobals "share_back" = some (some (.ref f24)))
    (l24 : K.lookup f24 = some ⟨oc24, od24, .func (PySem.W.fnOf "share_back" "share_back" (defArgs s_share_back) (defBody s_share_back) (defScope s_share_back) .none kV24 dc24 pm24 an24 cd24 ct24), sl24⟩)
    (c24 : PySem.W.codeIn K cd24 "share_back" = true)
    (k24 : PySem.W.keepIn K (.ref f24) = true)
    (a25 : PySem.W.nsIn K mainGlobals "asked" = some (some (.ref f25)))
    (l25 : K.lookup f25 = some ⟨oc25, od25, .func (PySem.W.fnOf "asked" "asked" (defArgs s_asked) (defBody s_asked) (defScope s_asked) .none kV25 dc25 pm25 an25 cd25 ct25), sl25⟩)
    (c25 : PySem.W.codeIn K cd25 "asked" = true)
    (k25 : PySem.W.keepIn K (.ref f25) = true)
    (a26 : PySem.W.findIn K (.ref C16) "__init__" = some (some (.ref f26)))
    (i26 : PySem.W.isFn K (.ref f26) = true)
    (l26 : K.lookup f26 = some ⟨oc26, od26, .func (PySem.W.fnOf "__init__" "Door.__init__" (defArgs s_Door_init) (defBody s_Door_init) (defScope s_Door_init) .none kV26 dc26 pm26 an26 cd26 ct26), sl26⟩)
    (c26 : PySem.W.codeIn K cd26 "Door.__init__" = true)
    (k26 : PySem.W.keepIn K (.ref f26) = true)
    (a27 : PySem.W.findIn K (.ref C16) "next_guest" = some (some (.ref f27)))
    (i27 : PySem.W.isFn K (.ref f27) = true)
    (l27 : K.lookup f27 = some ⟨oc27, od27, .func (PySem.W.fnOf "next_guest" "Door.next_guest" (defArgs s_Door_next_guest) (defBody s_Door_next_guest) (defScope s_Door_next_guest) .none kV27 dc27 pm27 an27 cd27 ct27), sl27⟩)
    (c27 : PySem.W.codeIn K cd27 "Door.next_guest" = true)
    (k27 : PySem.W.keepIn K (.ref f27) = true)
    (a28 : PySem.W.findIn K (.ref C16) "open_seats" = some (some (.ref f28)))
    (i28 : PySem.W.isFn K (.ref f28) = true)
    (l28 : K.lookup f28 = some ⟨oc28, od28, .func (PySem.W.fnOf "open_seats" "Door.open_seats" (defArgs s_Door_open_seats) (defBody s_Door_open_seats) (defScope s_Door_open_seats) .none kV28 dc28 pm28 an28 cd28 ct28), sl28⟩)
    (c28 : PySem.W.codeIn K cd28 "Door.open_seats" = true)
    (k28 : PySem.W.keepIn K (.ref f28) = true)
    (a29 : PySem.W.findIn K (.ref C16) "come" = some (some (.ref f29)))
    (i29 : PySem.W.isFn K (.ref f29) = true)
    (l29 : K.lookup f29 = some ⟨oc29, od29, .func (PySem.W.fnOf "come" "Door.come" (defArgs s_Door_come) (defBody s_Door_come) (defScope s_Door_come) .none kV29 dc29 pm29 an29 cd29 ct29), sl29⟩)
    (c29 : PySem.W.codeIn K cd29 "Door.come" = true)
    (k29 : PySem.W.keepIn K (.ref f29) = true)
    (a30 : PySem.W.findIn K (.ref C16) "taken" = some (some (.ref f30)))
    (i30 : PySem.W.isFn K (.ref f30) = true)
    (l30 : K.lookup f30 = some ⟨oc30, od30, .func (PySem.W.fnOf "taken" "Door.taken" (defArgs s_Door_taken) (defBody s_Door_taken) (defScope s_Door_taken) .none kV30 dc30 pm30 an30 cd30 ct30), sl30⟩)
    (c30 : PySem.W.codeIn K cd30 "Door.taken" = true)
    (k30 : PySem.W.keepIn K (.ref f30) = true)
    (a31 : PySem.W.findIn K (.ref C16) "so_far" = some (some (.ref f31)))
    (i31 : PySem.W.isFn K (.ref f31) = true)
    (l31 : K.lookup f31 = some ⟨oc31, od31, .func (PySem.W.fnOf "so_far" "Door.so_far" (defArgs s_Door_so_far) (defBody s_Door_so_far) (defScope s_Door_so_far) .none kV31 dc31 pm31 an31 cd31 ct31), sl31⟩)
    (c31 : PySem.W.codeIn K cd31 "Door.so_far" = true)
    (k31 : PySem.W.keepIn K (.ref f31) = true)
    (a32 : PySem.W.findIn K (.ref C17) "__init__" = some (some (.ref f32)))
    (i32 : PySem.W.isFn K (.ref f32) = true)
    (l32 : K.lookup f32 = some ⟨oc32, od32, .func (PySem.W.fnOf "__init__" "Row.__init__" (defArgs s_Row_init) (defBody s_Row_init) (defScope s_Row_init) .none kV32 dc32 pm32 an32 cd32 ct32), sl32⟩)
    (c32 : PySem.W.codeIn K cd32 "Row.__init__" = true)
    (k32 : PySem.W.keepIn K (.ref f32) = true)
    (a33 : PySem.W.findIn K (.ref C17) "drop" = some (some (.ref f33)))
    (i33 : PySem.W.isFn K (.ref f33) = true)
    (l33 : K.lookup f33 = some ⟨oc33, od33, .func (PySem.W.fnOf "drop" "Row.drop" (defArgs s_Row_drop) (defBody s_Row_drop) (defScope s_Row_drop) .none kV33 dc33 pm33 an33 cd33 ct33), sl33⟩)
    (c33 : PySem.W.codeIn K cd33 "Row.drop" = true)
    (k33 : PySem.W.keepIn K (.ref f33) = true)
    (a34 : PySem.W.findIn K (.ref C17) "ahead" = some (some (.ref f34)))
    (i34 : PySem.W.isFn K (.ref f34) = true)
    (l34 : K.lookup f34 = some ⟨oc34, od34, .func (PySem.W.fnOf "ahead" "Row.ahead" (defArgs s_Row_ahead) (defBody s_Row_ahead) (defScope s_Row_ahead) .none kV34 dc34 pm34 an34 cd34 ct34), sl34⟩)
    (c34 : PySem.W.codeIn K cd34 "Row.ahead" = true)
    (k34 : PySem.W.keepIn K (.ref f34) = true)
    (a35 : PySem.W.findIn K (.ref C17) "share_at" = some (some (.ref f35)))
    (i35 : PySem.W.isFn K (.ref f35) = true)
    (l35 : K.lookup f35 = some ⟨oc35, od35, .func (PySem.W.fnOf "share_at" "Row.share_at" (defArgs s_Row_share_at) (defBody s_Row_share_at) (defScope s_Row_share_at) .none kV35 dc35 pm35 an35 cd35 ct35), sl35⟩)
    (c35 : PySem.W.codeIn K cd35 "Row.share_at" = true)
    (k35 : PySem.W.keepIn K (.ref f35) = true)
    (a36 : PySem.W.findIn K (.ref C17) "sit" = some (some (.ref f36)))
    (i36 : PySem.W.isFn K (.ref f36) = true)
    (l36 : K.lookup f36 = some ⟨oc36, od36, .func (PySem.W.fnOf "sit" "Row.sit" (defArgs s_Row_sit) (defBody s_Row_sit) (defScope s_Row_sit) .none kV36 dc36 pm36 an36 cd36 ct36), sl36⟩)
    (c36 : PySem.W.codeIn K cd36 "Row.sit" = true)
    (k36 : PySem.W.keepIn K (.ref f36) = true)
    (a37 : PySem.W.nsIn K mainGlobals "together" = some (some (.ref f37)))
    (l37 : K.lookup f37 = some ⟨oc37, od37, .func (PySem.W.fnOf "together" "together" (defArgs s_together) (defBody s_together) (defScope s_together) .none kV37 dc37 pm37 an37 cd37 ct37), sl37⟩)
    (c37 : PySem.W.codeIn K cd37 "together" = true)
    (k37 : PySem.W.keepIn K (.ref f37) = true)
    (a38 : PySem.W.nsIn K mainGlobals "judged" = some (some (.ref f38)))
    (l38 : K.lookup f38 = some ⟨oc38, od38, .func (PySem.W.fnOf "judged" "judged" (defArgs s_judged) (defBody s_judged) (defScope s_judged) .none kV38 dc38 pm38 an38 cd38 ct38), sl38⟩)
    (c38 : PySem.W.codeIn K cd38 "judged" = true)
    (k38 : PySem.W.keepIn K (.ref f38) = true)
    (a39 : PySem.W.nsIn K mainGlobals "must" = some (some (.ref f39)))
    (l39 : K.lookup f39 = some ⟨oc39, od39, .func (PySem.W.fnOf "must" "must" (defArgs s_must) (defBody s_must) (defScope s_must) .none kV39 dc39 pm39 an39 cd39 ct39), sl39⟩)
    (c39 : PySem.W.codeIn K cd39 "must" = true)
    (k39 : PySem.W.keepIn K (.ref f39) = true)
    (a40 : PySem.W.nsIn K mainGlobals "all_seatings" = some (some (.ref f40)))
    (l40 : K.lookup f40 = some ⟨oc40, od40, .func (PySem.W.fnOf "all_seatings" "all_seatings" (defArgs s_all_seatings) (defBody s_all_seatings) (defScope s_all_seatings) .none kV40 dc40 pm40 an40 cd40 ct40), sl40⟩)
    (c40 : PySem.W.codeIn K cd40 "all_seatings" = true)
    (k40 : PySem.W.keepIn K (.ref f40) = true)
    (a41 : PySem.W.nsIn K mainGlobals "check_small" = some (some (.ref f41)))
    (l41 : K.lookup f41 = some ⟨oc41, od41, .func (PySem.W.fnOf "check_small" "check_small" (defArgs s_check_small) (defBody s_check_small) (defScope s_check_small) .none kV41 dc41 pm41 an41 cd41 ct41), sl41⟩)
    (c41 : PySem.W.codeIn K cd41 "check_small" = true)
    (k41 : PySem.W.keepIn K (.ref f41) = true)
    (a42 : PySem.W.nsIn K mainGlobals "how_many" = some (some (.ref f42)))
    (l42 : K.lookup f42 = some ⟨oc42, od42, .func (PySem.W.fnOf "how_many" "how_many" (defArgs s_how_many) (defBody s_how_many) (defScope s_how_many) .none kV42 dc42 pm42 an42 cd42 ct42), sl42⟩)
    (c42 : PySem.W.codeIn K cd42 "how_many" = true)
    (k42 : PySem.W.keepIn K (.ref f42) = true)
    (a43 : PySem.W.nsIn K mainGlobals "seating_by" = some (some (.ref f43)))
    (l43 : K.lookup f43 = some ⟨oc43, od43, .func (PySem.W.fnOf "seating_by" "seating_by" (defArgs s_seating_by) (defBody s_seating_by) (defScope s_seating_by) .none kV43 dc43 pm43 an43 cd43 ct43), sl43⟩)
    (c43 : PySem.W.codeIn K cd43 "seating_by" = true)
    (k43 : PySem.W.keepIn K (.ref f43) = true)
    (a44 : PySem.W.nsIn K mainGlobals "number_of" = some (some (.ref f44)))
    (l44 : K.lookup f44 = some ⟨oc44, od44, .func (PySem.W.fnOf "number_of" "number_of" (defArgs s_number_of) (defBody s_number_of) (defScope s_number_of) .none kV44 dc44 pm44 an44 cd44 ct44), sl44⟩)
    (c44 : PySem.W.codeIn K cd44 "number_of" = true)
    (k44 : PySem.W.keepIn K (.ref f44) = true)
    (a45 : PySem.W.nsIn K mainGlobals "_law_cell_at" = some (some (.ref f45)))
    (l45 : K.lookup f45 = some ⟨oc45, od45, .func (PySem.W.fnOf "_law_cell_at" "_law_cell_at" (defArgs s_law_cell_at) (defBody s_law_cell_at) (defScope s_law_cell_at) .none kV45 dc45 pm45 an45 cd45 ct45), sl45⟩)
    (c45 : PySem.W.codeIn K cd45 "_law_cell_at" = true)
    (k45 : PySem.W.keepIn K (.ref f45) = true)
    (a46 : PySem.W.nsIn K mainGlobals "_law_draw" = some (some (.ref f46)))
    (l46 : K.lookup f46 = some ⟨oc46, od46, .func (PySem.W.fnOf "_law_draw" "_law_draw" (defArgs s_law_draw) (defBody s_law_draw) (defScope s_law_draw) .none kV46 dc46 pm46 an46 cd46 ct46), sl46⟩)
    (c46 : PySem.W.codeIn K cd46 "_law_draw" = true)
    (k46 : PySem.W.keepIn K (.ref f46) = true)
    (a47 : PySem.W.nsIn K mainGlobals "_law_value" = some (some (.ref f47)))
    (l47 : K.lookup f47 = some ⟨oc47, od47, .func (PySem.W.fnOf "_law_value" "_law_value" (defArgs s_law_value) (defBody s_law_value) (defScope s_law_value) .none kV47 dc47 pm47 an47 cd47 ct47), sl47⟩)
    (c47 : PySem.W.codeIn K cd47 "_law_value" = true)
    (k47 : PySem.W.keepIn K (.ref f47) = true)
    (a48 : PySem.W.nsIn K mainGlobals "_law_kinds" = some (some (.ref f48)))
    (l48 : K.lookup f48 = some ⟨oc48, od48, .func (PySem.W.fnOf "_law_kinds" "_law_kinds" (defArgs s_law_kinds) (defBody s_law_kinds) (defScope s_law_kinds) .none kV48 dc48 pm48 an48 cd48 ct48), sl48⟩)
    (c48 : PySem.W.codeIn K cd48 "_law_kinds" = true)
    (k48 : PySem.W.keepIn K (.ref f48) = true)
    (a49 : PySem.W.nsIn K mainGlobals "_law_due_of" = some (some (.ref f49)))
    (l49 : K.lookup f49 = some ⟨oc49, od49, .func (PySem.W.fnOf "_law_due_of" "_law_due_of" (defArgs s_law_due_of) (defBody s_law_due_of) (defScope s_law_due_of) .none kV49 dc49 pm49 an49 cd49 ct49), sl49⟩)
    (c49 : PySem.W.codeIn K cd49 "_law_due_of" = true)
    (k49 : PySem.W.keepIn K (.ref f49) = true)
    (a50 : PySem.W.nsIn K mainGlobals "_law_strange" = some (some (.ref f50)))
    (l50 : K.lookup f50 = some ⟨oc50, od50, .func (PySem.W.fnOf "_law_strange" "_law_strange" (defArgs s_law_strange) (defBody s_law_strange) (defScope s_law_strange) .none kV50 dc50 pm50 an50 cd50 ct50), sl50⟩)
    (c50 : PySem.W.codeIn K cd50 "_law_strange" = true)
    (k50 : PySem.W.keepIn K (.ref f50) = true)
    (a51 : PySem.W.nsIn K mainGlobals "_law_no_orders" = some (some (.ref f51)))
    (l51 : K.lookup f51 = some ⟨oc51, od51, .func (PySem.W.fnOf "_law_no_orders" "_law_no_orders" (defArgs s_law_no_orders) (defBody s_law_no_orders) (defScope s_law_no_orders) .none kV51 dc51 pm51 an51 cd51 ct51), sl51⟩)
    (c51 : PySem.W.codeIn K cd51 "_law_no_orders" = true)
    (k51 : PySem.W.keepIn K (.ref f51) = true)
    (a52 : PySem.W.nsIn K mainGlobals "_law_no_nights" = some (some (.ref f52)))
    (l52 : K.lookup f52 = some ⟨oc52, od52, .func (PySem.W.fnOf "_law_no_nights" "_law_no_nights" (defArgs s_law_no_nights) (defBody s_law_no_nights) (defScope s_law_no_nights) .none kV52 dc52 pm52 an52 cd52 ct52), sl52⟩)
    (c52 : PySem.W.codeIn K cd52 "_law_no_nights" = true)
    (k52 : PySem.W.keepIn K (.ref f52) = true)
    (a53 : PySem.W.nsIn K mainGlobals "_law_nights_right" = some (some (.ref f53)))
    (l53 : K.lookup f53 = some ⟨oc53, od53, .func (PySem.W.fnOf "_law_nights_right" "_law_nights_right" (defArgs s_law_nights_right) (defBody s_law_nights_right) (defScope s_law_nights_right) .none kV53 dc53 pm53 an53 (.ref cA53) ct53), sl53⟩)
    (c53 : PySem.W.codeIn K (.ref cA53) "_law_nights_right" = true)
    (k53 : PySem.W.keepIn K (.ref f53) = true)
    (t53 : K.lookup cA53 = some ⟨ocA53, odA53, .fields vsA53, slA53⟩)
    (u53 : (vsA53[11]? : Option Value) = some (.ref PA53))
    (p53 : K.lookup PA53 = none)
    (a54 : PySem.W.nsIn K mainGlobals "_law_seatings_right" = some (some (.ref f54)))
    (l54 : K.lookup f54 = some ⟨oc54, od54, .func (PySem.W.fnOf "_law_seatings_right" "_law_seatings_right" (defArgs s_law_seatings_right) (defBody s_law_seatings_right) (defScope s_law_seatings_right) .none kV54 dc54 pm54 an54 (.ref cA54) ct54), sl54⟩)
    (c54 : PySem.W.codeIn K (.ref cA54) "_law_seatings_right" = true)
    (k54 : PySem.W.keepIn K (.ref f54) = true)
    (t54 : K.lookup cA54 = some ⟨ocA54, odA54, .fields vsA54, slA54⟩)
    (u54 : (vsA54[11]? : Option Value) = some (.ref PA54))
    (p54 : K.lookup PA54 = none)
    (a55 : PySem.W.nsIn K mainGlobals "_law_pairs_right" = some (some (.ref f55)))
    (l55 : K.lookup f55 = some ⟨oc55, od55, .func (PySem.W.fnOf "_law_pairs_right" "_law_pairs_right" (defArgs s_law_pairs_right) (defBody s_law_pairs_right) (defScope s_law_pairs_right) .none kV55 dc55 pm55 an55 (.ref cA55) ct55), sl55⟩)
    (c55 : PySem.W.codeIn K (.ref cA55) "_law_pairs_right" = true)
    (k55 : PySem.W.keepIn K (.ref f55) = true)
    (t55 : K.lookup cA55 = some ⟨ocA55, odA55, .fields vsA55, slA55⟩)
    (u55 : (vsA55[11]? : Option Value) = some (.ref PA55))
    (p55 : K.lookup PA55 = none)
    (a56 : PySem.W.nsIn K mainGlobals "_law_right" = some (some (.ref f56)))
    (l56 : K.lookup f56 = some ⟨oc56, od56, .func (PySem.W.fnOf "_law_right" "_law_right" (defArgs s_law_right) (defBody s_law_right) (defScope s_law_right) .none kV56 dc56 pm56 an56 (.ref cA56) ct56), sl56⟩)
    (c56 : PySem.W.codeIn K (.ref cA56) "_law_right" = true)
    (k56 : PySem.W.keepIn K (.ref f56) = true)
    (t56 : K.lookup cA56 = some ⟨ocA56, odA56, .fields vsA56, slA56⟩)
    (u56 : (vsA56[11]? : Option Value) = some (.ref PA56))
    (p56 : K.lookup PA56 = none)
    (a57 : PySem.W.nsIn K mainGlobals "law" = some (some (.ref f57)))
    (l57 : K.lookup f57 = some ⟨oc57, od57, .func (PySem.W.fnOf "law" "law" (defArgs s_law) (defBody s_law) (defScope s_law) .none kV57 dc57 pm57 an57 (.ref cA57) ct57), sl57⟩)
    (c57 : PySem.W.codeIn K (.ref cA57) "law" = true)
    (k57 : PySem.W.keepIn K (.ref f57) = true)
    (t57 : K.lookup cA57 = some ⟨ocA57, odA57, .fields vsA57, slA57⟩)
    (u57 : (vsA57[11]? : Option Value) = some (.ref PA57))
    (p57 : K.lookup PA57 = none)
    (z_all : PySem.W.nsIn K mainGlobals "all" = some none)
    (z_bool : PySem.W.nsIn K mainGlobals "bool" = some none)
    (z_dict : PySem.W.nsIn K mainGlobals "dict" = some none)
    (z_enumerate : PySem.W.nsIn K mainGlobals "enumerate" = some none)
    (z_int : PySem.W.nsIn K mainGlobals "int" = some none)
    (z_isinstance : PySem.W.nsIn K mainGlobals "isinstance" = some none)
    (z_len : PySem.W.nsIn K mainGlobals "len" = some none)
    (z_list : PySem.W.nsIn K mainGlobals "list" = some none)
    (z_range : PySem.W.nsIn K mainGlobals "range" = some none)
    (z_set : PySem.W.nsIn K mainGlobals "set" = some none)
    (z_sorted : PySem.W.nsIn K mainGlobals "sorted" = some none)
    (z_tuple : PySem.W.nsIn K mainGlobals "tuple" = some none)
    (z_zip : PySem.W.nsIn K mainGlobals "zip" = some none)
    (xa15 : PySem.W.nsIn K mainGlobals "AllCame" = some (some (.ref X15)))
    (xx15 : PySem.W.excIn K X15 veBm "ValueError.__new__" = true)
    (xk15 : PySem.W.keepIn K (.ref X15) = true)
    (xb15 : PySem.W.subIn K (.ref X15) (.type "BaseException") = some true)
    (xt15 : PySem.W.typeIn K (.ref X15) = some (.type "type"))
    (xa6 : PySem.W.nsIn K mainGlobals "BadGuest" = some (some (.ref X6)))
    (xx6 : PySem.W.excIn K X6 veBm "ValueError.__new__" = true)
    (xk6 : PySem.W.keepIn K (.ref X6) = true)
    (xb6 : PySem.W.subIn K (.ref X6) (.type "BaseException") = some true)
    (xt6 : PySem.W.typeIn K (.ref X6) = some (.type "type"))
    (xa4 : PySem.W.nsIn K mainGlobals "BadNight" = some (some (.ref X4)))
    (xx4 : PySem.W.excIn K X4 veBm "ValueError.__new__" = true)
    (xk4 : PySem.W.keepIn K (.ref X4) = true)
    (xb4 : PySem.W.subIn K (.ref X4) (.type "BaseException") = some true)
    (xt4 : PySem.W.typeIn K (.ref X4) = some (.type "type"))
    (xa12 : PySem.W.nsIn K mainGlobals "BadNumber" = some (some (.ref X12)))
    (xx12 : PySem.W.excIn K X12 veBm "ValueError.__new__" = true)
    (xk12 : PySem.W.keepIn K (.ref X12) = true)
    (xb12 : PySem.W.subIn K (.ref X12) (.type "BaseException") = some true)
    (xt12 : PySem.W.typeIn K (.ref X12) = some (.type "type"))
    (xa5 : PySem.W.nsIn K mainGlobals "BadOrder" = some (some (.ref X5)))
    (xx5 : PySem.W.excIn K X5 veBm "ValueError.__new__" = true)
    (xk5 : PySem.W.keepIn K (.ref X5) = true)
    (xb5 : PySem.W.subIn K (.ref X5) (.type "BaseException") = some true)
    (xt5 : PySem.W.typeIn K (.ref X5) = some (.type "type"))
    (xa10 : PySem.W.nsIn K mainGlobals "BadPairs" = some (some (.ref X10)))
    (xx10 : PySem.W.excIn K X10 veBm "ValueError.__new__" = true)
    (xk10 : PySem.W.keepIn K (.ref X10) = true)
    (xb10 : PySem.W.subIn K (.ref X10) (.type "BaseException") = some true)
    (xt10 : PySem.W.typeIn K (.ref X10) = some (.type "type"))
    (xa7 : PySem.W.nsIn K mainGlobals "BadSeat" = some (some (.ref X7)))
    (xx7 : PySem.W.excIn K X7 veBm "ValueError.__new__" = true)
    (xk7 : PySem.W.keepIn K (.ref X7) = true)
    (xb7 : PySem.W.subIn K (.ref X7) (.type "BaseException") = some true)
    (xt7 : PySem.W.typeIn K (.ref X7) = some (.type "type"))
    (xa11 : PySem.W.nsIn K mainGlobals "BadSeating" = some (some (.ref X11)))
    (xx11 : PySem.W.excIn K X11 veBm "ValueError.__new__" = true)
    (xk11 : PySem.W.keepIn K (.ref X11) = true)
    (xb11 : PySem.W.subIn K (.ref X11) (.type "BaseException") = some true)
    (xt11 : PySem.W.typeIn K (.ref X11) = some (.type "type"))
    (xa9 : PySem.W.nsIn K mainGlobals "BadSeats" = some (some (.ref X9)))
    (xx9 : PySem.W.excIn K X9 veBm "ValueError.__new__" = true)
    (xk9 : PySem.W.keepIn K (.ref X9) = true)
    (xb9 : PySem.W.subIn K (.ref X9) (.type "BaseException") = some true)
    (xt9 : PySem.W.typeIn K (.ref X9) = some (.type "type"))
    (xa8 : PySem.W.nsIn K mainGlobals "BadTurn" = some (some (.ref X8)))
    (xx8 : PySem.W.excIn K X8 veBm "ValueError.__new__" = true)
    (xk8 : PySem.W.keepIn K (.ref X8) = true)
    (xb8 : PySem.W.subIn K (.ref X8) (.type "BaseException") = some true)
    (xt8 : PySem.W.typeIn K (.ref X8) = some (.type "type"))
    (xa14 : PySem.W.nsIn K mainGlobals "NotSo" = some (some (.ref X14)))
    (xx14 : PySem.W.excIn K X14 veBm "ValueError.__new__" = true)
    (xk14 : PySem.W.keepIn K (.ref X14) = true)
    (xb14 : PySem.W.subIn K (.ref X14) (.type "BaseException") = some true)
    (xt14 : PySem.W.typeIn K (.ref X14) = some (.type "type"))
    (xa13 : PySem.W.nsIn K mainGlobals "TooMany" = some (some (.ref X13)))
    (xx13 : PySem.W.excIn K X13 veBm "ValueError.__new__" = true)
    (xk13 : PySem.W.keepIn K (.ref X13) = true)
    (xb13 : PySem.W.subIn K (.ref X13) (.type "BaseException") = some true)
    (xt13 : PySem.W.typeIn K (.ref X13) = some (.type "type"))
    (xa3 : PySem.W.nsIn K mainGlobals "SeatError" = some (some (.ref X3)))
    (xb3 : PySem.W.subIn K (.ref X3) (.type "BaseException") = some true)
    (xd3 : PySem.W.hasDictIn K X3 = true)
    (xt3 : PySem.W.typeIn K (.ref X3) = some (.type "type"))
    (xs3_15 : PySem.W.subIn K (.ref X15) (.ref X3) = some true)
    (xs3_6 : PySem.W.subIn K (.ref X6) (.ref X3) = some true)
    (xs3_4 : PySem.W.subIn K (.ref X4) (.ref X3) = some true)
    (xs3_12 : PySem.W.subIn K (.ref X12) (.ref X3) = some true)
    (xs3_5 : PySem.W.subIn K (.ref X5) (.ref X3) = some true)
    (xs3_10 : PySem.W.subIn K (.ref X10) (.ref X3) = some true)
    (xs3_7 : PySem.W.subIn K (.ref X7) (.ref X3) = some true)
    (xs3_11 : PySem.W.subIn K (.ref X11) (.ref X3) = some true)
    (xs3_9 : PySem.W.subIn K (.ref X9) (.ref X3) = some true)
    (xs3_8 : PySem.W.subIn K (.ref X8) (.ref X3) = some true)
    (xs3_14 : PySem.W.subIn K (.ref X14) (.ref X3) = some true)
    (xs3_13 : PySem.W.subIn K (.ref X13) (.ref X3) = some true)
    (yg : PySem.W.specialIn K (.builtin "object.__class__") "__get__" = some (some (.builtin "getset_descriptor.__get__")))
    (yt : PySem.W.takesIn K (.builtin "object.__class__") = some true)
    (eg15 : PySem.W.findIn K (.ref X15) "__getattribute__" = some (some (.builtin "BaseException.__getattribute__")))
    (ek15 : PySem.W.findIn K (.ref X15) "__getattr__" = some none)
    (ed15 : PySem.W.hasDictIn K X15 = true)
    (ec15 : PySem.W.findIn K (.ref X15) "__class__" = some (some (.builtin "object.__class__")))
    (em15 : PySem.W.mroIn K X15 (.type "object") = some true)
    (eg6 : PySem.W.findIn K (.ref X6) "__getattribute__" = some (some (.builtin "BaseException.__getattribute__")))
    (ek6 : PySem.W.findIn K (.ref X6) "__getattr__" = some none)
    (ed6 : PySem.W.hasDictIn K X6 = true)
    (ec6 : PySem.W.findIn K (.ref X6) "__class__" = some (some (.builtin "object.__class__")))
    (em6 : PySem.W.mroIn K X6 (.type "object") = some true)
    (eg4 : PySem.W.findIn K (.ref X4) "__getattribute__" = some (some (.builtin "BaseException.__getattribute__")))
    (ek4 : PySem.W.findIn K (.ref X4) "__getattr__" = some none)
    (ed4 : PySem.W.hasDictIn K X4 = true)
    (ec4 : PySem.W.findIn K (.ref X4) "__class__" = some (some (.builtin "object.__class__")))
    (em4 : PySem.W.mroIn K X4 (.type "object") = some true)
    (eg12 : PySem.W.findIn K (.ref X12) "__getattribute__" = some (some (.builtin "BaseException.__getattribute__")))
    (ek12 : PySem.W.findIn K (.ref X12) "__getattr__" = some none)
    (ed12 : PySem.W.hasDictIn K X12 = true)
    (ec12 : PySem.W.findIn K (.ref X12) "__class__" = some (some (.builtin "object.__class__")))
    (em12 : PySem.W.mroIn K X12 (.type "object") = some true)
    (eg5 : PySem.W.findIn K (.ref X5) "__getattribute__" = some (some (.builtin "BaseException.__getattribute__")))
    (ek5 : PySem.W.findIn K (.ref X5) "__getattr__" = some none)
    (ed5 : PySem.W.hasDictIn K X5 = true)
    (ec5 : PySem.W.findIn K (.ref X5) "__class__" = some (some (.builtin "object.__class__")))
    (em5 : PySem.W.mroIn K X5 (.type "object") = some true)
    (eg10 : PySem.W.findIn K (.ref X10) "__getattribute__" = some (some (.builtin "BaseException.__getattribute__")))
    (ek10 : PySem.W.findIn K (.ref X10) "__getattr__" = some none)
    (ed10 : PySem.W.hasDictIn K X10 = true)
    (ec10 : PySem.W.findIn K (.ref X10) "__class__" = some (some (.builtin "object.__class__")))
    (em10 : PySem.W.mroIn K X10 (.type "object") = some true)
    (eg7 : PySem.W.findIn K (.ref X7) "__getattribute__" = some (some (.builtin "BaseException.__getattribute__")))
    (ek7 : PySem.W.findIn K (.ref X7) "__getattr__" = some none)
    (ed7 : PySem.W.hasDictIn K X7 = true)
    (ec7 : PySem.W.findIn K (.ref X7) "__class__" = some (some (.builtin "object.__class__")))
    (em7 : PySem.W.mroIn K X7 (.type "object") = some true)
    (eg11 : PySem.W.findIn K (.ref X11) "__getattribute__" = some (some (.builtin "BaseException.__getattribute__")))
    (ek11 : PySem.W.findIn K (.ref X11) "__getattr__" = some none)
    (ed11 : PySem.W.hasDictIn K X11 = true)
    (ec11 : PySem.W.findIn K (.ref X11) "__class__" = some (some (.builtin "object.__class__")))
    (em11 : PySem.W.mroIn K X11 (.type "object") = some true)
    (eg9 : PySem.W.findIn K (.ref X9) "__getattribute__" = some (some (.builtin "BaseException.__getattribute__")))
    (ek9 : PySem.W.findIn K (.ref X9) "__getattr__" = some none)
    (ed9 : PySem.W.hasDictIn K X9 = true)
    (ec9 : PySem.W.findIn K (.ref X9) "__class__" = some (some (.builtin "object.__class__")))
    (em9 : PySem.W.mroIn K X9 (.type "object") = some true)
    (eg8 : PySem.W.findIn K (.ref X8) "__getattribute__" = some (some (.builtin "BaseException.__getattribute__")))
    (ek8 : PySem.W.findIn K (.ref X8) "__getattr__" = some none)
    (ed8 : PySem.W.hasDictIn K X8 = true)
    (ec8 : PySem.W.findIn K (.ref X8) "__class__" = some (some (.builtin "object.__class__")))
    (em8 : PySem.W.mroIn K X8 (.type "object") = some true)
    (eg14 : PySem.W.findIn K (.ref X14) "__getattribute__" = some (some (.builtin "BaseException.__getattribute__")))
    (ek14 : PySem.W.findIn K (.ref X14) "__getattr__" = some none)
    (ed14 : PySem.W.hasDictIn K X14 = true)
    (ec14 : PySem.W.findIn K (.ref X14) "__class__" = some (some (.builtin "object.__class__")))
    (em14 : PySem.W.mroIn K X14 (.type "object") = some true)
    (eg13 : PySem.W.findIn K (.ref X13) "__getattribute__" = some (some (.builtin "BaseException.__getattribute__")))
    (ek13 : PySem.W.findIn K (.ref X13) "__getattr__" = some none)
    (ed13 : PySem.W.hasDictIn K X13 = true)
    (ec13 : PySem.W.findIn K (.ref X13) "__class__" = some (some (.builtin "object.__class__")))
    (em13 : PySem.W.mroIn K X13 (.type "object") = some true)
    (yk15_15 : PySem.W.kitOne K (.ref X15) (.ref X15) = some true)
    (yk15_6 : PySem.W.kitOne K (.ref X6) (.ref X15) = some false)
    (yk15_4 : PySem.W.kitOne K (.ref X4) (.ref X15) = some false)
    (yk15_12 : PySem.W.kitOne K (.ref X12) (.ref X15) = some false)
    (yk15_5 : PySem.W.kitOne K (.ref X5) (.ref X15) = some false)
    (yk15_10 : PySem.W.kitOne K (.ref X10) (.ref X15) = some false)
    (yk15_7 : PySem.W.kitOne K (.ref X7) (.ref X15) = some false)
    (yk15_11 : PySem.W.kitOne K (.ref X11) (.ref X15) = some false)
    (yk15_9 : PySem.W.kitOne K (.ref X9) (.ref X15) = some false)
    (yk15_8 : PySem.W.kitOne K (.ref X8) (.ref X15) = some false)
    (yk15_14 : PySem.W.kitOne K (.ref X14) (.ref X15) = some false)
    (yk15_13 : PySem.W.kitOne K (.ref X13) (.ref X15) = some false)
    (yk6_15 : PySem.W.kitOne K (.ref X15) (.ref X6) = some false)
    (yk6_6 : PySem.W.kitOne K (.ref X6) (.ref X6) = some true)
    (yk6_4 : PySem.W.kitOne K (.ref X4) (.ref X6) = some false)
    (yk6_12 : PySem.W.kitOne K (.ref X12) (.ref X6) = some false)
    (yk6_5 : PySem.W.kitOne K (.ref X5) (.ref X6) = some false)
    (yk6_10 : PySem.W.kitOne K (.ref X10) (.ref X6) = some false)
    (yk6_7 : PySem.W.kitOne K (.ref X7) (.ref X6) = some false)
    (yk6_11 : PySem.W.kitOne K (.ref X11) (.ref X6) = some false)
    (yk6_9 : PySem.W.kitOne K (.ref X9) (.ref X6) = some false)
    (yk6_8 : PySem.W.kitOne K (.ref X8) (.ref X6) = some false)
    (yk6_14 : PySem.W.kitOne K (.ref X14) (.ref X6) = some false)
    (yk6_13 : PySem.W.kitOne K (.ref X13) (.ref X6) = some false)
    (yk4_15 : PySem.W.kitOne K (.ref X15) (.ref X4) = some false)
    (yk4_6 : PySem.W.kitOne K (.ref X6) (.ref X4) = some false)
    (yk4_4 : PySem.W.kitOne K (.ref X4) (.ref X4) = some true)
    (yk4_12 : PySem.W.kitOne K (.ref X12) (.ref X4) = some false)
    (yk4_5 : PySem.W.kitOne K (.ref X5) (.ref X4) = some false)
    (yk4_10 : PySem.W.kitOne K (.ref X10) (.ref X4) = some false)
    (yk4_7 : PySem.W.kitOne K (.ref X7) (.ref X4) = some false)
    (yk4_11 : PySem.W.kitOne K (.ref X11) (.ref X4) = some false)
    (yk4_9 : PySem.W.kitOne K (.ref X9) (.ref X4) = some false)
    (yk4_8 : PySem.W.kitOne K (.ref X8) (.ref X4) = some false)
    (yk4_14 : PySem.W.kitOne K (.ref X14) (.ref X4) = some false)
    (yk4_13 : PySem.W.kitOne K (.ref X13) (.ref X4) = some false)
    (yk12_15 : PySem.W.kitOne K (.ref X15) (.ref X12) = some false)
    (yk12_6 : PySem.W.kitOne K (.ref X6) (.ref X12) = some false)
    (yk12_4 : PySem.W.kitOne K (.ref X4) (.ref X12) = some false)
    (yk12_12 : PySem.W.kitOne K (.ref X12) (.ref X12) = some true)
    (yk12_5 : PySem.W.kitOne K (.ref X5) (.ref X12) = some false)
    (yk12_10 : PySem.W.kitOne K (.ref X10) (.ref X12) = some false)
    (yk12_7 : PySem.W.kitOne K (.ref X7) (.ref X12) = some false)
    (yk12_11 : PySem.W.kitOne K (.ref X11) (.ref X12) = some false)
    (yk12_9 : PySem.W.kitOne K (.ref X9) (.ref X12) = some false)
    (yk12_8 : PySem.W.kitOne K (.ref X8) (.ref X12) = some false)
    (yk12_14 : PySem.W.kitOne K (.ref X14) (.ref X12) = some false)
    (yk12_13 : PySem.W.kitOne K (.ref X13) (.ref X12) = some false)
    (yk5_15 : PySem.W.kitOne K (.ref X15) (.ref X5) = some false)
    (yk5_6 : PySem.W.kitOne K (.ref X6) (.ref X5) = some false)
    (yk5_4 : PySem.W.kitOne K (.ref X4) (.ref X5) = some false)
    (yk5_12 : PySem.W.kitOne K (.ref X12) (.ref X5) = some false)
    (yk5_5 : PySem.W.kitOne K (.ref X5) (.ref X5) = some true)
    (yk5_10 : PySem.W.kitOne K (.ref X10) (.ref X5) = some false)
    (yk5_7 : PySem.W.kitOne K (.ref X7) (.ref X5) = some false)
    (yk5_11 : PySem.W.kitOne K (.ref X11) (.ref X5) = some false)
    (yk5_9 : PySem.W.kitOne K (.ref X9) (.ref X5) = some false)
    (yk5_8 : PySem.W.kitOne K (.ref X8) (.ref X5) = some false)
    (yk5_14 : PySem.W.kitOne K (.ref X14) (.ref X5) = some false)
    (yk5_13 : PySem.W.kitOne K (.ref X13) (.ref X5) = some false)
    (yk10_15 : PySem.W.kitOne K (.ref X15) (.ref X10) = some false)
    (yk10_6 : PySem.W.kitOne K (.ref X6) (.ref X10) = some false)
    (yk10_4 : PySem.W.kitOne K (.ref X4) (.ref X10) = some false)
    (yk10_12 : PySem.W.kitOne K (.ref X12) (.ref X10) = some false)
    (yk10_5 : PySem.W.kitOne K (.ref X5) (.ref X10) = some false)
    (yk10_10 : PySem.W.kitOne K (.ref X10) (.ref X10) = some true)
    (yk10_7 : PySem.W.kitOne K (.ref X7) (.ref X10) = some false)
    (yk10_11 : PySem.W.kitOne K (.ref X11) (.ref X10) = some false)
    (yk10_9 : PySem.W.kitOne K (.ref X9) (.ref X10) = some false)
    (yk10_8 : PySem.W.kitOne K (.ref X8) (.ref X10) = some false)
    (yk10_14 : PySem.W.kitOne K (.ref X14) (.ref X10) = some false)
    (yk10_13 : PySem.W.kitOne K (.ref X13) (.ref X10) = some false)
    (yk7_15 : PySem.W.kitOne K (.ref X15) (.ref X7) = some false)
    (yk7_6 : PySem.W.kitOne K (.ref X6) (.ref X7) = some false)
    (yk7_4 : PySem.W.kitOne K (.ref X4) (.ref X7) = some false)
    (yk7_12 : PySem.W.kitOne K (.ref X12) (.ref X7) = some false)
    (yk7_5 : PySem.W.kitOne K (.ref X5) (.ref X7) = some false)
    (yk7_10 : PySem.W.kitOne K (.ref X10) (.ref X7) = some false)
    (yk7_7 : PySem.W.kitOne K (.ref X7) (.ref X7) = some true)
    (yk7_11 : PySem.W.kitOne K (.ref X11) (.ref X7) = some false)
    (yk7_9 : PySem.W.kitOne K (.ref X9) (.ref X7) = some false)
    (yk7_8 : PySem.W.kitOne K (.ref X8) (.ref X7) = some false)
    (yk7_14 : PySem.W.kitOne K (.ref X14) (.ref X7) = some false)
    (yk7_13 : PySem.W.kitOne K (.ref X13) (.ref X7) = some false)
    (yk11_15 : PySem.W.kitOne K (.ref X15) (.ref X11) = some false)
    (yk11_6 : PySem.W.kitOne K (.ref X6) (.ref X11) = some false)
    (yk11_4 : PySem.W.kitOne K (.ref X4) (.ref X11) = some false)
    (yk11_12 : PySem.W.kitOne K (.ref X12) (.ref X11) = some false)
    (yk11_5 : PySem.W.kitOne K (.ref X5) (.ref X11) = some false)
    (yk11_10 : PySem.W.kitOne K (.ref X10) (.ref X11) = some false)
    (yk11_7 : PySem.W.kitOne K (.ref X7) (.ref X11) = some false)
    (yk11_11 : PySem.W.kitOne K (.ref X11) (.ref X11) = some true)
    (yk11_9 : PySem.W.kitOne K (.ref X9) (.ref X11) = some false)
    (yk11_8 : PySem.W.kitOne K (.ref X8) (.ref X11) = some false)
    (yk11_14 : PySem.W.kitOne K (.ref X14) (.ref X11) = some false)
    (yk11_13 : PySem.W.kitOne K (.ref X13) (.ref X11) = some false)
    (yk9_15 : PySem.W.kitOne K (.ref X15) (.ref X9) = some false)
    (yk9_6 : PySem.W.kitOne K (.ref X6) (.ref X9) = some false)
    (yk9_4 : PySem.W.kitOne K (.ref X4) (.ref X9) = some false)
    (yk9_12 : PySem.W.kitOne K (.ref X12) (.ref X9) = some false)
    (yk9_5 : PySem.W.kitOne K (.ref X5) (.ref X9) = some false)
    (yk9_10 : PySem.W.kitOne K (.ref X10) (.ref X9) = some false)
    (yk9_7 : PySem.W.kitOne K (.ref X7) (.ref X9) = some false)
    (yk9_11 : PySem.W.kitOne K (.ref X11) (.ref X9) = some false)
    (yk9_9 : PySem.W.kitOne K (.ref X9) (.ref X9) = some true)
    (yk9_8 : PySem.W.kitOne K (.ref X8) (.ref X9) = some false)
    (yk9_14 : PySem.W.kitOne K (.ref X14) (.ref X9) = some false)
    (yk9_13 : PySem.W.kitOne K (.ref X13) (.ref X9) = some false)
    (yk8_15 : PySem.W.kitOne K (.ref X15) (.ref X8) = some false)
    (yk8_6 : PySem.W.kitOne K (.ref X6) (.ref X8) = some false)
    (yk8_4 : PySem.W.kitOne K (.ref X4) (.ref X8) = some false)
    (yk8_12 : PySem.W.kitOne K (.ref X12) (.ref X8) = some false)
    (yk8_5 : PySem.W.kitOne K (.ref X5) (.ref X8) = some false)
    (yk8_10 : PySem.W.kitOne K (.ref X10) (.ref X8) = some false)
    (yk8_7 : PySem.W.kitOne K (.ref X7) (.ref X8) = some false)
    (yk8_11 : PySem.W.kitOne K (.ref X11) (.ref X8) = some false)
    (yk8_9 : PySem.W.kitOne K (.ref X9) (.ref X8) = some false)
    (yk8_8 : PySem.W.kitOne K (.ref X8) (.ref X8) = some true)
    (yk8_14 : PySem.W.kitOne K (.ref X14) (.ref X8) = some false)
    (yk8_13 : PySem.W.kitOne K (.ref X13) (.ref X8) = some false)
    (yk14_15 : PySem.W.kitOne K (.ref X15) (.ref X14) = some false)
    (yk14_6 : PySem.W.kitOne K (.ref X6) (.ref X14) = some false)
    (yk14_4 : PySem.W.kitOne K (.ref X4) (.ref X14) = some false)
    (yk14_12 : PySem.W.kitOne K (.ref X12) (.ref X14) = some false)
    (yk14_5 : PySem.W.kitOne K (.ref X5) (.ref X14) = some false)
    (yk14_10 : PySem.W.kitOne K (.ref X10) (.ref X14) = some false)
    (yk14_7 : PySem.W.kitOne K (.ref X7) (.ref X14) = some false)
    (yk14_11 : PySem.W.kitOne K (.ref X11) (.ref X14) = some false)
    (yk14_9 : PySem.W.kitOne K (.ref X9) (.ref X14) = some false)
    (yk14_8 : PySem.W.kitOne K (.ref X8) (.ref X14) = some false)
    (yk14_14 : PySem.W.kitOne K (.ref X14) (.ref X14) = some true)
    (yk14_13 : PySem.W.kitOne K (.ref X13) (.ref X14) = some false)
    (yk13_15 : PySem.W.kitOne K (.ref X15) (.ref X13) = some false)
    (yk13_6 : PySem.W.kitOne K (.ref X6) (.ref X13) = some false)
    (yk13_4 : PySem.W.kitOne K (.ref X4) (.ref X13) = some false)
    (yk13_12 : PySem.W.kitOne K (.ref X12) (.ref X13) = some false)
    (yk13_5 : PySem.W.kitOne K (.ref X5) (.ref X13) = some false)
    (yk13_10 : PySem.W.kitOne K (.ref X10) (.ref X13) = some false)
    (yk13_7 : PySem.W.kitOne K (.ref X7) (.ref X13) = some false)
    (yk13_11 : PySem.W.kitOne K (.ref X11) (.ref X13) = some false)
    (yk13_9 : PySem.W.kitOne K (.ref X9) (.ref X13) = some false)
    (yk13_8 : PySem.W.kitOne K (.ref X8) (.ref X13) = some false)
    (yk13_14 : PySem.W.kitOne K (.ref X14) (.ref X13) = some false)
    (yk13_13 : PySem.W.kitOne K (.ref X13) (.ref X13) = some true)
    (z_ValueError : PySem.W.nsIn K mainGlobals "ValueError" = some none)
    (ybValueError_15 : PySem.W.kitOne K (.ref X15) (.type "ValueError") = some true)
    (ybValueError_6 : PySem.W.kitOne K (.ref X6) (.type "ValueError") = some true)
    (ybValueError_4 : PySem.W.kitOne K (.ref X4) (.type "ValueError") = some true)
    (ybValueError_12 : PySem.W.kitOne K (.ref X12) (.type "ValueError") = some true)
    (ybValueError_5 : PySem.W.kitOne K (.ref X5) (.type "ValueError") = some true)
    (ybValueError_10 : PySem.W.kitOne K (.ref X10) (.type "ValueError") = some true)
    (ybValueError_7 : PySem.W.kitOne K (.ref X7) (.type "ValueError") = some true)
    (ybValueError_11 : PySem.W.kitOne K (.ref X11) (.type "ValueError") = some true)
    (ybValueError_9 : PySem.W.kitOne K (.ref X9) (.type "ValueError") = some true)
    (ybValueError_8 : PySem.W.kitOne K (.ref X8) (.type "ValueError") = some true)
    (ybValueError_14 : PySem.W.kitOne K (.ref X14) (.type "ValueError") = some true)
    (ybValueError_13 : PySem.W.kitOne K (.ref X13) (.type "ValueError") = some true)
    (z_MOST_GUESTS : PySem.W.nsIn K mainGlobals "MOST_GUESTS" = some (some (.int 40 t_MOST_GUESTS)))
    (z_MOST_SMALL : PySem.W.nsIn K mainGlobals "MOST_SMALL" = some (some (.int 6 t_MOST_SMALL)))
    (rq53 : ((recsOf q).find? (fun e => e.name == ("_law_nights_right" : Str))).isSome = true)
    (rq54 : ((recsOf q).find? (fun e => e.name == ("_law_seatings_right" : Str))).isSome = true)
    (rq55 : ((recsOf q).find? (fun e => e.name == ("_law_pairs_right" : Str))).isSome = true)
    (rq56 : ((recsOf q).find? (fun e => e.name == ("_law_right" : Str))).isSome = true)
    (rq57 : ((recsOf q).find? (fun e => e.name == ("law" : Str))).isSome = true)
    (ne53_54 : PA53 ≠ PA54)
    (ne53_55 : PA53 ≠ PA55)
    (ne53_56 : PA53 ≠ PA56)
    (ne53_57 : PA53 ≠ PA57)
    (ne54_55 : PA54 ≠ PA55)
    (ne54_56 : PA54 ≠ PA56)
    (ne54_57 : PA54 ≠ PA57)
    (ne55_56 : PA55 ≠ PA56)
    (ne55_57 : PA55 ≠ PA57)
    (ne56_57 : PA56 ≠ PA57)
    : LamX.LawAtS l w K (L2.CX l.prog w) 10 63 "_law_script" mg fa h := by
  letI : TabI := ⟨[(PA53, ("_law_nights_right.<locals>.<lambda>" : Str)), (PA54, ("_law_seatings_right.<locals>.<lambda>" : Str)), (PA55, ("_law_pairs_right.<locals>.<lambda>" : Str)), (PA56, ("_law_right.<locals>.<lambda>" : Str)), (PA57, ("law.<locals>.<lambda>" : Str))]⟩
  have TN53 := tt _ _ _ rq53 (tabIn_of a53 l53 rfl t53 u53)
  have TN54 := tt _ _ _ rq54 (tabIn_of a54 l54 rfl t54 u54)
  have TN55 := tt _ _ _ rq55 (tabIn_of a55 l55 rfl t55 u55)
  have TN56 := tt _ _ _ rq56 (tabIn_of a56 l56 rfl t56 u56)
  have TN57 := tt _ _ _ rq57 (tabIn_of a57 l57 rfl t57 u57)
  have e := hfa.symm.trans (PySem.W.mg_of X G a57)
  cases e
  have gC1 := PySem.W.mg_of X G aC1
  have cl1 : Cls K C1 := ⟨pg1, hd1, po1, sa1⟩
  have gC2 := PySem.W.mg_of X G aC2
  have cl2 : Cls K C2 := ⟨pg2, hd2, po2, sa2⟩
  have gC16 := PySem.W.mg_of X G aC16
  have cl16 : Cls K C16 := ⟨pg16, hd16, po16, sa16⟩
  have gC17 := PySem.W.mg_of X G aC17
  have cl17 : Cls K C17 := ⟨pg17, hd17, po17, sa17⟩
  have T : Fx K mg := ⟨PySem.W.mg_none_of X G z_all, PySem.W.mg_none_of X G z_bool, PySem.W.mg_none_of X G z_dict, PySem.W.mg_none_of X G z_enumerate, PySem.W.mg_none_of X G z_int, PySem.W.mg_none_of X G z_isinstance, PySem.W.mg_none_of X G z_len, PySem.W.mg_none_of X G z_list, PySem.W.mg_none_of X G z_range, PySem.W.mg_none_of X G z_set, PySem.W.mg_none_of X G z_sorted, PySem.W.mg_none_of X G z_tuple, PySem.W.mg_none_of X G z_zip, ⟨fun C e => by rw [gC2] at e; cases e; exact ⟨cl2, nf0⟩⟩, ⟨fun C e => by rw [gC1] at e; cases e; exact ⟨cl1, nf1⟩⟩, ⟨fun C e => by rw [gC16] at e; cases e; exact ⟨cl16, nf2⟩⟩, ⟨fun C e => by rw [gC16] at e; cases e; exact ⟨cl16, nf3⟩⟩, ⟨fun C e => by rw [gC16] at e; cases e; exact ⟨cl16, nf4⟩⟩, ⟨fun C e => by rw [gC16] at e; cases e; exact ⟨cl16, nf5⟩⟩, ⟨fun C e => by rw [gC17] at e; cases e; exact ⟨cl17, nf6⟩⟩, ⟨fun C e => by rw [gC17] at e; cases e; exact ⟨cl17, nf7⟩⟩, ⟨fun C e => by rw [gC17] at e; cases e; exact ⟨cl17, nf8⟩⟩, ⟨⟨X15, PySem.W.mg_of X G xa15, xx15, xk15, xb15, xt15⟩⟩, ⟨⟨X6, PySem.W.mg_of X G xa6, xx6, xk6, xb6, xt6⟩⟩, ⟨⟨X4, PySem.W.mg_of X G xa4, xx4, xk4, xb4, xt4⟩⟩, ⟨⟨X12, PySem.W.mg_of X G xa12, xx12, xk12, xb12, xt12⟩⟩, ⟨⟨X5, PySem.W.mg_of X G xa5, xx5, xk5, xb5, xt5⟩⟩, ⟨⟨X10, PySem.W.mg_of X G xa10, xx10, xk10, xb10, xt10⟩⟩, ⟨⟨X7, PySem.W.mg_of X G xa7, xx7, xk7, xb7, xt7⟩⟩, ⟨⟨X11, PySem.W.mg_of X G xa11, xx11, xk11, xb11, xt11⟩⟩, ⟨⟨X9, PySem.W.mg_of X G xa9, xx9, xk9, xb9, xt9⟩⟩, ⟨⟨X8, PySem.W.mg_of X G xa8, xx8, xk8, xb8, xt8⟩⟩, ⟨⟨X14, PySem.W.mg_of X G xa14, xx14, xk14, xb14, xt14⟩⟩, ⟨⟨X13, PySem.W.mg_of X G xa13, xx13, xk13, xb13, xt13⟩⟩, ⟨⟨X3, PySem.W.mg_of X G xa3, fun c D h m => lk_case (k := "AllCame") h m (fun e m => by cases e; cases (PySem.W.mg_of X G xa15).symm.trans m; exact PySem.W.exm_ref xb3 xd3 xt3 xs3_15) fun h m => lk_case (k := "BadGuest") h m (fun e m => by cases e; cases (PySem.W.mg_of X G xa6).symm.trans m; exact PySem.W.exm_ref xb3 xd3 xt3 xs3_6) fun h m => lk_case (k := "BadNight") h m (fun e m => by cases e; cases (PySem.W.mg_of X G xa4).symm.trans m; exact PySem.W.exm_ref xb3 xd3 xt3 xs3_4) fun h m => lk_case (k := "BadNumber") h m (fun e m => by cases e; cases (PySem.W.mg_of X G xa12).symm.trans m; exact PySem.W.exm_ref xb3 xd3 xt3 xs3_12) fun h m => lk_case (k := "BadOrder") h m (fun e m => by cases e; cases (PySem.W.mg_of X G xa5).symm.trans m; exact PySem.W.exm_ref xb3 xd3 xt3 xs3_5) fun h m => lk_case (k := "BadPairs") h m (fun e m => by cases e; cases (PySem.W.mg_of X G xa10).symm.trans m; exact PySem.W.exm_ref xb3 xd3 xt3 xs3_10) fun h m => lk_case (k := "BadSeat") h m (fun e m => by cases e; cases (PySem.W.mg_of X G xa7).symm.trans m; exact PySem.W.exm_ref xb3 xd3 xt3 xs3_7) fun h m => lk_case (k := "BadSeating") h m (fun e m => by cases e; cases (PySem.W.mg_of X G xa11).symm.trans m; exact PySem.W.exm_ref xb3 xd3 xt3 xs3_11) fun h m => lk_case (k := "BadSeats") h m (fun e m => by cases e; cases (PySem.W.mg_of X G xa9).symm.trans m; exact PySem.W.exm_ref xb3 xd3 xt3 xs3_9) fun h m => lk_case (k := "BadTurn") h m (fun e m => by cases e; cases (PySem.W.mg_of X G xa8).symm.trans m; exact PySem.W.exm_ref xb3 xd3 xt3 xs3_8) fun h m => lk_case (k := "NotSo") h m (fun e m => by cases e; cases (PySem.W.mg_of X G xa14).symm.trans m; exact PySem.W.exm_ref xb3 xd3 xt3 xs3_14) fun h m => lk_case (k := "TooMany") h m (fun e m => by cases e; cases (PySem.W.mg_of X G xa13).symm.trans m; exact PySem.W.exm_ref xb3 xd3 xt3 xs3_13) fun h m => nomatch h⟩⟩, ⟨⟨X15, PySem.W.mg_of X G xa15, fun c b D h m => lk_case (k := "AllCame") h m (fun e m => by cases e; cases (PySem.W.mg_of X G xa15).symm.trans m; exact ⟨⟨eg15, ek15, xb15, ed15, ec15, yg, yt, em15⟩, yk15_15⟩) fun h m => lk_case (k := "BadGuest") h m (fun e m => by cases e; cases (PySem.W.mg_of X G xa6).symm.trans m; exact ⟨⟨eg6, ek6, xb6, ed6, ec6, yg, yt, em6⟩, yk15_6⟩) fun h m => lk_case (k := "BadNight") h m (fun e m => by cases e; cases (PySem.W.mg_of X G xa4).symm.trans m; exact ⟨⟨eg4, ek4, xb4, ed4, ec4, yg, yt, em4⟩, yk15_4⟩) fun h m => lk_case (k := "BadNumber") h m (fun e m => by cases e; cases (PySem.W.mg_of X G xa12).symm.trans m; exact ⟨⟨eg12, ek12, xb12, ed12, ec12, yg, yt, em12⟩, yk15_12⟩) fun h m => lk_case (k := "BadOrder") h m (fun e m => by cases e; cases (PySem.W.mg_of X G xa5).symm.trans m; exact ⟨⟨eg5, ek5, xb5, ed5, ec5, yg, yt, em5⟩, yk15_5⟩) fun h m => lk_case (k := "BadPairs") h m (fun e m => by cases e; cases (PySem.W.mg_of X G xa10).symm.trans m; exact ⟨⟨eg10, ek10, xb10, ed10, ec10, yg, yt, em10⟩, yk15_10⟩) fun h m => lk_case (k := "BadSeat") h m (fun e m => by cases e; cases (PySem.W.mg_of X G xa7).symm.trans m; exact ⟨⟨eg7, ek7, xb7, ed7, ec7, yg, yt, em7⟩, yk15_7⟩) fun h m => lk_case (k := "BadSeating") h m (fun e m => by cases e; cases (PySem.W.mg_of X G xa11).symm.trans m; exact ⟨⟨eg11, ek11, xb11, ed11, ec11, yg, yt, em11⟩, yk15_11⟩) fun h m => lk_case (k := "BadSeats") h m (fun e m => by cases e; cases (PySem.W.mg_of X G xa9).symm.trans m; exact ⟨⟨eg9, ek9, xb9, ed9, ec9, yg, yt, em9⟩, yk15_9⟩) fun h m => lk_case (k := "BadTurn") h m (fun e m => by cases e; cases (PySem.W.mg_of X G xa8).symm.trans m; exact ⟨⟨eg8, ek8, xb8, ed8, ec8, yg, yt, em8⟩, yk15_8⟩) fun h m => lk_case (k := "NotSo") h m (fun e m => by cases e; cases (PySem.W.mg_of X G xa14).symm.trans m; exact ⟨⟨eg14, ek14, xb14, ed14, ec14, yg, yt, em14⟩, yk15_14⟩) fun h m => lk_case (k := "TooMany") h m (fun e m => by cases e; cases (PySem.W.mg_of X G xa13).symm.trans m; exact ⟨⟨eg13, ek13, xb13, ed13, ec13, yg, yt, em13⟩, yk15_13⟩) fun h m => nomatch h⟩⟩, ⟨⟨X6, PySem.W.mg_of X G xa6, fun c b D h m => lk_case (k := "AllCame") h m (fun e m => by cases e; cases (PySem.W.mg_of X G xa15).symm.trans m; exact ⟨⟨eg15, ek15, xb15, ed15, ec15, yg, yt, em15⟩, yk6_15⟩) fun h m => lk_case (k := "BadGuest") h m (fun e m => by cases e; cases (PySem.W.mg_of X G xa6).symm.trans m; exact ⟨⟨eg6, ek6, xb6, ed6, ec6, yg, yt, em6⟩, yk6_6⟩) fun h m => lk_case (k := "BadNight") h m (fun e m => by cases e; cases (PySem.W.mg_of X G xa4).symm.trans m; exact ⟨⟨eg4, ek4, xb4, ed4, ec4, yg, yt, em4⟩, yk6_4⟩) fun h m => lk_case (k := "BadNumber") h m (fun e m => by cases e; cases (PySem.W.mg_of X G xa12).symm.trans m; exact ⟨⟨eg12, ek12, xb12, ed12, ec12, yg, yt, em12⟩, yk6_12⟩) fun h m => lk_case (k := "BadOrder") h m (fun e m => by cases e; cases (PySem.W.mg_of X G xa5).symm.trans m; exact ⟨⟨eg5, ek5, xb5, ed5, ec5, yg, yt, em5⟩, yk6_5⟩) fun h m => lk_case (k := "BadPairs") h m (fun e m => by cases e; cases (PySem.W.mg_of X G xa10).symm.trans m; exact ⟨⟨eg10, ek10, xb10, ed10, ec10, yg, yt, em10⟩, yk6_10⟩) fun h m => lk_case (k := "BadSeat") h m (fun e m => by cases e; cases (PySem.W.mg_of X G xa7).symm.trans m; exact ⟨⟨eg7, ek7, xb7, ed7, ec7, yg, yt, em7⟩, yk6_7⟩) fun h m => lk_case (k := "BadSeating") h m (fun e m => by cases e; cases (PySem.W.mg_of X G xa11).symm.trans m; exact ⟨⟨eg11, ek11, xb11, ed11, ec11, yg, yt, em11⟩, yk6_11⟩) fun h m => lk_case (k := "BadSeats") h m (fun e m => by cases e; cases (PySem.W.mg_of X G xa9).symm.trans m; exact ⟨⟨eg9, ek9, xb9, ed9, ec9, yg, yt, em9⟩, yk6_9⟩) fun h m => lk_case (k := "BadTurn") h m (fun e m => by cases e; cases (PySem.W.mg_of X G xa8).symm.trans m; exact ⟨⟨eg8, ek8, xb8, ed8, ec8, yg, yt, em8⟩, yk6_8⟩) fun h m => lk_case (k := "NotSo") h m (fun e m => by cases e; cases (PySem.W.mg_of X G xa14).symm.trans m; exact ⟨⟨eg14, ek14, xb14, ed14, ec14, yg, yt, em14⟩, yk6_14⟩) fun h m => lk_case (k := "TooMany") h m (fun e m => by cases e; cases (PySem.W.mg_of X G xa13).symm.trans m; exact ⟨⟨eg13, ek13, xb13, ed13, ec13, yg, yt, em13⟩, yk6_13⟩) fun h m => nomatch h⟩⟩, ⟨⟨X4, PySem.W.mg_of X G xa4, fun c b D h m => lk_case (k := "AllCame") h m (fun e m => by cases e; cases (PySem.W.mg_of X G xa15).symm.trans m; exact ⟨⟨eg15, ek15, xb15, ed15, ec15, yg, yt, em15⟩, yk4_15⟩) fun h m => lk_case (k := "BadGuest") h m (fun e m => by cases e; cases (PySem.W.mg_of X G xa6).symm.trans m; exact ⟨⟨eg6, ek6, xb6, ed6, ec6, yg, yt, em6⟩, yk4_6⟩) fun h m => lk_case (k := "BadNight") h m (fun e m => by cases e; cases (PySem.W.mg_of X G xa4).symm.trans m; exact ⟨⟨eg4, ek4, xb4, ed4, ec4, yg, yt, em4⟩, yk4_4⟩) fun h m => lk_case (k := "BadNumber") h m (fun e m => by cases e; cases (PySem.W.mg_of X G xa12).symm.trans m; exact ⟨⟨eg12, ek12, xb12, ed12, ec12, yg, yt, em12⟩, yk4_12⟩) fun h m => lk_case (k := "BadOrder") h m (fun e m => by cases e; cases (PySem.W.mg_of X G xa5).symm.trans m; exact ⟨⟨eg5, ek5, xb5, ed5, ec5, yg, yt, em5⟩, yk4_5⟩) fun h m => lk_case (k := "BadPairs") h m (fun e m => by cases e; cases (PySem.W.mg_of X G xa10).symm.trans m; exact ⟨⟨eg10, ek10, xb10, ed10, ec10, yg, yt, em10⟩, yk4_10⟩) fun h m => lk_case (k := "BadSeat") h m (fun e m => by cases e; cases (PySem.W.mg_of X G xa7).symm.trans m; exact ⟨⟨eg7, ek7, xb7, ed7, ec7, yg, yt, em7⟩, yk4_7⟩) fun h m => lk_case (k := "BadSeating") h m (fun e m => by cases e; cases (PySem.W.mg_of X G xa11).symm.trans m; exact ⟨⟨eg11, ek11, xb11, ed11, ec11, yg, yt, em11⟩, yk4_11⟩) fun h m => lk_case (k := "BadSeats") h m (fun e m => by cases e; cases (PySem.W.mg_of X G xa9).symm.trans m; exact ⟨⟨eg9, ek9, xb9, ed9, ec9, yg, yt, em9⟩, yk4_9⟩) fun h m => lk_case (k := "BadTurn") h m (fun e m => by cases e; cases (PySem.W.mg_of X G xa8).symm.trans m; exact ⟨⟨eg8, ek8, xb8, ed8, ec8, yg, yt, em8⟩, yk4_8⟩) fun h m => lk_case (k := "NotSo") h m (fun e m => by cases e; cases (PySem.W.mg_of X G xa14).symm.trans m; exact ⟨⟨eg14, ek14, xb14, ed14, ec14, yg, yt, em14⟩, yk4_14⟩) fun h m => lk_case (k := "TooMany") h m (fun e m => by cases e; cases (PySem.W.mg_of X G xa13).symm.trans m; exact ⟨⟨eg13, ek13, xb13, ed13, ec13, yg, yt, em13⟩, yk4_13⟩) fun h m => nomatch h⟩⟩, ⟨⟨X12, PySem.W.mg_of X G xa12, fun c b D h m => lk_case (k := "AllCame") h m (fun e m => by cases e; cases (PySem.W.mg_of X G xa15).symm.trans m; exact ⟨⟨eg15, ek15, xb15, ed15, ec15, yg, yt, em15⟩, yk12_15⟩) fun h m => lk_case (k := "BadGuest") h m (fun e m => by cases e; cases (PySem.W.mg_of X G xa6).symm.trans m; exact ⟨⟨eg6, ek6, xb6, ed6, ec6, yg, yt, em6⟩, yk12_6⟩) fun h m => lk_case (k := "BadNight") h m (fun e m => by cases e; cases (PySem.W.mg_of X G xa4).symm.trans m; exact ⟨⟨eg4, ek4, xb4, ed4, ec4, yg, yt, em4⟩, yk12_4⟩) fun h m => lk_case (k := "BadNumber") h m (fun e m => by cases e; cases (PySem.W.mg_of X G xa12).symm.trans m; exact ⟨⟨eg12, ek12, xb12, ed12, ec12, yg, yt, em12⟩, yk12_12⟩) fun h m => lk_case (k := "BadOrder") h m (fun e m => by cases e; cases (PySem.W.mg_of X G xa5).symm.trans m; exact ⟨⟨eg5, ek5, xb5, ed5, ec5, yg, yt, em5⟩, yk12_5⟩) fun h m => lk_case (k := "BadPairs") h m (fun e m => by cases e; cases (PySem.W.mg_of X G xa10).symm.trans m; exact ⟨⟨eg10, ek10, xb10, ed10, ec10, yg, yt, em10⟩, yk12_10⟩) fun h m => lk_case (k := "BadSeat") h m (fun e m => by cases e; cases (PySem.W.mg_of X G xa7).symm.trans m; exact ⟨⟨eg7, ek7, xb7, ed7, ec7, yg, yt, em7⟩, yk12_7⟩) fun h m => lk_case (k := "BadSeating") h m (fun e m => by cases e; cases (PySem.W.mg_of X G xa11).symm.trans m; exact ⟨⟨eg11, ek11, xb11, ed11, ec11, yg, yt, em11⟩, yk12_11⟩) fun h m => lk_case (k := "BadSeats") h m (fun e m => by cases e; cases (PySem.W.mg_of X G xa9).symm.trans m; exact ⟨⟨eg9, ek9, xb9, ed9, ec9, yg, yt, em9⟩, yk12_9⟩) fun h m => lk_case (k := "BadTurn") h m (fun e m => by cases e; cases (PySem.W.mg_of X G xa8).symm.trans m; exact ⟨⟨eg8, ek8, xb8, ed8, ec8, yg, yt, em8⟩, yk12_8⟩) fun h m => lk_case (k := "NotSo") h m (fun e m => by cases e; cases (PySem.W.mg_of X G xa14).symm.trans m; exact ⟨⟨eg14, ek14, xb14, ed14, ec14, yg, yt, em14⟩, yk12_14⟩) fun h m => lk_case (k := "TooMany") h m (fun e m => by cases e; cases (PySem.W.mg_of X G xa13).symm.trans m; exact ⟨⟨eg13, ek13, xb13, ed13, ec13, yg, yt, em13⟩, yk12_13⟩) fun h m => nomatch h⟩⟩, ⟨⟨X5, PySem.W.mg_of X G xa5, fun c b D h m => lk_case (k := "AllCame") h m (fun e m => by cases e; cases (PySem.W.mg_of X G xa15).symm.trans m; exact ⟨⟨eg15, ek15, xb15, ed15, ec15, yg, yt, em15⟩, yk5_15⟩) fun h m => lk_case (k := "BadGuest") h m (fun e m => by cases e; cases (PySem.W.mg_of X G xa6).symm.trans m; exact ⟨⟨eg6, ek6, xb6, ed6, ec6, yg, yt, em6⟩, yk5_6⟩) fun h m => lk_case (k := "BadNight") h m (fun e m => by cases e; cases (PySem.W.mg_of X G xa4).symm.trans m; exact ⟨⟨eg4, ek4, xb4, ed4, ec4, yg, yt, em4⟩, yk5_4⟩) fun h m => lk_case (k := "BadNumber") h m (fun e m => by cases e; cases (PySem.W.mg_of X G xa12).symm.trans m; exact ⟨⟨eg12, ek12, xb12, ed12, ec12, yg, yt, em12⟩, yk5_12⟩) fun h m => lk_case (k := "BadOrder") h m (fun e m => by cases e; cases (PySem.W.mg_of X G xa5).symm.trans m; exact ⟨⟨eg5, ek5, xb5, ed5, ec5, yg, yt, em5⟩, yk5_5⟩) fun h m => lk_case (k := "BadPairs") h m (fun e m => by cases e; cases (PySem.W.mg_of X G xa10).symm.trans m; exact ⟨⟨eg10, ek10, xb10, ed10, ec10, yg, yt, em10⟩, yk5_10⟩) fun h m => lk_case (k := "BadSeat") h m (fun e m => by cases e; cases (PySem.W.mg_of X G xa7).symm.trans m; exact ⟨⟨eg7, ek7, xb7, ed7, ec7, yg, yt, em7⟩, yk5_7⟩) fun h m => lk_case (k := "BadSeating") h m (fun e m => by cases e; cases (PySem.W.mg_of X G xa11).symm.trans m; exact ⟨⟨eg11, ek11, xb11, ed11, ec11, yg, yt, em11⟩, yk5_11⟩) fun h m => lk_case (k := "BadSeats") h m (fun e m => by cases e; cases (PySem.W.mg_of X G xa9).symm.trans m; exact ⟨⟨eg9, ek9, xb9, ed9, ec9, yg, yt, em9⟩, yk5_9⟩) fun h m => lk_case (k := "BadTurn") h m (fun e m => by cases e; cases (PySem.W.mg_of X G xa8).symm.trans m; exact ⟨⟨eg8, ek8, xb8, ed8, ec8, yg, yt, em8⟩, yk5_8⟩) fun h m => lk_case (k := "NotSo") h m (fun e m => by cases e; cases (PySem.W.mg_of X G xa14).symm.trans m; exact ⟨⟨eg14, ek14, xb14, ed14, ec14, yg, yt, em14⟩, yk5_14⟩) fun h m => lk_case (k := "TooMany") h m (fun e m => by cases e; cases (PySem.W.mg_of X G xa13).symm.trans m; exact ⟨⟨eg13, ek13, xb13, ed13, ec13, yg, yt, em13⟩, yk5_13⟩) fun h m => nomatch h⟩⟩, ⟨⟨X10, PySem.W.mg_of X G xa10, fun c b D h m => lk_case (k := "AllCame") h m (fun e m => by cases e; cases (PySem.W.mg_of X G xa15).symm.trans m; exact ⟨⟨eg15, ek15, xb15, ed15, ec15, yg, yt, em15⟩, yk10_15⟩) fun h m => lk_case (k := "BadGuest") h m (fun e m => by cases e; cases (PySem.W.mg_of X G xa6).symm.trans m; exact ⟨⟨eg6, ek6, xb6, ed6, ec6, yg, yt, em6⟩, yk10_6⟩) fun h m => lk_case (k := "BadNight") h m (fun e m => by cases e; cases (PySem.W.mg_of X G xa4).symm.trans m; exact ⟨⟨eg4, ek4, xb4, ed4, ec4, yg, yt, em4⟩, yk10_4⟩) fun h m => lk_case (k := "BadNumber") h m (fun e m => by cases e; cases (PySem.W.mg_of X G xa12).symm.trans m; exact ⟨⟨eg12, ek12, xb12, ed12, ec12, yg, yt, em12⟩, yk10_12⟩) fun h m => lk_case (k := "BadOrder") h m (fun e m => by cases e; cases (PySem.W.mg_of X G xa5).symm.trans m; exact ⟨⟨eg5, ek5, xb5, ed5, ec5, yg, yt, em5⟩, yk10_5⟩) fun h m => lk_case (k := "BadPairs") h m (fun e m => by cases e; cases (PySem.W.mg_of X G xa10).symm.trans m; exact ⟨⟨eg10, ek10, xb10, ed10, ec10, yg, yt, em10⟩, yk10_10⟩) fun h m => lk_case (k := "BadSeat") h m (fun e m => by cases e; cases (PySem.W.mg_of X G xa7).symm.trans m; exact ⟨⟨eg7, ek7, xb7, ed7, ec7, yg, yt, em7⟩, yk10_7⟩) fun h m => lk_case (k := "BadSeating") h m (fun e m => by cases e; cases (PySem.W.mg_of X G xa11).symm.trans m; exact ⟨⟨eg11, ek11, xb11, ed11, ec11, yg, yt, em11⟩, yk10_11⟩) fun h m => lk_case (k := "BadSeats") h m (fun e m => by cases e; cases (PySem.W.mg_of X G xa9).symm.trans m; exact ⟨⟨eg9, ek9, xb9, ed9, ec9, yg, yt, em9⟩, yk10_9⟩) fun h m => lk_case (k := "BadTurn") h m (fun e m => by cases e; cases (PySem.W.mg_of X G xa8).symm.trans m; exact ⟨⟨eg8, ek8, xb8, ed8, ec8, yg, yt, em8⟩, yk10_8⟩) fun h m => lk_case (k := "NotSo") h m (fun e m => by cases e; cases (PySem.W.mg_of X G xa14).symm.trans m; exact ⟨⟨eg14, ek14, xb14, ed14, ec14, yg, yt, em14⟩, yk10_14⟩) fun h m => lk_case (k := "TooMany") h m (fun e m => by cases e; cases (PySem.W.mg_of X G xa13).symm.trans m; exact ⟨⟨eg13, ek13, xb13, ed13, ec13, yg, yt, em13⟩, yk10_13⟩) fun h m => nomatch h⟩⟩, ⟨⟨X7, PySem.W.mg_of X G xa7, fun c b D h m => lk_case (k := "AllCame") h m (fun e m => by cases e; cases (PySem.W.mg_of X G xa15).symm.trans m; exact ⟨⟨eg15, ek15, xb15, ed15, ec15, yg, yt, em15⟩, yk7_15⟩) fun h m => lk_case (k := "BadGuest") h m (fun e m => by cases e; cases (PySem.W.mg_of X G xa6).symm.trans m; exact ⟨⟨eg6, ek6, xb6, ed6, ec6, yg, yt, em6⟩, yk7_6⟩) fun h m => lk_case (k := "BadNight") h m (fun e m => by cases e; cases (PySem.W.mg_of X G xa4).symm.trans m; exact ⟨⟨eg4, ek4, xb4, ed4, ec4, yg, yt, em4⟩, yk7_4⟩) fun h m => lk_case (k := "BadNumber") h m (fun e m => by cases e; cases (PySem.W.mg_of X G xa12).symm.trans m; exact ⟨⟨eg12, ek12, xb12, ed12, ec12, yg, yt, em12⟩, yk7_12⟩) fun h m => lk_case (k := "BadOrder") h m (fun e m => by cases e; cases (PySem.W.mg_of X G xa5).symm.trans m; exact ⟨⟨eg5, ek5, xb5, ed5, ec5, yg, yt, em5⟩, yk7_5⟩) fun h m => lk_case (k := "BadPairs") h m (fun e m => by cases e; cases (PySem.W.mg_of X G xa10).symm.trans m; exact ⟨⟨eg10, ek10, xb10, ed10, ec10, yg, yt, em10⟩, yk7_10⟩) fun h m => lk_case (k := "BadSeat") h m (fun e m => by cases e; cases (PySem.W.mg_of X G xa7).symm.trans m; exact ⟨⟨eg7, ek7, xb7, ed7, ec7, yg, yt, em7⟩, yk7_7⟩) fun h m => lk_case (k := "BadSeating") h m (fun e m => by cases e; cases (PySem.W.mg_of X G xa11).symm.trans m; exact ⟨⟨eg11, ek11, xb11, ed11, ec11, yg, yt, em11⟩, yk7_11⟩) fun h m => lk_case (k := "BadSeats") h m (fun e m => by cases e; cases (PySem.W.mg_of X G xa9).symm.trans m; exact ⟨⟨eg9, ek9, xb9, ed9, ec9, yg, yt, em9⟩, yk7_9⟩) fun h m => lk_case (k := "BadTurn") h m (fun e m => by cases e; cases (PySem.W.mg_of X G xa8).symm.trans m; exact ⟨⟨eg8, ek8, xb8, ed8, ec8, yg, yt, em8⟩, yk7_8⟩) fun h m => lk_case (k := "NotSo") h m (fun e m => by cases e; cases (PySem.W.mg_of X G xa14).symm.trans m; exact ⟨⟨eg14, ek14, xb14, ed14, ec14, yg, yt, em14⟩, yk7_14⟩) fun h m => lk_case (k := "TooMany") h m (fun e m => by cases e; cases (PySem.W.mg_of X G xa13).symm.trans m; exact ⟨⟨eg13, ek13, xb13, ed13, ec13, yg, yt, em13⟩, yk7_13⟩) fun h m => nomatch h⟩⟩, ⟨⟨X11, PySem.W.mg_of X G xa11, fun c b D h m => lk_case (k := "AllCame") h m (fun e m => by cases e; cases (PySem.W.mg_of X G xa15).symm.trans m; exact ⟨⟨eg15, ek15, xb15, ed15, ec15, yg, yt, em15⟩, yk11_15⟩) fun h m => lk_case (k := "BadGuest") h m (fun e m => by cases e; cases (PySem.W.mg_of X G xa6).symm.trans m; exact ⟨⟨eg6, ek6, xb6, ed6, ec6, yg, yt, em6⟩, yk11_6⟩) fun h m => lk_case (k := "BadNight") h m (fun e m => by cases e; cases (PySem.W.mg_of X G xa4).symm.trans m; exact ⟨⟨eg4, ek4, xb4, ed4, ec4, yg, yt, em4⟩, yk11_4⟩) fun h m => lk_case (k := "BadNumber") h m (fun e m => by cases e; cases (PySem.W.mg_of X G xa12).symm.trans m; exact ⟨⟨eg12, ek12, xb12, ed12, ec12, yg, yt, em12⟩, yk11_12⟩) fun h m => lk_case (k := "BadOrder") h m (fun e m => by cases e; cases (PySem.W.mg_of X G xa5).symm.trans m; exact ⟨⟨eg5, ek5, xb5, ed5, ec5, yg, yt, em5⟩, yk11_5⟩) fun h m => lk_case (k := "BadPairs") h m (fun e m => by cases e; cases (PySem.W.mg_of X G xa10).symm.trans m; exact ⟨⟨eg10, ek10, xb10, ed10, ec10, yg, yt, em10⟩, yk11_10⟩) fun h m => lk_case (k := "BadSeat") h m (fun e m => by cases e; cases (PySem.W.mg_of X G xa7).symm.trans m; exact ⟨⟨eg7, ek7, xb7, ed7, ec7, yg, yt, em7⟩, yk11_7⟩) fun h m => lk_case (k := "BadSeating") h m (fun e m => by cases e; cases (PySem.W.mg_of X G xa11).symm.trans m; exact ⟨⟨eg11, ek11, xb11, ed11, ec11, yg, yt, em11⟩, yk11_11⟩) fun h m => lk_case (k := "BadSeats") h m (fun e m => by cases e; cases (PySem.W.mg_of X G xa9).symm.trans m; exact ⟨⟨eg9, ek9, xb9, ed9, ec9, yg, yt, em9⟩, yk11_9⟩) fun h m => lk_case (k := "BadTurn") h m (fun e m => by cases e; cases (PySem.W.mg_of X G xa8).symm.trans m; exact ⟨⟨eg8, ek8, xb8, ed8, ec8, yg, yt, em8⟩, yk11_8⟩) fun h m => lk_case (k := "NotSo") h m (fun e m => by cases e; cases (PySem.W.mg_of X G xa14).symm.trans m; exact ⟨⟨eg14, ek14, xb14, ed14, ec14, yg, yt, em14⟩, yk11_14⟩) fun h m => lk_case (k := "TooMany") h m (fun e m => by cases e; cases (PySem.W.mg_of X G xa13).symm.trans m; exact ⟨⟨eg13, ek13, xb13, ed13, ec13, yg, yt, em13⟩, yk11_13⟩) fun h m => nomatch h⟩⟩, ⟨⟨X9, PySem.W.mg_of X G xa9, fun c b D h m => lk_case (k := "AllCame") h m (fun e m => by cases e; cases (PySem.W.mg_of X G xa15).symm.trans m; exact ⟨⟨eg15, ek15, xb15, ed15, ec15, yg, yt, em15⟩, yk9_15⟩) fun h m => lk_case (k := "BadGuest") h m (fun e m => by cases e; cases (PySem.W.mg_of X G xa6).symm.trans m; exact ⟨⟨eg6, ek6, xb6, ed6, ec6, yg, yt, em6⟩, yk9_6⟩) fun h m => lk_case (k := "BadNight") h m (fun e m => by cases e; cases (PySem.W.mg_of X G xa4).symm.trans m; exact ⟨⟨eg4, ek4, xb4, ed4, ec4, yg, yt, em4⟩, yk9_4⟩) fun h m => lk_case (k := "BadNumber") h m (fun e m => by cases e; cases (PySem.W.mg_of X G xa12).symm.trans m; exact ⟨⟨eg12, ek12, xb12, ed12, ec12, yg, yt, em12⟩, yk9_12⟩) fun h m => lk_case (k := "BadOrder") h m (fun e m => by cases e; cases (PySem.W.mg_of X G xa5).symm.trans m; exact ⟨⟨eg5, ek5, xb5, ed5, ec5, yg, yt, em5⟩, yk9_5⟩) fun h m => lk_case (k := "BadPairs") h m (fun e m => by cases e; cases (PySem.W.mg_of X G xa10).symm.trans m; exact ⟨⟨eg10, ek10, xb10, ed10, ec10, yg, yt, em10⟩, yk9_10⟩) fun h m => lk_case (k := "BadSeat") h m (fun e m => by cases e; cases (PySem.W.mg_of X G xa7).symm.trans m; exact ⟨⟨eg7, ek7, xb7, ed7, ec7, yg, yt, em7⟩, yk9_7⟩) fun h m => lk_case (k := "BadSeating") h m (fun e m => by cases e; cases (PySem.W.mg_of X G xa11).symm.trans m; exact ⟨⟨eg11, ek11, xb11, ed11, ec11, yg, yt, em11⟩, yk9_11⟩) fun h m => lk_case (k := "BadSeats") h m (fun e m => by cases e; cases (PySem.W.mg_of X G xa9).symm.trans m; exact ⟨⟨eg9, ek9, xb9, ed9, ec9, yg, yt, em9⟩, yk9_9⟩) fun h m => lk_case (k := "BadTurn") h m (fun e m => by cases e; cases (PySem.W.mg_of X G xa8).symm.trans m; exact ⟨⟨eg8, ek8, xb8, ed8, ec8, yg, yt, em8⟩, yk9_8⟩) fun h m => lk_case (k := "NotSo") h m (fun e m => by cases e; cases (PySem.W.mg_of X G xa14).symm.trans m; exact ⟨⟨eg14, ek14, xb14, ed14, ec14, yg, yt, em14⟩, yk9_14⟩) fun h m => lk_case (k := "TooMany") h m (fun e m => by cases e; cases (PySem.W.mg_of X G xa13).symm.trans m; exact ⟨⟨eg13, ek13, xb13, ed13, ec13, yg, yt, em13⟩, yk9_13⟩) fun h m => nomatch h⟩⟩, ⟨⟨X8, PySem.W.mg_of X G xa8, fun c b D h m => lk_case (k := "AllCame") h m (fun e m => by cases e; cases (PySem.W.mg_of X G xa15).symm.trans m; exact ⟨⟨eg15, ek15, xb15, ed15, ec15, yg, yt, em15⟩, yk8_15⟩) fun h m => lk_case (k := "BadGuest") h m (fun e m => by cases e; cases (PySem.W.mg_of X G xa6).symm.trans m; exact ⟨⟨eg6, ek6, xb6, ed6, ec6, yg, yt, em6⟩, yk8_6⟩) fun h m => lk_case (k := "BadNight") h m (fun e m => by cases e; cases (PySem.W.mg_of X G xa4).symm.trans m; exact ⟨⟨eg4, ek4, xb4, ed4, ec4, yg, yt, em4⟩, yk8_4⟩) fun h m => lk_case (k := "BadNumber") h m (fun e m => by cases e; cases (PySem.W.mg_of X G xa12).symm.trans m; exact ⟨⟨eg12, ek12, xb12, ed12, ec12, yg, yt, em12⟩, yk8_12⟩) fun h m => lk_case (k := "BadOrder") h m (fun e m => by cases e; cases (PySem.W.mg_of X G xa5).symm.trans m; exact ⟨⟨eg5, ek5, xb5, ed5, ec5, yg, yt, em5⟩, yk8_5⟩) fun h m => lk_case (k := "BadPairs") h m (fun e m => by cases e; cases (PySem.W.mg_of X G xa10).symm.trans m; exact ⟨⟨eg10, ek10, xb10, ed10, ec10, yg, yt, em10⟩, yk8_10⟩) fun h m => lk_case (k := "BadSeat") h m (fun e m => by cases e; cases (PySem.W.mg_of X G xa7).symm.trans m; exact ⟨⟨eg7, ek7, xb7, ed7, ec7, yg, yt, em7⟩, yk8_7⟩) fun h m => lk_case (k := "BadSeating") h m (fun e m => by cases e; cases (PySem.W.mg_of X G xa11).symm.trans m; exact ⟨⟨eg11, ek11, xb11, ed11, ec11, yg, yt, em11⟩, yk8_11⟩) fun h m => lk_case (k := "BadSeats") h m (fun e m => by cases e; cases (PySem.W.mg_of X G xa9).symm.trans m; exact ⟨⟨eg9, ek9, xb9, ed9, ec9, yg, yt, em9⟩, yk8_9⟩) fun h m => lk_case (k := "BadTurn") h m (fun e m => by cases e; cases (PySem.W.mg_of X G xa8).symm.trans m; exact ⟨⟨eg8, ek8, xb8, ed8, ec8, yg, yt, em8⟩, yk8_8⟩) fun h m => lk_case (k := "NotSo") h m (fun e m => by cases e; cases (PySem.W.mg_of X G xa14).symm.trans m; exact ⟨⟨eg14, ek14, xb14, ed14, ec14, yg, yt, em14⟩, yk8_14⟩) fun h m => lk_case (k := "TooMany") h m (fun e m => by cases e; cases (PySem.W.mg_of X G xa13).symm.trans m; exact ⟨⟨eg13, ek13, xb13, ed13, ec13, yg, yt, em13⟩, yk8_13⟩) fun h m => nomatch h⟩⟩, ⟨⟨X14, PySem.W.mg_of X G xa14, fun c b D h m => lk_case (k := "AllCame") h m (fun e m => by cases e; cases (PySem.W.mg_of X G xa15).symm.trans m; exact ⟨⟨eg15, ek15, xb15, ed15, ec15, yg, yt, em15⟩, yk14_15⟩) fun h m => lk_case (k := "BadGuest") h m (fun e m => by cases e; cases (PySem.W.mg_of X G xa6).symm.trans m; exact ⟨⟨eg6, ek6, xb6, ed6, ec6, yg, yt, em6⟩, yk14_6⟩) fun h m => lk_case (k := "BadNight") h m (fun e m => by cases e; cases (PySem.W.mg_of X G xa4).symm.trans m; exact ⟨⟨eg4, ek4, xb4, ed4, ec4, yg, yt, em4⟩, yk14_4⟩) fun h m => lk_case (k := "BadNumber") h m (fun e m => by cases e; cases (PySem.W.mg_of X G xa12).symm.trans m; exact ⟨⟨eg12, ek12, xb12, ed12, ec12, yg, yt, em12⟩, yk14_12⟩) fun h m => lk_case (k := "BadOrder") h m (fun e m => by cases e; cases (PySem.W.mg_of X G xa5).symm.trans m; exact ⟨⟨eg5, ek5, xb5, ed5, ec5, yg, yt, em5⟩, yk14_5⟩) fun h m => lk_case (k := "BadPairs") h m (fun e m => by cases e; cases (PySem.W.mg_of X G xa10).symm.trans m; exact ⟨⟨eg10, ek10, xb10, ed10, ec10, yg, yt, em10⟩, yk14_10⟩) fun h m => lk_case (k := "BadSeat") h m (fun e m => by cases e; cases (PySem.W.mg_of X G xa7).symm.trans m; exact ⟨⟨eg7, ek7, xb7, ed7, ec7, yg, yt, em7⟩, yk14_7⟩) fun h m => lk_case (k := "BadSeating") h m (fun e m => by cases e; cases (PySem.W.mg_of X G xa11).symm.trans m; exact ⟨⟨eg11, ek11, xb11, ed11, ec11, yg, yt, em11⟩, yk14_11⟩) fun h m => lk_case (k := "BadSeats") h m (fun e m => by cases e; cases (PySem.W.mg_of X G xa9).symm.trans m; exact ⟨⟨eg9, ek9, xb9, ed9, ec9, yg, yt, em9⟩, yk14_9⟩) fun h m => lk_case (k := "BadTurn") h m (fun e m => by cases e; cases (PySem.W.mg_of X G xa8).symm.trans m; exact ⟨⟨eg8, ek8, xb8, ed8, ec8, yg, yt, em8⟩, yk14_8⟩) fun h m => lk_case (k := "NotSo") h m (fun e m => by cases e; cases (PySem.W.mg_of X G xa14).symm.trans m; exact ⟨⟨eg14, ek14, xb14, ed14, ec14, yg, yt, em14⟩, yk14_14⟩) fun h m => lk_case (k := "TooMany") h m (fun e m => by cases e; cases (PySem.W.mg_of X G xa13).symm.trans m; exact ⟨⟨eg13, ek13, xb13, ed13, ec13, yg, yt, em13⟩, yk14_13⟩) fun h m => nomatch h⟩⟩, ⟨⟨X13, PySem.W.mg_of X G xa13, fun c b D h m => lk_case (k := "AllCame") h m (fun e m => by cases e; cases (PySem.W.mg_of X G xa15).symm.trans m; exact ⟨⟨eg15, ek15, xb15, ed15, ec15, yg, yt, em15⟩, yk13_15⟩) fun h m => lk_case (k := "BadGuest") h m (fun e m => by cases e; cases (PySem.W.mg_of X G xa6).symm.trans m; exact ⟨⟨eg6, ek6, xb6, ed6, ec6, yg, yt, em6⟩, yk13_6⟩) fun h m => lk_case (k := "BadNight") h m (fun e m => by cases e; cases (PySem.W.mg_of X G xa4).symm.trans m; exact ⟨⟨eg4, ek4, xb4, ed4, ec4, yg, yt, em4⟩, yk13_4⟩) fun h m => lk_case (k := "BadNumber") h m (fun e m => by cases e; cases (PySem.W.mg_of X G xa12).symm.trans m; exact ⟨⟨eg12, ek12, xb12, ed12, ec12, yg, yt, em12⟩, yk13_12⟩) fun h m => lk_case (k := "BadOrder") h m (fun e m => by cases e; cases (PySem.W.mg_of X G xa5).symm.trans m; exact ⟨⟨eg5, ek5, xb5, ed5, ec5, yg, yt, em5⟩, yk13_5⟩) fun h m => lk_case (k := "BadPairs") h m (fun e m => by cases e; cases (PySem.W.mg_of X G xa10).symm.trans m; exact ⟨⟨eg10, ek10, xb10, ed10, ec10, yg, yt, em10⟩, yk13_10⟩) fun h m => lk_case (k := "BadSeat") h m (fun e m => by cases e; cases (PySem.W.mg_of X G xa7).symm.trans m; exact ⟨⟨eg7, ek7, xb7, ed7, ec7, yg, yt, em7⟩, yk13_7⟩) fun h m => lk_case (k := "BadSeating") h m (fun e m => by cases e; cases (PySem.W.mg_of X G xa11).symm.trans m; exact ⟨⟨eg11, ek11, xb11, ed11, ec11, yg, yt, em11⟩, yk13_11⟩) fun h m => lk_case (k := "BadSeats") h m (fun e m => by cases e; cases (PySem.W.mg_of X G xa9).symm.trans m; exact ⟨⟨eg9, ek9, xb9, ed9, ec9, yg, yt, em9⟩, yk13_9⟩) fun h m => lk_case (k := "BadTurn") h m (fun e m => by cases e; cases (PySem.W.mg_of X G xa8).symm.trans m; exact ⟨⟨eg8, ek8, xb8, ed8, ec8, yg, yt, em8⟩, yk13_8⟩) fun h m => lk_case (k := "NotSo") h m (fun e m => by cases e; cases (PySem.W.mg_of X G xa14).symm.trans m; exact ⟨⟨eg14, ek14, xb14, ed14, ec14, yg, yt, em14⟩, yk13_14⟩) fun h m => lk_case (k := "TooMany") h m (fun e m => by cases e; cases (PySem.W.mg_of X G xa13).symm.trans m; exact ⟨⟨eg13, ek13, xb13, ed13, ec13, yg, yt, em13⟩, yk13_13⟩) fun h m => nomatch h⟩⟩, ⟨PySem.W.mg_none_of X G z_ValueError, fun c b D h m => lk_case (k := "AllCame") h m (fun e m => by cases e; cases (PySem.W.mg_of X G xa15).symm.trans m; exact ⟨⟨eg15, ek15, xb15, ed15, ec15, yg, yt, em15⟩, ybValueError_15⟩) fun h m => lk_case (k := "BadGuest") h m (fun e m => by cases e; cases (PySem.W.mg_of X G xa6).symm.trans m; exact ⟨⟨eg6, ek6, xb6, ed6, ec6, yg, yt, em6⟩, ybValueError_6⟩) fun h m => lk_case (k := "BadNight") h m (fun e m => by cases e; cases (PySem.W.mg_of X G xa4).symm.trans m; exact ⟨⟨eg4, ek4, xb4, ed4, ec4, yg, yt, em4⟩, ybValueError_4⟩) fun h m => lk_case (k := "BadNumber") h m (fun e m => by cases e; cases (PySem.W.mg_of X G xa12).symm.trans m; exact ⟨⟨eg12, ek12, xb12, ed12, ec12, yg, yt, em12⟩, ybValueError_12⟩) fun h m => lk_case (k := "BadOrder") h m (fun e m => by cases e; cases (PySem.W.mg_of X G xa5).symm.trans m; exact ⟨⟨eg5, ek5, xb5, ed5, ec5, yg, yt, em5⟩, ybValueError_5⟩) fun h m => lk_case (k := "BadPairs") h m (fun e m => by cases e; cases (PySem.W.mg_of X G xa10).symm.trans m; exact ⟨⟨eg10, ek10, xb10, ed10, ec10, yg, yt, em10⟩, ybValueError_10⟩) fun h m => lk_case (k := "BadSeat") h m (fun e m => by cases e; cases (PySem.W.mg_of X G xa7).symm.trans m; exact ⟨⟨eg7, ek7, xb7, ed7, ec7, yg, yt, em7⟩, ybValueError_7⟩) fun h m => lk_case (k := "BadSeating") h m (fun e m => by cases e; cases (PySem.W.mg_of X G xa11).symm.trans m; exact ⟨⟨eg11, ek11, xb11, ed11, ec11, yg, yt, em11⟩, ybValueError_11⟩) fun h m => lk_case (k := "BadSeats") h m (fun e m => by cases e; cases (PySem.W.mg_of X G xa9).symm.trans m; exact ⟨⟨eg9, ek9, xb9, ed9, ec9, yg, yt, em9⟩, ybValueError_9⟩) fun h m => lk_case (k := "BadTurn") h m (fun e m => by cases e; cases (PySem.W.mg_of X G xa8).symm.trans m; exact ⟨⟨eg8, ek8, xb8, ed8, ec8, yg, yt, em8⟩, ybValueError_8⟩) fun h m => lk_case (k := "NotSo") h m (fun e m => by cases e; cases (PySem.W.mg_of X G xa14).symm.trans m; exact ⟨⟨eg14, ek14, xb14, ed14, ec14, yg, yt, em14⟩, ybValueError_14⟩) fun h m => lk_case (k := "TooMany") h m (fun e m => by cases e; cases (PySem.W.mg_of X G xa13).symm.trans m; exact ⟨⟨eg13, ek13, xb13, ed13, ec13, yg, yt, em13⟩, ybValueError_13⟩) fun h m => nomatch h⟩, ⟨_, PySem.W.mg_of X G z_MOST_GUESTS⟩, ⟨_, PySem.W.mg_of X G z_MOST_SMALL⟩⟩
  have F0 := fun_mk (st := s_wall) l0 c0 k0
  have B0 := F0.binds (ps := ["k"]) fun _ _ _ _ _ _ us hl => match us, hl with | [_], _ => rfl
  have F1 := fun_mk (st := s_choices_of) l1 c1 k1
  have B1 := F1.binds (ps := ["night", "seats"]) fun _ _ _ _ _ _ us hl => match us, hl with | [_, _], _ => rfl
  have F2 := fun_mk (st := s_Comes_init) l2 c2 k2
  have B2 := F2.binds (ps := ["self", "choices"]) fun _ _ _ _ _ _ us hl => match us, hl with | [_, _], _ => rfl
  have F3 := fun_mk (st := s_Comes_shows) l3 c3 k3
  have B3 := F3.binds (ps := ["self", "night", "seats"]) fun _ _ _ _ _ _ us hl => match us, hl with | [_, _, _], _ => rfl
  have F4 := fun_mk (st := s_Bars_init) l4 c4 k4
  have B4 := F4.binds (ps := ["self", "turn"]) fun _ _ _ _ _ _ us hl => match us, hl with | [_, _], _ => rfl
  have F5 := fun_mk (st := s_Bars_shows) l5 c5 k5
  have B5 := F5.binds (ps := ["self", "night", "seats"]) fun _ _ _ _ _ _ us hl => match us, hl with | [_, _, _], _ => rfl
  have F6 := fun_mk (st := s_is_count) l6 c6 k6
  have B6 := F6.binds (ps := ["thing", "least", "most"]) fun _ _ _ _ _ _ us hl => match us, hl with | [_, _, _], _ => rfl
  have F7 := fun_mk (st := s_are_all) l7 c7 k7
  have B7 := F7.binds (ps := ["thing", "many"]) fun _ _ _ _ _ _ us hl => match us, hl with | [_, _], _ => rfl
  have F8 := fun_mk (st := s_are_rising) l8 c8 k8
  have B8 := F8.binds (ps := ["thing", "many"]) fun _ _ _ _ _ _ us hl => match us, hl with | [_, _], _ => rfl
  have F9 := fun_mk (st := s_check_order) l9 c9 k9
  have B9 := F9.binds (ps := ["order"]) fun _ _ _ _ _ _ us hl => match us, hl with | [_], _ => rfl
  have F10 := fun_mk (st := s_check_night) l10 c10 k10
  have B10 := F10.binds (ps := ["night"]) fun _ _ _ _ _ _ us hl => match us, hl with | [_], _ => rfl
  have F11 := fun_mk (st := s_check_two) l11 c11 k11
  have B11 := F11.binds (ps := ["night", "guest", "seat"]) fun _ _ _ _ _ _ us hl => match us, hl with | [_, _, _], _ => rfl
  have F12 := fun_mk (st := s_are_pairs) l12 c12 k12
  have B12 := F12.binds (ps := ["thing", "many"]) fun _ _ _ _ _ _ us hl => match us, hl with | [_, _], _ => rfl
  have F13 := fun_mk (st := s_check_seating) l13 c13 k13
  have B13 := F13.binds (ps := ["seats", "many"]) fun _ _ _ _ _ _ us hl => match us, hl with | [_, _], _ => rfl
  have F14 := fun_mk (st := s_common) l14 c14 k14
  have B14 := F14.binds (ps := ["one", "other"]) fun _ _ _ _ _ _ us hl => match us, hl with | [_, _], _ => rfl
  have F15 := fun_mk (st := s_part) l15 c15 k15
  have B15 := F15.binds (ps := ["top", "bottom"]) fun _ _ _ _ _ _ us hl => match us, hl with | [_, _], _ => rfl
  have F16 := fun_mk (st := s_summed) l16 c16 k16
  have B16 := F16.binds (ps := ["shares"]) fun _ _ _ _ _ _ us hl => match us, hl with | [_], _ => rfl
  have F17 := fun_mk (st := s_lost_ahead) l17 c17 k17
  have B17 := F17.binds (ps := ["night", "turn"]) fun _ _ _ _ _ _ us hl => match us, hl with | [_, _], _ => rfl
  have F18 := fun_mk (st := s_room) l18 c18 k18
  have B18 := F18.binds (ps := ["night", "turn"]) fun _ _ _ _ _ _ us hl => match us, hl with | [_, _], _ => rfl
  have F19 := fun_mk (st := s_share_of) l19 c19 k19
  have B19 := F19.binds (ps := ["night", "guest", "seat"]) fun _ _ _ _ _ _ us hl => match us, hl with | [_, _, _], _ => rfl
  have F20 := fun_mk (st := s_share) l20 c20 k20
  have B20 := F20.binds (ps := ["night", "guest", "seat"]) fun _ _ _ _ _ _ us hl => match us, hl with | [_, _, _], _ => rfl
  have F21 := fun_mk (st := s_free_share) l21 c21 k21
  have B21 := F21.binds (ps := ["night", "turn", "seats"]) fun _ _ _ _ _ _ us hl => match us, hl with | [_, _, _], _ => rfl
  have F22 := fun_mk (st := s_seating) l22 c22 k22
  have B22 := F22.binds (ps := ["night", "seats"]) fun _ _ _ _ _ _ us hl => match us, hl with | [_, _], _ => rfl
  have F23 := fun_mk (st := s_own) l23 c23 k23
  have B23 := F23.binds (ps := ["night"]) fun _ _ _ _ _ _ us hl => match us, hl with | [_], _ => rfl
  have F24 := fun_mk (st := s_share_back) l24 c24 k24
  have B24 := F24.binds (ps := ["night", "guest", "seat"]) fun _ _ _ _ _ _ us hl => match us, hl with | [_, _, _], _ => rfl
  have F25 := fun_mk (st := s_asked) l25 c25 k25
  have B25 := F25.binds (ps := ["night"]) fun _ _ _ _ _ _ us hl => match us, hl with | [_], _ => rfl
  have F26 := fun_mk (st := s_Door_init) l26 c26 k26
  have B26 := F26.binds (ps := ["self", "night"]) fun _ _ _ _ _ _ us hl => match us, hl with | [_, _], _ => rfl
  have F27 := fun_mk (st := s_Door_next_guest) l27 c27 k27
  have B27 := F27.binds (ps := ["self"]) fun _ _ _ _ _ _ us hl => match us, hl with | [_], _ => rfl
  have F28 := fun_mk (st := s_Door_open_seats) l28 c28 k28
  have B28 := F28.binds (ps := ["self"]) fun _ _ _ _ _ _ us hl => match us, hl with | [_], _ => rfl
  have F29 := fun_mk (st := s_Door_come) l29 c29 k29
  have B29 := F29.binds (ps := ["self", "seat"]) fun _ _ _ _ _ _ us hl => match us, hl with | [_, _], _ => rfl
  have F30 := fun_mk (st := s_Door_taken) l30 c30 k30
  have B30 := F30.binds (ps := ["self"]) fun _ _ _ _ _ _ us hl => match us, hl with | [_], _ => rfl
  have F31 := fun_mk (st := s_Door_so_far) l31 c31 k31
  have B31 := F31.binds (ps := ["self"]) fun _ _ _ _ _ _ us hl => match us, hl with | [_], _ => rfl
  have F32 := fun_mk (st := s_Row_init) l32 c32 k32
  have B32 := F32.binds (ps := ["self", "night"]) fun _ _ _ _ _ _ us hl => match us, hl with | [_, _], _ => rfl
  have F33 := fun_mk (st := s_Row_drop) l33 c33 k33
  have B33 := F33.binds (ps := ["self", "at"]) fun _ _ _ _ _ _ us hl => match us, hl with | [_, _], _ => rfl
  have F34 := fun_mk (st := s_Row_ahead) l34 c34 k34
  have B34 := F34.binds (ps := ["self", "at"]) fun _ _ _ _ _ _ us hl => match us, hl with | [_, _], _ => rfl
  have F35 := fun_mk (st := s_Row_share_at) l35 c35 k35
  have B35 := F35.binds (ps := ["self", "at", "seat"]) fun _ _ _ _ _ _ us hl => match us, hl with | [_, _, _], _ => rfl
  have F36 := fun_mk (st := s_Row_sit) l36 c36 k36
  have B36 := F36.binds (ps := ["self", "at", "seat"]) fun _ _ _ _ _ _ us hl => match us, hl with | [_, _, _], _ => rfl
  have F37 := fun_mk (st := s_together) l37 c37 k37
  have B37 := F37.binds (ps := ["night", "pairs"]) fun _ _ _ _ _ _ us hl => match us, hl with | [_, _], _ => rfl
  have F38 := fun_mk (st := s_judged) l38 c38 k38
  have B38 := F38.binds (ps := ["night", "seats"]) fun _ _ _ _ _ _ us hl => match us, hl with | [_, _], _ => rfl
  have F39 := fun_mk (st := s_must) l39 c39 k39
  have B39 := F39.binds (ps := ["order", "seats"]) fun _ _ _ _ _ _ us hl => match us, hl with | [_, _], _ => rfl
  have F40 := fun_mk (st := s_all_seatings) l40 c40 k40
  have B40 := F40.binds (ps := ["night"]) fun _ _ _ _ _ _ us hl => match us, hl with | [_], _ => rfl
  have F41 := fun_mk (st := s_check_small) l41 c41 k41
  have B41 := F41.binds (ps := ["night"]) fun _ _ _ _ _ _ us hl => match us, hl with | [_], _ => rfl
  have F42 := fun_mk (st := s_how_many) l42 c42 k42
  have B42 := F42.binds (ps := ["night"]) fun _ _ _ _ _ _ us hl => match us, hl with | [_], _ => rfl
  have F43 := fun_mk (st := s_seating_by) l43 c43 k43
  have B43 := F43.binds (ps := ["night", "number"]) fun _ _ _ _ _ _ us hl => match us, hl with | [_, _], _ => rfl
  have F44 := fun_mk (st := s_number_of) l44 c44 k44
  have B44 := F44.binds (ps := ["night", "seats"]) fun _ _ _ _ _ _ us hl => match us, hl with | [_, _], _ => rfl
  have F45 := fun_mk (st := s_law_cell_at) l45 c45 k45
  have B45 := F45.binds (ps := ["_law_script", "_law_k"]) fun _ _ _ _ _ _ us hl => match us, hl with | [_, _], _ => rfl
  have F46 := fun_mk (st := s_law_draw) l46 c46 k46
  have B46 := F46.binds (ps := ["_law_cell", "_law_k", "_law_many"]) fun _ _ _ _ _ _ us hl => match us, hl with | [_, _, _], _ => rfl
  have F47 := fun_mk (st := s_law_value) l47 c47 k47
  have B47 := F47.binds (ps := ["_law_cell", "_law_turn"]) fun _ _ _ _ _ _ us hl => match us, hl with | [_, _], _ => rfl
  have F48 := fun_mk (st := s_law_kinds) l48 c48 k48
  have B48 := F48.binds (ps := ["_law_ask"]) fun _ _ _ _ _ _ us hl => match us, hl with | [_], _ => rfl
  have F49 := fun_mk (st := s_law_due_of) l49 c49 k49
  have B49 := F49.binds (ps := ["_law_at"]) fun _ _ _ _ _ _ us hl => match us, hl with | [_], _ => rfl
  have F50 := fun_mk (st := s_law_strange) l50 c50 k50
  have B50 := F50.binds (ps := ["_law_far"]) fun _ _ _ _ _ _ us hl => match us, hl with | [_], _ => rfl
  have F51 := fun_mk (st := s_law_no_orders) l51 c51 k51
  have B51 := F51.binds (ps := ["_law_far"]) fun _ _ _ _ _ _ us hl => match us, hl with | [_], _ => rfl
  have F52 := fun_mk (st := s_law_no_nights) l52 c52 k52
  have B52 := F52.binds (ps := ["_law_far"]) fun _ _ _ _ _ _ us hl => match us, hl with | [_], _ => rfl
  have F53 := fun_mk (st := s_law_nights_right) l53 c53 k53
  have FC53 := func_mk (st := s_law_nights_right) l53 c53
  have B53 := F53.binds (ps := ["_law_far"]) fun _ _ _ _ _ _ us hl => match us, hl with | [_], _ => rfl
  have F54 := fun_mk (st := s_law_seatings_right) l54 c54 k54
  have FC54 := func_mk (st := s_law_seatings_right) l54 c54
  have B54 := F54.binds (ps := ["_law_night", "_law_far"]) fun _ _ _ _ _ _ us hl => match us, hl with | [_, _], _ => rfl
  have F55 := fun_mk (st := s_law_pairs_right) l55 c55 k55
  have FC55 := func_mk (st := s_law_pairs_right) l55 c55
  have B55 := F55.binds (ps := ["_law_night", "_law_far"]) fun _ _ _ _ _ _ us hl => match us, hl with | [_, _], _ => rfl
  have F56 := fun_mk (st := s_law_right) l56 c56 k56
  have FC56 := func_mk (st := s_law_right) l56 c56
  have B56 := F56.binds (ps := ["_law_far"]) fun _ _ _ _ _ _ us hl => match us, hl with | [_], _ => rfl
  have F57 := fun_mk (st := s_law) l57 c57 k57
  have FC57 := func_mk (st := s_law) l57 c57
  have B57 := F57.binds (ps := ["_law_script"]) fun _ _ _ _ _ _ us hl => match us, hl with | [_], _ => rfl
  have g1 : ∀ p ∈ ([(cA53, PA53), (cA54, PA54), (cA55, PA55), (cA56, PA56), (cA57, PA57)] : List (Addr × Addr)), h.get? p.2 = some { cls := .none, data := .fields #[] } := List.forall_mem_cons.mpr ⟨TN53.2, List.forall_mem_cons.mpr ⟨TN54.2, List.forall_mem_cons.mpr ⟨TN55.2, List.forall_mem_cons.mpr ⟨TN56.2, List.forall_mem_cons.mpr ⟨TN57.2, fun _ hp => nomatch hp⟩⟩⟩⟩⟩
  have g2 : ∀ p ∈ ([(cA53, PA53), (cA54, PA54), (cA55, PA55), (cA56, PA56), (cA57, PA57)] : List (Addr × Addr)), K.lookup p.2 = none := List.forall_mem_cons.mpr ⟨p53, List.forall_mem_cons.mpr ⟨p54, List.forall_mem_cons.mpr ⟨p55, List.forall_mem_cons.mpr ⟨p56, List.forall_mem_cons.mpr ⟨p57, fun _ hp => nomatch hp⟩⟩⟩⟩⟩
  have g3 : ∀ p ∈ ([(cA53, PA53), (cA54, PA54), (cA55, PA55), (cA56, PA56), (cA57, PA57)] : List (Addr × Addr)), PySem.W.CodeHd h p.1 p.2 := List.forall_mem_cons.mpr ⟨TN53.1, List.forall_mem_cons.mpr ⟨TN54.1, List.forall_mem_cons.mpr ⟨TN55.1, List.forall_mem_cons.mpr ⟨TN56.1, List.forall_mem_cons.mpr ⟨TN57.1, fun _ hp => nomatch hp⟩⟩⟩⟩⟩
  have g4 : ∀ H : Hp, (∀ p ∈ ([(cA53, PA53), (cA54, PA54), (cA55, PA55), (cA56, PA56), (cA57, PA57)] : List (Addr × Addr)), H p.2 = some (.tbl #[])) → LamX.Tabs TabI.ts H := fun H hT => show ∀ p ∈ ([(PA53, ("_law_nights_right.<locals>.<lambda>" : Str)), (PA54, ("_law_seatings_right.<locals>.<lambda>" : Str)), (PA55, ("_law_pairs_right.<locals>.<lambda>" : Str)), (PA56, ("_law_right.<locals>.<lambda>" : Str)), (PA57, ("law.<locals>.<lambda>" : Str))] : List (Addr × Str)), LamX.TabS H p.1 p.2 from List.forall_mem_cons.mpr ⟨LamX.TabS.nil (hT (cA53, PA53) (by simp)), List.forall_mem_cons.mpr ⟨LamX.TabS.nil (hT (cA54, PA54) (by simp)), List.forall_mem_cons.mpr ⟨LamX.TabS.nil (hT (cA55, PA55) (by simp)), List.forall_mem_cons.mpr ⟨LamX.TabS.nil (hT (cA56, PA56) (by simp)), List.forall_mem_cons.mpr ⟨LamX.TabS.nil (hT (cA57, PA57) (by simp)), fun _ hp => nomatch hp⟩⟩⟩⟩⟩
  refine ⟨PySem.W.fnOf "law" "law" (defArgs s_law) (defBody s_law) (defScope s_law) .none kV57 dc57 pm57 an57 (.ref cA57) ct57, [(cA53, PA53), (cA54, PA54), (cA55, PA55), (cA56, PA56), (cA57, PA57)], spLaw K, g1, g2, g3, fun s v => .of_eq rfl, fun H a ns hl hb hT hS => ⟨g4 H hT, a, ns, rfl, hS, hl, fun _ => rfl⟩, fun base hKb hGb hTB => ?_⟩
  have tb53 : LamX.TabB base mg cA53 PA53 := hTB (cA53, PA53) (by simp)
  have tb54 : LamX.TabB base mg cA54 PA54 := hTB (cA54, PA54) (by simp)
  have tb55 : LamX.TabB base mg cA55 PA55 := hTB (cA55, PA55) (by simp)
  have tb56 : LamX.TabB base mg cA56 PA56 := hTB (cA56, PA56) (by simp)
  have tb57 : LamX.TabB base mg cA57 PA57 := hTB (cA57, PA57) (by simp)
  have c_wall : Cal l.prog w K mg base "_wall" 1 ["k"] m_wall := ⟨⟨f0, _, PySem.W.mg_of X G a0, k0, ok_wall F0 T, B0⟩⟩
  have c_choices_of : Cal l.prog w K mg base "choices_of" 1 ["night", "seats"] m_choices_of := ⟨⟨f1, _, PySem.W.mg_of X G a1, k1, ok_choices_of F1 T, B1⟩⟩
  have c_Comes_init : KCal l.prog w K mg base "Comes" 1 ["self", "choices"] m_Comes_init := ⟨⟨C1, f2, _, gC1, ⟨mk1, a2, i2, kc1⟩, ok_Comes_init F2 T, B2⟩⟩
  have c_Comes_shows : MCal l.prog w K mg base "Comes" "shows" 2 ["self", "night", "seats"] m_Comes_shows := ⟨⟨C1, f3, _, gC1, cl1, ⟨a3, i3, k3⟩, ok_Comes_shows F3 T c_wall, B3⟩⟩
  have c_Bars_init : KCal l.prog w K mg base "Bars" 1 ["self", "turn"] m_Bars_init := ⟨⟨C2, f4, _, gC2, ⟨mk2, a4, i4, kc2⟩, ok_Bars_init F4 T, B4⟩⟩
  have c_Bars_shows : MCal l.prog w K mg base "Bars" "shows" 2 ["self", "night", "seats"] m_Bars_shows := ⟨⟨C2, f5, _, gC2, cl2, ⟨a5, i5, k5⟩, ok_Bars_shows F5 T c_wall, B5⟩⟩
  have c_is_count : Cal l.prog w K mg base "is_count" 1 ["thing", "least", "most"] m_is_count := ⟨⟨f6, _, PySem.W.mg_of X G a6, k6, ok_is_count F6 T, B6⟩⟩
  have c_are_all : Cal l.prog w K mg base "are_all" 2 ["thing", "many"] m_are_all := ⟨⟨f7, _, PySem.W.mg_of X G a7, k7, ok_are_all F7 T c_is_count, B7⟩⟩
  have c_are_rising : Cal l.prog w K mg base "are_rising" 2 ["thing", "many"] m_are_rising := ⟨⟨f8, _, PySem.W.mg_of X G a8, k8, ok_are_rising F8 T c_is_count, B8⟩⟩
  have c_check_order : Cal l.prog w K mg base "check_order" 3 ["order"] m_check_order := ⟨⟨f9, _, PySem.W.mg_of X G a9, k9, ok_check_order F9 T c_are_all, B9⟩⟩
  have c_check_night : Cal l.prog w K mg base "check_night" 3 ["night"] m_check_night := ⟨⟨f10, _, PySem.W.mg_of X G a10, k10, ok_check_night F10 T c_are_all c_are_rising, B10⟩⟩
  have c_check_two : Cal l.prog w K mg base "check_two" 4 ["night", "guest", "seat"] m_check_two := ⟨⟨f11, _, PySem.W.mg_of X G a11, k11, ok_check_two F11 T c_check_night c_is_count, B11⟩⟩
  have c_are_pairs : Cal l.prog w K mg base "are_pairs" 2 ["thing", "many"] m_are_pairs := ⟨⟨f12, _, PySem.W.mg_of X G a12, k12, ok_are_pairs F12 T c_is_count, B12⟩⟩
  have c_check_seating : Cal l.prog w K mg base "check_seating" 3 ["seats", "many"] m_check_seating := ⟨⟨f13, _, PySem.W.mg_of X G a13, k13, ok_check_seating F13 T c_are_all, B13⟩⟩
  have c_common : Cal l.prog w K mg base "common" 1 ["one", "other"] m_common := ⟨⟨f14, _, PySem.W.mg_of X G a14, k14, ok_common F14 T, B14⟩⟩
  have c_part : Cal l.prog w K mg base "part" 2 ["top", "bottom"] m_part := ⟨⟨f15, _, PySem.W.mg_of X G a15, k15, ok_part F15 T c_common, B15⟩⟩
  have c_summed : Cal l.prog w K mg base "summed" 3 ["shares"] m_summed := ⟨⟨f16, _, PySem.W.mg_of X G a16, k16, ok_summed F16 T c_part, B16⟩⟩
  have c_lost_ahead : Cal l.prog w K mg base "lost_ahead" 1 ["night", "turn"] m_lost_ahead := ⟨⟨f17, _, PySem.W.mg_of X G a17, k17, ok_lost_ahead F17 T, B17⟩⟩
  have c_room : Cal l.prog w K mg base "room" 1 ["night", "turn"] m_room := ⟨⟨f18, _, PySem.W.mg_of X G a18, k18, ok_room F18 T, B18⟩⟩
  have c_share_of : Cal l.prog w K mg base "share_of" 3 ["night", "guest", "seat"] m_share_of := ⟨⟨f19, _, PySem.W.mg_of X G a19, k19, ok_share_of F19 T c_lost_ahead c_part c_room, B19⟩⟩
  have c_share : Cal l.prog w K mg base "share" 5 ["night", "guest", "seat"] m_share := ⟨⟨f20, _, PySem.W.mg_of X G a20, k20, ok_share F20 T c_check_two c_share_of, B20⟩⟩
  have c_free_share : Cal l.prog w K mg base "free_share" 4 ["night", "turn", "seats"] m_free_share := ⟨⟨f21, _, PySem.W.mg_of X G a21, k21, ok_free_share F21 T c_are_rising c_check_night c_is_count c_room, B21⟩⟩
  have c_seating : Cal l.prog w K mg base "seating" 4 ["night", "seats"] m_seating := ⟨⟨f22, _, PySem.W.mg_of X G a22, k22, ok_seating F22 T c_check_night c_check_seating c_choices_of, B22⟩⟩
  have c_own : Cal l.prog w K mg base "own" 4 ["night"] m_own := ⟨⟨f23, _, PySem.W.mg_of X G a23, k23, ok_own F23 T c_check_night c_share_of c_summed, B23⟩⟩
  have c_share_back : Cal l.prog w K mg base "share_back" 5 ["night", "guest", "seat"] m_share_back := ⟨⟨f24, _, PySem.W.mg_of X G a24, k24, ok_share_back F24 T c_check_two, B24⟩⟩
  have c_asked : Cal l.prog w K mg base "asked" 4 ["night"] m_asked := ⟨⟨f25, _, PySem.W.mg_of X G a25, k25, ok_asked F25 T c_check_night c_lost_ahead c_part c_summed, B25⟩⟩
  have c_Door_init : KCal l.prog w K mg base "Door" 4 ["self", "night"] m_Door_init := ⟨⟨C16, f26, _, gC16, ⟨mk16, a26, i26, kc16⟩, ok_Door_init F26 T c_check_night, B26⟩⟩
  have c_Door_next_guest : MCal l.prog w K mg base "Door" "next_guest" 1 ["self"] m_Door_next_guest := ⟨⟨C16, f27, _, gC16, cl16, ⟨a27, i27, k27⟩, ok_Door_next_guest F27 T, B27⟩⟩
  have c_Door_open_seats : MCal l.prog w K mg base "Door" "open_seats" 2 ["self"] m_Door_open_seats := ⟨⟨C16, f28, _, gC16, cl16, ⟨a28, i28, k28⟩, ok_Door_open_seats F28 T c_Door_next_guest, B28⟩⟩
  have c_Door_come : MCal l.prog w K mg base "Door" "come" 3 ["self", "seat"] m_Door_come := ⟨⟨C16, f29, _, gC16, cl16, ⟨a29, i29, k29⟩, ok_Door_come F29 T c_Door_next_guest c_Door_open_seats c_is_count, B29⟩⟩
  have cm_Door_come : MMal l.prog w K mg base "Door" "come" 3 ["self", "seat"] mm_Door_come := ⟨⟨C16, f29, _, gC16, cl16, ⟨a29, i29, k29⟩, okm_Door_come F29 T c_Door_next_guest c_Door_open_seats c_is_count, B29⟩⟩
  have c_Door_taken : MCal l.prog w K mg base "Door" "taken" 1 ["self"] m_Door_taken := ⟨⟨C16, f30, _, gC16, cl16, ⟨a30, i30, k30⟩, ok_Door_taken F30 T, B30⟩⟩
  have c_Door_so_far : MCal l.prog w K mg base "Door" "so_far" 2 ["self"] m_Door_so_far := ⟨⟨C16, f31, _, gC16, cl16, ⟨a31, i31, k31⟩, ok_Door_so_far F31 T c_wall, B31⟩⟩
  have c_Row_init : KCal l.prog w K mg base "Row" 1 ["self", "night"] m_Row_init := ⟨⟨C17, f32, _, gC17, ⟨mk17, a32, i32, kc17⟩, ok_Row_init F32 T, B32⟩⟩
  have c_Row_drop : MCal l.prog w K mg base "Row" "drop" 1 ["self", "at"] m_Row_drop := ⟨⟨C17, f33, _, gC17, cl17, ⟨a33, i33, k33⟩, ok_Row_drop F33 T, B33⟩⟩
  have cm_Row_drop : MMal l.prog w K mg base "Row" "drop" 1 ["self", "at"] mm_Row_drop := ⟨⟨C17, f33, _, gC17, cl17, ⟨a33, i33, k33⟩, okm_Row_drop F33 T, B33⟩⟩
  have c_Row_ahead : MCal l.prog w K mg base "Row" "ahead" 1 ["self", "at"] m_Row_ahead := ⟨⟨C17, f34, _, gC17, cl17, ⟨a34, i34, k34⟩, ok_Row_ahead F34 T, B34⟩⟩
  have c_Row_share_at : MCal l.prog w K mg base "Row" "share_at" 3 ["self", "at", "seat"] m_Row_share_at := ⟨⟨C17, f35, _, gC17, cl17, ⟨a35, i35, k35⟩, ok_Row_share_at F35 T c_Row_ahead c_part, B35⟩⟩
  have c_Row_sit : MCal l.prog w K mg base "Row" "sit" 2 ["self", "at", "seat"] m_Row_sit := ⟨⟨C17, f36, _, gC17, cl17, ⟨a36, i36, k36⟩, ok_Row_sit F36 T c_Row_ahead c_Row_drop, B36⟩⟩
  have cm_Row_sit : MMal l.prog w K mg base "Row" "sit" 2 ["self", "at", "seat"] mm_Row_sit := ⟨⟨C17, f36, _, gC17, cl17, ⟨a36, i36, k36⟩, okm_Row_sit F36 T c_Row_ahead cm_Row_drop, B36⟩⟩
  have c_together : Cal l.prog w K mg base "together" 4 ["night", "pairs"] m_together := ⟨⟨f37, _, PySem.W.mg_of X G a37, k37, ok_together F37 T c_Row_init c_Row_share_at c_are_pairs c_check_night c_part cm_Row_sit, B37⟩⟩
  have c_judged : Cal l.prog w K mg base "judged" 4 ["night", "seats"] m_judged := ⟨⟨f38, _, PySem.W.mg_of X G a38, k38, ok_judged F38 T c_Bars_init c_Comes_init c_check_night c_check_seating c_choices_of, B38⟩⟩
  have c_must : Cal l.prog w K mg base "must" 4 ["order", "seats"] m_must := ⟨⟨f39, _, PySem.W.mg_of X G a39, k39, ok_must F39 T c_check_order c_check_seating, B39⟩⟩
  have c_all_seatings : Cal l.prog w K mg base "all_seatings" 1 ["night"] m_all_seatings := ⟨⟨f40, _, PySem.W.mg_of X G a40, k40, ok_all_seatings F40 T, B40⟩⟩
  have c_check_small : Cal l.prog w K mg base "check_small" 4 ["night"] m_check_small := ⟨⟨f41, _, PySem.W.mg_of X G a41, k41, ok_check_small F41 T c_check_night, B41⟩⟩
  have c_how_many : Cal l.prog w K mg base "how_many" 5 ["night"] m_how_many := ⟨⟨f42, _, PySem.W.mg_of X G a42, k42, ok_how_many F42 T c_all_seatings c_check_small, B42⟩⟩
  have c_seating_by : Cal l.prog w K mg base "seating_by" 5 ["night", "number"] m_seating_by := ⟨⟨f43, _, PySem.W.mg_of X G a43, k43, ok_seating_by F43 T c_all_seatings c_check_small c_is_count, B43⟩⟩
  have c_number_of : Cal l.prog w K mg base "number_of" 5 ["night", "seats"] m_number_of := ⟨⟨f44, _, PySem.W.mg_of X G a44, k44, ok_number_of F44 T c_all_seatings c_check_seating c_check_small, B44⟩⟩
  have c_law_cell_at : Cal l.prog w K mg base "_law_cell_at" 1 ["_law_script", "_law_k"] m_law_cell_at := ⟨⟨f45, _, PySem.W.mg_of X G a45, k45, ok_law_cell_at F45 T, B45⟩⟩
  have c_law_draw : Cal l.prog w K mg base "_law_draw" 1 ["_law_cell", "_law_k", "_law_many"] m_law_draw := ⟨⟨f46, _, PySem.W.mg_of X G a46, k46, ok_law_draw F46 T, B46⟩⟩
  have c_law_value : Cal l.prog w K mg base "_law_value" 2 ["_law_cell", "_law_turn"] m_law_value := ⟨⟨f47, _, PySem.W.mg_of X G a47, k47, ok_law_value F47 T c_law_draw, B47⟩⟩
  have c_law_kinds : Ask l.prog w K mg base "_law_kinds" lamJ (lamJ + 2) m_law_kinds := ok_law_kinds F48 T (PySem.W.mg_of X G a48) B48
  have c_law_due_of : Cal l.prog w K mg base "_law_due_of" 1 ["_law_at"] m_law_due_of := ⟨⟨f49, _, PySem.W.mg_of X G a49, k49, ok_law_due_of F49 T, B49⟩⟩
  have c_law_strange : Cal l.prog w K mg base "_law_strange" 1 ["_law_far"] m_law_strange := ⟨⟨f50, _, PySem.W.mg_of X G a50, k50, ok_law_strange F50 T, B50⟩⟩
  have c_law_no_orders : Cal l.prog w K mg base "_law_no_orders" 2 ["_law_far"] m_law_no_orders := ⟨⟨f51, _, PySem.W.mg_of X G a51, k51, ok_law_no_orders F51 T c_law_strange, B51⟩⟩
  have c_law_no_nights : Cal l.prog w K mg base "_law_no_nights" 3 ["_law_far"] m_law_no_nights := ⟨⟨f52, _, PySem.W.mg_of X G a52, k52, ok_law_no_nights F52 T c_law_no_orders c_law_strange, B52⟩⟩
  have hu53 : ∀ p ∈ ([(PA53, ("_law_nights_right.<locals>.<lambda>" : Str)), (PA54, ("_law_seatings_right.<locals>.<lambda>" : Str)), (PA55, ("_law_pairs_right.<locals>.<lambda>" : Str)), (PA56, ("_law_right.<locals>.<lambda>" : Str)), (PA57, ("law.<locals>.<lambda>" : Str))] : List (Addr × Str)), p.1 = PA53 → p.2 = ("_law_nights_right.<locals>.<lambda>" : Str) := List.forall_mem_cons.mpr ⟨fun _ => rfl, List.forall_mem_cons.mpr ⟨fun z => absurd z (Ne.symm ne53_54), List.forall_mem_cons.mpr ⟨fun z => absurd z (Ne.symm ne53_55), List.forall_mem_cons.mpr ⟨fun z => absurd z (Ne.symm ne53_56), List.forall_mem_cons.mpr ⟨fun z => absurd z (Ne.symm ne53_57), fun _ hp => nomatch hp⟩⟩⟩⟩⟩
  have c_law_nights_right : Cal l.prog w K mg base "_law_nights_right" 8 ["_law_far"] m_law_nights_right := ⟨⟨f53, _, PySem.W.mg_of X G a53, k53, ok_law_nights_right FC53 T tb53 (show (PA53, ("_law_nights_right.<locals>.<lambda>" : Str)) ∈ ([(PA53, ("_law_nights_right.<locals>.<lambda>" : Str)), (PA54, ("_law_seatings_right.<locals>.<lambda>" : Str)), (PA55, ("_law_pairs_right.<locals>.<lambda>" : Str)), (PA56, ("_law_right.<locals>.<lambda>" : Str)), (PA57, ("law.<locals>.<lambda>" : Str))] : List (Addr × Str)) by simp) hu53 c_Door_init c_law_due_of c_law_no_nights c_law_no_orders c_asked c_free_share c_how_many c_judged c_must c_number_of c_own c_seating c_seating_by c_share c_share_back c_together c_law_kinds, B53⟩⟩
  have hu54 : ∀ p ∈ ([(PA53, ("_law_nights_right.<locals>.<lambda>" : Str)), (PA54, ("_law_seatings_right.<locals>.<lambda>" : Str)), (PA55, ("_law_pairs_right.<locals>.<lambda>" : Str)), (PA56, ("_law_right.<locals>.<lambda>" : Str)), (PA57, ("law.<locals>.<lambda>" : Str))] : List (Addr × Str)), p.1 = PA54 → p.2 = ("_law_seatings_right.<locals>.<lambda>" : Str) := List.forall_mem_cons.mpr ⟨fun z => absurd z ne53_54, List.forall_mem_cons.mpr ⟨fun _ => rfl, List.forall_mem_cons.mpr ⟨fun z => absurd z (Ne.symm ne54_55), List.forall_mem_cons.mpr ⟨fun z => absurd z (Ne.symm ne54_56), List.forall_mem_cons.mpr ⟨fun z => absurd z (Ne.symm ne54_57), fun _ hp => nomatch hp⟩⟩⟩⟩⟩
  have c_law_seatings_right : Cal l.prog w K mg base "_law_seatings_right" 8 ["_law_night", "_law_far"] m_law_seatings_right := ⟨⟨f54, _, PySem.W.mg_of X G a54, k54, ok_law_seatings_right FC54 T tb54 (show (PA54, ("_law_seatings_right.<locals>.<lambda>" : Str)) ∈ ([(PA53, ("_law_nights_right.<locals>.<lambda>" : Str)), (PA54, ("_law_seatings_right.<locals>.<lambda>" : Str)), (PA55, ("_law_pairs_right.<locals>.<lambda>" : Str)), (PA56, ("_law_right.<locals>.<lambda>" : Str)), (PA57, ("law.<locals>.<lambda>" : Str))] : List (Addr × Str)) by simp) hu54 c_law_due_of c_law_strange c_judged c_must c_number_of c_seating c_law_kinds, B54⟩⟩
  have hu55 : ∀ p ∈ ([(PA53, ("_law_nights_right.<locals>.<lambda>" : Str)), (PA54, ("_law_seatings_right.<locals>.<lambda>" : Str)), (PA55, ("_law_pairs_right.<locals>.<lambda>" : Str)), (PA56, ("_law_right.<locals>.<lambda>" : Str)), (PA57, ("law.<locals>.<lambda>" : Str))] : List (Addr × Str)), p.1 = PA55 → p.2 = ("_law_pairs_right.<locals>.<lambda>" : Str) := List.forall_mem_cons.mpr ⟨fun z => absurd z ne53_55, List.forall_mem_cons.mpr ⟨fun z => absurd z ne54_55, List.forall_mem_cons.mpr ⟨fun _ => rfl, List.forall_mem_cons.mpr ⟨fun z => absurd z (Ne.symm ne55_56), List.forall_mem_cons.mpr ⟨fun z => absurd z (Ne.symm ne55_57), fun _ hp => nomatch hp⟩⟩⟩⟩⟩
  have c_law_pairs_right : Cal l.prog w K mg base "_law_pairs_right" 8 ["_law_night", "_law_far"] m_law_pairs_right := ⟨⟨f55, _, PySem.W.mg_of X G a55, k55, ok_law_pairs_right FC55 T tb55 (show (PA55, ("_law_pairs_right.<locals>.<lambda>" : Str)) ∈ ([(PA53, ("_law_nights_right.<locals>.<lambda>" : Str)), (PA54, ("_law_seatings_right.<locals>.<lambda>" : Str)), (PA55, ("_law_pairs_right.<locals>.<lambda>" : Str)), (PA56, ("_law_right.<locals>.<lambda>" : Str)), (PA57, ("law.<locals>.<lambda>" : Str))] : List (Addr × Str)) by simp) hu55 c_law_due_of c_law_strange c_together c_law_kinds, B55⟩⟩
  have hu56 : ∀ p ∈ ([(PA53, ("_law_nights_right.<locals>.<lambda>" : Str)), (PA54, ("_law_seatings_right.<locals>.<lambda>" : Str)), (PA55, ("_law_pairs_right.<locals>.<lambda>" : Str)), (PA56, ("_law_right.<locals>.<lambda>" : Str)), (PA57, ("law.<locals>.<lambda>" : Str))] : List (Addr × Str)), p.1 = PA56 → p.2 = ("_law_right.<locals>.<lambda>" : Str) := List.forall_mem_cons.mpr ⟨fun z => absurd z ne53_56, List.forall_mem_cons.mpr ⟨fun z => absurd z ne54_56, List.forall_mem_cons.mpr ⟨fun z => absurd z ne55_56, List.forall_mem_cons.mpr ⟨fun _ => rfl, List.forall_mem_cons.mpr ⟨fun z => absurd z (Ne.symm ne56_57), fun _ hp => nomatch hp⟩⟩⟩⟩⟩
  have c_law_right : Cal l.prog w K mg base "_law_right" 9 ["_law_far"] m_law_right := ⟨⟨f56, _, PySem.W.mg_of X G a56, k56, ok_law_right FC56 T tb56 (show (PA56, ("_law_right.<locals>.<lambda>" : Str)) ∈ ([(PA53, ("_law_nights_right.<locals>.<lambda>" : Str)), (PA54, ("_law_seatings_right.<locals>.<lambda>" : Str)), (PA55, ("_law_pairs_right.<locals>.<lambda>" : Str)), (PA56, ("_law_right.<locals>.<lambda>" : Str)), (PA57, ("law.<locals>.<lambda>" : Str))] : List (Addr × Str)) by simp) hu56 c_Door_init c_Door_come c_law_due_of c_law_pairs_right c_law_seatings_right c_law_strange c_free_share c_how_many c_number_of c_seating_by c_share c_share_back c_law_kinds, B56⟩⟩
  have hu57 : ∀ p ∈ ([(PA53, ("_law_nights_right.<locals>.<lambda>" : Str)), (PA54, ("_law_seatings_right.<locals>.<lambda>" : Str)), (PA55, ("_law_pairs_right.<locals>.<lambda>" : Str)), (PA56, ("_law_right.<locals>.<lambda>" : Str)), (PA57, ("law.<locals>.<lambda>" : Str))] : List (Addr × Str)), p.1 = PA57 → p.2 = ("law.<locals>.<lambda>" : Str) := List.forall_mem_cons.mpr ⟨fun z => absurd z ne53_57, List.forall_mem_cons.mpr ⟨fun z => absurd z ne54_57, List.forall_mem_cons.mpr ⟨fun z => absurd z ne55_57, List.forall_mem_cons.mpr ⟨fun z => absurd z ne56_57, List.forall_mem_cons.mpr ⟨fun _ => rfl, fun _ hp => nomatch hp⟩⟩⟩⟩⟩
  exact ok_law FC57 T tb57 (show (PA57, ("law.<locals>.<lambda>" : Str)) ∈ ([(PA53, ("_law_nights_right.<locals>.<lambda>" : Str)), (PA54, ("_law_seatings_right.<locals>.<lambda>" : Str)), (PA55, ("_law_pairs_right.<locals>.<lambda>" : Str)), (PA56, ("_law_right.<locals>.<lambda>" : Str)), (PA57, ("law.<locals>.<lambda>" : Str))] : List (Addr × Str)) by simp) hu57 c_Door_init c_Door_come c_law_cell_at c_law_due_of c_law_nights_right c_law_right c_law_value c_how_many c_must c_own c_share cm_Door_come c_law_kinds law_true
end LW
open PySem PySem.W PyProof.Rows
set_option maxRecDepth 100000 in
set_option maxHeartbeats 0 in
theorem PySem.Challenge.cw_lostseat_k09_refused_holds : PySem.Challenge.rw_lostseat_k09_refused.Holds := by
  w_on; o_law; k_head; (case hw => w_witness2)
  k_fill
  letI : LS.TabI := ⟨[]⟩
  refine LS.walk_T (l := PySem.Challenge.rw_lostseat_k09_refused) (n := 63) (k := 10) (x := "_law_script") (CX := fun w => L2.CX PySem.Challenge.rw_lostseat_k09_refused.prog w) rfl (by decide) rfl ⟨rfl, by decide, by decide⟩ (fun w h Y => PySem.W.km_in_of Y) ?F (fun _ _ _ _ _ h => by obtain ⟨_, _, _, _, _, _, _, _, _, _, _, _, z⟩ := h; exact z.elim)
  case F =>
    intro w mg fa h TT KX G hmg
    refine' LW.all_mk TT KX G hmg ?aC1 ?pg1 ?hd1 ?po1 ?sa1 ?mk1 ?kc1 ?aC2 ?pg2 ?hd2 ?po2 ?sa2 ?mk2 ?kc2 ?aC16 ?pg16 ?hd16 ?po16 ?sa16 ?mk16 ?kc16 ?aC17 ?pg17 ?hd17 ?po17 ?sa17 ?mk17 ?kc17 ?nf0 ?nf1 ?nf2 ?nf3 ?nf4 ?nf5 ?nf6 ?nf7 ?nf8 ?a0 ?l0 ?c0 ?k0 ?a1 ?l1 ?c1 ?k1 ?a2 ?i2 ?l2 ?c2 ?k2 ?a3 ?i3 ?l3 ?c3 ?k3 ?a4 ?i4 ?l4 ?c4 ?k4 ?a5 ?i5 ?l5 ?c5 ?k5 ?a6 ?l6 ?c6 ?k6 ?a7 ?l7 ?c7 ?k7 ?a8 ?l8 ?c8 ?k8 ?a9 ?l9 ?c9 ?k9 ?a10 ?l10 ?c10 ?k10 ?a11 ?l11 ?c11 ?k11 ?a12 ?l12 ?c12 ?k12 ?a13 ?l13 ?c13 ?k13 ?a14 ?l14 ?c14 ?k14 ?a15 ?l15 ?c15 ?k15 ?a16 ?l16 ?c16 ?k16 ?a17 ?l17 ?c17 ?k17 ?a18 ?l18 ?c18 ?k18 ?a19 ?l19 ?c19 ?k19 ?a20 ?l20 ?c20 ?k20 ?a21 ?l21 ?c21 ?k21 ?a22 ?l22 ?c22 ?k22 ?a23 ?l23 ?c23 ?k23 ?a24 ?l24 ?c24 ?k24 ?a25 ?l25 ?c25 ?k25 ?a26 ?i26 ?l26 ?c26 ?k26 ?a27 ?i27 ?l27 ?c27 ?k27 ?a28 ?i28 ?l28 ?c28 ?k28 ?a29 ?i29 ?l29 ?c29 ?k29 ?a30 ?i30 ?l30 ?c30 ?k30 ?a31 ?i31 ?l31 ?c31 ?k31 ?a32 ?i32 ?l32 ?c32 ?k32 ?a33 ?i33 ?l33 ?c33 ?k33 ?a34 ?i34 ?l34 ?c34 ?k34 ?a35 ?i35 ?l35 ?c35 ?k35 ?a36 ?i36 ?l36 ?c36 ?k36 ?a37 ?l37 ?c37 ?k37 ?a38 ?l38 ?c38 ?k38 ?a39 ?l39 ?c39 ?k39 ?a40 ?l40 ?c40 ?k40 ?a41 ?l41 ?c41 ?k41 ?a42 ?l42 ?c42 ?k42 ?a43 ?l43 ?c43 ?k43 ?a44 ?l44 ?c44 ?k44 ?a45 ?l45 ?c45 ?k45 ?a46 ?l46 ?c46 ?k46 ?a47 ?l47 ?c47 ?k47 ?a48 ?l48 ?c48 ?k48 ?a49 ?l49 ?c49 ?k49 ?a50 ?l50 ?c50 ?k50 ?a51 ?l51 ?c51 ?k51 ?a52 ?l52 ?c52 ?k52 ?a53 ?l53 ?c53 ?k53 ?t53 ?u53 ?p53 ?a54 ?l54 ?c54 ?k54 ?t54 ?u54 ?p54 ?a55 ?l55 ?c55 ?k55 ?t55 ?u55 ?p55 ?a56 ?l56 ?c56 ?k56 ?t56 ?u56 ?p56 ?a57 ?l57 ?c57 ?k57 ?t57 ?u57 ?p57 ?z_all ?z_bool ?z_dict ?z_enumerate ?z_int ?z_isinstance ?z_len ?z_list ?z_range ?z_set ?z_sorted ?z_tuple ?z_zip ?xa15 ?xx15 ?xk15 ?xb15 ?xt15 ?xa6 ?xx6 ?xk6 ?xb6 ?xt6 ?xa4 ?xx4 ?xk4 ?xb4 ?xt4 ?xa12 ?xx12 ?xk12 ?xb12 ?xt12 ?xa5 ?xx5 ?xk5 ?xb5 ?xt5 ?xa10 ?xx10 ?xk10 ?xb10 ?xt10 ?xa7 ?xx7 ?xk7 ?xb7 ?xt7 ?xa11 ?xx11 ?xk11 ?xb11 ?xt11 ?xa9 ?xx9 ?xk9 ?xb9 ?xt9 ?xa8 ?xx8 ?xk8 ?xb8 ?xt8 ?xa14 ?xx14 ?xk14 ?xb14 ?xt14 ?xa13 ?xx13 ?xk13 ?xb13 ?xt13 ?xa3 ?xb3 ?xd3 ?xt3 ?xs3_15 ?xs3_6 ?xs3_4 ?xs3_12 ?xs3_5 ?xs3_10 ?xs3_7 ?xs3_11 ?xs3_9 ?xs3_8 ?xs3_14 ?xs3_13 ?yg ?yt ?eg15 ?ek15 ?ed15 ?ec15 ?em15 ?eg6 ?ek6 ?ed6 ?ec6 ?em6 ?eg4 ?ek4 ?ed4 ?ec4 ?em4 ?eg12 ?ek12 ?ed12 ?ec12 ?em12 ?eg5 ?ek5 ?ed5 ?ec5 ?em5 ?eg10 ?ek10 ?ed10 ?ec10 ?em10 ?eg7 ?ek7 ?ed7 ?ec7 ?em7 ?eg11 ?ek11 ?ed11 ?ec11 ?em11 ?eg9 ?ek9 ?ed9 ?ec9 ?em9 ?eg8 ?ek8 ?ed8 ?ec8 ?em8 ?eg14 ?ek14 ?ed14 ?ec14 ?em14 ?eg13 ?ek13 ?ed13 ?ec13 ?em13 ?yk15_15 ?yk15_6 ?yk15_4 ?yk15_12 ?yk15_5 ?yk15_10 ?yk15_7 ?yk15_11 ?yk15_9 ?yk15_8 ?yk15_14 ?yk15_13 ?yk6_15 ?yk6_6 ?yk6_4 ?yk6_12 ?yk6_5 ?yk6_10 ?yk6_7 ?yk6_11 ?yk6_9 ?yk6_8 ?yk6_14 ?yk6_13 ?yk4_15 ?yk4_6 ?yk4_4 ?yk4_12 ?yk4_5 ?yk4_10 ?yk4_7 ?yk4_11 ?yk4_9 ?yk4_8 ?yk4_14 ?yk4_13 ?yk12_15 ?yk12_6 ?yk12_4 ?yk12_12 ?yk12_5 ?yk12_10 ?yk12_7 ?yk12_11 ?yk12_9 ?yk12_8 ?yk12_14 ?yk12_13 ?yk5_15 ?yk5_6 ?yk5_4 ?yk5_12 ?yk5_5 ?yk5_10 ?yk5_7 ?yk5_11 ?yk5_9 ?yk5_8 ?yk5_14 ?yk5_13 ?yk10_15 ?yk10_6 ?yk10_4 ?yk10_12 ?yk10_5 ?yk10_10 ?yk10_7 ?yk10_11 ?yk10_9 ?yk10_8 ?yk10_14 ?yk10_13 ?yk7_15 ?yk7_6 ?yk7_4 ?yk7_12 ?yk7_5 ?yk7_10 ?yk7_7 ?yk7_11 ?yk7_9 ?yk7_8 ?yk7_14 ?yk7_13 ?yk11_15 ?yk11_6 ?yk11_4 ?yk11_12 ?yk11_5 ?yk11_10 ?yk11_7 ?yk11_11 ?yk11_9 ?yk11_8 ?yk11_14 ?yk11_13 ?yk9_15 ?yk9_6 ?yk9_4 ?yk9_12 ?yk9_5 ?yk9_10 ?yk9_7 ?yk9_11 ?yk9_9 ?yk9_8 ?yk9_14 ?yk9_13 ?yk8_15 ?yk8_6 ?yk8_4 ?yk8_12 ?yk8_5 ?yk8_10 ?yk8_7 ?yk8_11 ?yk8_9 ?yk8_8 ?yk8_14 ?yk8_13 ?yk14_15 ?yk14_6 ?yk14_4 ?yk14_12 ?yk14_5 ?yk14_10 ?yk14_7 ?yk14_11 ?yk14_9 ?yk14_8 ?yk14_14 ?yk14_13 ?yk13_15 ?yk13_6 ?yk13_4 ?yk13_12 ?yk13_5 ?yk13_10 ?yk13_7 ?yk13_11 ?yk13_9 ?yk13_8 ?yk13_14 ?yk13_13 ?z_ValueError ?ybValueError_15 ?ybValueError_6 ?ybValueError_4 ?ybValueError_12 ?ybValueError_5 ?ybValueError_10 ?ybValueError_7 ?ybValueError_11 ?ybValueError_9 ?ybValueError_8 ?ybValueError_14 ?ybValueError_13 ?z_MOST_GUESTS ?z_MOST_SMALL ?rq53 ?rq54 ?rq55 ?rq56 ?rq57 ?ne53_54 ?ne53_55 ?ne53_56 ?ne53_57 ?ne54_55 ?ne54_56 ?ne54_57 ?ne55_56 ?ne55_57 ?ne56_57
    (case aC1 => k_is)
    (case pg1 => k_is)
    (case hd1 => k_is)
    (case po1 => k_is)
    (case sa1 => k_is)
    (case mk1 => k_is)
    (case kc1 => k_is)
    (case aC2 => k_is)
    (case pg2 => k_is)
    (case hd2 => k_is)
    (case po2 => k_is)
    (case sa2 => k_is)
    (case mk2 => k_is)
    (case kc2 => k_is)
    (case aC16 => k_is)
    (case pg16 => k_is)
    (case hd16 => k_is)
    (case po16 => k_is)
    (case sa16 => k_is)
    (case mk16 => k_is)
    (case kc16 => k_is)
    (case aC17 => k_is)
    (case pg17 => k_is)
    (case hd17 => k_is)
    (case po17 => k_is)
    (case sa17 => k_is)
    (case mk17 => k_is)
    (case kc17 => k_is)
    (case nf0 => k_is)
    (case nf1 => k_is)
    (case nf2 => k_is)
    (case nf3 => k_is)
    (case nf4 => k_is)
    (case nf5 => k_is)
    (case nf6 => k_is)
    (case nf7 => k_is)
    (case nf8 => k_is)
    (case a0 => k_is)
    (case l0 => k_is)
    (case c0 => k_is)
    (case k0 => k_is)
    (case a1 => k_is)
    (case l1 => k_is)
    (case c1 => k_is)
    (case k1 => k_is)
    (case a2 => k_is)
    (case i2 => k_is)
    (case l2 => k_is)
    (case c2 => k_is)
    (case k2 => k_is)
    (case a3 => k_is)
    (case i3 => k_is)
    (case l3 => k_is)
    (case c3 => k_is)
    (case k3 => k_is)
    (case a4 => k_is)
    (case i4 => k_is)
    (case l4 => k_is)
    (case c4 => k_is)
    (case k4 => k_is)
    (case a5 => k_is)
    (case i5 => k_is)
    (case l5 => k_is)
    (case c5 => k_is)
    (case k5 => k_is)
    (case a6 => k_is)
    (case l6 => k_is)
    (case c6 => k_is)
    (case k6 => k_is)
    (case a7 => k_is)
    (case l7 => k_is)
    (case c7 => k_is)
    (case k7 => k_is)
    (case a8 => k_is)
    (case l8 => k_is)
    (case c8 => k_is)
    (case k8 => k_is)
    (case a9 => k_is)
    (case l9 => k_is)
    (case c9 => k_is)
    (case k9 => k_is)
    (case a10 => k_is)
    (case l10 => k_is)
    (case c10 => k_is)
    (case k10 => k_is)
    (case a11 => k_is)
    (case l11 => k_is)
    (case c11 => k_is)
    (case k11 => k_is)
    (case a12 => k_is)
    (case l12 => k_is)
    (case c12 => k_is)
    (case k12 => k_is)
    (case a13 => k_is)
    (case l13 => k_is)
    (case c13 => k_is)
    (case k13 => k_is)
    (case a14 => k_is)
    (case l14 => k_is)
    (case c14 => k_is)
    (case k14 => k_is)
    (case a15 => k_is)
    (case l15 => k_is)
    (case c15 => k_is)
    (case k15 => k_is)
    (case a16 => k_is)
    (case l16 => k_is)
    (case c16 => k_is)
    (case k16 => k_is)
    (case a17 => k_is)
    (case l17 => k_is)
    (case c17 => k_is)
    (case k17 => k_is)
    (case a18 => k_is)
    (case l18 => k_is)
    (case c18 => k_is)
    (case k18 => k_is)
    (case a19 => k_is)
    (case l19 => k_is)
    (case c19 => k_is)
    (case k19 => k_is)
    (case a20 => k_is)
    (case l20 => k_is)
    (case c20 => k_is)
    (case k20 => k_is)
    (case a21 => k_is)
    (case l21 => k_is)
    (case c21 => k_is)
    (case k21 => k_is)
    (case a22 => k_is)
    (case l22 => k_is)
    (case c22 => k_is)
    (case k22 => k_is)
    (case a23 => k_is)
    (case l23 => k_is)
    (case c23 => k_is)
    (case k23 => k_is)
    (case a24 => k_is)
    (case l24 => k_is)
    (case c24 => k_is)
    (case k24 => k_is)
    (case a25 => k_is)
    (case l25 => k_is)
    (case c25 => k_is)
    (case k25 => k_is)
    (case a26 => k_is)
    (case i26 => k_is)
    (case l26 => k_is)
    (case c26 => k_is)
    (case k26 => k_is)
    (case a27 => k_is)
    (case i27 => k_is)
    (case l27 => k_is)
    (case c27 => k_is)
    (case k27 => k_is)
    (case a28 => k_is)
    (case i28 => k_is)
    (case l28 => k_is)
    (case c28 => k_is)
    (case k28 => k_is)
    (case a29 => k_is)
    (case i29 => k_is)
    (case l29 => k_is)
    (case c29 => k_is)
    (case k29 => k_is)
    (case a30 => k_is)
    (case i30 => k_is)
    (case l30 => k_is)
    (case c30 => k_is)
    (case k30 => k_is)
    (case a31 => k_is)
    (case i31 => k_is)
    (case l31 => k_is)
    (case c31 => k_is)
    (case k31 => k_is)
    (case a32 => k_is)
    (case i32 => k_is)
    (case l32 => k_is)
    (case c32 => k_is)
    (case k32 => k_is)
    (case a33 => k_is)
    (case i33 => k_is)
    (case l33 => k_is)
    (case c33 => k_is)
    (case k33 => k_is)
    (case a34 => k_is)
    (case i34 => k_is)
    (case l34 => k_is)
    (case c34 => k_is)
    (case k34 => k_is)
    (case a35 => k_is)
    (case i35 => k_is)
    (case l35 => k_is)
    (case c35 => k_is)
    (case k35 => k_is)
    (case a36 => k_is)
    (case i36 => k_is)
    (case l36 => k_is)
    (case c36 => k_is)
    (case k36 => k_is)
    (case a37 => k_is)
    (case l37 => k_is)
    (case c37 => k_is)
    (case k37 => k_is)
    (case a38 => k_is)
    (case l38 => k_is)
    (case c38 => k_is)
    (case k38 => k_is)
    (case a39 => k_is)
    (case l39 => k_is)
    (case c39 => k_is)
    (case k39 => k_is)
    (case a40 => k_is)
    (case l40 => k_is)
    (case c40 => k_is)
    (case k40 => k_is)
    (case a41 => k_is)
    (case l41 => k_is)
    (case c41 => k_is)
    (case k41 => k_is)
    (case a42 => k_is)
    (case l42 => k_is)
    (case c42 => k_is)
    (case k42 => k_is)
    (case a43 => k_is)
    (case l43 => k_is)
    (case c43 => k_is)
    (case k43 => k_is)
    (case a44 => k_is)
    (case l44 => k_is)
    (case c44 => k_is)
    (case k44 => k_is)
    (case a45 => k_is)
    (case l45 => k_is)
    (case c45 => k_is)
    (case k45 => k_is)
    (case a46 => k_is)
    (case l46 => k_is)
    (case c46 => k_is)
    (case k46 => k_is)
    (case a47 => k_is)
    (case l47 => k_is)
    (case c47 => k_is)
    (case k47 => k_is)
    (case a48 => k_is)
    (case l48 => k_is)
    (case c48 => k_is)
    (case k48 => k_is)
    (case a49 => k_is)
    (case l49 => k_is)
    (case c49 => k_is)
    (case k49 => k_is)
    (case a50 => k_is)
    (case l50 => k_is)
    (case c50 => k_is)
    (case k50 => k_is)
    (case a51 => k_is)
    (case l51 => k_is)
    (case c51 => k_is)
    (case k51 => k_is)
    (case a52 => k_is)
    (case l52 => k_is)
    (case c52 => k_is)
    (case k52 => k_is)
    (case a53 => k_is)
    (case l53 => k_is)
    (case c53 => k_is)
    (case k53 => k_is)
    (case t53 => k_is)
    (case u53 => rfl)
    (case p53 => kernel_rfl)
    (case a54 => k_is)
    (case l54 => k_is)
    (case c54 => k_is)
    (case k54 => k_is)
    (case t54 => k_is)
    (case u54 => rfl)
    (case p54 => kernel_rfl)
    (case a55 => k_is)
    (case l55 => k_is)
    (case c55 => k_is)
    (case k55 => k_is)
    (case t55 => k_is)
    (case u55 => rfl)
    (case p55 => kernel_rfl)
    (case a56 => k_is)
    (case l56 => k_is)
    (case c56 => k_is)
    (case k56 => k_is)
    (case t56 => k_is)
    (case u56 => rfl)
    (case p56 => kernel_rfl)
    (case a57 => k_is)
    (case l57 => k_is)
    (case c57 => k_is)
    (case k57 => k_is)
    (case t57 => k_is)
    (case u57 => rfl)
    (case p57 => kernel_rfl)
    (case z_all => k_is)
    (case z_bool => k_is)
    (case z_dict => k_is)
    (case z_enumerate => k_is)
    (case z_int => k_is)
    (case z_isinstance => k_is)
    (case z_len => k_is)
    (case z_list => k_is)
    (case z_range => k_is)
    (case z_set => k_is)
    (case z_sorted => k_is)
    (case z_tuple => k_is)
    (case z_zip => k_is)
    (case xa15 => k_is)
    (case xx15 => k_exc)
    (case xk15 => k_is)
    (case xb15 => k_is)
    (case xt15 => k_is)
    (case xa6 => k_is)
    (case xx6 => k_exc)
    (case xk6 => k_is)
    (case xb6 => k_is)
    (case xt6 => k_is)
    (case xa4 => k_is)
    (case xx4 => k_exc)
    (case xk4 => k_is)
    (case xb4 => k_is)
    (case xt4 => k_is)
    (case xa12 => k_is)
    (case xx12 => k_exc)
    (case xk12 => k_is)
    (case xb12 => k_is)
    (case xt12 => k_is)
    (case xa5 => k_is)
    (case xx5 => k_exc)
    (case xk5 => k_is)
    (case xb5 => k_is)
    (case xt5 => k_is)
    (case xa10 => k_is)
    (case xx10 => k_exc)
    (case xk10 => k_is)
    (case xb10 => k_is)
    (case xt10 => k_is)
    (case xa7 => k_is)
    (case xx7 => k_exc)
    (case xk7 => k_is)
    (case xb7 => k_is)
    (case xt7 => k_is)
    (case xa11 => k_is)
    (case xx11 => k_exc)
    (case xk11 => k_is)
    (case xb11 => k_is)
    (case xt11 => k_is)
    (case xa9 => k_is)
    (case xx9 => k_exc)
    (case xk9 => k_is)
    (case xb9 => k_is)
    (case xt9 => k_is)
    (case xa8 => k_is)
    (case xx8 => k_exc)
    (case xk8 => k_is)
    (case xb8 => k_is)
    (case xt8 => k_is)
    (case xa14 => k_is)
    (case xx14 => k_exc)
    (case xk14 => k_is)
    (case xb14 => k_is)
    (case xt14 => k_is)
    (case xa13 => k_is)
    (case xx13 => k_exc)
    (case xk13 => k_is)
    (case xb13 => k_is)
    (case xt13 => k_is)
    (case xa3 => k_is)
    (case xb3 => k_is)
    (case xd3 => k_is)
    (case xt3 => k_is)
    (case xs3_15 => k_is)
    (case xs3_6 => k_is)
    (case xs3_4 => k_is)
    (case xs3_12 => k_is)
    (case xs3_5 => k_is)
    (case xs3_10 => k_is)
    (case xs3_7 => k_is)
    (case xs3_11 => k_is)
    (case xs3_9 => k_is)
    (case xs3_8 => k_is)
    (case xs3_14 => k_is)
    (case xs3_13 => k_is)
    (case yg => k_is)
    (case yt => k_is)
    (case eg15 => k_is)
    (case ek15 => k_is)
    (case ed15 => k_is)
    (case ec15 => k_is)
    (case em15 => k_is)
    (case eg6 => k_is)
    (case ek6 => k_is)
    (case ed6 => k_is)
    (case ec6 => k_is)
    (case em6 => k_is)
    (case eg4 => k_is)
    (case ek4 => k_is)
    (case ed4 => k_is)
    (case ec4 => k_is)
    (case em4 => k_is)
    (case eg12 => k_is)
    (case ek12 => k_is)
    (case ed12 => k_is)
    (case ec12 => k_is)
    (case em12 => k_is)
    (case eg5 => k_is)
    (case ek5 => k_is)
    (case ed5 => k_is)
    (case ec5 => k_is)
    (case em5 => k_is)
    (case eg10 => k_is)
    (case ek10 => k_is)
    (case ed10 => k_is)
    (case ec10 => k_is)
    (case em10 => k_is)
    (case eg7 => k_is)
    (case ek7 => k_is)
    (case ed7 => k_is)
    (case ec7 => k_is)
    (case em7 => k_is)
    (case eg11 => k_is)
    (case ek11 => k_is)
    (case ed11 => k_is)
    (case ec11 => k_is)
    (case em11 => k_is)
    (case eg9 => k_is)
    (case ek9 => k_is)
    (case ed9 => k_is)
    (case ec9 => k_is)
    (case em9 => k_is)
    (case eg8 => k_is)
    (case ek8 => k_is)
    (case ed8 => k_is)
    (case ec8 => k_is)
    (case em8 => k_is)
    (case eg14 => k_is)
    (case ek14 => k_is)
    (case ed14 => k_is)
    (case ec14 => k_is)
    (case em14 => k_is)
    (case eg13 => k_is)
    (case ek13 => k_is)
    (case ed13 => k_is)
    (case ec13 => k_is)
    (case em13 => k_is)
    (case yk15_15 => kit_is)
    (case yk15_6 => kit_is)
    (case yk15_4 => kit_is)
    (case yk15_12 => kit_is)
    (case yk15_5 => kit_is)
    (case yk15_10 => kit_is)
    (case yk15_7 => kit_is)
    (case yk15_11 => kit_is)
    (case yk15_9 => kit_is)
    (case yk15_8 => kit_is)
    (case yk15_14 => kit_is)
    (case yk15_13 => kit_is)
    (case yk6_15 => kit_is)
    (case yk6_6 => kit_is)
    (case yk6_4 => kit_is)
    (case yk6_12 => kit_is)
    (case yk6_5 => kit_is)
    (case yk6_10 => kit_is)
    (case yk6_7 => kit_is)
    (case yk6_11 => kit_is)
    (case yk6_9 => kit_is)
    (case yk6_8 => kit_is)
    (case yk6_14 => kit_is)
    (case yk6_13 => kit_is)
    (case yk4_15 => kit_is)
    (case yk4_6 => kit_is)
    (case yk4_4 => kit_is)
    (case yk4_12 => kit_is)
    (case yk4_5 => kit_is)
    (case yk4_10 => kit_is)
    (case yk4_7 => kit_is)
    (case yk4_11 => kit_is)
    (case yk4_9 => kit_is)
    (case yk4_8 => kit_is)
    (case yk4_14 => kit_is)
    (case yk4_13 => kit_is)
    (case yk12_15 => kit_is)
    (case yk12_6 => kit_is)
    (case yk12_4 => kit_is)
    (case yk12_12 => kit_is)
    (case yk12_5 => kit_is)
    (case yk12_10 => kit_is)
    (case yk12_7 => kit_is)
    (case yk12_11 => kit_is)
    (case yk12_9 => kit_is)
    (case yk12_8 => kit_is)
    (case yk12_14 => kit_is)
    (case yk12_13 => kit_is)
    (case yk5_15 => kit_is)
    (case yk5_6 => kit_is)
    (case yk5_4 => kit_is)
    (case yk5_12 => kit_is)
    (case yk5_5 => kit_is)
    (case yk5_10 => kit_is)
    (case yk5_7 => kit_is)
    (case yk5_11 => kit_is)
    (case yk5_9 => kit_is)
    (case yk5_8 => kit_is)
    (case yk5_14 => kit_is)
    (case yk5_13 => kit_is)
    (case yk10_15 => kit_is)
    (case yk10_6 => kit_is)
    (case yk10_4 => kit_is)
    (case yk10_12 => kit_is)
    (case yk10_5 => kit_is)
    (case yk10_10 => kit_is)
    (case yk10_7 => kit_is)
    (case yk10_11 => kit_is)
    (case yk10_9 => kit_is)
    (case yk10_8 => kit_is)
    (case yk10_14 => kit_is)
    (case yk10_13 => kit_is)
    (case yk7_15 => kit_is)
    (case yk7_6 => kit_is)
    (case yk7_4 => kit_is)
    (case yk7_12 => kit_is)
    (case yk7_5 => kit_is)
    (case yk7_10 => kit_is)
    (case yk7_7 => kit_is)
    (case yk7_11 => kit_is)
    (case yk7_9 => kit_is)
    (case yk7_8 => kit_is)
    (case yk7_14 => kit_is)
    (case yk7_13 => kit_is)
    (case yk11_15 => kit_is)
    (case yk11_6 => kit_is)
    (case yk11_4 => kit_is)
    (case yk11_12 => kit_is)
    (case yk11_5 => kit_is)
    (case yk11_10 => kit_is)
    (case yk11_7 => kit_is)
    (case yk11_11 => kit_is)
    (case yk11_9 => kit_is)
    (case yk11_8 => kit_is)
    (case yk11_14 => kit_is)
    (case yk11_13 => kit_is)
    (case yk9_15 => kit_is)
    (case yk9_6 => kit_is)
    (case yk9_4 => kit_is)
    (case yk9_12 => kit_is)
    (case yk9_5 => kit_is)
    (case yk9_10 => kit_is)
    (case yk9_7 => kit_is)
    (case yk9_11 => kit_is)
    (case yk9_9 => kit_is)
    (case yk9_8 => kit_is)
    (case yk9_14 => kit_is)
    (case yk9_13 => kit_is)
    (case yk8_15 => kit_is)
    (case yk8_6 => kit_is)
    (case yk8_4 => kit_is)
    (case yk8_12 => kit_is)
    (case yk8_5 => kit_is)
    (case yk8_10 => kit_is)
    (case yk8_7 => kit_is)
    (case yk8_11 => kit_is)
    (case yk8_9 => kit_is)
    (case yk8_8 => kit_is)
    (case yk8_14 => kit_is)
    (case yk8_13 => kit_is)
    (case yk14_15 => kit_is)
    (case yk14_6 => kit_is)
    (case yk14_4 => kit_is)
    (case yk14_12 => kit_is)
    (case yk14_5 => kit_is)
    (case yk14_10 => kit_is)
    (case yk14_7 => kit_is)
    (case yk14_11 => kit_is)
    (case yk14_9 => kit_is)
    (case yk14_8 => kit_is)
    (case yk14_14 => kit_is)
    (case yk14_13 => kit_is)
    (case yk13_15 => kit_is)
    (case yk13_6 => kit_is)
    (case yk13_4 => kit_is)
    (case yk13_12 => kit_is)
    (case yk13_5 => kit_is)
    (case yk13_10 => kit_is)
    (case yk13_7 => kit_is)
    (case yk13_11 => kit_is)
    (case yk13_9 => kit_is)
    (case yk13_8 => kit_is)
    (case yk13_14 => kit_is)
    (case yk13_13 => kit_is)
    (case z_ValueError => k_is)
    (case ybValueError_15 => kit_is)
    (case ybValueError_6 => kit_is)
    (case ybValueError_4 => kit_is)
    (case ybValueError_12 => kit_is)
    (case ybValueError_5 => kit_is)
    (case ybValueError_10 => kit_is)
    (case ybValueError_7 => kit_is)
    (case ybValueError_11 => kit_is)
    (case ybValueError_9 => kit_is)
    (case ybValueError_8 => kit_is)
    (case ybValueError_14 => kit_is)
    (case ybValueError_13 => kit_is)
    (case z_MOST_GUESTS => k_is)
    (case z_MOST_SMALL => k_is)
    (case rq53 => rfl)
    (case rq54 => rfl)
    (case rq55 => rfl)
    (case rq56 => rfl)
    (case rq57 => rfl)
    (case ne53_54 => decide)
    (case ne53_55 => decide)
    (case ne53_56 => decide)
    (case ne53_57 => decide)
    (case ne54_55 => decide)
    (case ne54_56 => decide)
    (case ne54_57 => decide)
    (case ne55_56 => decide)
    (case ne55_57 => decide)
    (case ne56_57 => decide)

