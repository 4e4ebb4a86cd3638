import PyProof.Rows.All
import Wide.All
import OpenK.AllK
import Wide.FinOn
import HandS.ForMost
import KE.KeyNested
import KE.KDictKeyed
import HandS.Dict
import HandS.TupMul
import HandS.More
import HandS.DictTup
import KE.SortData
import KE.KDictSum
import KE.KDictCopyH
import KE.DataMinMax
import KE.DataCmp
import PyProof.SumAny
import KE.KDictPairs
import KE.KDictDisplayH
import HandS.TupAny
import HandS.Deep
import HandS.Style
import HandS.IsInst
import HandS.Walk
import HandS.Zip
import KE.GoesNew
import HandS.Words
import HandS.Conv
import PySem.Challenge.RW_bittables_k84_whole_equations_and_sums
set_option Elab.async false
set_option linter.all false
set_option maxRecDepth 100000
set_option maxHeartbeats 4000000
/-! Qa: values as trees, frames, stores, and what the pieces of a body do with them. -/
namespace Q
open PySem

inductive PV where
  | non | bl (b : Bool) | int (i : Int) | str (s : Str)
  | tup (xs : List PV) | lst (xs : List PV)
  | dct (ks vs : List PV)
  | ins (c : Nat) (ns : List Str) (fs : List PV)
  | ref (k : Nat)
  deriving Inhabited

abbrev Sto := List PV
inductive Re (α : Type) where
  | ok (a : α) (S : Sto)
  | ex (c : Nat) (args : List PV) (S : Sto)
  | bad
  deriving Inhabited
inductive Sl where
  | no | va (t : PV) | ow (t : PV) | bo (t : PV) | cl (F : List PV → Sto → Re PV)
  deriving Inhabited
abbrev Fr := List Sl
abbrev SE := Fr → Sto → Re PV
abbrev SA := Fr → Sto → Re (List PV)
abbrev SB := Fr → Sto → Re Bool
abbrev FN := List Sl → Sto → Re PV

def Re.bind {α β : Type} : Re α → (α → Sto → Re β) → Re β
  | .ok a S, f => f a S
  | .ex c as S, _ => .ex c as S
  | .bad, _ => .bad
def Re.of {α : Type} : Option α → Sto → Re α
  | some a, S => .ok a S
  | none, _ => .bad
section
variable {α β : Type} {a : α} {S : Sto} {f : α → Sto → Re β}
@[simp] theorem Re.bind_ok : (Re.ok a S).bind f = f a S := rfl
@[simp] theorem Re.bind_ex {c : Nat} {as : List PV} : (Re.ex c as S : Re α).bind f = .ex c as S := rfl
@[simp] theorem Re.bind_bad : (Re.bad : Re α).bind f = .bad := rfl
@[simp] theorem Re.of_some : Re.of (some a) S = .ok a S := rfl
@[simp] theorem Re.of_none : (Re.of none S : Re α) = .bad := rfl
end

theorem Re.bind_assoc {α β γ : Type} (x : Re α) (f : α → Sto → Re β) (g : β → Sto → Re γ) : (x.bind f).bind g = x.bind fun a S => (f a S).bind g := by
  cases x <;> rfl

/-! ### data -/
mutual
def PV.toD : PV → PyData
  | .non => .none
  | .bl b => .bool b
  | .int i => .int i
  | .str s => .str s
  | .tup xs => .tuple (toDs xs)
  | .lst xs => .list (toDs xs)
  | .dct _ _ => .none
  | .ins _ _ _ => .none
  | .ref _ => .none
def toDs : List PV → List PyData
  | [] => []
  | x :: xs => x.toD :: toDs xs
end
mutual
/-- data alone, at most n deep -/
def PV.isD : Nat → PV → Bool
  | _, .non => true
  | _, .bl _ => true
  | _, .int _ => true
  | _, .str s => PyData.canLay0 (.str s)
  | 0, .tup _ => false
  | n + 1, .tup xs => areD n xs
  | 0, .lst _ => false
  | n + 1, .lst xs => areD n xs
  | _, .dct _ _ => false
  | _, .ins _ _ _ => false
  | _, .ref _ => false
def areD : Nat → List PV → Bool
  | _, [] => true
  | n, x :: xs => x.isD n && areD n xs
end
mutual
def peq : PV → PV → Bool
  | .non, y => match y with | .non => true | _ => false
  | .bl a, y => match y with | .bl b => a == b | .int j => (if a then 1 else 0) == j | _ => false
  | .int i, y => match y with | .bl b => i == (if b then 1 else 0) | .int j => i == j | _ => false
  | .str a, y => match y with | .str b => a == b | _ => false
  | .tup xs, y => match y with | .tup ys => peqs xs ys | _ => false
  | .lst xs, y => match y with | .lst ys => peqs xs ys | _ => false
  | .dct _ _, _ => false
  | .ins _ _ _, _ => false
  | .ref _, _ => false
def peqs : List PV → List PV → Bool
  | [], ys => match ys with | [] => true | _ :: _ => false
  | x :: xs, ys => match ys with | [] => false | y :: ys => peq x y && peqs xs ys
end

/-! ### keys -/
mutual
def PV.nkey : PV → Option NestedKey
  | .non => some .none
  | .bl b => some (.num (if b then 1 else 0))
  | .int i => some (.num i)
  | .str s => some (.text s)
  | .tup xs => (nkeys xs).map .tup
  | _ => none
def nkeys : List PV → Option (List NestedKey)
  | [] => some []
  | x :: xs => x.nkey.bind fun k => (nkeys xs).map (k :: ·)
end
def PV.fkey : PV → Option L2.Key
  | .int i => some (.inl i)
  | .str s => some (.inr s)
  | _ => none
def fkeys : List PV → Option (List L2.Key)
  | [] => some []
  | x :: xs => x.fkey.bind fun k => (fkeys xs).map (k :: ·)
/-- a tuple that may be a key -/
def PV.tkey : PV → Option NestedKey
  | .tup xs => (PV.tup xs).nkey.bind fun k => if k.depth ≤ 8 then some k else none
  | _ => none
def tkeys : List PV → Option (List NestedKey)
  | [] => some []
  | x :: xs => x.tkey.bind fun k => (tkeys xs).map (k :: ·)
/-- the value at a key; whether a key may be asked for; a key's value set -/
def dAt : List PV → List PV → PV → Option PV
  | k :: ks, v :: vs, x => if peq k x then some v else dAt ks vs x
  | _, _, _ => none
def dOk (ks : List PV) (x : PV) : Bool := ((fkeys ks).isSome && x.fkey.isSome) || ((tkeys ks).isSome && x.tkey.isSome)
def dSet (ks vs : List PV) (x y : PV) : List PV × List PV := if ks.any fun k => peq k x then (ks, List.zipWith (fun k v => if peq k x then y else v) ks vs) else (ks ++ [x], vs ++ [y])
/-! ### order -/
mutual
/-- the two can be compared -/
def pal : PV → PV → Bool
  | .non, y => match y with | .non => true | _ => false
  | .bl _, y => match y with | .bl _ => true | _ => false
  | .int _, y => match y with | .int _ => true | _ => false
  | .str _, y => match y with | .str _ => true | _ => false
  | .tup xs, y => match y with | .tup ys => pals xs ys | _ => false
  | .lst xs, y => match y with | .lst ys => pals xs ys | _ => false
  | .dct _ _, _ => false
  | .ins _ _ _, _ => false
  | .ref _, _ => false
def pals : List PV → List PV → Bool
  | [], _ => true
  | x :: xs, ys => match ys with | [] => true | y :: ys => pal x y && pals xs ys
end
mutual
/-- x < y -/
def plt : PV → PV → Bool
  | .bl a, y => match y with | .bl b => !a && b | _ => false
  | .int i, y => match y with | .int j => decide (i < j) | _ => false
  | .str a, y => match y with | .str b => decide (a.cps.toList < b.cps.toList) | _ => false
  | .tup xs, y => match y with | .tup ys => plts xs ys | _ => false
  | .lst xs, y => match y with | .lst ys => plts xs ys | _ => false
  | .non, _ => false
  | .dct _ _, _ => false
  | .ins _ _ _, _ => false
  | .ref _, _ => false
def plts : List PV → List PV → Bool
  | [], ys => match ys with | [] => false | _ :: _ => true
  | x :: xs, ys => match ys with | [] => false | y :: ys => if peq x y then plts xs ys else plt x y
end
def PV.isTup : PV → Bool
  | .tup _ => true
  | _ => false
def PV.isNon' : PV → Bool
  | .non => true
  | _ => false
/-- x < y of data -/
def ltO (f : PV → PV → Bool) (x y : PV) : Option Bool := if x.isD 60 && y.isD 60 && pal x y && !x.isNon' then some (f x y) else none
def sortOk (xs : List PV) : Bool := areD 60 xs && (xs.all fun x => xs.all fun y => pal x y) && (xs.all PV.isTup || xs.all fun x => !x.isNon' && !x.isTup)
def sortV (xs : List PV) : Option (List PV) := if sortOk xs then some (xs.mergeSort fun a b => !plt b a) else none
def bestOk (xs : List PV) : Bool := areD 60 xs && (xs.all fun x => xs.all fun y => pal x y) && xs.all fun x => !x.isNon'
def minP (x : PV) (xs : List PV) : PV := xs.foldl (fun a y => if plt y a then y else a) x
def maxP (x : PV) (xs : List PV) : PV := xs.foldl (fun a y => if plt a y then y else a) x
def minO : List PV → Option PV
  | x :: xs => if bestOk (x :: xs) then some (minP x xs) else none
  | [] => none
def maxO : List PV → Option PV
  | x :: xs => if bestOk (x :: xs) then some (maxP x xs) else none
  | [] => none
/-- a dict made of pairs -/
def dPuts (d : List PV × List PV) (prs : List (PV × PV)) : List PV × List PV := prs.foldl (fun d p => dSet d.1 d.2 p.1 p.2) d
def keysOk (ks : List PV) : Bool := (fkeys ks).isSome || (tkeys ks).isSome
def dMk (prs : List (PV × PV)) : Option PV := if keysOk (prs.map (·.1)) then some (.dct (dPuts ([], []) prs).1 (dPuts ([], []) prs).2) else none
def allPr : List PV → Option (List (PV × PV))
  | [] => some []
  | .tup [k, v] :: r => (allPr r).map ((k, v) :: ·)
  | _ :: _ => none
/-! ### operators -/
/-- a length that a list or tuple may have -/
abbrev fits (n : Nat) : Bool := decide (n ≤ 16777216)
def small (i : Int) : Bool := decide (-(2 ^ 64) < i) && decide (i < 2 ^ 64)
inductive Op | add | sub | mul | fdiv | mod | pow | shl | xor | band | bor
def intsOf (g : Int → Int → Option Int) : PV → PV → Option PV
  | .int i, .int j => (g i j).map .int
  | _, _ => none
def catT : PV → PV → Option PV
  | .tup xs, .tup ys => if fits (xs.length + ys.length) then some (.tup (xs ++ ys)) else none
  | _, _ => none
def catL : PV → PV → Option PV
  | .lst xs, .lst ys => if fits (xs.length + ys.length) then some (.lst (xs ++ ys)) else none
  | _, _ => none
def repT : PV → PV → Option PV
  | .tup xs, .int k => if !xs.isEmpty && decide (1 ≤ k) && decide (k ≤ 1000) && decide (xs.length ≤ 1000) then some (.tup (List.replicate k.toNat xs).flatten) else none
  | _, _ => none
def repL : PV → PV → Option PV
  | .lst xs, .int k => if fits (xs.length * k.toNat) && decide (k < 2 ^ 63) && decide (-(2 ^ 63) ≤ k) then some (.lst (List.replicate k.toNat xs).flatten) else none
  | _, _ => none
section
variable {g : Int → Int → Option Int} {xs ys : List PV} {i j : Int} {y : PV}
@[simp] theorem intsOf_int : intsOf g (.int i) (.int j) = (g i j).map .int := rfl
@[simp] theorem intsOf_tup : intsOf g (.tup xs) y = none := rfl
@[simp] theorem intsOf_lst : intsOf g (.lst xs) y = none := rfl
@[simp] theorem catT_tup : catT (.tup xs) (.tup ys) = if fits (xs.length + ys.length) then some (.tup (xs ++ ys)) else none := rfl
@[simp] theorem catT_lst : catT (.lst xs) y = none := rfl
@[simp] theorem catL_lst : catL (.lst xs) (.lst ys) = if fits (xs.length + ys.length) then some (.lst (xs ++ ys)) else none := rfl
@[simp] theorem repT_tup : repT (.tup xs) (.int i) = if !xs.isEmpty && decide (1 ≤ i) && decide (i ≤ 1000) && decide (xs.length ≤ 1000) then some (.tup (List.replicate i.toNat xs).flatten) else none := rfl
@[simp] theorem repT_lst : repT (.lst xs) y = none := rfl
@[simp] theorem repL_lst : repL (.lst xs) (.int i) = if fits (xs.length * i.toNat) && decide (i < 2 ^ 63) && decide (-(2 ^ 63) ≤ i) then some (.lst (List.replicate i.toNat xs).flatten) else none := rfl
end
@[simp] def Op.on : Op → PV → PV → Option PV
  | .add, x, y => (intsOf (fun i j => some (i + j)) x y).or ((catT x y).or (catL x y))
  | .sub, x, y => intsOf (fun i j => some (i - j)) x y
  | .mul, x, y => (intsOf (fun i j => if small i || small j then some (i * j) else none) x y).or ((repT x y).or (repL x y))
  | .fdiv, x, y => intsOf (fun i j => if decide (j ≠ 0) && decide (j.natAbs < 1073741824) then some (i.fdiv j) else none) x y
  | .mod, x, y => intsOf (fun i j => if decide (j ≠ 0) then some (i.fmod j) else none) x y
  | .pow, x, y => intsOf (fun i j => if decide (0 ≤ j) && decide (j ≤ 1000000) && decide (i.natAbs < 2 ^ 64) then some (i ^ j.toNat) else none) x y
  | .shl, x, y => intsOf (fun i j => if decide (0 ≤ j) && decide (j ≤ 1000000) && decide (i.natAbs < 2 ^ 64) then some (i * 2 ^ j.toNat) else none) x y
  | .xor, x, y => intsOf (fun i j => some (Builtin.bitXor i j)) x y
  | .band, x, y => intsOf (fun i j => some (Builtin.bitAnd i j)) x y
  | .bor, x, y => intsOf (fun i j => some (Builtin.bitOr i j)) x y
inductive Cm | eq | ne | lt | le | gt | ge | isin | notin | isN | notN | isBl | notBl
/-- deep enough for == -/
abbrev deep : Nat := 60
def PV.items : PV → Option (List PV)
  | .tup xs => some xs
  | .lst xs => some xs
  | _ => none
def PV.isNon : PV → Bool
  | .non => true
  | _ => false
def cmI (g : Int → Int → Bool) : PV → PV → Option Bool
  | .int i, .int j => some (g i j)
  | _, _ => none
def cmB (g : Bool → Bool → Bool) : PV → PV → Option Bool
  | .bl i, .bl j => some (g i j)
  | _, _ => none
def inV (x : PV) : PV → Option Bool
  | .tup ys => if x.isD deep && areD deep ys then some (ys.any fun y => peq y x) else none
  | .lst ys => if x.isD deep && areD deep ys then some (ys.any fun y => peq y x) else none
  | .dct ks vs => if dOk ks x then some (dAt ks vs x).isSome else none
  | _ => none
def isNo (x : PV) : PV → Option Bool
  | .non => some x.isNon
  | _ => none
section
variable {g : Int → Int → Bool} {f : Bool → Bool → Bool} {i j : Int} {a b : Bool} {x : PV} {xs ys ks : List PV} {ns : List Str} {n : Nat} {s : Str}
@[simp] theorem isNon_non : PV.non.isNon = true := rfl
@[simp] theorem isNon_bl : (PV.bl a).isNon = false := rfl
@[simp] theorem isNon_int : (PV.int i).isNon = false := rfl
@[simp] theorem isNon_str : (PV.str s).isNon = false := rfl
@[simp] theorem isNon_tup : (PV.tup xs).isNon = false := rfl
@[simp] theorem isNon_lst : (PV.lst xs).isNon = false := rfl
@[simp] theorem isNon_dct : (PV.dct ks xs).isNon = false := rfl
@[simp] theorem isNon_ins : (PV.ins n ns xs).isNon = false := rfl
@[simp] theorem isNon_ref : (PV.ref n).isNon = false := rfl
@[simp] theorem cmI_int : cmI g (.int i) (.int j) = some (g i j) := rfl
@[simp] theorem cmB_bl : cmB f (.bl a) (.bl b) = some (f a b) := rfl
theorem inV_tup : inV x (.tup ys) = if x.isD deep && areD deep ys then some (ys.any fun y => peq y x) else none := rfl
theorem inV_lst : inV x (.lst ys) = if x.isD deep && areD deep ys then some (ys.any fun y => peq y x) else none := rfl
@[simp] theorem inV_dct {vs : List PV} : inV x (.dct ks vs) = if dOk ks x then some (dAt ks vs x).isSome else none := rfl
@[simp] theorem isNo_non : isNo x .non = some x.isNon := rfl
end
@[simp] def Cm.on : Cm → PV → PV → Option Bool
  | .eq, x, y => if x.isD deep && y.isD deep then some (peq x y) else none
  | .ne, x, y => if x.isD deep && y.isD deep then some (!peq x y) else none
  | .lt, x, y => (cmI (fun i j => decide (i < j)) x y).or (ltO (fun a b => plt a b) x y)
  | .le, x, y => (cmI (fun i j => decide (i ≤ j)) x y).or (ltO (fun a b => !plt b a) x y)
  | .gt, x, y => (cmI (fun i j => decide (j < i)) x y).or (ltO (fun a b => plt b a) x y)
  | .ge, x, y => (cmI (fun i j => decide (j ≤ i)) x y).or (ltO (fun a b => !plt a b) x y)
  | .isin, x, y => inV x y
  | .notin, x, y => (inV x y).map (!·)
  | .isN, x, y => isNo x y
  | .notN, x, y => (isNo x y).map (!·)
  | .isBl, x, y => cmB (fun a b => decide (a = b)) x y
  | .notBl, x, y => cmB (fun a b => !decide (a = b)) x y

/-! ### expressions -/
@[simp] def eC (t : PV) : SE := fun _ S => .ok t S
/-- a name whose value is a plain one -/
def eV (i : Nat) : SE := fun fr S => match fr[i]? with
  | some (.va t) => .ok t S
  | _ => .bad
/-- a name that is only looked at: a plain value, a list of one's own, a borrowed one -/
def eP (i : Nat) : SE := fun fr S => match fr[i]? with
  | some (.va t) => .ok t S
  | some (.ow t) => .ok t S
  | some (.bo t) => .ok t S
  | _ => .bad
@[simp] def eOp (o : Op) (a b : SE) : SE := fun fr S => (a fr S).bind fun x S1 => (b fr S1).bind fun y S2 => .of (o.on x y) S2
def eNeg (a : SE) : SE := fun fr S => (a fr S).bind fun x S1 => match x with
  | .int i => .ok (.int (-i)) S1
  | _ => .bad
@[simp] def bCm (o : Cm) (a b : SE) : SB := fun fr S => (a fr S).bind fun x S1 => (b fr S1).bind fun y S2 => .of (o.on x y) S2
/-- a o1 b o2 c -/
@[simp] def bCh (o1 o2 : Cm) (a b c : SE) : SB := fun fr S => (a fr S).bind fun x S1 => (b fr S1).bind fun y S2 => (Re.of (o1.on x y) S2).bind fun k S3 =>
  if k then (c fr S3).bind fun z S4 => .of (o2.on y z) S4 else .ok false S3
@[simp] def eB (b : SB) : SE := fun fr S => (b fr S).bind fun k S1 => .ok (.bl k) S1
/-- an expression whose value is a bool, as a test -/
def bE (a : SE) : SB := fun fr S => (a fr S).bind fun x S1 => match x with
  | .bl k => .ok k S1
  | _ => .bad
@[simp] def bNot (a : SB) : SB := fun fr S => (a fr S).bind fun k S1 => .ok (!k) S1
@[simp] def bAnd (a b : SB) : SB := fun fr S => (a fr S).bind fun k S1 => if k then b fr S1 else .ok false S1
@[simp] def bOr (a b : SB) : SB := fun fr S => (a fr S).bind fun k S1 => if k then .ok true S1 else b fr S1
/-- a and b as a value, a's value a bool -/
@[simp] def eAnd (a : SB) (b : SE) : SE := fun fr S => (a fr S).bind fun k S1 => if k then b fr S1 else .ok (.bl false) S1
@[simp] def eOr (a : SB) (b : SE) : SE := fun fr S => (a fr S).bind fun k S1 => if k then .ok (.bl true) S1 else b fr S1
@[simp] def eIf (c : SB) (a b : SE) : SE := fun fr S => (c fr S).bind fun k S1 => if k then a fr S1 else b fr S1
@[simp] def aN : SA := fun _ S => .ok [] S
@[simp] def aC (a : SE) (r : SA) : SA := fun fr S => (a fr S).bind fun x S1 => (r fr S1).bind fun xs S2 => .ok (x :: xs) S2
def eTup (r : SA) : SE := fun fr S => (r fr S).bind fun xs S1 => if fits xs.length then .ok (.tup xs) S1 else .bad
def eLst (r : SA) : SE := fun fr S => (r fr S).bind fun xs S1 => if fits xs.length then .ok (.lst xs) S1 else .bad

/-- the place that an index means -/
def ixN (n : Nat) (i : Int) : Option Nat := if 0 ≤ i then (if i < n then some i.toNat else none) else if -(n : Int) ≤ i then some (i + n).toNat else none
def ixV (xs : List PV) (i : Int) : Option PV := (ixN xs.length i).bind fun j => xs[j]?
def PV.at_ : PV → PV → Option PV
  | .tup xs, .int i => ixV xs i
  | .lst xs, .int i => ixV xs i
  | .dct ks vs, x => if dOk ks x then dAt ks vs x else none
  | _, _ => none
/-- x[i] of a list, a tuple, a dict -/
@[simp] def eIx (a b : SE) : SE := fun fr S => (a fr S).bind fun x S1 => (b fr S1).bind fun y S2 => .of (x.at_ y) S2
/-- x[i] of a list in the store -/
def stAt (S : Sto) (x y : PV) : Option PV := match x with
  | .ref k => match S[k]? with
    | some t => t.at_ y
    | none => none
  | _ => none
@[simp] def eIxS (a b : SE) : SE := fun fr S => (a fr S).bind fun x S1 => (b fr S1).bind fun y S2 => .of (stAt S2 x y) S2
def sIx (n d : Nat) : Option Int → Nat
  | none => d
  | some v => if v < 0 then (v + (n : Int)).toNat else min v.toNat n
def cut {α : Type} (xs : List α) (lo hi : Option Int) : List α := (xs.drop (sIx xs.length 0 lo)).take (sIx xs.length xs.length hi - sIx xs.length 0 lo)
abbrev SO := Fr → Sto → Re (Option Int)
@[simp] def oN : SO := fun _ S => .ok none S
def oS (a : SE) : SO := fun fr S => (a fr S).bind fun x S1 => match x with
  | .int i => .ok (some i) S1
  | _ => .bad
def PV.cut_ : PV → Option Int → Option Int → Option PV
  | .tup xs, lo, hi => some (.tup (cut xs lo hi))
  | .lst xs, lo, hi => some (.lst (cut xs lo hi))
  | _, _, _ => none
@[simp] def eSl (a : SE) (lo hi : SO) : SE := fun fr S => (a fr S).bind fun x S1 => (lo fr S1).bind fun l S2 => (hi fr S2).bind fun h S3 => .of (x.cut_ l h) S3

/-! ### built-ins -/
def allBl : List PV → Option (List Bool)
  | [] => some []
  | .bl b :: r => (allBl r).map (b :: ·)
  | _ :: _ => none
def allInt : List PV → Option (List Int)
  | [] => some []
  | .int i :: r => (allInt r).map (i :: ·)
  | _ :: _ => none
def leastI : Int → List Int → Int
  | m, [] => m
  | m, x :: r => leastI (if x < m then x else m) r
def greatestI : Int → List Int → Int
  | m, [] => m
  | m, x :: r => greatestI (if m < x then x else m) r
def bLen : List PV → Option PV
  | [.tup xs] => some (.int xs.length)
  | [.lst xs] => some (.int xs.length)
  | [.dct ks _] => some (.int ks.length)
  | _ => none
def bAll : List PV → Option PV
  | [.lst xs] => (allBl xs).map fun bs => .bl (bs.all id)
  | _ => none
def bAny : List PV → Option PV
  | [.lst xs] => (allBl xs).map fun bs => .bl (bs.any id)
  | _ => none
def bSum : List PV → Option PV
  | [.lst xs] => (allInt xs).map fun ns => .int ns.sum
  | [.tup xs] => (allInt xs).map fun ns => .int ns.sum
  | _ => none
def least1 : List Int → Option PV
  | n :: r => some (.int (leastI n r))
  | [] => none
def greatest1 : List Int → Option PV
  | n :: r => some (.int (greatestI n r))
  | [] => none
def bMin : List PV → Option PV
  | [.lst xs] => ((allInt xs).bind least1).or (minO xs)
  | [.tup xs] => minO xs
  | _ => none
def bMax : List PV → Option PV
  | [.lst xs] => ((allInt xs).bind greatest1).or (maxO xs)
  | [.tup xs] => maxO xs
  | _ => none
def bDict : List PV → Option PV
  | [.lst xs] => (allPr xs).bind dMk
  | _ => none
def bSorted : List PV → Option PV
  | [.lst xs] => (sortV xs).map .lst
  | [.dct ks _] => (sortV ks).map .lst
  | _ => none
def bMin2 : List PV → Option PV
  | [.int i, .int j] => some (.int (if j < i then j else i))
  | _ => none
def bMax2 : List PV → Option PV
  | [.int i, .int j] => some (.int (if j > i then j else i))
  | _ => none
def bInt : List PV → Option PV
  | [.int i] => some (.int i)
  | [.bl b] => some (.int (if b then 1 else 0))
  | _ => none
def bAbs : List PV → Option PV
  | [.int i] => some (.int (if i < 0 then -i else i))
  | _ => none
def bTuple : List PV → Option PV
  | [.tup xs] => some (.tup xs)
  | [.lst xs] => some (.tup xs)
  | _ => none
def bList : List PV → Option PV
  | [.tup xs] => some (.lst xs)
  | [.lst xs] => some (.lst xs)
  | [.dct ks _] => some (.lst ks)
  | _ => none
section
variable {xs : List PV} {i j : Int} {b : Bool} {l : List Int}
@[simp] theorem bLen_t : bLen [.tup xs] = some (.int xs.length) := rfl
@[simp] theorem bLen_l : bLen [.lst xs] = some (.int xs.length) := rfl
@[simp] theorem bAll_l : bAll [.lst xs] = (allBl xs).map fun bs => .bl (bs.all id) := rfl
@[simp] theorem bAny_l : bAny [.lst xs] = (allBl xs).map fun bs => .bl (bs.any id) := rfl
@[simp] theorem bSum_l : bSum [.lst xs] = (allInt xs).map fun ns => .int ns.sum := rfl
@[simp] theorem bMin_l : bMin [.lst xs] = ((allInt xs).bind least1).or (minO xs) := rfl
@[simp] theorem bMin_t : bMin [.tup xs] = minO xs := rfl
@[simp] theorem bMax_t : bMax [.tup xs] = maxO xs := rfl
@[simp] theorem bSum_t : bSum [.tup xs] = (allInt xs).map fun ns => .int ns.sum := rfl
@[simp] theorem bDict_l : bDict [.lst xs] = (allPr xs).bind dMk := rfl
@[simp] theorem bSorted_l : bSorted [.lst xs] = (sortV xs).map .lst := rfl
@[simp] theorem bSorted_d {vs : List PV} : bSorted [.dct xs vs] = (sortV xs).map .lst := rfl
@[simp] theorem bLen_d {vs : List PV} : bLen [.dct xs vs] = some (.int xs.length) := rfl
@[simp] theorem bList_d {vs : List PV} : bList [.dct xs vs] = some (.lst xs) := rfl
@[simp] theorem bMax_l : bMax [.lst xs] = ((allInt xs).bind greatest1).or (maxO xs) := rfl
@[simp] theorem least1_c : least1 (i :: l) = some (.int (leastI i l)) := rfl
@[simp] theorem greatest1_c : greatest1 (i :: l) = some (.int (greatestI i l)) := rfl
@[simp] theorem bMin2_i : bMin2 [.int i, .int j] = some (.int (if j < i then j else i)) := rfl
@[simp] theorem bMax2_i : bMax2 [.int i, .int j] = some (.int (if j > i then j else i)) := rfl
@[simp] theorem bInt_i : bInt [.int i] = some (.int i) := rfl
@[simp] theorem bInt_b : bInt [.bl b] = some (.int (if b then 1 else 0)) := rfl
@[simp] theorem bAbs_i : bAbs [.int i] = some (.int (if i < 0 then -i else i)) := rfl
@[simp] theorem bTuple_t : bTuple [.tup xs] = some (.tup xs) := rfl
@[simp] theorem bTuple_l : bTuple [.lst xs] = some (.tup xs) := rfl
@[simp] theorem bList_t : bList [.tup xs] = some (.lst xs) := rfl
@[simp] theorem bList_l : bList [.lst xs] = some (.lst xs) := rfl
end
@[simp] def eBi (f : List PV → Option PV) (r : SA) : SE := fun fr S => (r fr S).bind fun xs S1 => .of (f xs) S1
/-- list(range(n)) -/
def rangeV (lo : Int) (n : Nat) : List PV := (List.range n).map fun (i : Nat) => .int (lo + i)
/-- isinstance(x, ..) -/
inductive Ty | int | bool | str | tuple | list | dict
def PV.tyName : PV → Option String
  | .non => some "NoneType"
  | .bl _ => some "bool"
  | .int _ => some "int"
  | .str _ => some "str"
  | .tup _ => some "tuple"
  | .lst _ => some "list"
  | _ => none
def PV.ofTy : PV → Ty → Bool
  | .int _, .int => true
  | .bl _, .int => true
  | .bl _, .bool => true
  | .str _, .str => true
  | .tup _, .tuple => true
  | .lst _, .list => true
  | _, _ => false
def isV (x : PV) (ts : List Ty) : Option Bool := x.tyName.map fun _ => ts.any x.ofTy
@[simp] def bIs (a : SE) (ts : List Ty) : SB := fun fr S => (a fr S).bind fun x S1 => .of (isV x ts) S1
section
variable {ts : List Ty} {i : Int} {b : Bool} {s : Str} {xs : List PV}
@[simp] theorem isV_non : isV .non ts = some (ts.any PV.non.ofTy) := rfl
@[simp] theorem isV_bl : isV (.bl b) ts = some (ts.any (PV.bl b).ofTy) := rfl
@[simp] theorem isV_int : isV (.int i) ts = some (ts.any (PV.int i).ofTy) := rfl
@[simp] theorem isV_str : isV (.str s) ts = some (ts.any (PV.str s).ofTy) := rfl
@[simp] theorem isV_tup : isV (.tup xs) ts = some (ts.any (PV.tup xs).ofTy) := rfl
@[simp] theorem isV_lst : isV (.lst xs) ts = some (ts.any (PV.lst xs).ofTy) := rfl
@[simp] theorem ofTy_ii : (PV.int i).ofTy .int = true := rfl
@[simp] theorem ofTy_ib : (PV.int i).ofTy .bool = false := rfl
@[simp] theorem ofTy_is : (PV.int i).ofTy .str = false := rfl
@[simp] theorem ofTy_it : (PV.int i).ofTy .tuple = false := rfl
@[simp] theorem ofTy_il : (PV.int i).ofTy .list = false := rfl
@[simp] theorem ofTy_bi : (PV.bl b).ofTy .int = true := rfl
@[simp] theorem ofTy_bb : (PV.bl b).ofTy .bool = true := rfl
@[simp] theorem ofTy_bs : (PV.bl b).ofTy .str = false := rfl
@[simp] theorem ofTy_bt : (PV.bl b).ofTy .tuple = false := rfl
@[simp] theorem ofTy_blst : (PV.bl b).ofTy .list = false := rfl
@[simp] theorem ofTy_si : (PV.str s).ofTy .int = false := rfl
@[simp] theorem ofTy_sb : (PV.str s).ofTy .bool = false := rfl
@[simp] theorem ofTy_ss : (PV.str s).ofTy .str = true := rfl
@[simp] theorem ofTy_st : (PV.str s).ofTy .tuple = false := rfl
@[simp] theorem ofTy_sl : (PV.str s).ofTy .list = false := rfl
@[simp] theorem ofTy_ti : (PV.tup xs).ofTy .int = false := rfl
@[simp] theorem ofTy_tb : (PV.tup xs).ofTy .bool = false := rfl
@[simp] theorem ofTy_ts : (PV.tup xs).ofTy .str = false := rfl
@[simp] theorem ofTy_tt : (PV.tup xs).ofTy .tuple = true := rfl
@[simp] theorem ofTy_tl : (PV.tup xs).ofTy .list = false := rfl
@[simp] theorem ofTy_li : (PV.lst xs).ofTy .int = false := rfl
@[simp] theorem ofTy_lb : (PV.lst xs).ofTy .bool = false := rfl
@[simp] theorem ofTy_ls : (PV.lst xs).ofTy .str = false := rfl
@[simp] theorem ofTy_lt : (PV.lst xs).ofTy .tuple = false := rfl
@[simp] theorem ofTy_ll : (PV.lst xs).ofTy .list = true := rfl
@[simp] theorem ofTy_n (t : Ty) : PV.non.ofTy t = false := by cases t <;> rfl
end

/-! ### calls -/
/-- how an argument is handed on: a plain value; a list lent; a function handed on -/
abbrev SG := Fr → Sto → Re (List Sl)
@[simp] def gN : SG := fun _ S => .ok [] S
@[simp] def gV (a : SE) (r : SG) : SG := fun fr S => (a fr S).bind fun x S1 => (r fr S1).bind fun xs S2 => .ok (.va x :: xs) S2
/-- lent, to be looked at -/
@[simp] def gL (a : SE) (r : SG) : SG := fun fr S => (a fr S).bind fun x S1 => (r fr S1).bind fun xs S2 => .ok (.bo x :: xs) S2
@[simp] def eCall (F : FN) (r : SG) : SE := fun fr S => (r fr S).bind fun xs S1 => F xs S1

/-! ### what is walked -/
abbrev SI := Fr → Sto → Re (List PV)
@[simp] def iSeq (a : SE) : SI := fun fr S => (a fr S).bind fun x S1 => .of x.items S1
def rng1 : PV → Option (List PV)
  | .int j => if decide (j ≤ 16777216) && decide (-4611686018427387904 ≤ j) then some (rangeV 0 j.toNat) else none
  | _ => none
@[simp] theorem rng1_int {j : Int} : rng1 (.int j) = if decide (j ≤ 16777216) && decide (-4611686018427387904 ≤ j) then some (rangeV 0 j.toNat) else none := rfl
@[simp] def iRng1 (a : SE) : SI := fun fr S => (a fr S).bind fun x S1 => .of (rng1 x) S1
def rng2 : PV → PV → Option (List PV)
  | .int i, .int j => if decide (-4611686018427387904 ≤ i) && decide (i < 4611686018427387904) && decide (-4611686018427387904 ≤ j) && decide (j < 4611686018427387904) && decide (j - i ≤ 16777216) then some (rangeV i (j - i).toNat) else none
  | _, _ => none
@[simp] theorem rng2_int {i j : Int} : rng2 (.int i) (.int j) = if decide (-4611686018427387904 ≤ i) && decide (i < 4611686018427387904) && decide (-4611686018427387904 ≤ j) && decide (j < 4611686018427387904) && decide (j - i ≤ 16777216) then some (rangeV i (j - i).toNat) else none := rfl
@[simp] def iRng2 (a b : SE) : SI := fun fr S => (a fr S).bind fun x S1 => (b fr S1).bind fun y S2 => .of (rng2 x y) S2
def zipV (xs ys : List PV) : List PV := List.zipWith (fun x y => .tup [x, y]) xs ys
def zipO (x y : PV) : Option (List PV) := x.items.bind fun xs => y.items.map fun ys => zipV xs ys
@[simp] def iZip (a b : SE) : SI := fun fr S => (a fr S).bind fun x S1 => (b fr S1).bind fun y S2 => .of (zipO x y) S2
def zip3V : List PV → List PV → List PV → List PV
  | x :: xs, y :: ys, z :: zs => .tup [x, y, z] :: zip3V xs ys zs
  | _, _, _ => []
def zip3O (x y z : PV) : Option (List PV) := x.items.bind fun xs => y.items.bind fun ys => z.items.map fun zs => zip3V xs ys zs
@[simp] def iZip3 (a b d : SE) : SI := fun fr S => (a fr S).bind fun x S1 => (b fr S1).bind fun y S2 => (d fr S2).bind fun z S3 => .of (zip3O x y z) S3
def enumV (n : Nat) : List PV → List PV
  | [] => []
  | x :: r => .tup [.int (n : Int), x] :: enumV (n + 1) r
def enumO (x : PV) : Option (List PV) := x.items.map (enumV 0)
@[simp] def iEnum (a : SE) : SI := fun fr S => (a fr S).bind fun x S1 => .of (enumO x) S1
section
variable {xs ys : List PV}
@[simp] theorem items_tup : (PV.tup xs).items = some xs := rfl
@[simp] theorem items_lst : (PV.lst xs).items = some xs := rfl
@[simp] theorem zipO_tt : zipO (.tup xs) (.tup ys) = some (zipV xs ys) := rfl
@[simp] theorem zipO_tl : zipO (.tup xs) (.lst ys) = some (zipV xs ys) := rfl
@[simp] theorem zipO_lt : zipO (.lst xs) (.tup ys) = some (zipV xs ys) := rfl
@[simp] theorem zipO_ll : zipO (.lst xs) (.lst ys) = some (zipV xs ys) := rfl
@[simp] theorem enumO_t : enumO (.tup xs) = some (enumV 0 xs) := rfl
@[simp] theorem enumO_l : enumO (.lst xs) = some (enumV 0 xs) := rfl
end
/-- targets -/
abbrev TgS := PV → Fr → Option Fr
@[simp] def tN (i : Nat) : TgS := fun x fr => some (fr.set i (.va x))
def setAll : List Nat → List PV → Fr → Option Fr
  | [], [], fr => some fr
  | i :: is, x :: xs, fr => setAll is xs (fr.set i (.va x))
  | _, _, _ => none
def tT (is : List Nat) : TgS := fun x fr => match x with
  | .tup xs => setAll is xs fr
  | _ => none
/-- a comprehension's turns -/
def lcGo (tg : TgS) (c : SB) (e : SE) (fr : Fr) : List PV → Sto → Re (List PV)
  | [], S => .ok [] S
  | x :: r, S => match tg x fr with
    | none => .bad
    | some fr1 => match c fr1 S with
      | .ok k S1 => if k then
          match e fr1 S1 with
          | .ok y S2 => (lcGo tg c e fr r S2).bind fun ys S3 => .ok (y :: ys) S3
          | _ => .bad
        else lcGo tg c e fr r S1
      | _ => .bad
/-- a comprehension's own names are not known ahead of it -/
def wipeF (fr : Fr) : List Nat → Fr
  | [] => fr
  | v :: vs => (wipeF fr vs).set v .no
@[simp] theorem wipeF_nil {fr : Fr} : wipeF fr [] = fr := rfl
@[simp] theorem wipeF_cons {fr : Fr} {v : Nat} {vs : List Nat} : wipeF fr (v :: vs) = (wipeF fr vs).set v .no := rfl
@[simp] def bT : SB := fun _ S => .ok true S
@[simp] def eLc (vs : List Nat) (it : SI) (tg : TgS) (c : SB) (e : SE) : SE := fun fr S => (it fr S).bind fun xs S1 => (lcGo tg c e (wipeF fr vs) xs S1).bind fun ys S2 => .ok (.lst ys) S2

/-! ### statements -/
inductive Ou where
  | nx (fr : Fr) (S : Sto)
  | rt (t : PV) (S : Sto)
  | bk (fr : Fr) (S : Sto)
  | ct (fr : Fr) (S : Sto)
  | ex (c : Nat) (args : List PV) (S : Sto)
  | bad
  deriving Inhabited
abbrev SS := Fr → Sto → Ou
def Ou.seq : Ou → SS → Ou
  | .nx fr S, k => k fr S
  | .rt t S, _ => .rt t S
  | .bk fr S, _ => .bk fr S
  | .ct fr S, _ => .ct fr S
  | .ex c as S, _ => .ex c as S
  | .bad, _ => .bad
def Re.thn {α : Type} : Re α → (α → Sto → Ou) → Ou
  | .ok a S, k => k a S
  | .ex c as S, _ => .ex c as S
  | .bad, _ => .bad
section
variable {α : Type} {a : α} {fr : Fr} {S : Sto} {t : PV} {k : SS} {f : α → Sto → Ou} {c : Nat} {as : List PV}
@[simp] theorem Ou.seq_nx : (Ou.nx fr S).seq k = k fr S := rfl
@[simp] theorem Ou.seq_rt : (Ou.rt t S).seq k = .rt t S := rfl
@[simp] theorem Ou.seq_bk : (Ou.bk fr S).seq k = .bk fr S := rfl
@[simp] theorem Ou.seq_ct : (Ou.ct fr S).seq k = .ct fr S := rfl
@[simp] theorem Ou.seq_ex : (Ou.ex c as S).seq k = .ex c as S := rfl
@[simp] theorem Ou.seq_bad : Ou.bad.seq k = .bad := rfl
@[simp] theorem Re.thn_ok : (Re.ok a S).thn f = f a S := rfl
@[simp] theorem Re.thn_ex : (Re.ex c as S : Re α).thn f = .ex c as S := rfl
@[simp] theorem Re.thn_bad : (Re.bad : Re α).thn f = .bad := rfl
end
@[simp] def sNil : SS := fun fr S => .nx fr S
@[simp] def sSeq (a b : SS) : SS := fun fr S => (a fr S).seq b
@[simp] def sBad : SS := fun _ _ => .bad
@[simp] def sExpr (e : SE) : SS := fun fr S => (e fr S).thn fun _ S1 => .nx fr S1
@[simp] def sSet (i : Nat) (e : SE) : SS := fun fr S => (e fr S).thn fun x S1 => .nx (fr.set i (.va x)) S1
def PV.isC : PV → Bool
  | .lst _ => true
  | .dct _ _ => true
  | _ => false
@[simp] theorem isC_lst {xs : List PV} : (PV.lst xs).isC = true := rfl
@[simp] theorem isC_dct {xs ys : List PV} : (PV.dct xs ys).isC = true := rfl
/-- a new list that is the frame's own -/
def sOwn (i : Nat) (e : SE) : SS := fun fr S => (e fr S).thn fun x S1 => if x.isC then .nx (fr.set i (.ow x)) S1 else .bad
/-- several names at once: values, new lists of the frame's own -/
abbrev SH := Fr → Sto → Re (List Sl)
@[simp] def hN : SH := fun _ S => .ok [] S
@[simp] def hV (a : SE) (r : SH) : SH := fun fr S => (a fr S).bind fun x S1 => (r fr S1).bind fun xs S2 => .ok (.va x :: xs) S2
def hO (a : SE) (r : SH) : SH := fun fr S => (a fr S).bind fun x S1 => if x.isC then (r fr S1).bind fun xs S2 => .ok (.ow x :: xs) S2 else .bad
def setSl : List Nat → List Sl → Fr → Option Fr
  | [], [], fr => some fr
  | i :: is, a :: as, fr => setSl is as (fr.set i a)
  | _, _, _ => none
@[simp] theorem setSl_nil {fr : Fr} : setSl [] [] fr = some fr := rfl
@[simp] theorem setSl_cons {i : Nat} {is : List Nat} {a : Sl} {as : List Sl} {fr : Fr} : setSl (i :: is) (a :: as) fr = setSl is as (fr.set i a) := rfl
def Ou.nxO : Option Fr → Sto → Ou
  | some fr, S => .nx fr S
  | none, _ => .bad
@[simp] theorem nxO_some {fr : Fr} {S : Sto} : Ou.nxO (some fr) S = .nx fr S := rfl
@[simp] theorem nxO_none {S : Sto} : Ou.nxO none S = .bad := rfl
@[simp] def sPar (is : List Nat) (m : SH) : SS := fun fr S => (m fr S).thn fun as S1 => .nxO (setSl is as fr) S1
/-- (i, j, ..) = a tuple -/
def sUnp (is : List Nat) (e : SE) : SS := fun fr S => (e fr S).thn fun x S1 => match tT is x fr with
  | some fr1 => .nx fr1 S1
  | none => .bad
def Sl.froz : Sl → Sl
  | .ow t => .va t
  | s => s
/-- a list of the frame's own is not changed from now on -/
def sFrz (i : Nat) (s : SS) : SS := fun fr S => match fr[i]? with
  | some a => s (fr.set i a.froz) S
  | none => .bad
@[simp] def sRet (e : SE) : SS := fun fr S => (e (fr.map Sl.froz) S).thn fun x S1 => .rt x S1
@[simp] def sRetN : SS := fun _ S => .rt .non S
@[simp] def sIf (c : SB) (a b : SS) : SS := fun fr S => (c fr S).thn fun k S1 => if k then a fr S1 else b fr S1
@[simp] def sBrk : SS := fun fr S => .bk fr S
@[simp] def sCnt : SS := fun fr S => .ct fr S
def forGo (tg : TgS) (b : SS) : List PV → Fr → Sto → Ou
  | [], fr, S => .nx fr S
  | x :: r, fr, S => match tg x fr with
    | none => .bad
    | some fr1 => match b fr1 S with
      | .nx fr2 S2 => forGo tg b r fr2 S2
      | .ct fr2 S2 => forGo tg b r fr2 S2
      | .bk fr2 S2 => .nx fr2 S2
      | .rt t S2 => .rt t S2
      | .ex c as S2 => .ex c as S2
      | .bad => .bad
@[simp] def sFor (it : SI) (tg : TgS) (b : SS) : SS := fun fr S => (it fr S).thn fun xs S1 => forGo tg b xs fr S1
def whGo (c : SB) (b : SS) : Nat → Fr → Sto → Ou
  | 0, _, _ => .bad
  | n + 1, fr, S => match c fr S with
    | .ok k S1 => if k then
        match b fr S1 with
        | .nx fr2 S2 => whGo c b n fr2 S2
        | .ct fr2 S2 => whGo c b n fr2 S2
        | .bk fr2 S2 => .nx fr2 S2
        | .rt t S2 => .rt t S2
        | .ex c as S2 => .ex c as S2
        | .bad => .bad
      else .nx fr S1
    | .ex c as S1 => .ex c as S1
    | .bad => .bad
@[simp] def sWh (n : Nat) (c : SB) (b : SS) : SS := fun fr S => whGo c b n fr S
/-- x.append(e), x the frame's own -/
def sApp (i : Nat) (e : SE) : SS := fun fr S => (e fr S).thn fun y S1 => match fr[i]? with
  | some (.ow (.lst xs)) => if fits (xs.length + 1) then .nx (fr.set i (.ow (.lst (xs ++ [y])))) S1 else .bad
  | _ => .bad
/-- x.extend(e), e a new list -/
def sExt (i : Nat) (e : SE) : SS := fun fr S => (e fr S).thn fun y S1 => match fr[i]?, y with
  | some (.ow (.lst xs)), .lst ys => if fits (xs.length + ys.length) then .nx (fr.set i (.ow (.lst (xs ++ ys)))) S1 else .bad
  | _, _ => .bad
/-- x[k] = y -/
def putO : PV → PV → PV → Option PV
  | .lst xs, .int n, y => (ixN xs.length n).map fun j => .lst (xs.set j y)
  | .dct ks vs, z, y => if dOk ks z && decide (ks.length < 16777216) then some (.dct (dSet ks vs z y).1 (dSet ks vs z y).2) else none
  | _, _, _ => none
def Sl.own : Sl → Option PV
  | .ow t => some t
  | _ => none
/-- x[k] = e, x a list or dict of the frame's own -/
def sPut (i : Nat) (k e : SE) : SS := fun fr S => (e fr S).thn fun y S1 => (k fr S1).thn fun z S2 => match (fr[i]?).bind Sl.own with
  | some t => match putO t z y with
    | some t' => .nx (fr.set i (.ow t')) S2
    | none => .bad
  | none => .bad
/-- x[k] = e, x a list or dict of the store -/
def sPutS (a k e : SE) : SS := fun fr S => (e fr S).thn fun y S1 => (a fr S1).thn fun x S2 => (k fr S2).thn fun z S3 => match x with
  | .ref r => match S3[r]? with
    | some t => match putO t z y with
      | some t' => .nx fr (S3.set r t')
      | none => .bad
    | none => .bad
  | _ => .bad
/-- d.get(k), d.get(k, x) -/
def getO : PV → PV → PV → Option PV
  | .dct ks vs, y, z => if dOk ks y then some ((dAt ks vs y).getD z) else none
  | _, _, _ => none
@[simp] theorem getO_dct {ks vs : List PV} {y z : PV} : getO (.dct ks vs) y z = if dOk ks y then some ((dAt ks vs y).getD z) else none := rfl
@[simp] def eGet1 (a b : SE) : SE := fun fr S => (a fr S).bind fun x S1 => (b fr S1).bind fun y S2 => .of (getO x y .non) S2
@[simp] def eGet2 (a b d : SE) : SE := fun fr S => (a fr S).bind fun x S1 => (b fr S1).bind fun y S2 => (d fr S2).bind fun z S3 => .of (getO x y z) S3
/-- {k: v, ..} -/
abbrev SD := Fr → Sto → Re (List (PV × PV))
@[simp] def dN : SD := fun _ S => .ok [] S
@[simp] def dC (k v : SE) (r : SD) : SD := fun fr S => (k fr S).bind fun x S1 => (v fr S1).bind fun y S2 => (r fr S2).bind fun ps S3 => .ok ((x, y) :: ps) S3
@[simp] def eDisp (r : SD) : SE := fun fr S => (r fr S).bind fun ps S1 => .of (dMk ps) S1
@[simp] def eDNew : SE := fun _ S => .ok (.dct [] []) S
/-- a new list goes into the store -/
@[simp] def eNew (e : SE) : SE := fun fr S => (e fr S).bind fun x S1 => .ok (.ref S1.length) (S1 ++ [x])
def pad (n : Nat) (args : List Sl) : Fr := args ++ List.replicate (n - args.length) .no
/-- a def: so many parameters, so many names, its body -/
def fn (ps ns : Nat) (b : SS) : FN := fun args S => if args.length = ps then
    match b (pad ns args) S with
    | .nx _ S1 => .ok .non S1
    | .rt t S1 => .ok t S1
    | .ex c as S1 => .ex c as S1
    | _ => .bad
  else .bad
end Q
/-! Qb: what a tree is in the abstract heap; what stays. -/
namespace Q
open PySem L2

/-- what stays: all but the store's objects; tuples and what is locked -/
structure Kp (r : List Addr) (H H' : Hp) : Prop where
  keep : ∀ a o, H a = some o → a ∉ r → (∀ ps, o ≠ .tbl ps) → H' a = some o
  tups : ∀ a xs, H a = some (.tup xs) → H' a = some (.tup xs)
  frzs : ∀ a o u, H a = some (.frz o u) → H' a = some (.frz o u)
  tbls : ∀ a ps, H a = some (.tbl ps) → ∃ more, H' a = some (.tbl (ps ++ more))
theorem Kp.refl {r : List Addr} {H : Hp} : Kp r H H := ⟨fun _ _ h _ _ => h, fun _ _ h => h, fun _ _ _ h => h, fun _ ps h => ⟨#[], by rw [h]; simp⟩⟩
theorem Kp.trans {r : List Addr} {H H1 H2 : Hp} (a : Kp r H H1) (b : Kp r H1 H2) : Kp r H H2 :=
  ⟨fun c o h n t => b.keep c o (a.keep c o h n t) n t, fun c xs h => b.tups c xs (a.tups c xs h), fun c o u h => b.frzs c o u (a.frzs c o u h), fun c ps h => by
    obtain ⟨m1, e1⟩ := a.tbls c ps h
    obtain ⟨m2, e2⟩ := b.tbls c _ e1
    exact ⟨m1 ++ m2, by rw [e2, Array.append_assoc]⟩⟩
theorem Kp.there {r : List Addr} {H H' : Hp} (k : Kp r H H') {a : Addr} (h : H a ≠ none) (n : a ∉ r) : H' a ≠ none := by
  cases e : H a with
  | none => exact absurd e h
  | some o =>
    by_cases t : ∃ ps, o = .tbl ps
    · obtain ⟨ps, rfl⟩ := t
      obtain ⟨m, e'⟩ := k.tbls a ps e
      rw [e']; exact fun z => nomatch z
    · rw [k.keep a o e n (fun ps z => t ⟨ps, z⟩)]; exact fun z => nomatch z
theorem Kp.upd_new {r : List Addr} {H : Hp} {p : Addr} {o : HO} (h : H p = none) : Kp r H (upd H p o) :=
  have e : ∀ b u, H b = some u → upd H p o b = some u := fun b u q => by rw [upd_ne (ne_of_none q h)]; exact q
  ⟨fun b u q _ _ => e b u q, fun b xs q => e b _ q, fun b o u q => e b _ q, fun b ps q => ⟨#[], by rw [e b _ q]; simp⟩⟩
theorem Kp.of_all {r : List Addr} {H H' : Hp} (e : ∀ b u, H b = some u → H' b = some u) : Kp r H H' :=
  ⟨fun b u q _ _ => e b u q, fun b xs q => e b _ q, fun b o u q => e b _ q, fun b ps q => ⟨#[], by rw [e b _ q]; simp⟩⟩
/-- what a mutable thing of a frame's own may be -/
def Mu (o : HO) : Prop := (∃ vs, o = .lst vs) ∨ (∃ kvs, o = .dK kvs) ∨ ∃ φ, o = .ext φ
theorem Mu.lst {vs : List V} : Mu (.lst vs) := .inl ⟨vs, rfl⟩
theorem Mu.ntbl {o : HO} (m : Mu o) : ∀ ps, o ≠ .tbl ps := fun ps e => by
  subst e; rcases m with ⟨_, e⟩ | ⟨_, e⟩ | ⟨_, e⟩ <;> exact nomatch e
theorem Mu.ntup {o : HO} (m : Mu o) : ∀ ps, o ≠ .tup ps := fun ps e => by
  subst e; rcases m with ⟨_, e⟩ | ⟨_, e⟩ | ⟨_, e⟩ <;> exact nomatch e
theorem Mu.nfrz {o : HO} (m : Mu o) : ∀ x u, o ≠ .frz x u := fun x u e => by
  subst e; rcases m with ⟨_, e⟩ | ⟨_, e⟩ | ⟨_, e⟩ <;> exact nomatch e
/-- a dict whose keys are tuples, told by its one object -/
def DnO (P : Program) (w : World) (a : Addr) (xs : List (NestedKey × Addr × V)) : HO := .ext fun h => (a == sysModules) = false ∧ xs.length ≤ sizeLine ∧ (xs.map (·.1)).Nodup ∧ ∃ us : List Value, Vals (xs.map (·.2.2)) us ∧
  ∃ o es ep, h.get? a = some o ∧ o.ExactDict ∧ o.data = .dict es ep ∧ es.toList = ((xs.zip us).map fun p => (p.1.1, p.1.2.1, p.2)).map (entryOfKey (nestedKind P w))
/-- the content of a dict: keys, values -/
def DO (P : Program) (w : World) (a : Addr) (o : Option HO) (ks : List PV) (kw vw : List V) : Prop :=
  (∃ fk, fkeys ks = some fk ∧ fk.length = vw.length ∧ o = some (.dK (fk.zip vw))) ∨
  ∃ (nk : List NestedKey) (bs : List Addr), tkeys ks = some nk ∧ nk ≠ [] ∧ nk.length = vw.length ∧ bs.length = vw.length ∧ kw = bs.map .ref ∧ o = some (DnO P w a (nk.zip (bs.zip vw)))
theorem DO.is {P : Program} {w : World} {a : Addr} {o : Option HO} {ks : List PV} {kw vw : List V} (h : DO P w a o ks kw vw) : ∃ u, o = some u ∧ Mu u := by
  rcases h with ⟨_, _, _, e⟩ | ⟨_, _, _, _, _, _, _, e⟩
  · exact ⟨_, e, .inr (.inl ⟨_, rfl⟩)⟩
  · exact ⟨_, e, .inr (.inr ⟨_, rfl⟩)⟩
structure RC where
  K : PySem.W.Frag
  P : Program
  w : World
  cA : Nat → Addr
  cl : List Addr → Hp → V → (List PV → Sto → Re PV) → Prop
  clk : ∀ {r : List Addr} {H H' : Hp} {v : V} {F : List PV → Sto → Re PV}, cl r H v F → Kp r H H' → cl r H' v F
  clD : ∀ {r : List Addr} {H : Hp} {v : V} {F : List PV → Sto → Re PV} {D : Addr} {o o' : HO}, cl r H v F → H D = some o → Mu o → cl r (upd H D o') v F

/-- a list that stands at a, a not of B -/
def SqLB (B : Addr → Prop) (H : Hp) (a : Addr) (xs : List V) : Prop := H a = some (.lst xs) ∧ ¬ B a
theorem SqLB.sq {K : PySem.W.Frag} {B : Addr → Prop} {H : Hp} {a : Addr} {xs : List V} (h : SqLB B H a xs) : SqL K H a xs := .of h.1

mutual
def Rep (C : RC) (B : Addr → Prop) (r : List Addr) (H : Hp) : PV → V → Prop
  | .non, v => v = .non
  | .bl b, v => v = .bl b
  | .int i, v => v = .int i
  | .str s, v => v = .str s
  | .tup xs, v => ∃ a vs, v = .ref a ∧ SqT C.K H a vs ∧ Reps C B r H xs vs
  | .lst xs, v => ∃ a vs, v = .ref a ∧ SqLB B H a vs ∧ Reps C B r H xs vs
  | .dct ks vs, v => ∃ a kw vw, v = .ref a ∧ ¬ B a ∧ DO C.P C.w a (H a) ks kw vw ∧ Reps C B r H ks kw ∧ Reps C B r H vs vw
  | .ins c ns fs, v => ∃ a dx vs, v = .ref a ∧ H a = some (.ins (C.cA c) dx (ns.zip vs)) ∧ ns.length = vs.length ∧ ¬ B a ∧ Reps C B r H fs vs
  | .ref k, v => ∃ a, v = .ref a ∧ r[k]? = some a
def Reps (C : RC) (B : Addr → Prop) (r : List Addr) (H : Hp) : List PV → List V → Prop
  | [], vs => vs = []
  | x :: xs, vs => ∃ v vr, vs = v :: vr ∧ Rep C B r H x v ∧ Reps C B r H xs vr
end
/-- .. that is only looked at: a list may be of B, not of N -/
def RepM (C : RC) (B N : Addr → Prop) (r : List Addr) (H : Hp) (t : PV) (v : V) : Prop := match t with
  | .lst xs => ∃ a vs, v = .ref a ∧ SqLB N H a vs ∧ Reps C B r H xs vs
  | .dct ks vs => ∃ a kw vw, v = .ref a ∧ ¬ N a ∧ DO C.P C.w a (H a) ks kw vw ∧ Reps C B r H ks kw ∧ Reps C B r H vs vw
  | t => Rep C B r H t v
abbrev RepP (C : RC) (B : Addr → Prop) (r : List Addr) (H : Hp) (t : PV) (v : V) : Prop := RepM C B (fun b => b ∈ r) r H t v

/-- what is not of B stays -/
structure Kb (B : Addr → Prop) (H H' : Hp) : Prop where
  keep : ∀ a o, H a = some o → ¬ B a → (∀ ps, o ≠ .tbl ps) → H' a = some o
  tups : ∀ a xs, H a = some (.tup xs) → H' a = some (.tup xs)
  frzs : ∀ a o u, H a = some (.frz o u) → H' a = some (.frz o u)
theorem Kp.kb {B : Addr → Prop} {r : List Addr} {H H' : Hp} (k : Kp r H H') (hr : ∀ a ∈ r, B a) : Kb B H H' := ⟨fun a o e n t => k.keep a o e (fun z => n (hr a z)) t, k.tups, k.frzs⟩
theorem nb_of {B B' : Addr → Prop} {H : Hp} {a : Addr} {o : HO} (hB : ∀ a, B' a → B a ∨ H a = none) (n : ¬ B a) (e : H a = some o) : ¬ B' a := fun z => by
  rcases hB a z with z | z
  · exact n z
  · rw [e] at z; cases z
section
variable {C : RC} {B B' : Addr → Prop} {r : List Addr} {H H' : Hp}
theorem SqT.kb {K : PySem.W.Frag} {a : Addr} {xs : List V} (h : SqT K H a xs) (k : Kb B H H') : SqT K H' a xs := by
  rcases h with (h | ⟨o, h⟩) | h
  · exact .inl (.inl (k.tups _ _ h))
  · exact .inl (.inr ⟨o, k.frzs _ _ _ h⟩)
  · exact .inr h
theorem SqLB.kb {a : Addr} {xs : List V} (h : SqLB B H a xs) (k : Kb B H H') (hB : ∀ a, B' a → B a ∨ H a = none) : SqLB B' H' a xs :=
  ⟨k.keep _ _ h.1 h.2 (fun _ z => nomatch z), fun z => (hB a z).elim h.2 fun z => by rw [h.1] at z; exact nomatch z⟩
mutual
theorem Rep.kb (k : Kb B H H') (hB : ∀ a, B' a → B a ∨ H a = none) : ∀ {t : PV} {v : V}, Rep C B r H t v → Rep C B' r H' t v
  | .non, _, h => by simpa only [Rep] using h
  | .bl _, _, h => by simpa only [Rep] using h
  | .int _, _, h => by simpa only [Rep] using h
  | .str _, _, h => by simpa only [Rep] using h
  | .tup xs, v, h => by
    simp only [Rep] at h ⊢
    obtain ⟨a, vs, e, s, q⟩ := h
    exact ⟨a, vs, e, SqT.kb s k, Reps.kb k hB q⟩
  | .lst xs, v, h => by
    simp only [Rep] at h ⊢
    obtain ⟨a, vs, e, s, q⟩ := h
    exact ⟨a, vs, e, s.kb k hB, Reps.kb k hB q⟩
  | .dct ks vs, v, h => by
    simp only [Rep] at h ⊢
    obtain ⟨a, kw, vw, e, n, d, q1, q2⟩ := h
    obtain ⟨o, eo, m⟩ := d.is
    exact ⟨a, kw, vw, e, nb_of hB n eo, by rw [k.keep _ _ eo n m.ntbl, ← eo]; exact d, Reps.kb k hB q1, Reps.kb k hB q2⟩
  | .ins c ns fs, v, h => by
    simp only [Rep] at h ⊢
    obtain ⟨a, dx, vs, e, s, l, n, q⟩ := h
    refine ⟨a, dx, vs, e, k.keep _ _ s n (fun _ z => nomatch z), l, fun z => ?_, Reps.kb k hB q⟩
    rcases hB a z with z | z
    · exact n z
    · rw [s] at z; exact nomatch z
  | .ref _, _, h => by simpa only [Rep] using h
theorem Reps.kb (k : Kb B H H') (hB : ∀ a, B' a → B a ∨ H a = none) : ∀ {ts : List PV} {vs : List V}, Reps C B r H ts vs → Reps C B' r H' ts vs
  | [], _, h => by simpa only [Reps] using h
  | x :: xs, vs, h => by
    simp only [Reps] at h ⊢
    obtain ⟨v, vr, e, h1, h2⟩ := h
    exact ⟨v, vr, e, Rep.kb k hB h1, Reps.kb k hB h2⟩
end
theorem Rep.kp (k : Kp r H H') (hr : ∀ a ∈ r, B a) (hB : ∀ a, B' a → B a ∨ H a = none) {t : PV} {v : V} (h : Rep C B r H t v) : Rep C B' r H' t v := h.kb (k.kb hr) hB
theorem Reps.kp (k : Kp r H H') (hr : ∀ a ∈ r, B a) (hB : ∀ a, B' a → B a ∨ H a = none) {t : List PV} {v : List V} (h : Reps C B r H t v) : Reps C B' r H' t v := h.kb (k.kb hr) hB
theorem SqLB.kp {a : Addr} {xs : List V} (h : SqLB B H a xs) (k : Kp r H H') (hr : ∀ a ∈ r, B a) (hB : ∀ a, B' a → B a ∨ H a = none) : SqLB B' H' a xs := h.kb (k.kb hr) hB
theorem Rep.k (k : Kp r H H') (hr : ∀ a ∈ r, B a) {t : PV} {v : V} (h : Rep C B r H t v) : Rep C B r H' t v := h.kp k hr fun _ z => .inl z
theorem Reps.k (k : Kp r H H') (hr : ∀ a ∈ r, B a) {t : List PV} {v : List V} (h : Reps C B r H t v) : Reps C B r H' t v := h.kp k hr fun _ z => .inl z
theorem RepM.kb {N N' : Addr → Prop} (k : Kb B H H') (kn : Kb N H H') (hB : ∀ a, B' a → B a ∨ H a = none) (hN : ∀ a, N' a → N a ∨ H a = none) {t : PV} {v : V} (h : RepM C B N r H t v) : RepM C B' N' r H' t v := by
  cases t with
  | lst xs =>
    obtain ⟨a, vs, e, s, q⟩ := h
    exact ⟨a, vs, e, s.kb kn hN, q.kb k hB⟩
  | dct ks vs =>
    obtain ⟨a, kw, vw, e, n, d, q1, q2⟩ := h
    obtain ⟨o, eo, m⟩ := d.is
    exact ⟨a, kw, vw, e, nb_of hN n eo, by rw [kn.keep _ _ eo n m.ntbl, ← eo]; exact d, q1.kb k hB, q2.kb k hB⟩
  | _ => exact Rep.kb k hB h
theorem RepM.imp {N N' : Addr → Prop} (hN : ∀ a, N' a → N a) {t : PV} {v : V} (h : RepM C B N r H t v) : RepM C B N' r H t v := by
  cases t with
  | lst xs =>
    obtain ⟨a, vs, e, s, q⟩ := h
    exact ⟨a, vs, e, ⟨s.1, fun z => s.2 (hN a z)⟩, q⟩
  | dct ks vs =>
    obtain ⟨a, kw, vw, e, n, d, q1, q2⟩ := h
    exact ⟨a, kw, vw, e, fun z => n (hN a z), d, q1, q2⟩
  | _ => exact h
theorem RepP.kp (k : Kp r H H') (hr : ∀ a ∈ r, B a) (hB : ∀ a, B' a → B a ∨ H a = none) {t : PV} {v : V} (h : RepP C B r H t v) : RepP C B' r H' t v := by
  exact RepM.kb (k.kb hr) (k.kb fun _ z => z) hB (fun _ z => .inl z) h
theorem RepP.k (k : Kp r H H') (hr : ∀ a ∈ r, B a) {t : PV} {v : V} (h : RepP C B r H t v) : RepP C B r H' t v := h.kp k hr fun _ z => .inl z
theorem Rep.p (hr : ∀ a ∈ r, B a) {t : PV} {v : V} (h : Rep C B r H t v) : RepP C B r H t v := by
  cases t with
  | lst xs =>
    simp only [Rep] at h
    obtain ⟨a, vs, e, s, q⟩ := h
    exact ⟨a, vs, e, ⟨s.1, fun z => s.2 (hr _ z)⟩, q⟩
  | dct ks vs =>
    simp only [Rep] at h
    obtain ⟨a, kw, vw, e, n, d, q1, q2⟩ := h
    exact ⟨a, kw, vw, e, fun z => n (hr _ z), d, q1, q2⟩
  | _ => exact h
theorem Reps.len : ∀ {xs : List PV} {vs : List V}, Reps C B r H xs vs → xs.length = vs.length
  | [], _, h => by simp only [Reps] at h; subst h; rfl
  | x :: xs, _, h => by
    simp only [Reps] at h
    obtain ⟨v, vr, rfl, _, q⟩ := h
    simp only [List.length_cons, q.len]
theorem Reps.get : ∀ {xs : List PV} {vs : List V} {i : Nat} {x : PV}, Reps C B r H xs vs → xs[i]? = some x → ∃ v, vs[i]? = some v ∧ Rep C B r H x v
  | [], _, _, _, _, e => by simp at e
  | x :: xs, _, i, y, h, e => by
    simp only [Reps] at h
    obtain ⟨v, vr, rfl, h1, q⟩ := h
    cases i with
    | zero => simp at e; subst e; exact ⟨v, by simp, h1⟩
    | succ i =>
      obtain ⟨w, h2, h3⟩ := q.get (by simpa using e)
      exact ⟨w, by simpa using h2, h3⟩
theorem Reps.get' : ∀ {xs : List PV} {vs : List V} {i : Nat} {v : V}, Reps C B r H xs vs → vs[i]? = some v → ∃ x, xs[i]? = some x ∧ Rep C B r H x v
  | [], _, _, _, h, e => by simp only [Reps] at h; subst h; simp at e
  | x :: xs, _, i, y, h, e => by
    simp only [Reps] at h
    obtain ⟨v, vr, rfl, h1, q⟩ := h
    cases i with
    | zero => simp at e; subst e; exact ⟨x, by simp, h1⟩
    | succ i =>
      obtain ⟨w, h2, h3⟩ := q.get' (by simpa using e)
      exact ⟨w, by simpa using h2, h3⟩
theorem Reps.nil : Reps C B r H [] [] := by simp only [Reps]
theorem Reps.cons {x : PV} {v : V} {xs : List PV} {vs : List V} (h : Rep C B r H x v) (q : Reps C B r H xs vs) : Reps C B r H (x :: xs) (v :: vs) := by
  simp only [Reps]; exact ⟨v, vs, rfl, h, q⟩
theorem Reps.append : ∀ {xs ys : List PV} {vs ws : List V}, Reps C B r H xs vs → Reps C B r H ys ws → Reps C B r H (xs ++ ys) (vs ++ ws)
  | [], _, _, _, h, q => by simp only [Reps] at h; subst h; exact q
  | x :: xs, _, _, _, h, q => by
    simp only [Reps] at h
    obtain ⟨v, vr, rfl, h1, h2⟩ := h
    exact .cons h1 (h2.append q)
theorem Reps.take : ∀ {xs : List PV} {vs : List V} (n : Nat), Reps C B r H xs vs → Reps C B r H (xs.take n) (vs.take n)
  | _, _, 0, h => by simp only [List.take_zero]; exact .nil
  | [], _, n + 1, h => by simp only [Reps] at h; subst h; exact .nil
  | x :: xs, _, n + 1, h => by
    simp only [Reps] at h
    obtain ⟨v, vr, rfl, h1, h2⟩ := h
    exact .cons h1 (h2.take n)
theorem Reps.drop : ∀ {xs : List PV} {vs : List V} (n : Nat), Reps C B r H xs vs → Reps C B r H (xs.drop n) (vs.drop n)
  | _, _, 0, h => h
  | [], _, n + 1, h => by simp only [Reps] at h; subst h; exact .nil
  | x :: xs, _, n + 1, h => by
    simp only [Reps] at h
    obtain ⟨v, vr, rfl, h1, h2⟩ := h
    exact h2.drop n
theorem Reps.set : ∀ {xs : List PV} {vs : List V} {x : PV} {v : V} (j : Nat), Reps C B r H xs vs → Rep C B r H x v → Reps C B r H (xs.set j x) (vs.set j v)
  | [], _, _, _, _, h, _ => by simp only [Reps] at h; subst h; exact .nil
  | y :: xs, _, x, v, j, h, q => by
    simp only [Reps] at h
    obtain ⟨w, vr, rfl, h1, h2⟩ := h
    cases j with
    | zero => exact .cons q h2
    | succ j => exact .cons h1 (h2.set j q)
theorem Reps.rep {xs : List PV} {vs : List V} (h : Reps C B r H xs vs) : ∀ n, Reps C B r H (List.replicate n xs).flatten (List.replicate n vs).flatten
  | 0 => .nil
  | n + 1 => by
    simp only [List.replicate_succ, List.flatten_cons]
    exact h.append (h.rep n)
end

/-! ### the store, a frame -/
/-- a list of one's own, of the store, at p -/
def Cnt (C : RC) (B : Addr → Prop) (r : List Addr) (H : Hp) (t : PV) (p : Addr) : Prop := match t with
  | .lst xs => ∃ vs, H p = some (.lst vs) ∧ Reps C B r H xs vs
  | .dct ks vs => ∃ kw vw, DO C.P C.w p (H p) ks kw vw ∧ Reps C B r H ks kw ∧ Reps C B r H vs vw
  | _ => False
theorem Cnt.is {C : RC} {B : Addr → Prop} {r : List Addr} {H : Hp} {t : PV} {p : Addr} (h : Cnt C B r H t p) : ∃ o, H p = some o ∧ Mu o := by
  cases t with
  | lst xs => obtain ⟨vs, e, _⟩ := h; exact ⟨_, e, .lst⟩
  | dct ks vs => obtain ⟨_, _, d, _⟩ := h; exact d.is
  | _ => exact h.elim
theorem Cnt.isC {C : RC} {B : Addr → Prop} {r : List Addr} {H : Hp} {t : PV} {p : Addr} (h : Cnt C B r H t p) : t.isC = true := by
  cases t <;> first | rfl | exact h.elim
theorem Cnt.kb {C : RC} {B B' : Addr → Prop} {r : List Addr} {H H' : Hp} {t : PV} {p : Addr} (h : Cnt C B r H t p) (k : Kb B H H') (hB : ∀ a, B' a → B a ∨ H a = none) (e : ∀ o, H p = some o → Mu o → H' p = some o) : Cnt C B' r H' t p := by
  cases t with
  | lst xs => obtain ⟨vs, e1, q⟩ := h; exact ⟨vs, e _ e1 .lst, q.kb k hB⟩
  | dct ks vs =>
    obtain ⟨kw, vw, d, q1, q2⟩ := h
    obtain ⟨o, eo, m⟩ := d.is
    exact ⟨kw, vw, by rw [e _ eo m, ← eo]; exact d, q1.kb k hB, q2.kb k hB⟩
  | _ => exact h.elim
theorem Cnt.rep {C : RC} {B : Addr → Prop} {r : List Addr} {H : Hp} {t : PV} {p : Addr} (h : Cnt C B r H t p) (n : ¬ B p) : Rep C B r H t (.ref p) := by
  cases t with
  | lst xs => obtain ⟨vs, e, q⟩ := h; simp only [Rep]; exact ⟨p, vs, rfl, ⟨e, n⟩, q⟩
  | dct ks vs => obtain ⟨kw, vw, d, q1, q2⟩ := h; simp only [Rep]; exact ⟨p, kw, vw, rfl, n, d, q1, q2⟩
  | _ => exact h.elim
theorem Cnt.repM {C : RC} {B N : Addr → Prop} {r : List Addr} {H : Hp} {t : PV} {p : Addr} (h : Cnt C B r H t p) (n : ¬ N p) : RepM C B N r H t (.ref p) := by
  cases t with
  | lst xs => obtain ⟨vs, e, q⟩ := h; exact ⟨p, vs, rfl, ⟨e, n⟩, q⟩
  | dct ks vs => obtain ⟨kw, vw, d, q1, q2⟩ := h; exact ⟨p, kw, vw, rfl, n, d, q1, q2⟩
  | _ => exact h.elim
structure StoR (C : RC) (B : Addr → Prop) (r : List Addr) (S : Sto) (H : Hp) : Prop where
  len : r.length = S.length
  nd : r.Nodup
  at_ : ∀ (k : Nat) (p : Addr) (t : PV), r[k]? = some p → S[k]? = some t → Cnt C B r H t p
def SlotR (C : RC) (B M : Addr → Prop) (r : List Addr) (H : Hp) : Sl → Option V → Prop
  | .no, _ => True
  | .va t, some v => Rep C B r H t v
  | .ow t, some v => ∃ p, v = .ref p ∧ M p ∧ p ∉ r ∧ Cnt C B r H t p
  | .bo t, some v => RepM C B M r H t v
  | .cl F, some v => C.cl r H v F
  | _, none => False
structure RS (C : RC) (U : Addr → Prop) (H0 : Hp) (r : List Addr) (M : Addr → Prop) (S : Sto) (H : Hp) (s : L2.St) (fr : Fr) : Prop where
  kp : Kp r H0 H
  ut : ∀ a, U a → H0 a ≠ none
  mt : ∀ a, M a → H a ≠ none
  mn : ∀ a, M a → a ∉ r → H0 a = none
  ru : ∀ a ∈ r, U a
  rm : ∀ a ∈ r, M a
  st : StoR C (fun a => U a ∨ M a) r S H
  len : fr.length = s.length
  sl : ∀ (i : Nat) (a : Sl), fr[i]? = some a → ∀ o, s[i]? = some o → SlotR C (fun a => U a ∨ M a) M r H a o
  inj : ∀ (i j : Nat) (t u : PV) (p : Addr), fr[i]? = some (.ow t) → fr[j]? = some (.ow u) → s[i]? = some (some (.ref p)) → s[j]? = some (some (.ref p)) → i = j
end Q
/-! Qrep: a tuple taken once is itself. -/
namespace Q
open PySem PySem.Spec PyProof.Rows L2
theorem tuple_mul1 (l : Addr) (items : Array Value) (n : Nat) (dd : Option Addr) (sl : Array (Option Value)) (u : Tok) :
    Meets (Builtin.«tuple.__mul__» ⟨[.ref l, .int 1 u], []⟩) (fun _ R s => s.heap.get? l = some { cls := .type "tuple", dict := dd, data := .seq items n, slots := sl } ∧ R (.ok (.ret (Value.ref l))) s) :=
  .of_wp fun prog w A R s h => by
    obtain ⟨hp, g, d, tk, os⟩ := s
    obtain ⟨hl, h⟩ := h
    have f1 := AutoSeq1.idx_int
    have c1 : (items.isEmpty || (1 : Int) == 1) = true := by simp
    wp_walk using wpAny_loadPart' hl
    repeat (first
      | (refine wpAny_ite_false (decide_eq_false (by decide)) ?_; wp_walk using wpAny_loadPart' hl)
      | (refine wpAny_ite_true (decide_eq_true (by rw [c1])) ?_; wp_walk using wpAny_loadPart' hl))
    exact ⟨_, rfl, h⟩
def rRep1 (K : PySem.W.Frag) : R2 := fun x y H Q => ∃ l xs, x = .ref l ∧ y = .int 1 ∧ SqT K H l xs ∧ Q (.ref l) H
theorem op_rep1 {X : Cx} : OpR X (binaryOp .Mult) (rRep1 X.K) := by
  intro pins s σ H x y v u Q I rx ry h
  obtain ⟨l, xs, rfl, rfl, hT, q⟩ := h
  cases rx
  obtain ⟨t, rfl⟩ := ry
  obtain ⟨its, r, ⟨⟨cls, dd, data, sl⟩, ho, hc, n, hd⟩, hs⟩ := I.tuple hT
  simp only at hc hd
  subst hc hd
  refine wpAny_binaryOp_repeat_ref (T := "tuple") (U := "int") (by decide) ⟨_, ho, rfl⟩ (fun s' => typeIs_int s' 1 t) noFill_tuple_mul F.fills_int_mul F.slot_int_rmul repeat_tuple F.slot_int_index.lookup
    (call_meets F.slot_int_rmul (typeIs_int s 1 t) F.entry_int_rmul (F.args_int_rmul_2 _ _) (int_rmul_tuple 1 t l its.toArray n dd sl)
      ⟨ho, rfl, ⟨_, ho, rfl⟩, call_meets F.slot_tuple_mul ⟨_, ho, rfl⟩ F.entry_tuple_mul (F.args_tuple_mul_2 _ _) (tuple_mul1 l its.toArray n dd sl t) ⟨ho, ?_⟩⟩)
  exact ⟨.ref l, H, I, rfl, q⟩
def rRepA (K : PySem.W.Frag) : R2 := fun x y H Q => rRepT K x y H Q ∨ rRep1 K x y H Q
theorem op_repA {X : Cx} : OpR X (binaryOp .Mult) (rRepA X.K) := fun pins s σ H x y v u Q I rx ry h => h.elim (op_repT pins s σ H x y v u Q I rx ry) (op_rep1 pins s σ H x y v u Q I rx ry)
end Q
/-! Qw: dicts by their content: looked up, put into. -/
namespace Q
open PySem PySem.Spec PyProof.Rows L2
mutual
/-- the value v is the key k -/
def NV (K : PySem.W.Frag) (H : Hp) : NestedKey → V → Prop
  | .none, v => v = .non
  | .num i, v => v = .int i ∨ ∃ b, v = .bl b ∧ i = if b = true then 1 else 0
  | .text s, v => v = .str s
  | .tup ks, v => ∃ a vs, v = .ref a ∧ SqT K H a vs ∧ NVs K H ks vs
def NVs (K : PySem.W.Frag) (H : Hp) : List NestedKey → List V → Prop
  | [], vs => vs = []
  | k :: ks, vs => ∃ v vr, vs = v :: vr ∧ NV K H k v ∧ NVs K H ks vr
end
section
variable {X : Cx} {pins : List (Addr × Obj)} {σ : L2.St} {H : Hp} {s : Shared} {A : Around} {E : Value → Shared → Prop}
mutual
theorem NV.is (I : Inv X pins σ H s) : ∀ {k : NestedKey} {v : V} {u : Value}, NV X.K H k v → RelV v u → NestedIs s.heap k u
  | .none, _, _, h, r => by simp only [NV] at h; subst h; cases r; exact .none
  | .num i, _, _, h, r => by
    simp only [NV] at h
    rcases h with rfl | ⟨b, rfl, e⟩
    · obtain ⟨t, rfl⟩ := r; exact .int _ _
    · cases r; exact .bool e
  | .text x, _, _, h, r => by simp only [NV] at h; subst h; obtain ⟨t, rfl⟩ := r; exact .text _ _
  | .tup ks, _, _, h, r => by
    simp only [NV] at h
    obtain ⟨a, vs, rfl, sq, q⟩ := h
    cases r
    obtain ⟨its, rv, ⟨o, h1, h2, n, h3⟩, _⟩ := I.tuple sq
    exact .tup h1 h2 h3 (NVs.is I q (by simpa using rv))
theorem NVs.is (I : Inv X pins σ H s) : ∀ {k : List NestedKey} {v : List V} {u : List Value}, NVs X.K H k v → Vals v u → NestedAll s.heap k u
  | [], _, _, h, r => by simp only [NVs] at h; subst h; cases r; exact .nil
  | k :: ks, _, _, h, r => by
    simp only [NVs] at h
    obtain ⟨v, vr, rfl, h1, h2⟩ := h
    cases r with
    | cons r1 r2 => exact .cons (NV.is I h1 r1) (NVs.is I h2 r2)
end
/-- entries of a dict of tuple keys -/
abbrev Ent := List (NestedKey × Addr × V)
def Ent.vals (xs : Ent) : List (NestedKey × V) := xs.map fun x => (x.1, x.2.2)
def Ent.put (xs : Ent) (k : NestedKey) (b : Addr) (v : V) : Ent := if (valV xs.vals k).isSome then xs.map fun x => if x.1 = k then (x.1, x.2.1, v) else x else xs ++ [(k, b, v)]
def KeyAt (K : PySem.W.Frag) (H : Hp) (k : NestedKey) (b : Addr) : Prop := NV K H k (.ref b) ∧ k.depth ≤ 8
/-- what the dict at a holds at the key y -/
def DLv (K : PySem.W.Frag) (P : Program) (w : World) (H : Hp) (a : Addr) (y : V) (r : Option V) : Prop :=
  (∃ kvs k, H a = some (.dK kvs) ∧ y = kV k ∧ r = valV kvs k) ∨
  (∃ (xs : Ent) (k : NestedKey) (b : Addr), H a = some (DnO P w a xs) ∧ (∀ x ∈ xs, KeyAt K H x.1 x.2.1) ∧ y = .ref b ∧ KeyAt K H k b ∧ r = valV xs.vals k) ∨
  ∃ (k : NestedKey) (b : Addr), H a = some (.dK []) ∧ y = .ref b ∧ KeyAt K H k b ∧ r = none
def DPv (K : PySem.W.Frag) (P : Program) (w : World) (H : Hp) (a : Addr) (y v : V) (o : HO) : Prop :=
  (∃ kvs k, H a = some (.dK kvs) ∧ y = kV k ∧ kvs.length < sizeLine ∧ o = .dK (putK kvs k v)) ∨
  (∃ (xs : Ent) (k : NestedKey) (b : Addr), H a = some (DnO P w a xs) ∧ (∀ x ∈ xs, KeyAt K H x.1 x.2.1) ∧ y = .ref b ∧ KeyAt K H k b ∧ xs.length < sizeLine ∧ o = DnO P w a (xs.put k b v)) ∨
  ∃ (k : NestedKey) (b : Addr), H a = some (.dK []) ∧ y = .ref b ∧ KeyAt K H k b ∧ o = DnO P w a [(k, b, v)]
theorem KeyAt.is (I : Inv X pins σ H s) {k : NestedKey} {b : Addr} (h : KeyAt X.K H k b) : (nestedKind X.prog X.w).is s.heap k b := ⟨h.1.is I rfl, h.2⟩
abbrev raw (xs : Ent) (us : List Value) : List (NestedKey × Addr × Value) := (xs.zip us).map fun p => (p.1.1, p.1.2.1, p.2)
theorem raw_at : ∀ {xs : Ent} {us : List Value} {k : NestedKey}, Vals (xs.map (·.2.2)) us → RelO (valV xs.vals k) ((atKey (raw xs us) k).map (·.2))
  | [], us, k, r => by cases r; exact True.intro
  | x :: xs, us, k, r => by
    cases r with
    | @cons _ u _ us' r1 r2 =>
      have ih := raw_at (k := k) r2
      by_cases e : x.1 = k
      · have e1 : valV (Ent.vals (x :: xs)) k = some x.2.2 := by simp [Ent.vals, valV, e]
        have e2 : (atKey (raw (x :: xs) (u :: us')) k).map (·.2) = some u := by simp [raw, atKey, e]
        rw [e1, e2]; exact r1
      · have e1 : valV (Ent.vals (x :: xs)) k = valV (Ent.vals xs) k := by simp [Ent.vals, valV, e]
        have e2 : (atKey (raw (x :: xs) (u :: us')) k).map (·.2) = (atKey (raw xs us') k).map (·.2) := by simp [raw, atKey, e]
        rw [e1, e2]; exact ih
theorem raw_keys : ∀ {xs : Ent} {us : List Value}, xs.length = us.length → (raw xs us).map (·.1) = xs.map (·.1)
  | [], [], _ => rfl
  | [], _ :: _, h => by simp at h
  | _ :: _, [], h => by simp at h
  | x :: xs, u :: us, h => by
    have := raw_keys (xs := xs) (us := us) (by simpa using h)
    simpa [raw] using this
theorem raw_mem {xs : Ent} {us : List Value} {y : NestedKey × Addr × Value} (h : y ∈ raw xs us) : ∃ x ∈ xs, y.1 = x.1 ∧ y.2.1 = x.2.1 := by
  obtain ⟨p, hp, rfl⟩ := List.mem_map.mp h
  exact ⟨p.1, (List.of_mem_zip hp).1, rfl, rfl⟩
/-- the dict in the heap -/
theorem dn_of {xs : Ent} {a : Addr} (I : Inv X pins σ H s) (e : H a = some (DnO X.prog X.w a xs)) (hk : ∀ x ∈ xs, KeyAt X.K H x.1 x.2.1) :
    (a == sysModules) = false ∧ xs.length ≤ sizeLine ∧ ∃ us, Vals (xs.map (·.2.2)) us ∧ s.heap.DictOfH (nestedKind X.prog X.w) a (raw xs us) := by
  obtain ⟨⟨h1, h2, h3, us, r, o, es, ep, g1, g2, g3, g4⟩, _⟩ := (show ObjOk X.prog X.w H s.heap a (DnO X.prog X.w a xs) from I.hok a _ e)
  refine ⟨h1, h2, us, r, o, es, ep, g1, g2, g3, g4, fun y hy => ?_, ?_⟩
  · obtain ⟨x, hx, e1, e2⟩ := raw_mem hy
    rw [e1, e2]; exact (hk x hx).is I
  · have := Paired.length r
    rw [raw_keys (by simpa using this)]; exact h3
theorem dk_nil {a : Addr} (I : Inv X pins σ H s) (e : H a = some (.dK [])) : (a == sysModules) = false ∧ s.heap.DictOfH (nestedKind X.prog X.w) a [] := by
  obtain ⟨_, hd, vs, rel, o, es, ep, g1, g2, g3, g4⟩ := dk_of I.hok e
  cases rel
  refine ⟨hd, o, es, ep, g1, g2, g3, ?_, fun _ h => by simp at h, by simp⟩
  have := g4.2.1
  cases h : es.toList with
  | nil => rfl
  | cons a b => rw [h] at this; cases this
theorem dl_type {a : Addr} {y : V} {r : Option V} (I : Inv X pins σ H s) (g : DLv X.K X.prog X.w H a y r) : s.TypeIs (.ref a) "dict" ∧ (a == sysModules) = false ∧ ∃ ob, s.heap.get? a = some ob ∧ ob.dict = none := by
  rcases g with ⟨kvs, k, e, _, _⟩ | ⟨xs, k, b, e, hk, _, _, _⟩ | ⟨k, b, e, _, _, _⟩
  · obtain ⟨_, hd, vs, _, dd⟩ := dk_of I.hok e
    obtain ⟨ob, es, ep, g1, g2, g3⟩ := id dd
    exact ⟨dd.typeIs, hd, ob, g1, g2.2.1⟩
  · obtain ⟨hd, _, us, _, dd⟩ := dn_of I e hk
    obtain ⟨ob, es, ep, g1, g2, g3⟩ := id dd
    exact ⟨dd.typeIs, hd, ob, g1, g2.2.1⟩
  · obtain ⟨hd, dd⟩ := dk_nil I e
    obtain ⟨ob, es, ep, g1, g2, g3⟩ := id dd
    exact ⟨dd.typeIs, hd, ob, g1, g2.2.1⟩
theorem room8 {A : Around} (hu : A.units + 9 < cLine) : (nestedKind X.prog X.w).room A.in1 := by
  show A.in1.units + 8 < cLine
  simp only [Around.in1_units]; omega
theorem dl_getItem {a : Addr} {y v : V} {u : Value} {Q : Value → Shared → Prop} (hu : A.units + 9 < cLine) (I : Inv X pins σ H s) (g : DLv X.K X.prog X.w H a y (some v)) (ry : RelV y u) (h : ∀ w' s', Inv X pins σ H s' → RelV v w' → Q w' s') :
    wpAny (model X.prog X.w) A (getItem (.ref a) u) Q E s := by
  rcases g with ⟨kvs, k, e, ey, l⟩ | ⟨xs, k, b, e, hk, ey, ky, l⟩ | ⟨k, b, e, ey, ky, l⟩
  · exact d_getItem (by omega) I (.inl ⟨kvs, k, .inl e, ey, l⟩) ry h
  · subst ey
    cases (show u = Value.ref b from ry)
    obtain ⟨hd, _, us, rel, dd⟩ := dn_of I e hk
    obtain ⟨w', hw, rw'⟩ := RelO.some_of (v := v) (o := (atKey (raw xs us) k).map (·.2)) (by rw [l]; exact raw_at rel)
    obtain ⟨p, hp, hp2⟩ := Option.map_eq_some_iff.mp hw
    refine wpAny_getItem_heap (room8 hu) (ky.is I) dd hp ?_
    rw [hp2]
    exact h w' _ (I.tok _) rw'
  · exact nomatch l
theorem relO_isSome {o : Option V} {u : Option Value} (r : RelO o u) : o.isSome = u.isSome := r.isSome_eq
theorem dl_in {a : Addr} {y : V} {o : Option V} {u : Value} {Q : Value → Shared → Prop} (hu : A.units + 9 < cLine) (I : Inv X pins σ H s) (g : DLv X.K X.prog X.w H a y o) (ry : RelV y u) (h : ∀ s', Inv X pins σ H s' → Q (.bool o.isSome) s') :
    wpAny (model X.prog X.w) A (compareOp .In u (.ref a)) Q E s := by
  rcases g with ⟨kvs, k, e, ey, l⟩ | ⟨xs, k, b, e, hk, ey, ky, l⟩ | ⟨k, b, e, ey, ky, l⟩
  · exact d_in (by omega) I (.inl ⟨kvs, k, .inl e, ey, l⟩) ry h
  · subst ey
    cases (show u = Value.ref b from ry)
    obtain ⟨hd, _, us, rel, dd⟩ := dn_of I e hk
    refine wpAny_in_heap (room8 hu) (ky.is I) hd dd ?_
    have q := relO_isSome (raw_at (k := k) rel)
    rw [Option.isSome_map] at q
    rw [← q, ← l]
    exact h _ (I.tok _)
  · subst ey
    cases (show u = Value.ref b from ry)
    obtain ⟨hd, dd⟩ := dk_nil I e
    refine wpAny_in_heap (room8 hu) (ky.is I) hd dd ?_
    subst l
    exact h _ (I.tok _)
theorem dl_notIn {a : Addr} {y : V} {o : Option V} {u : Value} {Q : Value → Shared → Prop} (hu : A.units + 9 < cLine) (I : Inv X pins σ H s) (g : DLv X.K X.prog X.w H a y o) (ry : RelV y u) (h : ∀ s', Inv X pins σ H s' → Q (.bool (!o.isSome)) s') :
    wpAny (model X.prog X.w) A (compareOp .NotIn u (.ref a)) Q E s := by
  rcases g with ⟨kvs, k, e, ey, l⟩ | ⟨xs, k, b, e, hk, ey, ky, l⟩ | ⟨k, b, e, ey, ky, l⟩
  · exact d_notIn (by omega) I (.inl ⟨kvs, k, .inl e, ey, l⟩) ry h
  · subst ey
    cases (show u = Value.ref b from ry)
    obtain ⟨hd, _, us, rel, dd⟩ := dn_of I e hk
    refine wpAny_notIn_heap (room8 hu) (ky.is I) hd dd ?_
    have q := relO_isSome (raw_at (k := k) rel)
    rw [Option.isSome_map] at q
    rw [← q, ← l]
    exact h _ (I.tok _)
  · subst ey
    cases (show u = Value.ref b from ry)
    obtain ⟨hd, dd⟩ := dk_nil I e
    refine wpAny_notIn_heap (room8 hu) (ky.is I) hd dd ?_
    subst l
    exact h _ (I.tok _)
theorem dl_get1 {a : Addr} {y : V} {o : Option V} {u : Value} {Q : Value → Shared → Prop} (hu : A.units + 9 < cLine) (I : Inv X pins σ H s) (g : DLv X.K X.prog X.w H a y o) (ry : RelV y u) (h : ∀ w' s', Inv X pins σ H s' → RelV (o.getD .non) w' → Q w' s') :
    wpAny (model X.prog X.w) A (call (.builtin "dict.get") [.ref a, u]) Q E s := by
  rcases g with ⟨kvs, k, e, ey, l⟩ | ⟨xs, k, b, e, hk, ey, ky, l⟩ | ⟨k, b, e, ey, ky, l⟩
  · exact d_get1 (by omega) I (.inl ⟨kvs, k, .inl e, ey, l⟩) ry h
  · subst ey
    cases (show u = Value.ref b from ry)
    obtain ⟨hd, _, us, rel, dd⟩ := dn_of I e hk
    refine call_meetsIn PySem.F.slot_dict_get dd.typeIs PySem.F.entry_dict_get (PySem.F.args_dict_get_2 _ _) (meetsH_dict_get (nestedKind X.prog X.w) a b hd) ⟨room8 hu, k, _, ky.is I, dd, h _ _ (I.tok _) ?_⟩
    rw [l]
    exact (raw_at rel).getD rfl
  · subst ey
    cases (show u = Value.ref b from ry)
    obtain ⟨hd, dd⟩ := dk_nil I e
    refine call_meetsIn PySem.F.slot_dict_get dd.typeIs PySem.F.entry_dict_get (PySem.F.args_dict_get_2 _ _) (meetsH_dict_get (nestedKind X.prog X.w) a b hd) ⟨room8 hu, k, _, ky.is I, dd, h _ _ (I.tok _) ?_⟩
    rw [l]
    exact rfl
theorem dl_get2 {a : Addr} {y d : V} {o : Option V} {u r : Value} {Q : Value → Shared → Prop} (hu : A.units + 9 < cLine) (I : Inv X pins σ H s) (g : DLv X.K X.prog X.w H a y o) (ry : RelV y u) (rd : RelV d r) (h : ∀ w' s', Inv X pins σ H s' → RelV (o.getD d) w' → Q w' s') :
    wpAny (model X.prog X.w) A (call (.builtin "dict.get") [.ref a, u, r]) Q E s := by
  rcases g with ⟨kvs, k, e, ey, l⟩ | ⟨xs, k, b, e, hk, ey, ky, l⟩ | ⟨k, b, e, ey, ky, l⟩
  · exact d_get2 (by omega) I (.inl ⟨kvs, k, .inl e, ey, l⟩) ry rd h
  · subst ey
    cases (show u = Value.ref b from ry)
    obtain ⟨hd, _, us, rel, dd⟩ := dn_of I e hk
    refine call_meetsIn PySem.F.slot_dict_get dd.typeIs PySem.F.entry_dict_get (PySem.F.args_dict_get_3 _ _ _) (meetsH_dict_get_default (nestedKind X.prog X.w) a b hd r) ⟨room8 hu, k, _, ky.is I, dd, h _ _ (I.tok _) ?_⟩
    rw [l]
    exact (raw_at rel).getD rd
  · subst ey
    cases (show u = Value.ref b from ry)
    obtain ⟨hd, dd⟩ := dk_nil I e
    refine call_meetsIn PySem.F.slot_dict_get dd.typeIs PySem.F.entry_dict_get (PySem.F.args_dict_get_3 _ _ _) (meetsH_dict_get_default (nestedKind X.prog X.w) a b hd r) ⟨room8 hu, k, _, ky.is I, dd, h _ _ (I.tok _) ?_⟩
    rw [l]
    exact rd
/-! put -/
theorem Ent.put_len {xs : Ent} {k : NestedKey} {b : Addr} {v : V} : (xs.put k b v).length ≤ xs.length + 1 := by
  unfold Ent.put; split <;> simp
theorem raw_put {xs : Ent} {us : List Value} {k : NestedKey} {b : Addr} {v : V} {r : Value} (rel : Vals (xs.map (·.2.2)) us) (rv : RelV v r) : ∃ us', Vals ((xs.put k b v).map (·.2.2)) us' ∧ storedH (raw xs us) k b r = raw (xs.put k b v) us' := by
  have q := relO_isSome (raw_at (k := k) rel)
  rw [Option.isSome_map] at q
  unfold Ent.put storedH
  rw [← q]
  by_cases c : (valV xs.vals k).isSome = true
  · rw [if_pos c, if_pos c]
    clear q c
    induction xs generalizing us with
    | nil => cases rel; exact ⟨[], .nil, rfl⟩
    | cons x xs ih =>
      cases rel with
      | @cons _ u _ us1 r1 r2 =>
        obtain ⟨us', h1, h2⟩ := ih r2
        by_cases e : x.1 = k
        · refine ⟨r :: us', ?_, ?_⟩
          · rw [List.map_cons, if_pos e]; exact .cons rv h1
          · simp only [raw, List.zip_cons_cons, List.map_cons, putAt, if_pos e]
            exact congrArg (List.cons _) h2
        · refine ⟨u :: us', ?_, ?_⟩
          · rw [List.map_cons, if_neg e]; exact .cons r1 h1
          · simp only [raw, List.zip_cons_cons, List.map_cons, putAt, if_neg e]
            exact congrArg (List.cons _) h2
  · rw [if_neg c, if_neg c]
    have hl : xs.length = us.length := by simpa using Paired.length rel
    refine ⟨us ++ [r], ?_, ?_⟩
    · rw [List.map_append]; exact rel.append (.cons rv .nil)
    · simp [raw, List.zip_append hl]
theorem Ent.put_nodup {xs : Ent} {k : NestedKey} {b : Addr} {v : V} (h : (xs.map (·.1)).Nodup) : ((xs.put k b v).map (·.1)).Nodup := by
  unfold Ent.put
  split
  · have : (xs.map fun x => if x.1 = k then (x.1, x.2.1, v) else x).map (·.1) = xs.map (·.1) := by
      rw [List.map_map]
      refine List.map_congr_left fun x _ => ?_
      by_cases e : x.1 = k <;> simp [e]
    rw [this]; exact h
  · rename_i c
    have nk : k ∉ xs.map (·.1) := fun m => by
      obtain ⟨x, hx, e⟩ := List.mem_map.mp m
      refine c ?_
      simp only [valV, Ent.vals, Option.isSome_map, List.find?_isSome, List.mem_map]
      exact ⟨_, ⟨x, hx, rfl⟩, by simpa using e⟩
    rw [List.map_append, List.nodup_append]
    exact ⟨h, by simp, fun x hx y hy => by simp at hy; subst hy; exact fun e => nk (e ▸ hx)⟩
theorem dn_ok {P : Program} {w : World} {H' : Hp} {h' : Heap} {a : Addr} {xs : Ent} {us : List Value} (hd : (a == sysModules) = false) (hl : xs.length ≤ sizeLine) (nd : (xs.map (·.1)).Nodup) (rel : Vals (xs.map (·.2.2)) us) (dd : h'.DictOfH (nestedKind P w) a (raw xs us)) :
    ObjOk P w H' h' a (DnO P w a xs) := by
  obtain ⟨o, es, ep, g1, g2, g3, g4, _⟩ := dd
  refine ⟨⟨hd, hl, nd, us, rel, o, es, ep, g1, g2, g3, g4⟩, ⟨o, g1⟩, fun h1 h2 p k => ?_⟩
  obtain ⟨q1, q2, q3, us, r, o, es, ep, e1, e2⟩ := p
  exact ⟨q1, q2, q3, us, r, o, es, ep, k _ e1, e2⟩
theorem dl_setItem {a : Addr} {y v : V} {u r : Value} {o : HO} {Q : Unit → Shared → Prop} (hu : A.units + 9 < cLine) (I : Inv X pins σ H s) (g : DPv X.K X.prog X.w H a y v o) (ry : RelV y u) (rv : RelV v r) (h : ∀ s', Inv X pins σ (upd H a o) s' → Q () s') :
    wpAny (model X.prog X.w) A (setItem (.ref a) u r) Q E s := by
  rcases g with ⟨kvs, k, e, ey, l, eo⟩ | ⟨xs, k, b, e, hk, ey, ky, l, eo⟩ | ⟨k, b, e, ey, ky, eo⟩
  · exact d_setItem (by omega) I (.inl ⟨kvs, k, e, ey, l, rfl⟩) ry rv (eo ▸ h)
  · subst ey eo
    cases (show u = Value.ref b from ry)
    obtain ⟨hd, hz, us, rel, dd⟩ := dn_of I e hk
    have hl : (raw xs us).length ≤ sizeLine := by
      have := Paired.length rel
      simp [raw] at this ⊢
      omega
    refine wpAny_setItem_heap (hsz := hl) (room8 hu) (ky.is I) dd fun h' dd' hs => h _ ?_
    obtain ⟨us', r1, r2⟩ := raw_put (k := k) (b := b) rel rv
    rw [r2] at dd'
    have he : ∃ q, h'.get? a = some q := let ⟨q, _, _, hq, _⟩ := dd'; ⟨q, hq⟩
    have nd : (xs.map (·.1)).Nodup := by
      have := dd.nodup
      rwa [raw_keys (by simpa using Paired.length rel)] at this
    exact d_write I (by rw [e]; exact True.intro) hs he (dn_ok hd (Nat.le_trans Ent.put_len l) (Ent.put_nodup nd) r1 dd')
  · subst ey eo
    cases (show u = Value.ref b from ry)
    obtain ⟨hd, dd⟩ := dk_nil I e
    refine wpAny_setItem_heap (hsz := Nat.zero_le _) (room8 hu) (ky.is I) dd fun h' dd' hs => h _ ?_
    have he : ∃ q, h'.get? a = some q := let ⟨q, _, _, hq, _⟩ := dd'; ⟨q, hq⟩
    exact d_write I (by rw [e]; exact True.intro) hs he (dn_ok (us := [r]) hd (by rw [sizeLine_eq]; exact Nat.le_of_ble_eq_true rfl) (by simp) (.cons rv .nil) dd')
end

/-! ### as rules -/
def rIxDn (K : PySem.W.Frag) (P : Program) (w : World) : R2 := fun x y H Q => ∃ a v, x = .ref a ∧ DLv K P w H a y (some v) ∧ Q v H
def rInDn (K : PySem.W.Frag) (P : Program) (w : World) (neg : Bool) : R2 := fun y x H Q => ∃ a o, x = .ref a ∧ DLv K P w H a y o ∧ Q (.bl (if neg then !o.isSome else o.isSome)) H
section
variable {X : Cx}
theorem ix_dn (hu : X.A.units + 9 < cLine) : IxR X (rIxDn X.K X.prog X.w) := by
  intro value slice pins s σ H x y v u Q I rx ry h hs
  obtain ⟨a, r, rfl, g, q⟩ := h
  obtain rfl : v = Value.ref a := rx
  exact tail_any (dl_type I g).1 slot_dict_getitem.lookup (dl_getItem hu I g ry fun w' s' I' r' => ⟨r, H, I', r', q⟩) hs
theorem op_inDn (hu : X.A.units + 9 < cLine) : OpR X (compareOp .In) (rInDn X.K X.prog X.w false) := by
  intro pins s σ H x y v u Q I rx ry h
  obtain ⟨a, o, rfl, g, q⟩ := h
  obtain rfl : u = Value.ref a := ry
  exact dl_in hu I g rx fun s' I' => ⟨.bl _, H, I', rfl, q⟩
theorem op_ninDn (hu : X.A.units + 9 < cLine) : OpR X (compareOp .NotIn) (rInDn X.K X.prog X.w true) := by
  intro pins s σ H x y v u Q I rx ry h
  obtain ⟨a, o, rfl, g, q⟩ := h
  obtain rfl : u = Value.ref a := ry
  exact dl_notIn hu I g rx fun s' I' => ⟨.bl _, H, I', rfl, q⟩
theorem mt_dget (hu : X.A.units + 9 < cLine) : MtR X "dict.get" (fun x xs H Q => ∃ a y o, x = .ref a ∧ ((xs = [y] ∧ DLv X.K X.prog X.w H a y o ∧ Q (o.getD .non) H) ∨ ∃ d, xs = [y, d] ∧ DLv X.K X.prog X.w H a y o ∧ Q (o.getD d) H)) := by
  intro pins s σ H x xs v us Q I rx rs h
  obtain ⟨a, y, o, rfl, h⟩ := h
  obtain rfl : v = Value.ref a := rx
  rcases h with ⟨rfl, g, q⟩ | ⟨d, rfl, g, q⟩
  · cases rs with
    | cons r1 r2 => cases r2; exact dl_get1 hu I g r1 fun w' s' I' r' => ⟨_, H, I', r', q⟩
  · cases rs with
    | cons r1 r2 => cases r2 with | cons r3 r4 => cases r4; exact dl_get2 hu I g r1 r3 fun w' s' I' r' => ⟨_, H, I', r', q⟩
end
end Q
/-! Qsrt: sorting alike data, tuples without items among them. -/
namespace PySem.W
open PySem PySem.Calls PyProof.Rows PySem.SeqAt
section
variable {prog : Program} {w : World} {A : Around} {s : Shared} {E : Value → Shared → Prop}
theorem call_tuple_lt {Q : Value → Shared → Prop} {l b : Addr} {items items2 : Array Value} {e r : Nat → Bool} (hl : s.heap.IsTuple l items) (hb : s.heap.IsTuple b items2)
    (he : ∀ j (h1 : j < items.size) (h2 : j < items2.size), EqAt A.in1 s items[j] items2[j] (e j)) (hr : ∀ j (h1 : j < items.size) (h2 : j < items2.size), e j = false → RcLt A.in1 s items[j] items2[j] (r j))
    (h : Q (.bool (firstLt e r (decide (items.size < items2.size)) (List.range (min items.size items2.size)))) s) : wpAny (model prog w) A (call (.builtin "tuple.__lt__") [.ref l, .ref b]) Q E s := by
  obtain ⟨⟨cls, dd, data, sl⟩, ho, hc, n, hd⟩ := id hl
  obtain ⟨⟨cls2, dd2, data2, sl2⟩, ho2, hc2, n2, hd2⟩ := id hb
  simp only at hc hd hc2 hd2
  subst hc hd hc2 hd2
  exact call_meets F.slot_tuple_lt ⟨_, ho, rfl⟩ F.entry_tuple_lt (F.args_tuple_lt_2 _ _) (tuple_ltAt l b items items2 n n2 dd dd2 sl sl2 e r) ⟨ho, ho2, he, hr, h⟩
/-- one key against another, of any alike data -/
theorem oneLt_any {f : Bool} {da db : PyData} {a b : Value} {as bs : List Addr} {Q : Bool → Shared → Prop} (ra : Reads s.heap a da as) (rb : Reads s.heap b db bs) (h : alike da db = true) (hn : da ≠ .none)
    (hu : A.units + min da.depth db.depth < cLine) (hq : Q (dataLt da db) s) : wpAny (model prog w) A (oneLt' f a b) Q E s := by
  by_cases ht : f = true ∧ ∃ xs, da = .tuple xs
  · obtain ⟨rfl, xs, rfl⟩ := ht
    cases db with
    | tuple ys =>
      have hal : alikeAll xs ys = true := by simpa [alike] using h
      cases ra with
      | @tuple l o vs n _ as₁ h1 h2 h3 h4 =>
        cases rb with
        | @tuple l' o' vs' n' _ bs₁ k1 k2 k3 k4 =>
          have n1 : vs.size = xs.length := by simpa using ReadsAll.length _ _ _ h4
          have n2 : vs'.size = ys.length := by simpa using ReadsAll.length _ _ _ k4
          rw [dataLt_tuple, ← firstLt_toks xs ys hal, ← n1, ← n2] at hq
          rw [oneLt'_eq]
          simp only [if_true]
          refine wpAny_bind (wpAny_cRoomFor (room_here hu) ?_)
          refine wpAny_bind (wpAny_callSpecialIfBound?_slot (T := "tuple") ⟨_, h1, h2⟩ F.slot_tuple_lt (call_tuple_lt (e := pairEq xs ys) (r := fun j => dataLt (xs.getD j .none) (ys.getD j .none)) ⟨_, h1, h2, _, h3⟩ ⟨_, k1, k2, _, k3⟩ (fun j j1 j2 => ?_) (fun j j1 j2 hj => ?_) ?_))
          · have := eqAt_alikeAll xs ys A.in1 s vs.toList vs'.toList _ _ h4 k4 hal (room_in hu) j (by simpa using j1) (by simpa using j2)
            simpa using this
          · have := rcLt_alikeAll xs ys A.in1 s vs.toList vs'.toList _ _ h4 k4 hal (room_in hu) j (by simpa using j1) (by simpa using j2) hj
            simpa using this
          · exact wpAny_truthy_bool hq
    | _ => exact absurd h (by simp [alike])
  · exact oneLt_alike (fun hf xs e => ht ⟨hf, xs, e⟩) ra rb h hn hu hq
theorem each_firsts : ∀ {vs : List Value} {ds : List PyData}, EachIs (fun v d => ∃ as, Reads s.heap v d as) vs ds → (∀ d, d ∈ ds → ∃ xs, d = .tuple xs) →
    ∃ os : List (Option Value), os.map Option.isSome = ds.map (fun d => match d with | .tuple (_ :: _) => true | _ => false) ∧ ∀ (M : Model) (A : Around) (E : Value → Shared → Prop) (Q : List (Option Value) → Shared → Prop), Q os s → wpAny M A (vs.mapM firstOfTuple') Q E s
  | _, _, .nil, _ => ⟨[], rfl, fun M A E Q h => by rw [List.mapM_nil]; exact wpAny_pure h⟩
  | v :: vs, _, .cons (b := d) ⟨as, r⟩ t, ht => by
    obtain ⟨os, e1, h1⟩ := each_firsts t fun d hd => ht d (List.mem_cons_of_mem _ hd)
    obtain ⟨xs, rfl⟩ := ht d (List.mem_cons_self ..)
    cases r with
    | @tuple a o its n _ _ ho hc hd hr =>
      refine ⟨its[0]? :: os, ?_, fun M A E Q h => ?_⟩
      · rw [List.map_cons, List.map_cons, e1]
        congr 1
        cases q : its.toList with
        | nil =>
          rw [q] at hr
          cases hr
          rw [← Array.getElem?_toList, q]; rfl
        | cons f fr =>
          rw [q] at hr
          cases hr
          rw [← Array.getElem?_toList, q]; rfl
      · rw [List.mapM_cons]
        refine wpAny_bind ?_
        rw [kas_first_eq]
        refine wpAny_bind ((looks_reads (M := M) (Reads.tuple ho hc hd hr)).here ?_)
        rw [show dataType (.tuple xs) = Value.type "tuple" from rfl, if_neg (show ¬ (Value.type "tuple" != Value.type "tuple") = true by decide)]
        exact wpAny_bind (listItems_at ho hd (wpAny_pure (wpAny_bind (h1 M A E _ (wpAny_pure h)))))
/-- what can be sorted: all tuples, or none a tuple or None -/
def Srtb (ds : List PyData) : Prop := (∀ d, d ∈ ds → ∃ xs, d = .tuple xs) ∨ ∀ d, d ∈ ds → d ≠ .none ∧ ∀ xs, d ≠ .tuple xs
theorem SortsAt.dataA {vs : List Value} {ds : List PyData} (e : EachIs (fun v d => ∃ as, Reads s.heap v d as) vs ds) (hal : AllAlike ds) (hk : Srtb ds) (hu : ∀ d, d ∈ ds → A.units + d.depth < cLine) : SortsAt prog w A s (dataKind s.heap ds) vs := by
  rcases hk with ht | hn
  · by_cases hz : ∀ d, d ∈ ds → ∃ x r, d = .tuple (x :: r)
    · exact SortsAt.data e hal (.inl hz) hu
    · have room : ∀ {d d' : PyData}, d ∈ ds → A.units + min d.depth d'.depth < cLine := fun {d d'} hd => Nat.lt_of_le_of_lt (Nat.add_le_add_left (Nat.min_le_left _ _) _) (hu d hd)
      refine ⟨fun v hv => ?_, ?_⟩
      · obtain ⟨d, hd, as, r⟩ := e.left v hv
        exact ⟨_, dataKind_some hal hd r⟩
      · have lt : ∀ (E : Value → Shared → Prop) (f : Bool) (x y : Value) (a b : List (Int ⊕ List Nat)) (Q : Bool → Shared → Prop), (dataKind s.heap ds).keyOf x = some a → (dataKind s.heap ds).keyOf y = some b → Q ((dataKind s.heap ds).blt a b) s → wpAny (model prog w) A (oneLt' f x y) Q E s := by
          intro E f x y a b Q ha hb hq
          obtain ⟨d, as, hd, ra, rfl⟩ := dataKind_inv ha
          obtain ⟨d', as', hd', rb, rfl⟩ := dataKind_inv hb
          obtain ⟨xs, rfl⟩ := ht d hd
          exact oneLt_any ra rb (hal _ hd _ hd') (fun z => nomatch z) (room hd) hq
        obtain ⟨os, eo, ho⟩ := each_firsts e ht
        have hne : ¬ (os.toArray.all fun x => x.isSome) = true := by
          intro h
          apply hz
          intro d hd
          rw [List.all_toArray, List.all_eq_true] at h
          obtain ⟨i, hi, ei⟩ := List.getElem_of_mem hd
          have q : (os.map Option.isSome)[i]? = some true := by
            have l : os.length = ds.length := by simpa using congrArg List.length eo
            rw [List.getElem?_map, List.getElem?_eq_getElem (by omega)]
            have hi' : i < os.length := by omega
            have := h _ (List.getElem_mem hi')
            simpa using this
          rw [eo, List.getElem?_map, List.getElem?_eq_getElem hi, ei] at q
          obtain ⟨xs, rfl⟩ := ht d hd
          cases xs with
          | nil => simp at q
          | cons x r => exact ⟨x, r, rfl⟩
        by_cases h0 : ((os.toArray)[0]?.bind id).isSome = true
        · refine ⟨general', fun E x y a b Q ha hb hq => lt E false x y a b Q ha hb hq, fun h2 E Q hq => ?_⟩
          rw [keyKind'_eq, List.mapM_toArray, map_eq_pure_bind]
          refine wpAny_bind (wpAny_bind (ho _ _ _ _ (wpAny_pure ?_)))
          rw [if_neg hne, if_pos h0]
          exact wpAny_pure hq
        · refine ⟨oneType', fun E x y a b Q ha hb hq => ?_, fun h2 E Q hq => ?_⟩
          · rw [keyLt'_oneType]
            exact lt E true x y a b Q ha hb hq
          · rw [keyKind'_eq, List.mapM_toArray, map_eq_pure_bind]
            refine wpAny_bind (wpAny_bind (ho _ _ _ _ (wpAny_pure ?_)))
            rw [if_neg hne, if_neg h0]
            rw [oneTypeOnly'_eq, List.mapM_toArray, map_eq_pure_bind]
            refine wpAny_bind (wpAny_bind (wpAny_bind (kas_mapM (r := Value.type "tuple") _ (fun v hv Q' hq => ?_) (wpAny_pure ?_))))
            · obtain ⟨d, hd, as, r⟩ := e.left v hv
              obtain ⟨xs, rfl⟩ := ht d hd
              exact (looks_reads r).here hq
            · obtain ⟨v₁, rest, rfl⟩ : ∃ v₁ rest, vs = v₁ :: rest := by
                match vs, h2 with
                | v₁ :: rest, _ => exact ⟨v₁, rest, rfl⟩
              have h0 : (List.map (fun _ => Value.type "tuple") (v₁ :: rest)).toArray[0]? = some (Value.type "tuple") := by simp
              rw [h0]
              have hall : ((List.map (fun _ => Value.type "tuple") (v₁ :: rest)).toArray.all fun x => x == Value.type "tuple") = true := by
                simp only [List.all_toArray, List.all_map, List.all_eq_true]
                intro _ _
                show (Value.type "tuple" == Value.type "tuple") = true
                decide
              simp only [hall, if_true]
              exact wpAny_pure (wpAny_pure hq)
  · exact SortsAt.data e hal (.inr hn) hu
end
end PySem.W
/-! Qw2: what is collected of a list, a dict: list(d), sorted(x), len(d). -/
namespace Q
open PySem PySem.Spec PyProof.Rows L2
/-- a dict with these keys and values -/
def DcV (P : Program) (w : World) (H : Hp) (a : Addr) (kw vw : List V) : Prop :=
  (∃ fk : List L2.Key, H a = some (.dK (fk.zip vw)) ∧ kw = fk.map kV ∧ fk.length = vw.length) ∨
  ∃ (nk : List NestedKey) (bs : List Addr), H a = some (DnO P w a (nk.zip (bs.zip vw))) ∧ kw = bs.map .ref ∧ nk.length = vw.length ∧ bs.length = vw.length
section
variable {X : Cx} {pins : List (Addr × Obj)} {σ : L2.St} {H : Hp} {s : Shared} {A : Around} {E : Value → Shared → Prop} {a : Addr} {kw vw : List V}
theorem pairs_vals {P : Program} {w : World} : ∀ {fk : List L2.Key} {vw : List V} {vs : List (L2.Key × Value)} {es : List DictEntry}, fk.length = vw.length → KV (fk.zip vw) vs → Pairs (mixKind P w) es vs → Vals (fk.map kV) (es.map (·.key)) ∧ Vals vw (es.map (·.val))
  | [], [], vs, es, _, r, p => by cases r; cases p; exact ⟨.nil, .nil⟩
  | [], _ :: _, _, _, h, _, _ => by simp at h
  | _ :: _, [], _, _, h, _, _ => by simp at h
  | k :: fk, v :: vw, vs, es, h, r, p => by
    cases r with
    | @cons _ q _ qs r1 r2 =>
      cases p with
      | @cons e _ es _ h1 h2 h3 =>
        obtain ⟨a, b⟩ := pairs_vals (by simpa using h) r2 h3
        refine ⟨.cons ?_ a, .cons ?_ b⟩
        · have h1 : keyIs q.1 e.key = true := h1
          rw [← r1.1] at h1
          rcases keyIs_shape h1 with ⟨i, t, e1, e2⟩ | ⟨x, t, e1, e2⟩
          · have e1 : k = .inl i := e1
            subst e1; exact ⟨t, e2⟩
          · have e1 : k = .inr x := e1
            subst e1; exact ⟨t, e2⟩
        · show RelV v e.val
          rw [h2]; exact r1.2
theorem raw_vals {P : Program} {w : World} : ∀ {nk : List NestedKey} {bs : List Addr} {vw : List V} {us : List Value}, nk.length = vw.length → bs.length = vw.length → Vals ((nk.zip (bs.zip vw)).map (·.2.2)) us → Vals (bs.map .ref) (((raw (nk.zip (bs.zip vw)) us).map (entryOfKey (nestedKind P w))).map (·.key)) ∧ Vals vw (((raw (nk.zip (bs.zip vw)) us).map (entryOfKey (nestedKind P w))).map (·.val))
  | [], [], [], us, _, _, r => by cases r; exact ⟨.nil, .nil⟩
  | [], _ :: _, [], _, _, h, _ => by simp at h
  | [], _, _ :: _, _, h, _, _ => by simp at h
  | _ :: _, _, [], _, h, _, _ => by simp at h
  | _ :: _, [], _ :: _, _, _, h, _ => by simp at h
  | k :: nk, b :: bs, v :: vw, us, h, h', r => by
    cases r with
    | @cons _ u _ us r1 r2 =>
      obtain ⟨x, y⟩ := raw_vals (P := P) (w := w) (nk := nk) (bs := bs) (vw := vw) (by simpa using h) (by simpa using h') r2
      exact ⟨.cons rfl x, .cons r1 y⟩
theorem raw_of (I : Inv X pins σ H s) (d : DcV X.prog X.w H a kw vw) : (a == sysModules) = false ∧ kw.length ≤ sizeLine ∧ ∃ es ep, s.heap.DictRaw a es ep ∧ Vals kw (es.toList.map (·.key)) ∧ Vals vw (es.toList.map (·.val)) := by
  rcases d with ⟨fk, e, rfl, l⟩ | ⟨nk, bs, e, rfl, l, l'⟩
  · obtain ⟨z, hd, vs, rel, o, es, ep, g1, g2, g3, _, g5, _⟩ := dk_of I.hok e
    obtain ⟨p, q⟩ := pairs_vals l rel g5
    refine ⟨hd, ?_, es, ep, ⟨o, g1, g2, g3⟩, p, q⟩
    rw [List.length_zip, ← l, Nat.min_self] at z
    rw [List.length_map]; exact z
  · obtain ⟨⟨h1, h2, h3, us, r, o, es, ep, g1, g2, g3, g4⟩, _⟩ := (show ObjOk X.prog X.w H s.heap a (DnO X.prog X.w a _) from I.hok a _ e)
    obtain ⟨p, q⟩ := raw_vals (P := X.prog) (w := X.w) l l' r
    refine ⟨h1, ?_, es, ep, ⟨o, g1, g2, g3⟩, by rw [g4]; exact p, by rw [g4]; exact q⟩
    rw [List.length_map]
    simp only [List.length_zip] at h2
    omega
theorem len_raw {d : Addr} {es : Array DictEntry} {ep : Nat} {Q : Value → Shared → Prop} (hd : (d == sysModules) = false) (hm : s.heap.DictRaw d es ep) (hfit : (es.size : Int) < 2 ^ 63) (h : ∀ t tk, Q (.int es.size t) { s with toks := tk }) : wpAny (model X.prog X.w) A (call (.builtin "len") [.ref d]) Q E s := by
  refine Calls.call_function_entry kind_len plain_len entry_len (args_len1 _) ?_
  unfold Builtin.«len»
  refine wpAny_bind (m := oneArg "len" _) (wpAny_pure ?_)
  refine wpAny_bind (m := callSpecial? (.ref d) (Str.ofString "__len__")) (wpAny_callSpecial?_slot (name := Str.ofString "__len__") hm.typeIs F.slot_dict_len (call_len_raw hd hm ?_))
  show wpAny _ _ _ _ _ { s with toks := s.toks + 1 }
  refine wpAny_bind (wpAny_holding (wpAny_pure ?_))
  refine wpAny_bind (wpAny_letGo ?_)
  show wpAny _ _ (if ((es.size : Nat) : Int) < 0 then _ else _) _ _ _
  rw [if_neg (by omega)]
  show wpAny _ _ (if ((es.size : Nat) : Int) ≥ 2 ^ 63 then _ else _) _ _ _
  rw [if_neg (by omega)]
  exact wpAny_bind (wpAny_mkInt (wpAny_pure ⟨_, rfl, h _ _⟩))
theorem vals_size {xs : List V} {es : Array DictEntry} {f : DictEntry → Value} (h : Vals xs (es.toList.map f)) : xs.length = es.size := by
  have := Paired.length h
  simpa using this
theorem call_lenDc : CallR X (.builtin "len") (fun xs H Q => ∃ a kw vw, xs = [V.ref a] ∧ DcV X.prog X.w H a kw vw ∧ Q (.int kw.length) H) := by
  intro pins s σ H xs us Q I r h
  obtain ⟨a, kw, vw, rfl, d, q⟩ := h
  obtain ⟨u, rfl, ru⟩ := vals1 r
  obtain rfl : u = Value.ref a := ru
  obtain ⟨hd, hz, es, ep, hm, hk, _⟩ := raw_of I d
  have e := vals_size hk
  rw [sizeLine_eq] at hz
  refine len_raw hd hm (by omega) fun t tk => ⟨.int kw.length, H, I.tok _, ⟨t, ?_⟩, q⟩
  rw [e]
/-- what may be gone through at once -/
def Src (K : PySem.W.Frag) (P : Program) (w : World) (H : Hp) (a : Addr) (ws : List V) : Prop := SqL K H a ws ∨ ∃ vw, DcV P w H a ws vw
theorem items_vals {es : Array DictEntry} {acc : Array Value} {xs : List V} (hv : Vals xs (es.toList.map (·.key))) (h : ItemsOf (fun i v => ∃ hi : i < es.size, v = es[i].key) acc es.size) : Vals xs acc.toList := by
  have e : acc.toList = es.toList.map (·.key) := by
    refine List.ext_getElem? fun i => ?_
    rw [Array.getElem?_toList, List.getElem?_map, Array.getElem?_toList]
    by_cases hi : i < acc.size
    · obtain ⟨h1, h2⟩ := h.2 i acc[i] (Array.getElem?_eq_getElem hi)
      rw [Array.getElem?_eq_getElem hi, Array.getElem?_eq_getElem h1, h2]; rfl
    · have : ¬ i < es.size := by rw [← h.1]; exact hi
      rw [Array.getElem?_eq_none (by omega), Array.getElem?_eq_none (by omega)]; rfl
  rw [e]; exact hv
theorem src_collect {ws : List V} {R : List Value → Shared → Prop} (hh : A.handled = none) (I : Inv X pins σ H s) (h : Src X.K X.prog X.w H a ws) (k : ∀ s' us, Inv X pins σ H s' → us.length ≤ sizeLine → Vals ws us → R us s') : wpAny (model X.prog X.w) A (collect (.ref a)) R E s := by
  rcases h with h | ⟨vw, d⟩
  · obtain ⟨its, r, pl, hz⟩ := I.list h
    have hl : its.length = ws.length := (Paired.length r).symm
    refine collect_list (vs := its) pl.isList (k _ _ (I.kept (t' := s.toks) fun b o e => ?_) (by omega) r) (by omega)
    rw [Heap.get?_update_ne _ _ _ _ (Nat.ne_of_lt (Heap.lt_size e))]
    exact Heap.get?_push_of_some _ e
  · obtain ⟨hd, hz, es, ep, hm, hk, _⟩ := raw_of I d
    have e := vals_size hk
    refine PySem.W.kdu_collect (KdlSrc.rawDict hd) hh hm (by omega) fun h' tk acc hkp hacc => k { s with heap := h', toks := tk } _ (I.kept (t' := tk) hkp) ?_ (items_vals hk hacc)
    have := hacc.1
    rw [Array.length_toList]; omega
end
section
variable {X : Cx}
/-- list(d) -/
theorem call_listDc (hc : X.calm = true) : CallR X (.type "list") (fun xs H Q => ∃ a kw vw, xs = [V.ref a] ∧ DcV X.prog X.w H a kw vw ∧ ∀ l, H l = none → Q (.ref l) (upd H l (.lst kw))) := by
  intro pins s σ H xs us Q I r h
  obtain ⟨a, kw, vw, rfl, d, q⟩ := h
  obtain ⟨u, rfl, ru⟩ := vals1 r
  obtain rfl : u = Value.ref a := ru
  obtain ⟨hd, hz, es, ep, hm, hk, _⟩ := raw_of I d
  have e := vals_size hk
  refine PySem.W.kdl_call (KdlSrc.rawDict hd) (I.ok.hd hc) hm (by omega) fun h' tk acc c hkp hL hacc => ?_
  have hv := items_vals hk hacc
  refine ⟨.ref s.heap.objs.size, upd H s.heap.objs.size (.lst kw), I.laid (t' := tk) (a := s.heap.objs.size) (fun b o e => hkp b o e) (Nat.le_refl _) ⟨hz, acc.toList, c, hv, by rw [Array.toArray_toList]; exact hL⟩, rfl, q _ (I.hok.fresh (Nat.le_refl _))⟩
/-! ### sorted -/
abbrev Bt := PV × V
def encB (b : Bt) : PyData := b.1.toD
def rSortedA (K : PySem.W.Frag) (P : Program) (w : World) : List V → Hp → VK → Prop := fun xs H Q => ∃ (a : Addr) (bs : List Bt), xs = [V.ref a] ∧ Src K P w H a (bs.map (·.2)) ∧ (∀ b ∈ bs, Dp K H b.2 b.1.toD) ∧ PySem.W.AllAlike (bs.map encB) ∧ PySem.W.Srtb (bs.map encB) ∧ (∀ b ∈ bs, (encB b).depth ≤ 60) ∧
  ∀ p, H p = none → Q (.ref p) (upd H p (.lst ((bs.mergeSort (PySem.W.dataLe false encB)).map (·.2))))
theorem each_of {R : Value → Bt → Prop} : ∀ {us : List Value} {bs : List Bt}, Vals (bs.map (·.2)) us → (∀ u b, b ∈ bs → RelV b.2 u → R u b) → PySem.W.EachIs R us bs
  | [], [], _, _ => .nil
  | [], b :: bs, h, _ => by cases h
  | u :: us, [], h, _ => by cases h
  | u :: us, b :: bs, h, k => by
    cases h with
    | cons r1 r2 => exact .cons (k u b (by simp) r1) (each_of r2 fun u b hb => k u b (by simp [hb]))
theorem each_back : ∀ {us : List Value} {bs : List Bt}, PySem.W.EachIs (fun u b => RelV b.2 u) us bs → Vals (bs.map (·.2)) us
  | _, _, .nil => .nil
  | _, _, .cons r t => .cons r (each_back t)
theorem cr_sortedA (hc : X.calm = true) (hu : X.A.units + 70 < cLine) : CallR X (.builtin "sorted") (rSortedA X.K X.prog X.w) := by
  intro pins s σ H xs us Q I r h
  obtain ⟨a, bs, rfl, hs, hd, hal, hk, hdp, q⟩ := h
  obtain ⟨u, rfl, ru⟩ := vals1 r
  obtain rfl : u = Value.ref a := ru
  refine Calls.call_function_entry PyProof.Rows.kind_sorted PyProof.Rows.plain_sorted PyProof.Rows.entry_sorted (PyProof.Rows.args_sorted1 _) ?_
  unfold Builtin.«sorted»
  refine wpAny_bind (m := checkCount "sorted" 1 1 _) (wpAny_pure ?_)
  refine wpAny_bind (src_collect (A := X.A.in1) (I.ok.hd hc) I hs fun s' vs I1 hz hv => ?_)
  refine wpAny_bind (wpAny_newList ?_ hz)
  have hoL : (s'.heap.push (seqObj "list" vs.toArray 0)).get? s'.heap.objs.size = some (seqObj "list" vs.toArray 0) := Heap.get?_push_size _ rfl
  show wpAny _ _ _ _ _ { s' with heap := s'.heap.push (seqObj "list" vs.toArray 0) }
  have I2 : Inv X pins σ H { s' with heap := s'.heap.push (seqObj "list" vs.toArray 0) } := I1.kept (t' := s'.toks) fun b o e => Heap.get?_push_of_some _ e
  have hlen : vs.length = bs.length := by
    have := Paired.length hv
    simpa using this.symm
  -- what the items read as, while the list is sorted
  have rd : ∀ (s2 : Shared), (∀ b o, s'.heap.get? b = some o → s2.heap.get? b = some o) → PySem.W.EachIs (fun v b => ∃ as, Reads s2.heap v (encB b) as) vs bs := fun s2 hk2 =>
    each_of hv fun u b hb ru => by
      obtain ⟨as, r⟩ := Dp.reads I1 _ _ u (hd b hb) ru
      exact ⟨as, PyProof.Rows.Reads.keeps hk2 r⟩
  have S := PySem.W.SortsAt.dataA (prog := X.prog) (w := X.w) (A := X.A.in1.in1) (s := { s' with heap := PySem.W.sortingHeap (s'.heap.push (seqObj "list" vs.toArray 0)) s'.heap.objs.size vs }) (vs := vs) (ds := bs.map encB)
    (PySem.W.each_map (R := fun v d => ∃ as, Reads (PySem.W.sortingHeap (s'.heap.push (seqObj "list" vs.toArray 0)) s'.heap.objs.size vs) v d as) encB (rd { s' with heap := PySem.W.sortingHeap (s'.heap.push (seqObj "list" vs.toArray 0)) s'.heap.objs.size vs } fun b o e => PySem.W.sortingHeap_old (Nat.ne_of_lt (Heap.lt_size e)) (Heap.get?_push_of_some _ e))) hal hk
    (PySem.W.bound_map fun b hb => by have := hdp b hb; simp only [Around.in1_units]; omega)
  refine wpAny_bind (wpAny_holding (wpAny_call_entry PyProof.Rows.slot_list_sort ⟨_, hoL, rfl⟩ PyProof.Rows.entry_list_sort
    (PySem.W.list_sort_vals (s := { s' with heap := s'.heap.push (seqObj "list" vs.toArray 0) }) hoL S (by omega) ⟨_, rfl, ?_⟩) (PyProof.Rows.args_list_sort _)))
  have eo : PySem.W.EachIs (fun u b => RelV b.2 u) (PySem.W.sortVals (PySem.W.dataKind (PySem.W.sortingHeap (s'.heap.push (seqObj "list" vs.toArray 0)) s'.heap.objs.size vs) (bs.map encB)) false vs vs) (bs.mergeSort (PySem.W.dataLe false encB)) :=
    PySem.W.sortVals_data (h' := PySem.W.sortingHeap (s'.heap.push (seqObj "list" vs.toArray 0)) s'.heap.objs.size vs) false (each_of hv fun u b _ ru => ru) (rd { s' with heap := PySem.W.sortingHeap (s'.heap.push (seqObj "list" vs.toArray 0)) s'.heap.objs.size vs } fun b o e => PySem.W.sortingHeap_old (Nat.ne_of_lt (Heap.lt_size e)) (Heap.get?_push_of_some _ e)) hal
  have ev := each_back eo
  obtain ⟨e', he'⟩ := PyProof.Rows.sortedHeap_at (vs := vs) (out := (PySem.W.sortVals (PySem.W.dataKind (PySem.W.sortingHeap (s'.heap.push (seqObj "list" vs.toArray 0)) s'.heap.objs.size vs) (bs.map encB)) false vs vs).toArray) hoL
  refine wpAny_pure ⟨_, rfl, .ref s'.heap.objs.size, upd H s'.heap.objs.size (.lst ((bs.mergeSort (PySem.W.dataLe false encB)).map (·.2))), I1.laid (t' := s'.toks) (fun b u e => ?_) (Nat.le_refl _)
    (show ObjOk X.prog X.w _ _ _ (.lst _) from ⟨?_, _, e', ev, he'⟩), rfl, q _ (I1.hok.fresh (Nat.le_refl _))⟩
  · have hb : b < s'.heap.objs.size := Heap.lt_size e
    rw [PyProof.Rows.sortedHeap_old (Nat.ne_of_lt hb) (by rw [size_push']; exact Nat.lt_succ_of_lt hb)]
    exact Heap.get?_push_of_some _ e
  · rw [List.length_map, List.length_mergeSort]; omega
end
end Q
/-! Qw3: < of data; least and greatest of data; sums of tuples. -/
namespace Q
open PySem PySem.W PySem.SeqAt PyProof.Rows L2
section
variable {X : Cx}
/-- two data that can be compared -/
def CmpD (K : PySem.W.Frag) (H : Hp) (x y : V) (d e : PyData) : Prop := Dp K H x d ∧ Dp K H y e ∧ alike d e = true ∧ d ≠ .none ∧ d.depth ≤ 60
def rCmpD (K : PySem.W.Frag) (f : PyData → PyData → Bool) : R2 := fun x y H Q => ∃ d e, CmpD K H x y d e ∧ Q (.bl (f d e)) H
theorem op_ltD (hu : X.A.units + 65 < cLine) : OpR X (compareOp .Lt) (rCmpD X.K fun d e => dataLt d e) := by
  intro pins s σ H x y v u Q I rx ry h
  obtain ⟨d, e, ⟨h1, h2, h3, h4, h5⟩, q⟩ := h
  obtain ⟨as, r1⟩ := Dp.reads I d x v h1 rx
  obtain ⟨bs, r2⟩ := Dp.reads I e y u h2 ry
  exact lt_data r1 r2 h3 h4 (by omega) ⟨.bl _, H, I, rfl, q⟩
theorem op_leD (hu : X.A.units + 65 < cLine) : OpR X (compareOp .LtE) (rCmpD X.K fun d e => !dataLt e d) := by
  intro pins s σ H x y v u Q I rx ry h
  obtain ⟨d, e, ⟨h1, h2, h3, h4, h5⟩, q⟩ := h
  obtain ⟨as, r1⟩ := Dp.reads I d x v h1 rx
  obtain ⟨bs, r2⟩ := Dp.reads I e y u h2 ry
  exact le_data r1 r2 h3 h4 (by omega) ⟨.bl _, H, I, rfl, q⟩
theorem op_gtD (hu : X.A.units + 65 < cLine) : OpR X (compareOp .Gt) (rCmpD X.K fun d e => dataLt e d) := by
  intro pins s σ H x y v u Q I rx ry h
  obtain ⟨d, e, ⟨h1, h2, h3, h4, h5⟩, q⟩ := h
  obtain ⟨as, r1⟩ := Dp.reads I d x v h1 rx
  obtain ⟨bs, r2⟩ := Dp.reads I e y u h2 ry
  exact gt_data r1 r2 h3 h4 (by omega) ⟨.bl _, H, I, rfl, q⟩
theorem op_geD (hu : X.A.units + 65 < cLine) : OpR X (compareOp .GtE) (rCmpD X.K fun d e => !dataLt d e) := by
  intro pins s σ H x y v u Q I rx ry h
  obtain ⟨d, e, ⟨h1, h2, h3, h4, h5⟩, q⟩ := h
  obtain ⟨as, r1⟩ := Dp.reads I d x v h1 rx
  obtain ⟨bs, r2⟩ := Dp.reads I e y u h2 ry
  exact ge_data r1 r2 h3 h4 (by omega) ⟨.bl _, H, I, rfl, q⟩
/-- the least, the greatest of data -/
def rBest (K : PySem.W.Frag) (f : PyData → List PyData → PyData) : List V → Hp → VK → Prop := fun xs H Q => ∃ (a : Addr) (b : Bt) (bs : List Bt), xs = [V.ref a] ∧ (SqL K H a ((b :: bs).map (·.2)) ∨ SqT K H a ((b :: bs).map (·.2))) ∧ (∀ c ∈ b :: bs, Dp K H c.2 c.1.toD) ∧ AllAlike ((b :: bs).map encB) ∧ (∀ d ∈ (b :: bs).map encB, d ≠ .none) ∧ (∀ c ∈ b :: bs, (encB c).depth ≤ 60) ∧
  ∀ c ∈ b :: bs, c.1.toD = f (encB b) (bs.map encB) → Q c.2 H
theorem depthAll_le {n : Nat} : ∀ {xs : List PyData}, (∀ x ∈ xs, x.depth ≤ n) → PyData.depthAll xs ≤ n
  | [], _ => by simp [PyData.depthAll]
  | x :: xs, h => by
    have h1 := h x (by simp)
    have h2 := depthAll_le fun y hy => h y (List.mem_cons_of_mem x hy)
    simp only [PyData.depthAll]; omega
theorem reads_all {pins : List (Addr × Obj)} {σ : L2.St} {H : Hp} {s : Shared} (I : Inv X pins σ H s) : ∀ {bs : List Bt} {us : List Value}, Vals (bs.map (·.2)) us → (∀ c ∈ bs, Dp X.K H c.2 c.1.toD) → ∃ as, ReadsAll s.heap us (bs.map encB) as
  | [], _, h, _ => by cases h; exact ⟨_, .nil⟩
  | b :: bs, _, h, k => by
    cases h with
    | cons r1 r2 =>
      obtain ⟨as, q⟩ := reads_all I r2 fun c hc => k c (by simp [hc])
      obtain ⟨bs', q'⟩ := Dp.reads I _ _ _ (k b (by simp)) r1
      exact ⟨_, .cons q' q⟩
theorem alike_iff {ds : List PyData} (h : AllAlike ds) (n : ∀ d ∈ ds, d ≠ .none) : AlikeAll ds := ⟨fun d hd e he => h d hd e he, n⟩
theorem best_end {pins : List (Addr × Obj)} {σ : L2.St} {H : Hp} {s : Shared} {f : PyData → List PyData → PyData} {b : Bt} {bs : List Bt} {us : List Value} {Q : VK} (I : Inv X pins σ H s) (hv : Vals ((b :: bs).map (·.2)) us) (hd : ∀ c ∈ b :: bs, Dp X.K H c.2 c.1.toD) (hal : AllAlike ((b :: bs).map encB)) (hm : f (encB b) (bs.map encB) ∈ (b :: bs).map encB)
    (k : ∀ c ∈ b :: bs, c.1.toD = f (encB b) (bs.map encB) → Q c.2 H) {i : Nat} {v : Value} {h' : Heap} {tk : Nat} {as : List Addr} (e : us[i]? = some v) (r : Reads h' v (f (encB b) (bs.map encB)) as) (hk : ∀ b o, s.heap.get? b = some o → h'.get? b = some o) : EP X pins σ Q v { s with heap := h', toks := tk } := by
  have hl := Paired.length hv
  have hi : i < (b :: bs).length := by
    obtain ⟨l, _⟩ := List.getElem?_eq_some_iff.mp e
    simp at hl ⊢; omega
  have ec : ((b :: bs).map (·.2))[i]? = some ((b :: bs)[i]).2 := by rw [List.getElem?_map, List.getElem?_eq_getElem hi]; rfl
  obtain ⟨u, e1, ru⟩ := hv.get ec
  rw [e] at e1
  cases e1
  have mc : (b :: bs)[i] ∈ b :: bs := List.getElem_mem hi
  obtain ⟨as2, r2⟩ := Dp.reads I _ _ _ (hd _ mc) ru
  have r2 := PyProof.Rows.Reads.keeps hk r2
  have me : ((b :: bs)[i]).1.toD ∈ (b :: bs).map encB := List.mem_map.mpr ⟨_, mc, rfl⟩
  have := alike_unique _ _ v _ _ (hal _ me _ hm) r2 r
  exact ⟨_, H, I.kept hk, ru, k _ mc this⟩
theorem fold_mem {α : Type} (f : α → α → Bool) : ∀ (xs : List α) (x : α), xs.foldl (fun a y => if f y a then y else a) x ∈ x :: xs
  | [], x => by simp
  | y :: xs, x => by
    rw [List.foldl_cons]
    have := fold_mem f xs (if f y x then y else x)
    rcases List.mem_cons.mp this with h | h
    · rw [h]; split <;> simp
    · simp [h]
theorem fold_mem' {α : Type} (f : α → α → Bool) : ∀ (xs : List α) (x : α), xs.foldl (fun a y => if f a y then y else a) x ∈ x :: xs := fun xs x => fold_mem (fun y a => f a y) xs x
theorem cr_minA (hc : X.calm = true) (hu : X.A.units + 65 < cLine) : CallR X (.builtin "min") (rBest X.K minD) := by
  intro pins s σ H xs us Q I r h
  obtain ⟨a, b, bs, rfl, hs, hd, hal, hnn, hdp, k⟩ := h
  obtain ⟨u, rfl, ru⟩ := vals1 r
  obtain rfl : u = Value.ref a := ru
  have hm : minD (encB b) (bs.map encB) ∈ (b :: bs).map encB := fold_mem _ _ _
  have hz : X.A.units + 1 + PyData.depthAll ((b :: bs).map encB) < cLine := by
    have := depthAll_le (n := 60) (xs := (b :: bs).map encB) fun x hx => by
      obtain ⟨c, hc, rfl⟩ := List.mem_map.mp hx
      exact hdp c hc
    omega
  rcases hs with hs | hs
  · obtain ⟨its, rv, hl, _⟩ := I.list hs
    obtain ⟨as, ra⟩ := reads_all I rv hd
    exact min_list_data (I.ok.hd hc) hl.isList (by simpa using ra) (alike_iff hal hnn) hz fun i v h' tk bs' e r hk => best_end I rv hd hal hm k (by simpa using e) r hk
  · obtain ⟨its, rv, hl, _⟩ := I.tuple hs
    obtain ⟨as, ra⟩ := reads_all I rv hd
    exact min_tuple_data (vs := its.toArray) (I.ok.hd hc) hl (by simpa using ra) (alike_iff hal hnn) hz fun i v h' tk bs' e r hk => best_end I rv hd hal hm k (by simpa using e) r hk
theorem cr_maxA (hc : X.calm = true) (hu : X.A.units + 65 < cLine) : CallR X (.builtin "max") (rBest X.K maxD) := by
  intro pins s σ H xs us Q I r h
  obtain ⟨a, b, bs, rfl, hs, hd, hal, hnn, hdp, k⟩ := h
  obtain ⟨u, rfl, ru⟩ := vals1 r
  obtain rfl : u = Value.ref a := ru
  have hm : maxD (encB b) (bs.map encB) ∈ (b :: bs).map encB := fold_mem' _ _ _
  have hz : X.A.units + 1 + PyData.depthAll ((b :: bs).map encB) < cLine := by
    have := depthAll_le (n := 60) (xs := (b :: bs).map encB) fun x hx => by
      obtain ⟨c, hc, rfl⟩ := List.mem_map.mp hx
      exact hdp c hc
    omega
  rcases hs with hs | hs
  · obtain ⟨its, rv, hl, _⟩ := I.list hs
    obtain ⟨as, ra⟩ := reads_all I rv hd
    exact max_list_data (I.ok.hd hc) hl.isList (by simpa using ra) (alike_iff hal hnn) hz fun i v h' tk bs' e r hk => best_end I rv hd hal hm k (by simpa using e) r hk
  · obtain ⟨its, rv, hl, _⟩ := I.tuple hs
    obtain ⟨as, ra⟩ := reads_all I rv hd
    exact max_tuple_data (vs := its.toArray) (I.ok.hd hc) hl (by simpa using ra) (alike_iff hal hnn) hz fun i v h' tk bs' e r hk => best_end I rv hd hal hm k (by simpa using e) r hk
theorem preSum_take (ns : List Int) : ∀ k, k ≤ ns.length → preSum (fun i => ns.getD i 0) k = (ns.take k).sum
  | 0, _ => by simp [preSum]
  | k + 1, h => by
    rw [preSum, preSum_take ns k (by omega), List.take_add_one, List.sum_append]
    congr 1
    have : ns[k]? = some ns[k] := List.getElem?_eq_getElem (by omega)
    simp [List.getD, this]
/-- sum(t) -/
theorem cr_sumT (hc : X.calm = true) : CallR X (.builtin "sum") (fun xs H Q => ∃ (a : Addr) (ns : List Int), xs = [V.ref a] ∧ SqT X.K H a (ns.map V.int) ∧ Q (.int ns.sum) H) := by
  intro pins s σ H xs us Q I r h
  obtain ⟨a, ns, rfl, hs, q⟩ := h
  obtain ⟨u, rfl, ru⟩ := vals1 r
  obtain rfl : u = Value.ref a := ru
  obtain ⟨its, rv, hl, _⟩ := I.tuple hs
  have hn : its.length = ns.length := by have := Paired.length rv; simpa using this.symm
  refine call_sum_walkAnyS (iter_tupleW (A := X.A.in1) (I.ok.hd hc) hl fun s₂ e W st hfp hw hk => ⟨_, _, _, _, _, _, _, fun i => ns.getD i 0, rfl, W, st, hfp, fun i v hv => ?_, fun s' t' m => ?_⟩)
  · have hv : its[i]? = some v := by simpa using hv
    have hi : i < ns.length := by
      obtain ⟨l, _⟩ := List.getElem?_eq_some_iff.mp hv
      omega
    obtain ⟨u, e1, ru⟩ := rv.get (i := i) (x := .int ns[i]) (by rw [List.getElem?_map, List.getElem?_eq_getElem hi]; rfl)
    rw [hv] at e1
    cases e1
    obtain ⟨t, ht⟩ := ru
    exact ⟨t, by rw [ht]; simp [List.getD, List.getElem?_eq_getElem hi]⟩
  · obtain ⟨h', tk, rfl, hk'⟩ := moved_old e rfl m
    refine ⟨.int ns.sum, H, I.kept hk', ⟨t', ?_⟩, q⟩
    have : its.toArray.size = ns.length := by simpa using hn
    rw [this, preSum_take ns _ (Nat.le_refl _), List.take_length]
end
end Q
/-! Qw4: dicts made of pairs: dict([..]), {k: v, ..}. -/
namespace Q
open PySem PySem.Spec PyProof.Rows L2
def Ent.all (xs es : Ent) : Ent := es.foldl (fun acc e => acc.put e.1 e.2.1 e.2.2) xs
/-- what is made of pairs -/
def MkV (K : PySem.W.Frag) (P : Program) (w : World) (H : Hp) (a : Addr) (prs : List (V × V)) (o : HO) : Prop :=
  (∃ kvs : List (L2.Key × V), prs = kvs.map (fun kv => (kV kv.1, kv.2)) ∧ o = .dK (mergeK [] kvs)) ∨
  ∃ es : Ent, prs = es.map (fun x => (.ref x.2.1, x.2.2)) ∧ es ≠ [] ∧ (∀ x ∈ es, KeyAt K H x.1 x.2.1) ∧ o = DnO P w a (Ent.all [] es)
section
variable {X : Cx} {pins : List (Addr × Obj)} {σ : L2.St} {H : Hp} {s : Shared} {A : Around} {E : Value → Shared → Prop}
theorem raw_all : ∀ {es : Ent} {rs : List Value} {xs : Ent} {us : List Value}, Vals (es.map (·.2.2)) rs → Vals (xs.map (·.2.2)) us → ∃ us', Vals ((Ent.all xs es).map (·.2.2)) us' ∧ storedAllH (raw xs us) (raw es rs) = raw (Ent.all xs es) us'
  | [], _, xs, us, h, r => by cases h; exact ⟨us, r, rfl⟩
  | e :: es, _, xs, us, h, r => by
    cases h with
    | @cons _ u _ rs h1 h2 =>
      obtain ⟨us1, r1, e1⟩ := raw_put (k := e.1) (b := e.2.1) r h1
      obtain ⟨us2, r2, e2⟩ := raw_all (xs := xs.put e.1 e.2.1 e.2.2) h2 r1
      refine ⟨us2, r2, ?_⟩
      show storedAllH (storedH (raw xs us) e.1 e.2.1 u) (raw es rs) = _
      rw [e1]; exact e2
theorem Ent.all_nodup : ∀ {es xs : Ent}, (xs.map (·.1)).Nodup → ((Ent.all xs es).map (·.1)).Nodup
  | [], _, h => h
  | e :: es, xs, h => Ent.all_nodup (es := es) (Ent.put_nodup h)
theorem Ent.all_len : ∀ {es xs : Ent}, (Ent.all xs es).length ≤ xs.length + es.length
  | [], _ => Nat.le_refl _
  | e :: es, xs => by
    have h1 := Ent.all_len (es := es) (xs := xs.put e.1 e.2.1 e.2.2)
    have h2 := Ent.put_len (xs := xs) (k := e.1) (b := e.2.1) (v := e.2.2)
    show (Ent.all (xs.put e.1 e.2.1 e.2.2) es).length ≤ _
    simp only [List.length_cons]; omega
/-- the pairs in the heap -/
theorem ent_pairs (I : Inv X pins σ H s) : ∀ {ps : List Addr} {es : Ent}, Paired (fun p (e : NestedKey × Addr × V) => SqT X.K H p [.ref e.2.1, e.2.2]) ps es → ∃ us, Vals (es.map (·.2.2)) us ∧ us.length = es.length ∧ ps.length = es.length ∧
    ∀ (j : Nat) (e : NestedKey × Addr × V) (u : Value), es[j]? = some e → us[j]? = some u → ∃ p, ps[j]? = some p ∧ s.heap.IsTuple p #[.ref e.2.1, u]
  | _, _, .nil => ⟨[], .nil, rfl, rfl, fun j e u h _ => by simp at h⟩
  | _, _, .cons (a := p) (b := e) h t => by
    obtain ⟨us, r, l1, l2, k⟩ := ent_pairs I t
    obtain ⟨its, rv, ht, _⟩ := I.tuple h
    obtain ⟨u, y, ei, ru, ry⟩ := vals2 rv
    subst ei
    cases (show u = Value.ref e.2.1 from ru)
    refine ⟨y :: us, .cons ry r, by simp [l1], by simp [l2], fun j e' u' h1 h2 => ?_⟩
    cases j with
    | zero => simp at h1 h2; subst h1 h2; exact ⟨p, rfl, ht⟩
    | succ j => exact k j e' u' (by simpa using h1) (by simpa using h2)
theorem raw_get {es : Ent} {us : List Value} {j : Nat} {e : NestedKey × Addr × V} {u : Value} (h1 : es[j]? = some e) (h2 : us[j]? = some u) : (raw es us)[j]? = some (e.1, e.2.1, u) := by
  have h : (List.zip es us)[j]? = some (e, u) := List.getElem?_zip_eq_some.mpr ⟨h1, h2⟩
  show ((List.zip es us).map _)[j]? = _
  rw [List.getElem?_map, h]; rfl
theorem raw_len {es : Ent} {us : List Value} (h : us.length = es.length) : (raw es us).length = es.length := by
  show ((List.zip es us).map _).length = _
  rw [List.length_map, List.length_zip, h, Nat.min_self]
theorem call_dictNe (hc : X.calm = true) (hu : X.A.units + 10 < cLine) : CallR X (.type "dict") (fun xs H Q => ∃ (a : Addr) (ps : List Addr) (es : Ent), xs = [.ref a] ∧ SqL X.K H a (ps.map V.ref) ∧ Paired (fun p (e : NestedKey × Addr × V) => SqT X.K H p [.ref e.2.1, e.2.2]) ps es ∧ (∀ x ∈ es, KeyAt X.K H x.1 x.2.1) ∧
    ∀ p, H p = none → Q (.ref p) (upd H p (DnO X.prog X.w p (Ent.all [] es)))) := by
  intro pins s σ H xs us Q I r h
  obtain ⟨a, ps, es, rfl, hq, hp, hk, q⟩ := h
  obtain ⟨u, rfl, ru⟩ := vals1 r
  obtain rfl : u = Value.ref a := ru
  obtain ⟨its, rv, pl, hz⟩ := I.list hq
  have ei := refs_at rv
  subst ei
  rw [List.length_map] at hz
  obtain ⟨vs, rel, l1, l2, hpr⟩ := ent_pairs I hp
  obtain ⟨o, n, ho, hcl, hd, hdat⟩ := pl
  have hl : (raw es vs).length = es.length := raw_len l1
  let prs : List (Value × Value) := (raw es vs).map fun x => (Value.ref x.2.1, x.2.2)
  have hprs : prs.length = es.length := by
    show ((raw es vs).map _).length = _
    rw [List.length_map, hl]
  have get : ∀ (j : Nat) (k v : Value), prs[j]? = some (k, v) → ∃ e : NestedKey × Addr × V, es[j]? = some e ∧ vs[j]? = some v ∧ k = Value.ref e.2.1 := by
    intro j k v e
    have e : ((raw es vs).map _)[j]? = _ := e
    rw [List.getElem?_map, Option.map_eq_some_iff] at e
    obtain ⟨x, hx, ex⟩ := e
    have hx : ((List.zip es vs).map _)[j]? = _ := hx
    rw [List.getElem?_map, Option.map_eq_some_iff] at hx
    obtain ⟨y, hy, rfl⟩ := hx
    obtain ⟨h1, h2⟩ := List.getElem?_zip_eq_some.mp hy
    cases ex
    exact ⟨y.1, h1, h2, rfl⟩
  have ok : PlainSeq "list" s.heap a (ps.map Value.ref).toArray ∧ PairItems s.heap (ps.map Value.ref).toArray (fun j => ps.getD j 0) prs := by
    refine ⟨⟨o, n, ho, hcl, hd, hdat⟩, by simp [hprs, l2], fun j k v e => ?_⟩
    obtain ⟨x, h1, h2, rfl⟩ := get j k v e
    obtain ⟨p, h3, h4⟩ := hpr j x v h1 h2
    refine ⟨?_, .inl ?_⟩
    · simp [List.getD, h3]
    · simpa [List.getD, h3] using h4
  have st := nestedKind_stays (prog := X.prog) (w := X.w)
  refine call_dict_pairsH (knd := nestedKind X.prog X.w) (ps := raw es vs) (PairArg.list a _ (fun j => ps.getD j 0) prs) (I.ok.hd hc) (by show X.A.in1.in1.units + 8 < cLine; simp only [Around.in1_units]; omega) ok ⟨by rw [hl, hprs], fun i key v e => ?_⟩ (fun h' hkp x hx => ?_) (by rw [hprs, ← l2]; exact hz) fun h' tk hd' hkp => ?_
  · obtain ⟨x, h1, h2, rfl⟩ := get i key v e
    exact ⟨x.1, x.2.1, raw_get h1 h2, rfl⟩
  · obtain ⟨y, hy, e1, e2⟩ := raw_mem hx
    rw [e1, e2]
    exact st.stays (fun b o vs n e _ => hkp b o (Nat.ne_of_lt (Heap.lt_size e)) (by simp) e) ((hk y hy).is I)
  · have hm : (s.heap.objs.size == sysModules) = false := beq_eq_false_iff_ne.mpr (Nat.ne_of_gt I.big)
    obtain ⟨us', r1, r2⟩ := raw_all (xs := []) (us := []) rel .nil
    have r2 : storedAllH [] (raw es vs) = raw (Ent.all [] es) us' := r2
    rw [r2] at hd'
    refine ⟨.ref s.heap.objs.size, upd H s.heap.objs.size (DnO X.prog X.w s.heap.objs.size (Ent.all [] es)), I.laid (t' := tk) (fun b o e => hkp b o (by simp) e) (Nat.le_refl _) (dn_ok hm ?_ (Ent.all_nodup (by simp)) r1 hd'), rfl, q _ (I.hok.fresh (Nat.le_refl _))⟩
    have := Ent.all_len (es := es) (xs := [])
    simp at this
    omega
/-! displays -/
def tDispN (trs : List (TE × TE)) (K : PySem.W.Frag) (P : Program) (w : World) : TE := fun σ H Q => ∀ p, H p = none → tPairs trs σ (upd H p (.dK [])) fun prs H2 => H2 p = some (.dK []) ∧ ((∃ kvs : List (L2.Key × V), prs = kvs.map (fun kv => (kV kv.1, kv.2)) ∧ kvs.length ≤ 15 ∧ Q (.ref p) (upd H2 p (.dK (mergeK [] kvs)))) ∨
  ∃ es : Ent, prs = es.map (fun x => (.ref x.2.1, x.2.2)) ∧ es.length ≤ 15 ∧ (∀ x ∈ es, KeyAt K H2 x.1 x.2.1) ∧ Q (.ref p) (upd H2 p (DnO P w p (Ent.all [] es))))
theorem carriesN (I : Inv X pins σ H s) : ∀ {es : Ent} {ws : List (Value × Value)}, VV (es.map fun x => (.ref x.2.1, x.2.2)) ws → (∀ x ∈ es, KeyAt X.K H x.1 x.2.1) → ∃ us, Vals (es.map (·.2.2)) us ∧ CarriesH (nestedKind X.prog X.w) s.heap ws (raw es us)
  | [], _, h, _ => by cases h; exact ⟨[], .nil, True.intro⟩
  | e :: es, _, h, hk => by
    cases h with
    | @cons _ q _ qs h1 h2 =>
      obtain ⟨us, r, c⟩ := carriesN I h2 fun x hx => hk x (by simp [hx])
      refine ⟨q.2 :: us, .cons h1.2 r, ?_⟩
      obtain ⟨q1, q2⟩ := q
      cases (show q1 = Value.ref e.2.1 from h1.1)
      exact ⟨rfl, rfl, (hk e (by simp)).is I, c⟩
theorem pe_dispN {pos : Pos} {keys : List (Option Expr)} {values : List Expr} {trs : List (TE × TE)} (hu : X.A.units + 9 < cLine) (h : PPs X pos keys values trs) (hall : keys.all (·.isSome) = true) (hl : keys.length = values.length) (h0 : keys ≠ [])
    (h15 : keys.length ≤ 15) : PE X (.Dict keys values pos) (tDispN trs X.K X.prog X.w) := by
  refine ⟨fun pins s σ H Q I q => ?_⟩
  have hn := I.hok.fresh (Nat.le_refl s.heap.objs.size)
  have I1 := I.laid (a := s.heap.objs.size) (o := .dK []) (h' := s.heap.push { cls := .type "dict", data := .dict #[] }) (t' := s.toks) (fun _ _ q => Heap.get?_push_of_some _ q) (Nat.le_refl _) (dk_empty s.heap I.big)
  have hpn := pairTrees_length keys values X.env pos hall hl
  have hne : pairTrees keys values X.env pos ≠ [] := fun he => by rw [he] at hpn; exact h0 (List.length_eq_zero_iff.mp hpn.symm)
  have run := h.run pins _ σ _ _ I1 (q _ hn)
  have hz : (pairTrees keys values X.env pos).length ≤ 15 := by rw [hpn]; exact h15
  rw [arm_eval_Dict, zip_pairTrees keys values X.env pos hall hl, dictDisplay_pairs _ hne (by omega)]
  refine wpAny_bind (wpAny_standAt (wpAny_bind ?_))
  unfold subDict
  refine wpAny_bind (wpAny_alloc ?_)
  refine wpAny_bind (wpAny_holding ?_)
  rw [if_pos hz]
  refine wpAny_bind (wpAny_mono run (fun vs s₁ h₁ => ?_) fun _ _ e => e)
  obtain ⟨ps, H2, I2, rel, e, alt⟩ := h₁
  refine wpAny_holding ?_
  rcases alt with ⟨kvs, rfl, lk, q2⟩ | ⟨es, rfl, lk, hk, q2⟩
  · obtain ⟨rs, c, rk⟩ := carries_of (P := X.prog) (w := X.w) rel
    obtain ⟨z, hd, vs0, r0, dd⟩ := dk_of I2.hok e
    cases r0
    have hr : rs.length = kvs.length := rk.length.symm
    refine wpAny_bind (wpAny_storeAll (knd := mixKind X.prog X.w) vs rs [] s₁ _ c dd (by rw [sizeLine_eq, List.length_nil, hr]; omega) fun h' dd' hs => wpAny_pure (wpAny_pure (wpAny_pure ⟨.ref s.heap.objs.size, _, ?_, rfl, q2⟩)))
    have hz : (mergeK [] kvs).length ≤ sizeLine := by
      have h1 := length_mergeK kvs []
      rw [List.length_nil] at h1
      rw [sizeLine_eq]; omega
    have he : ∃ q, h'.get? s.heap.objs.size = some q := let ⟨q, _, _, hq, _⟩ := dd'; ⟨q, hq⟩
    exact d_write I2 (by rw [e]; exact True.intro) hs he (dk_new hz hd (rk.merge .nil) dd')
  · obtain ⟨us, r, c⟩ := carriesN I2 rel hk
    obtain ⟨hd, dd⟩ := dk_nil I2 e
    have hl : us.length = es.length := by
      have := Paired.length r
      simpa using this.symm
    refine wpAny_bind (wpAny_storeAllH (knd := nestedKind X.prog X.w) (by show X.A.units + 8 < cLine; omega) vs (raw es us) [] s₁ _ c dd (by rw [sizeLine_eq, List.length_nil, raw_len hl]; omega) fun h' tk dd' hs => wpAny_pure (wpAny_pure (wpAny_pure ⟨.ref s.heap.objs.size, _, ?_, rfl, q2⟩)))
    obtain ⟨us', r1, r2⟩ := raw_all (xs := []) (us := []) r .nil
    have r2 : storedAllH [] (raw es us) = raw (Ent.all [] es) us' := r2
    rw [r2] at dd'
    have he : ∃ q, h'.get? s.heap.objs.size = some q := let ⟨q, _, _, hq, _⟩ := dd'; ⟨q, hq⟩
    refine d_write (t' := tk) I2 (by rw [e]; exact True.intro) hs he (dn_ok hd ?_ (Ent.all_nodup (by simp)) r1 dd')
    have := Ent.all_len (es := es) (xs := [])
    rw [sizeLine_eq]
    simp at this
    omega
end
end Q
/-! Qc: readings by trees; rules for expressions. -/
namespace L2
open PySem PySem.Spec PyProof.Rows
/-! ### weaker readings -/
theorem PE.w {X : Cx} {e : Expr} {t t' : TE} (h : PE X e t) (i : ∀ σ H Q, t' σ H Q → t σ H Q) : PE X e t' := ⟨fun pins s σ H Q I q => h.run pins s σ H Q I (i _ _ _ q)⟩
theorem PT.w {X : Cx} {e : Expr} {t t' : TT} (h : PT X e t) (i : ∀ σ H Q, t' σ H Q → t σ H Q) : PT X e t' := ⟨fun pins s σ H Q I q => h.run pins s σ H Q I (i _ _ _ q)⟩
theorem PW.w {X : Cx} {e : Expr} {t t' : TT} (h : PW X e t) (i : ∀ σ H Q, t' σ H Q → t σ H Q) : PW X e t' := ⟨fun wh pins s σ H Q I q => h.run wh pins s σ H Q I (i _ _ _ q)⟩
theorem PA.w {X : Cx} {e : List Expr} {t t' : TA} (h : PA X e t) (i : ∀ σ H Q, t' σ H Q → t σ H Q) : PA X e t' := ⟨fun pos pins s σ H Q I q => h.run pos pins s σ H Q I (i _ _ _ q)⟩
theorem PO.w {X : Cx} {e : Option Expr} {t t' : TO} (h : PO X e t) (i : ∀ σ H Q, t' σ H Q → t σ H Q) : PO X e t' := ⟨fun pins s σ H Q I q => h.run pins s σ H Q I (i _ _ _ q)⟩
theorem PI.w {X : Cx} {tg l : Expr} {t t' : TI} (h : PI X tg l t) (i : ∀ σ H R, t' σ H R → t σ H R) : PI X tg l t' := ⟨fun pins s σ H R I q => h.run pins s σ H R I (i _ _ _ q)⟩
theorem PS.w {X : Cx} {e : Stmt} {t t' : TS} (h : PS X e t) (i : ∀ D σ H, t' D σ H → t D σ H) : PS X e t' := ⟨fun pins s σ H D I q => h.run pins s σ H D I (i _ _ _ q)⟩
theorem PSs.w {X : Cx} {e : List Stmt} {t t' : TS} (h : PSs X e t) (i : ∀ D σ H, t' D σ H → t D σ H) : PSs X e t' := ⟨fun pins s σ H D I q => h.run pins s σ H D I (i _ _ _ q)⟩

end L2
namespace Q
open PySem PySem.Spec PyProof.Rows L2

/-! ### what a frame is -/
structure Cn where
  C : RC
  U : Addr → Prop
  H0 : Hp
  r : List Addr
abbrev Cn.B (c : Cn) (M : Addr → Prop) : Addr → Prop := fun a => c.U a ∨ M a
abbrev Cn.RS (c : Cn) (M : Addr → Prop) (S : Sto) (H : Hp) (s : L2.St) (fr : Fr) : Prop := Q.RS c.C c.U c.H0 c.r M S H s fr
abbrev Cn.St (c : Cn) (M : Addr → Prop) (S : Sto) (H : Hp) : Prop := StoR c.C (c.B M) c.r S H
abbrev Cn.R (c : Cn) (M : Addr → Prop) (H : Hp) (t : PV) (v : V) : Prop := Rep c.C (c.B M) c.r H t v
abbrev Cn.RP (c : Cn) (M : Addr → Prop) (H : Hp) (t : PV) (v : V) : Prop := RepP c.C (c.B M) c.r H t v
abbrev Cn.Rs (c : Cn) (M : Addr → Prop) (H : Hp) (t : List PV) (v : List V) : Prop := Reps c.C (c.B M) c.r H t v
def RepPs (C : RC) (B : Addr → Prop) (r : List Addr) (H : Hp) : List PV → List V → Prop
  | [], vs => vs = []
  | x :: xs, vs => ∃ v vr, vs = v :: vr ∧ RepP C B r H x v ∧ RepPs C B r H xs vr
abbrev Cn.RPs (c : Cn) (M : Addr → Prop) (H : Hp) (t : List PV) (v : List V) : Prop := RepPs c.C (c.B M) c.r H t v

section
variable {c : Cn} {M : Addr → Prop} {S S' : Sto} {H H' : Hp} {s : L2.St} {fr : Fr}
theorem RS.rb (h : c.RS M S H s fr) : ∀ a ∈ c.r, c.B M a := fun a z => .inl (h.ru a z)
theorem Cnt.k {C : RC} {B B' : Addr → Prop} {r : List Addr} {t : PV} {p : Addr} (h : Cnt C B r H t p) (k : Kp r H H') (hr : ∀ a ∈ r, B a) (hB : ∀ a, B' a → B a ∨ H a = none) (n : p ∉ r) : Cnt C B' r H' t p := h.kb (k.kb hr) hB fun o e m => k.keep _ _ e n m.ntbl
theorem SlotR.k {C : RC} {B M : Addr → Prop} {r : List Addr} {a : Sl} {o : Option V} (h : SlotR C B M r H a o) (k : Kp r H H') (hr : ∀ a ∈ r, B a) (hm : ∀ a ∈ r, M a) : SlotR C B M r H' a o := by
  cases a with
  | no => exact True.intro
  | va t =>
    cases o with
    | none => exact h
    | some v => exact Rep.k k hr h
  | ow t =>
    cases o with
    | none => exact h
    | some v =>
      obtain ⟨p, e, m, n, q⟩ := h
      exact ⟨p, e, m, n, q.k k hr (fun _ z => .inl z) n⟩
  | bo t =>
    cases o with
    | none => exact h
    | some v => exact RepM.kb (k.kb hr) (k.kb hm) (fun _ z => .inl z) (fun _ z => .inl z) h
  | cl F =>
    cases o with
    | none => exact h
    | some v => exact C.clk h k
theorem RS.step (h : c.RS M S H s fr) (k : Kp c.r H H') (st : c.St M S' H') : c.RS M S' H' s fr :=
  ⟨h.kp.trans k, h.ut, fun a m => by
    by_cases z : a ∈ c.r
    · obtain ⟨i, hi, e⟩ := List.getElem_of_mem z
      have l : i < S'.length := by rw [← st.len]; exact hi
      obtain ⟨o, eo, _⟩ := (st.at_ i a S'[i] (by rw [List.getElem?_eq_getElem hi, e]) (List.getElem?_eq_getElem l)).is
      rw [eo]; exact fun z => nomatch z
    · exact k.there (h.mt a m) z,
   h.mn, h.ru, h.rm, st, h.len, fun i a e o e' => (h.sl i a e o e').k k h.rb h.rm, h.inj⟩
theorem RS.at (h : c.RS M S H s fr) {i : Nat} {a : Sl} (e : fr[i]? = some a) (hn : a ≠ .no) : ∃ v, s[i]? = some (some v) ∧ SlotR c.C (c.B M) M c.r H a (some v) := by
  have l : i < s.length := by rw [← h.len]; exact (List.getElem?_eq_some_iff.mp e).1
  have q := h.sl i a e s[i] (List.getElem?_eq_getElem l)
  cases e' : s[i] with
  | none =>
    rw [e'] at q
    cases a with
    | no => exact absurd rfl hn
    | _ => exact q.elim
  | some v => rw [e'] at q; exact ⟨v, by rw [List.getElem?_eq_getElem l, e'], q⟩
theorem RepPs.k {C : RC} {B : Addr → Prop} {r : List Addr} (k : Kp r H H') (hr : ∀ a ∈ r, B a) : ∀ {t : List PV} {v : List V}, RepPs C B r H t v → RepPs C B r H' t v
  | [], _, h => h
  | x :: xs, _, h => by
    obtain ⟨v, vr, e, h1, h2⟩ := h
    exact ⟨v, vr, e, h1.k k hr, h2.k k hr⟩
theorem Reps.ps {C : RC} {B : Addr → Prop} {r : List Addr} (hr : ∀ a ∈ r, B a) : ∀ {t : List PV} {v : List V}, Reps C B r H t v → RepPs C B r H t v
  | [], _, h => by
    simp only [Reps] at h
    exact h
  | x :: xs, _, h => by
    simp only [Reps] at h
    obtain ⟨v, vr, e, h1, h2⟩ := h
    exact ⟨v, vr, e, h1.p hr, h2.ps hr⟩
end

/-! ### readings -/
def PoE {α β : Type} (c : Cn) (M : Addr → Prop) (H : Hp) (res : Re α) (R : Hp → α → β → Prop) (q : β → Hp → Prop) : Prop := match res with
  | .ok t S' => ∀ v H', Kp c.r H H' → c.St M S' H' → R H' t v → q v H'
  | _ => False
def LE (c : Cn) (m : SE) : TE := fun s H q => ∃ M S fr, c.RS M S H s fr ∧ PoE c M H (m fr S) (c.R M) q
def LP (c : Cn) (m : SE) : TE := fun s H q => ∃ M S fr, c.RS M S H s fr ∧ PoE c M H (m fr S) (c.RP M) q
def LB (c : Cn) (m : SB) : TT := fun s H q => ∃ M S fr, c.RS M S H s fr ∧ PoE c M H (m fr S) (fun _ a b => b = a) q
def LA (c : Cn) (m : SA) : TA := fun s H q => ∃ M S fr, c.RS M S H s fr ∧ PoE c M H (m fr S) (c.Rs M) q
def LAp (c : Cn) (m : SA) : TA := fun s H q => ∃ M S fr, c.RS M S H s fr ∧ PoE c M H (m fr S) (c.RPs M) q
def LO (c : Cn) (m : SO) : TO := fun s H q => ∃ M S fr, c.RS M S H s fr ∧ PoE c M H (m fr S) (fun _ a b => b = a) q

section
variable {X : Cx} {c : Cn} {e a b d : Expr} {es : List Expr} {ma mb md : SE} {ba bb : SB} {m : SA} {pos : Pos}
/-- one piece, then what follows -/
theorem PoE.bind {α β γ δ : Type} {M : Addr → Prop} {H : Hp} {x : Re α} {f : α → Sto → Re γ} {R : Hp → α → β → Prop} {R' : Hp → γ → δ → Prop} {q : δ → Hp → Prop} {q' : β → Hp → Prop}
    (h : PoE c M H (x.bind f) R' q) (g : ∀ t S' v H', Kp c.r H H' → c.St M S' H' → R H' t v → PoE c M H' (f t S') R' q → q' v H') : PoE c M H x R q' := by
  cases x with
  | ok t S' =>
    intro v H' k st r
    refine g t S' v H' k st r ?_
    have h : PoE c M H (f t S') R' q := h
    revert h
    cases f t S' with
    | ok u S2 => exact fun h w H2 k2 st2 r2 => h w H2 (k.trans k2) st2 r2
    | ex c as S2 => exact fun h => h
    | bad => exact fun h => h
  | ex c as S' => exact h
  | bad => exact h
theorem PE.p (hr : PE X e (LE c ma)) : PE X e (LP c ma) := hr.w fun s H q ⟨M, S, fr, rs, h⟩ => ⟨M, S, fr, rs, by
  revert h
  cases ma fr S with
  | ok t S' => exact fun h v H' k st r => h v H' k st (r.p rs.rb)
  | ex c as S' => exact fun h => h
  | bad => exact fun h => h⟩

/-! ### names, constants -/
def PV.flat : PV → Option V
  | .non => some .non
  | .bl b => some (.bl b)
  | .int i => some (.int i)
  | .str x => some (.str x)
  | _ => none
theorem Rep.flat {C : RC} {B : Addr → Prop} {r : List Addr} {H : Hp} {t : PV} {v : V} (h : t.flat = some v) : Rep C B r H t v := by
  cases t <;> simp only [PV.flat, Option.some.injEq, reduceCtorEq] at h <;> subst h <;> simp only [Rep]
theorem ok_C {t : PV} {v : V} (h : PE X e (tC v)) (f : t.flat = some v) : PE X e (LE c (eC t)) := h.w fun s H q ⟨M, S, fr, rs, h⟩ => h v H .refl rs.st (.flat f)
theorem ok_V {i : Nat} (h : PE X e (tVar i)) : PE X e (LE c (eV i)) := h.w fun s H q ⟨M, S, fr, rs, h⟩ => by
  simp only [eV] at h
  split at h
  · rename_i t e
    obtain ⟨v, e1, r⟩ := rs.at e (fun z => nomatch z)
    exact ⟨v, e1, h v H .refl rs.st r⟩
  · exact h.elim
theorem Cnt.rp {C : RC} {B : Addr → Prop} {r : List Addr} {H : Hp} {t : PV} {p : Addr} (h : Cnt C B r H t p) (n : p ∉ r) : RepP C B r H t (.ref p) := h.repM n
theorem ok_P {i : Nat} (h : PE X e (tVar i)) : PE X e (LP c (eP i)) := h.w fun s H q ⟨M, S, fr, rs, h⟩ => by
  simp only [eP] at h
  split at h
  · rename_i t e
    obtain ⟨v, e1, r⟩ := rs.at e (fun z => nomatch z)
    exact ⟨v, e1, h v H .refl rs.st (Rep.p rs.rb r)⟩
  · rename_i t e
    obtain ⟨v, e1, p, rfl, _, n, r⟩ := rs.at e (fun z => nomatch z)
    exact ⟨_, e1, h _ H .refl rs.st (r.rp n)⟩
  · rename_i t e
    obtain ⟨v, e1, r⟩ := rs.at e (fun z => nomatch z)
    exact ⟨v, e1, h v H .refl rs.st (RepM.imp rs.rm r)⟩
  · exact h.elim

/-! ### two-place operations -/
/-- what an operation's rule asks, for trees -/
def OpT (c : Cn) (f : PV → PV → Option PV) (r : R2) : Prop :=
  ∀ (M : Addr → Prop) (H : Hp) (x y z : PV) (v w : V) (q : VK), (∀ a ∈ c.r, c.B M a) → f x y = some z → c.RP M H x v → c.RP M H y w → (∀ u H', Kp c.r H H' → (∀ b o, H b = some o → H' b = some o) → c.R M H' z u → q u H') → r v w H q
theorem StoR.k {C : RC} {B : Addr → Prop} {r : List Addr} {S : Sto} {H H' : Hp} (h : StoR C B r S H) (k : Kp r H H') (hr : ∀ a ∈ r, B a) (hk : ∀ b o, H b = some o → H' b = some o) : StoR C B r S H' :=
  ⟨h.len, h.nd, fun i p t e1 e2 => (h.at_ i p t e1 e2).kb (k.kb hr) (fun _ z => .inl z) fun o e _ => hk _ _ e⟩
theorem ok_op {o : Op} {op : Operator} {r : R2} (hr : OpR X (binaryOp op) r) (ht : OpT c o.on r) (ha : PE X a (LP c ma)) (hb : PE X b (LP c mb)) : PE X (.BinOp a op b pos) (LE c (eOp o ma mb)) :=
  (pe_op hr ha hb).w fun s H q ⟨M, S, fr, rs, h⟩ => by
    refine ⟨M, S, fr, rs, PoE.bind h fun x S1 v H1 k1 st1 r1 h1 => ?_⟩
    have rs1 := rs.step k1 st1
    refine ⟨M, S1, fr, rs1, PoE.bind h1 fun y S2 w H2 k2 st2 r2 h2 => ?_⟩
    revert h2
    cases e : o.on x y with
    | none => exact fun h => h.elim
    | some z =>
      intro h2
      exact ht M H2 x y z v w q rs.rb e (r1.k k2 rs.rb) r2 fun u H' k hk r => h2 u H' k (st2.k k rs.rb hk) r
theorem OpT.or {f : PV → PV → Option PV} {g h : PV → PV → Option PV} {r r' : R2} (hg : OpT c g r) (hh : OpT c h r') (hf : ∀ x y z, f x y = some z → g x y = some z ∨ h x y = some z) : OpT c f (fun x y H q => r x y H q ∨ r' x y H q) :=
  fun M H x y z v w q rb e r1 r2 k => (hf x y z e).elim (fun e => .inl (hg M H x y z v w q rb e r1 r2 k)) fun e => .inr (hh M H x y z v w q rb e r1 r2 k)
/-- ints alone -/
theorem OpT.ints {f : PV → PV → Option PV} {P : Int → Int → Prop} {g : Int → Int → Int} (h : ∀ x y z, f x y = some z → ∃ i j, x = .int i ∧ y = .int j ∧ z = .int (g i j) ∧ P i j) : OpT c f (rI P fun i j => .int (g i j)) := by
  intro M H x y z v w q rb e r1 r2 k
  obtain ⟨i, j, rfl, rfl, rfl, p⟩ := h x y z e
  simp only [Cn.RP, RepP, RepM, Rep] at r1 r2
  subst r1 r2
  exact ⟨i, j, rfl, rfl, p, k _ H .refl (fun _ _ z => z) (.flat rfl)⟩
theorem OpT.ints0 {f : PV → PV → Option PV} {g : Int → Int → Int} (h : ∀ x y z, f x y = some z → ∃ i j, x = .int i ∧ y = .int j ∧ z = .int (g i j)) : OpT c f (rI0 fun i j => .int (g i j)) := by
  intro M H x y z v w q rb e r1 r2 k
  obtain ⟨i, j, rfl, rfl, rfl⟩ := h x y z e
  simp only [Cn.RP, RepP, RepM, Rep] at r1 r2
  subst r1 r2
  exact ⟨i, j, rfl, rfl, k _ H .refl (fun _ _ z => z) (.flat rfl)⟩
end
end Q
/-! Qd: operators, comparisons, tests. -/
namespace Q
open PySem PySem.Spec PyProof.Rows L2
theorem fits_le {n : Nat} (h : fits n = true) : n ≤ sizeLine := by
  have := of_decide_eq_true h
  rw [sizeLine_eq]; exact this
section
variable {X : Cx} {c : Cn} {e a b d : Expr} {es : List Expr} {ma mb md : SE} {ba bb : SB} {m : SA} {pos : Pos}

theorem rp_tup {M : Addr → Prop} {H : Hp} {xs : List PV} {v : V} (h : c.RP M H (.tup xs) v) : ∃ a vs, v = .ref a ∧ SqT c.C.K H a vs ∧ c.Rs M H xs vs := by
  simpa only [Cn.RP, RepP, RepM, Rep] using h
theorem rp_lst {M : Addr → Prop} {H : Hp} {xs : List PV} {v : V} (h : c.RP M H (.lst xs) v) : ∃ a vs, v = .ref a ∧ H a = some (.lst vs) ∧ a ∉ c.r ∧ c.Rs M H xs vs := by
  obtain ⟨a, vs, e, s, q⟩ := h
  exact ⟨a, vs, e, s.1, s.2, q⟩
theorem rp_int {M : Addr → Prop} {H : Hp} {i : Int} {v : V} (h : c.RP M H (.int i) v) : v = .int i := by simpa only [Cn.RP, RepP, RepM, Rep] using h
theorem rp_bl {M : Addr → Prop} {H : Hp} {i : Bool} {v : V} (h : c.RP M H (.bl i) v) : v = .bl i := by simpa only [Cn.RP, RepP, RepM, Rep] using h
theorem rp_str {M : Addr → Prop} {H : Hp} {i : Str} {v : V} (h : c.RP M H (.str i) v) : v = .str i := by simpa only [Cn.RP, RepP, RepM, Rep] using h
/-- a new tuple, a new list -/
theorem R.tup_new {M : Addr → Prop} {H : Hp} {xs : List PV} {vs : List V} {p : Addr} (rb : ∀ a ∈ c.r, c.B M a) (n : H p = none) (h : c.Rs M H xs vs) : c.R M (upd H p (.tup vs)) (.tup xs) (.ref p) := by
  show Rep _ _ _ _ _ _
  simp only [Rep]
  exact ⟨p, vs, rfl, .of upd_same, h.k (Kp.upd_new n) rb⟩
theorem R.lst_new {M : Addr → Prop} {H : Hp} {xs : List PV} {vs : List V} {p : Addr} (rb : ∀ a ∈ c.r, c.B M a) (nb : ∀ a, c.B M a → H a ≠ none) (n : H p = none) (h : c.Rs M H xs vs) : c.R M (upd H p (.lst vs)) (.lst xs) (.ref p) := by
  show Rep _ _ _ _ _ _
  simp only [Rep]
  exact ⟨p, vs, rfl, ⟨upd_same, fun z => nb p z n⟩, h.k (Kp.upd_new n) rb⟩
theorem RS.bn {M : Addr → Prop} {S : Sto} {H : Hp} {s : L2.St} {fr : Fr} (h : c.RS M S H s fr) : ∀ a, c.B M a → H a ≠ none := fun a z => by
  rcases z with z | z
  · by_cases q : a ∈ c.r
    · exact h.mt a (h.rm a q)
    · exact h.kp.there (h.ut a z) q
  · exact h.mt a z
theorem upd_keeps {H : Hp} {p : Addr} {o : HO} (n : H p = none) : ∀ b u, H b = some u → upd H p o b = some u := fun b u q => by rw [upd_ne (ne_of_none q n)]; exact q

/-- what an operation's rule asks, for trees, where all of B is there -/
def OpN (c : Cn) (f : PV → PV → Option PV) (r : R2) : Prop :=
  ∀ (M : Addr → Prop) (H : Hp) (x y z : PV) (v w : V) (q : VK), (∀ a ∈ c.r, c.B M a) → (∀ a, c.B M a → H a ≠ none) → f x y = some z → c.RP M H x v → c.RP M H y w → (∀ u H', Kp c.r H H' → (∀ b o, H b = some o → H' b = some o) → c.R M H' z u → q u H') → r v w H q
theorem OpT.n {f : PV → PV → Option PV} {r : R2} (h : OpT c f r) : OpN c f r := fun M H x y z v w q rb _ e r1 r2 k => h M H x y z v w q rb e r1 r2 k
theorem OpN.or {f : PV → PV → Option PV} {g h : PV → PV → Option PV} {r r' : R2} (hg : OpN c g r) (hh : OpN c h r') (hf : ∀ x y z, f x y = some z → g x y = some z ∨ h x y = some z) : OpN c f (fun x y H q => r x y H q ∨ r' x y H q) :=
  fun M H x y z v w q rb nb e r1 r2 k => (hf x y z e).elim (fun e => .inl (hg M H x y z v w q rb nb e r1 r2 k)) fun e => .inr (hh M H x y z v w q rb nb e r1 r2 k)
theorem ok_opN {o : Op} {op : Operator} {r : R2} (hr : OpR X (binaryOp op) r) (ht : OpN c o.on r) (ha : PE X a (LP c ma)) (hb : PE X b (LP c mb)) : PE X (.BinOp a op b pos) (LE c (eOp o ma mb)) :=
  (pe_op hr ha hb).w fun s H q ⟨M, S, fr, rs, h⟩ => by
    refine ⟨M, S, fr, rs, PoE.bind h fun x S1 v H1 k1 st1 r1 h1 => ?_⟩
    have rs1 := rs.step k1 st1
    refine ⟨M, S1, fr, rs1, PoE.bind h1 fun y S2 w H2 k2 st2 r2 h2 => ?_⟩
    have rs2 := rs1.step k2 st2
    revert h2
    cases e : o.on x y with
    | none => exact fun h => h.elim
    | some z =>
      intro h2
      exact ht M H2 x y z v w q rs.rb rs2.bn e (r1.k k2 rs.rb) r2 fun u H' k hk r => h2 u H' k (st2.k k rs.rb hk) r

theorem intsOf_some {g : Int → Int → Option Int} {x y z : PV} (h : intsOf g x y = some z) : ∃ i j k, x = .int i ∧ y = .int j ∧ z = .int k ∧ g i j = some k := by
  unfold intsOf at h
  split at h
  · rename_i i j
    cases e : g i j with
    | none => rw [e] at h; exact nomatch h
    | some k => rw [e] at h; cases h; exact ⟨i, j, k, rfl, rfl, rfl, e⟩
  · exact nomatch h
theorem ot_catT : OpN c catT (rCatA c.C.K) := by
  intro M H x y z v w q rb nb e r1 r2 k
  unfold catT at e
  split at e
  · rename_i xs ys
    split at e
    · rename_i hf
      cases e
      obtain ⟨a, vs, rfl, s1, q1⟩ := (rp_tup r1)
      obtain ⟨b, ws, rfl, s2, q2⟩ := (rp_tup r2)
      have l1 := q1.len
      have l2 := q2.len
      refine ⟨a, b, vs, ws, rfl, rfl, s1, s2, by rw [← l1, ← l2]; exact fits_le hf, fun z => ?_, fun _ z => ?_, fun _ _ p n => ?_⟩
      · subst z
        have : xs = [] := List.eq_nil_of_length_eq_zero l1
        subst this
        exact k _ H .refl (fun _ _ z => z) r2
      · subst z
        have : ys = [] := List.eq_nil_of_length_eq_zero l2
        subst this
        rw [List.append_nil] at k
        exact k _ H .refl (fun _ _ z => z) r1
      · exact k _ _ (Kp.upd_new n) (upd_keeps n) (R.tup_new rb n (q1.append q2))
    · exact nomatch e
  · exact nomatch e
theorem ot_catL : OpN c catL rCat := by
  intro M H x y z v w q rb nb e r1 r2 k
  unfold catL at e
  split at e
  · rename_i xs ys
    split at e
    · rename_i hf
      cases e
      obtain ⟨a, vs, rfl, s1, _, q1⟩ := (rp_lst r1)
      obtain ⟨b, ws, rfl, s2, _, q2⟩ := (rp_lst r2)
      refine ⟨a, b, vs, ws, rfl, rfl, s1, s2, by rw [← q1.len, ← q2.len]; exact fits_le hf, fun p n => ?_⟩
      exact k _ _ (Kp.upd_new n) (upd_keeps n) (R.lst_new rb nb n (q1.append q2))
    · exact nomatch e
  · exact nomatch e
theorem ot_ints {g : Int → Int → Option Int} {P : Int → Int → Prop} {f : Int → Int → Int} (h : ∀ i j k, g i j = some k → P i j ∧ f i j = k) : OpN c (intsOf g) (rI P fun i j => .int (f i j)) := by
  intro M H x y z v w q rb nb e r1 r2 k
  obtain ⟨i, j, n, rfl, rfl, rfl, e'⟩ := intsOf_some e
  obtain ⟨p, rfl⟩ := h i j n e'
  exact ⟨i, j, (rp_int r1), (rp_int r2), p, k _ H .refl (fun _ _ z => z) (.flat rfl)⟩
theorem ot_ints0 {f : Int → Int → Int} : OpN c (intsOf fun i j => some (f i j)) (rI0 fun i j => .int (f i j)) := by
  intro M H x y z v w q rb nb e r1 r2 k
  obtain ⟨i, j, n, rfl, rfl, rfl, e'⟩ := intsOf_some e
  cases e'
  exact ⟨i, j, (rp_int r1), (rp_int r2), k _ H .refl (fun _ _ z => z) (.flat rfl)⟩
theorem OpN.of {f g : PV → PV → Option PV} {r : R2} (h : OpN c g r) (hf : ∀ x y z, f x y = some z → g x y = some z) : OpN c f r :=
  fun M H x y z v w q rb nb e r1 r2 k => h M H x y z v w q rb nb (hf x y z e) r1 r2 k
theorem OpN.or2 {g h : PV → PV → Option PV} {r r' : R2} (hg : OpN c g r) (hh : OpN c h r') : OpN c (fun x y => (g x y).or (h x y)) (fun x y H q => r x y H q ∨ r' x y H q) := hg.or hh fun x y z e => by
  cases q : g x y with
  | none => rw [q] at e; exact .inr e
  | some u => rw [q] at e; exact .inl e
theorem ok_add (hk : X.K = c.C.K) (ha : PE X a (LP c ma)) (hb : PE X b (LP c mb)) : PE X (.BinOp a .Add b pos) (LE c (eOp .add ma mb)) :=
  ok_opN (op_add.or (op_catA.or op_cat)) (ot_ints0.or2 ((hk ▸ ot_catT).or2 ot_catL)) ha hb
theorem ok_sub (ha : PE X a (LP c ma)) (hb : PE X b (LP c mb)) : PE X (.BinOp a .Sub b pos) (LE c (eOp .sub ma mb)) := ok_opN op_sub ot_ints0 ha hb
theorem small_ok {i j : Int} (h : (small i || small j) = true) : CMul i j := by
  unfold small at h
  simp only [Bool.or_eq_true, Bool.and_eq_true, decide_eq_true_eq] at h
  exact h
theorem ot_repT : OpN c repT (rRepA c.C.K) := by
  intro M H x y z v w q rb nb e r1 r2 k
  unfold repT at e
  split at e
  · rename_i xs n
    split at e
    · rename_i hf
      cases e
      simp only [Bool.and_eq_true, Bool.not_eq_true', decide_eq_true_eq] at hf
      obtain ⟨⟨⟨h1, h2⟩, h3⟩, h4⟩ := hf
      obtain ⟨a, vs, rfl, s1, q1⟩ := rp_tup r1
      by_cases n1 : n = 1
      · subst n1
        refine .inr ⟨a, vs, rfl, rp_int r2, s1, ?_⟩
        have e1 : (List.replicate (1 : Int).toNat xs).flatten = xs := by simp
        rw [e1] at k
        exact k _ _ .refl (fun _ _ e => e) (by simp only [Cn.R, Rep]; exact ⟨a, vs, rfl, s1, q1⟩)
      refine .inl ⟨a, n, vs, rfl, rp_int r2, s1, fun z => ?_, by omega, h3, by rw [← q1.len]; exact h4, fun p hn => ?_⟩
      · subst z
        have : xs = [] := List.eq_nil_of_length_eq_zero q1.len
        subst this
        exact nomatch h1
      · exact k _ _ (Kp.upd_new hn) (upd_keeps hn) (R.tup_new rb hn (q1.rep _))
    · exact nomatch e
  · exact nomatch e
theorem ot_repL : OpN c repL rRep := by
  intro M H x y z v w q rb nb e r1 r2 k
  unfold repL at e
  split at e
  · rename_i xs n
    split at e
    · rename_i hf
      cases e
      simp only [Bool.and_eq_true, decide_eq_true_eq] at hf
      obtain ⟨⟨h1, h2⟩, h3⟩ := hf
      obtain ⟨a, vs, rfl, s1, _, q1⟩ := rp_lst r1
      refine ⟨a, n, vs, rfl, rp_int r2, s1, h3, h2, by rw [← q1.len, sizeLine_eq]; exact h1, fun p hn => ?_⟩
      exact k _ _ (Kp.upd_new hn) (upd_keeps hn) (R.lst_new rb nb hn (q1.rep _))
    · exact nomatch e
  · exact nomatch e
theorem if_some {α : Type} {p : Prop} [Decidable p] {a b : α} (h : (if p then some a else none) = some b) : p ∧ a = b := by
  by_cases z : p
  · rw [if_pos z] at h; exact ⟨z, Option.some.inj h⟩
  · rw [if_neg z] at h; exact nomatch h
theorem ok_mul (hk : X.K = c.C.K) (ha : PE X a (LP c ma)) (hb : PE X b (LP c mb)) : PE X (.BinOp a .Mult b pos) (LE c (eOp .mul ma mb)) :=
  ok_opN (op_mul.or (op_repA.or op_rep)) ((ot_ints fun i j k h => let ⟨p, q⟩ := if_some h; ⟨small_ok p, q⟩).or2 ((hk ▸ ot_repT).or2 ot_repL)) ha hb
theorem ok_fdiv (ha : PE X a (LP c ma)) (hb : PE X b (LP c mb)) : PE X (.BinOp a .FloorDiv b pos) (LE c (eOp .fdiv ma mb)) :=
  ok_opN op_fdivN (ot_ints fun i j k h => let ⟨p, q⟩ := if_some h; ⟨by show j ≠ 0 ∧ j.natAbs < 1073741824; simpa only [Bool.and_eq_true, decide_eq_true_eq] using p, q⟩) ha hb
theorem ok_mod (ha : PE X a (LP c ma)) (hb : PE X b (LP c mb)) : PE X (.BinOp a .Mod b pos) (LE c (eOp .mod ma mb)) :=
  ok_opN op_modN (ot_ints fun i j k h => let ⟨p, q⟩ := if_some h; ⟨of_decide_eq_true p, q⟩) ha hb
theorem ok_pow (ha : PE X a (LP c ma)) (hb : PE X b (LP c mb)) : PE X (.BinOp a .Pow b pos) (LE c (eOp .pow ma mb)) :=
  ok_opN op_pow (ot_ints fun i j k h => let ⟨p, q⟩ := if_some h; ⟨by show 0 ≤ j ∧ j ≤ 1000000 ∧ i.natAbs < 2 ^ 64; simpa only [Bool.and_eq_true, decide_eq_true_eq, and_assoc] using p, q⟩) ha hb
theorem ok_shl (ha : PE X a (LP c ma)) (hb : PE X b (LP c mb)) : PE X (.BinOp a .LShift b pos) (LE c (eOp .shl ma mb)) :=
  ok_opN op_shl (ot_ints fun i j k h => let ⟨p, q⟩ := if_some h; ⟨by show 0 ≤ j ∧ j ≤ 1000000 ∧ i.natAbs < 2 ^ 64; simpa only [Bool.and_eq_true, decide_eq_true_eq, and_assoc] using p, q⟩) ha hb
theorem ok_xor (ha : PE X a (LP c ma)) (hb : PE X b (LP c mb)) : PE X (.BinOp a .BitXor b pos) (LE c (eOp .xor ma mb)) := ok_opN op_xor ot_ints0 ha hb
theorem ok_band (ha : PE X a (LP c ma)) (hb : PE X b (LP c mb)) : PE X (.BinOp a .BitAnd b pos) (LE c (eOp .band ma mb)) := ok_opN op_and ot_ints0 ha hb
theorem ok_bor (ha : PE X a (LP c ma)) (hb : PE X b (LP c mb)) : PE X (.BinOp a .BitOr b pos) (LE c (eOp .bor ma mb)) := ok_opN op_or ot_ints0 ha hb
end
end Q
/-! Qda: dicts by trees: looked up, put into. -/
namespace Q
open PySem PySem.Spec PyProof.Rows L2
section
variable {C : RC} {B : Addr → Prop} {r : List Addr} {H : Hp}
mutual
theorem nv_of : ∀ {x : PV} {v : V} {k : NestedKey}, x.nkey = some k → Rep C B r H x v → NV C.K H k v
  | .non, v, k, e, h => by simp only [PV.nkey, Option.some.injEq] at e; subst e; simp only [Rep] at h; simp only [NV]; exact h
  | .bl b, v, k, e, h => by simp only [PV.nkey, Option.some.injEq] at e; subst e; simp only [Rep] at h; simp only [NV]; exact .inr ⟨b, h, rfl⟩
  | .int i, v, k, e, h => by simp only [PV.nkey, Option.some.injEq] at e; subst e; simp only [Rep] at h; simp only [NV]; exact .inl h
  | .str s, v, k, e, h => by simp only [PV.nkey, Option.some.injEq] at e; subst e; simp only [Rep] at h; simp only [NV]; exact h
  | .tup xs, v, k, e, h => by
    simp only [PV.nkey, Option.map_eq_some_iff] at e
    obtain ⟨ks, e, rfl⟩ := e
    simp only [Rep] at h
    obtain ⟨a, vs, rfl, s, q⟩ := h
    simp only [NV]
    exact ⟨a, vs, rfl, s, nvs_of e q⟩
  | .lst _, _, _, e, _ => by simp [PV.nkey] at e
  | .dct _ _, _, _, e, _ => by simp [PV.nkey] at e
  | .ins _ _ _, _, _, e, _ => by simp [PV.nkey] at e
  | .ref _, _, _, e, _ => by simp [PV.nkey] at e
theorem nvs_of : ∀ {x : List PV} {v : List V} {k : List NestedKey}, nkeys x = some k → Reps C B r H x v → NVs C.K H k v
  | [], v, k, e, h => by simp only [nkeys, Option.some.injEq] at e; subst e; simp only [Reps] at h; simp only [NVs]; exact h
  | x :: xs, v, k, e, h => by
    simp only [nkeys, Option.bind_eq_some_iff, Option.map_eq_some_iff] at e
    obtain ⟨k0, e0, ks, e1, rfl⟩ := e
    simp only [Reps] at h
    obtain ⟨v, vr, rfl, h1, h2⟩ := h
    simp only [NVs]
    exact ⟨v, vr, rfl, nv_of e0 h1, nvs_of e1 h2⟩
end
theorem tkey_some {x : PV} {k : NestedKey} (h : x.tkey = some k) : ∃ xs, x = .tup xs ∧ x.nkey = some k ∧ k.depth ≤ 8 := by
  cases x with
  | tup xs =>
    simp only [PV.tkey, Option.bind_eq_some_iff] at h
    obtain ⟨k', e, h⟩ := h
    by_cases z : k'.depth ≤ 8
    · rw [if_pos z] at h; cases h; exact ⟨xs, rfl, e, z⟩
    · rw [if_neg z] at h; exact nomatch h
  | _ => simp [PV.tkey] at h
theorem fkey_some {x : PV} {k : L2.Key} (h : x.fkey = some k) : (∃ i, x = .int i ∧ k = .inl i) ∨ ∃ s, x = .str s ∧ k = .inr s := by
  cases x with
  | int i => simp only [PV.fkey, Option.some.injEq] at h; exact .inl ⟨i, rfl, h.symm⟩
  | str s => simp only [PV.fkey, Option.some.injEq] at h; exact .inr ⟨s, rfl, h.symm⟩
  | _ => simp [PV.fkey] at h
theorem tk_rep {x : PV} {v : V} {k : NestedKey} (h : x.tkey = some k) (q : Rep C B r H x v) : ∃ b, v = .ref b ∧ KeyAt C.K H k b := by
  obtain ⟨xs, rfl, e, d⟩ := tkey_some h
  have n := nv_of e q
  simp only [Rep] at q
  obtain ⟨a, vs, rfl, _⟩ := q
  exact ⟨a, rfl, n, d⟩
theorem fk_rep {x : PV} {v : V} {k : L2.Key} (h : x.fkey = some k) (q : Rep C B r H x v) : v = kV k := by
  rcases fkey_some h with ⟨i, rfl, rfl⟩ | ⟨s, rfl, rfl⟩ <;> simpa only [Rep, kV] using q
mutual
theorem peq_nkey : ∀ {x y : PV} {k l : NestedKey}, x.nkey = some k → y.nkey = some l → peq x y = NestedKey.beq k l
  | .non, y, k, l, h, h' => by
    simp only [PV.nkey, Option.some.injEq] at h; subst h
    cases y <;> simp only [PV.nkey, Option.some.injEq, reduceCtorEq, Option.map_eq_some_iff] at h' <;> first | (subst h'; rfl) | (obtain ⟨_, _, rfl⟩ := h'; rfl)
  | .bl b, y, k, l, h, h' => by
    simp only [PV.nkey, Option.some.injEq] at h; subst h
    cases y <;> simp only [PV.nkey, Option.some.injEq, reduceCtorEq, Option.map_eq_some_iff] at h'
    · subst h'; rfl
    · rename_i c; subst h'; cases b <;> cases c <;> rfl
    · subst h'; rename_i i; show ((if b = true then (1 : Int) else 0) == i) = decide _; cases b <;> simp only [BEq.beq]
    · subst h'; rfl
    · obtain ⟨_, _, rfl⟩ := h'; rfl
  | .int i, y, k, l, h, h' => by
    simp only [PV.nkey, Option.some.injEq] at h; subst h
    cases y <;> simp only [PV.nkey, Option.some.injEq, reduceCtorEq, Option.map_eq_some_iff] at h'
    · subst h'; rfl
    · subst h'; rfl
    · subst h'; rfl
    · subst h'; rfl
    · obtain ⟨_, _, rfl⟩ := h'; rfl
  | .str s, y, k, l, h, h' => by
    simp only [PV.nkey, Option.some.injEq] at h; subst h
    cases y <;> simp only [PV.nkey, Option.some.injEq, reduceCtorEq, Option.map_eq_some_iff] at h'
    · subst h'; rfl
    · subst h'; rfl
    · subst h'; rfl
    · subst h'
      rename_i t
      show (s == t) = decide (s = t)
      by_cases e : s = t <;> simp [e]
    · obtain ⟨_, _, rfl⟩ := h'; rfl
  | .tup xs, y, k, l, h, h' => by
    simp only [PV.nkey, Option.map_eq_some_iff] at h
    obtain ⟨ks, h, rfl⟩ := h
    cases y <;> simp only [PV.nkey, Option.some.injEq, reduceCtorEq, Option.map_eq_some_iff] at h'
    · subst h'; rfl
    · subst h'; rfl
    · subst h'; rfl
    · subst h'; rfl
    · obtain ⟨ls, h', rfl⟩ := h'
      show peqs _ _ = NestedKey.beqAll _ _
      exact peqs_nkeys h h'
  | .lst _, _, _, _, e, _ => by simp [PV.nkey] at e
  | .dct _ _, _, _, _, e, _ => by simp [PV.nkey] at e
  | .ins _ _ _, _, _, _, e, _ => by simp [PV.nkey] at e
  | .ref _, _, _, _, e, _ => by simp [PV.nkey] at e
theorem peqs_nkeys : ∀ {x y : List PV} {k l : List NestedKey}, nkeys x = some k → nkeys y = some l → peqs x y = NestedKey.beqAll k l
  | [], [], _, _, h, h' => by simp only [nkeys, Option.some.injEq] at h h'; subst h h'; rfl
  | [], y :: ys, _, _, h, h' => by
    simp only [nkeys, Option.some.injEq, Option.bind_eq_some_iff, Option.map_eq_some_iff] at h h'
    obtain ⟨_, _, _, _, rfl⟩ := h'
    subst h; rfl
  | x :: xs, [], _, _, h, h' => by
    simp only [nkeys, Option.some.injEq, Option.bind_eq_some_iff, Option.map_eq_some_iff] at h h'
    obtain ⟨_, _, _, _, rfl⟩ := h
    subst h'; rfl
  | x :: xs, y :: ys, _, _, h, h' => by
    simp only [nkeys, Option.bind_eq_some_iff, Option.map_eq_some_iff] at h h'
    obtain ⟨k0, e0, ks, e1, rfl⟩ := h
    obtain ⟨l0, f0, ls, f1, rfl⟩ := h'
    show (peq x y && peqs xs ys) = (NestedKey.beq k0 l0 && NestedKey.beqAll ks ls)
    rw [peq_nkey e0 f0, peqs_nkeys e1 f1]
end
theorem peq_tkey {x y : PV} {k l : NestedKey} (h : x.tkey = some k) (h' : y.tkey = some l) : peq x y = decide (k = l) := by
  rw [NestedKey.decide_eq]
  obtain ⟨_, _, e, _⟩ := tkey_some h
  obtain ⟨_, _, e', _⟩ := tkey_some h'
  exact peq_nkey e e'
theorem peq_fkey {x y : PV} {k l : L2.Key} (h : x.fkey = some k) (h' : y.fkey = some l) : peq x y = decide (k = l) := by
  rcases fkey_some h with ⟨i, rfl, rfl⟩ | ⟨i, rfl, rfl⟩ <;> rcases fkey_some h' with ⟨j, rfl, rfl⟩ | ⟨j, rfl, rfl⟩ <;> simp only [peq]
  · by_cases e : i = j <;> simp [e]
  · simp
  · simp
  · by_cases e : i = j <;> simp [e]
theorem fkeys_cons {x : PV} {xs : List PV} {fk : List L2.Key} (h : fkeys (x :: xs) = some fk) : ∃ k ks, fk = k :: ks ∧ x.fkey = some k ∧ fkeys xs = some ks := by
  simp only [fkeys, Option.bind_eq_some_iff, Option.map_eq_some_iff] at h
  obtain ⟨k0, e0, ks, e1, rfl⟩ := h
  exact ⟨_, _, rfl, e0, e1⟩
theorem tkeys_cons {x : PV} {xs : List PV} {fk : List NestedKey} (h : tkeys (x :: xs) = some fk) : ∃ k ks, fk = k :: ks ∧ x.tkey = some k ∧ tkeys xs = some ks := by
  simp only [tkeys, Option.bind_eq_some_iff, Option.map_eq_some_iff] at h
  obtain ⟨k0, e0, ks, e1, rfl⟩ := h
  exact ⟨_, _, rfl, e0, e1⟩
theorem fkeys_len : ∀ {xs : List PV} {fk : List L2.Key}, fkeys xs = some fk → fk.length = xs.length
  | [], _, h => by simp only [fkeys, Option.some.injEq] at h; subst h; rfl
  | x :: xs, _, h => by obtain ⟨k, ks, rfl, _, h⟩ := fkeys_cons h; simp [fkeys_len h]
theorem tkeys_len : ∀ {xs : List PV} {fk : List NestedKey}, tkeys xs = some fk → fk.length = xs.length
  | [], _, h => by simp only [tkeys, Option.some.injEq] at h; subst h; rfl
  | x :: xs, _, h => by obtain ⟨k, ks, rfl, _, h⟩ := tkeys_cons h; simp [tkeys_len h]
theorem fkeys_snoc : ∀ {xs : List PV} {x : PV} {fk : List L2.Key} {k : L2.Key}, fkeys xs = some fk → x.fkey = some k → fkeys (xs ++ [x]) = some (fk ++ [k])
  | [], x, _, k, h, e => by simp only [fkeys, Option.some.injEq] at h; subst h; simp [fkeys, e]
  | y :: ys, x, _, k, h, e => by obtain ⟨k0, ks, rfl, h0, h⟩ := fkeys_cons h; simp [fkeys, h0, fkeys_snoc h e]
theorem tkeys_snoc : ∀ {xs : List PV} {x : PV} {fk : List NestedKey} {k : NestedKey}, tkeys xs = some fk → x.tkey = some k → tkeys (xs ++ [x]) = some (fk ++ [k])
  | [], x, _, k, h, e => by simp only [tkeys, Option.some.injEq] at h; subst h; simp [tkeys, e]
  | y :: ys, x, _, k, h, e => by obtain ⟨k0, ks, rfl, h0, h⟩ := tkeys_cons h; simp [tkeys, h0, tkeys_snoc h e]
theorem ft_nil {xs : List PV} {fk : List L2.Key} {nk : List NestedKey} (h : fkeys xs = some fk) (h' : tkeys xs = some nk) : xs = [] := by
  cases xs with
  | nil => rfl
  | cons x xs =>
    obtain ⟨k, _, _, e, _⟩ := fkeys_cons h
    obtain ⟨l, _, _, e', _⟩ := tkeys_cons h'
    obtain ⟨_, rfl, _⟩ := tkey_some e'
    simp [PV.fkey] at e
theorem dOk_cases {ks : List PV} {x : PV} (h : dOk ks x = true) : (∃ fk k, fkeys ks = some fk ∧ x.fkey = some k) ∨ ∃ nk k, tkeys ks = some nk ∧ x.tkey = some k := by
  unfold dOk at h
  rw [Bool.or_eq_true, Bool.and_eq_true, Bool.and_eq_true] at h
  simp only [Option.isSome_iff_exists] at h
  rcases h with ⟨⟨a, h1⟩, b, h2⟩ | ⟨⟨a, h1⟩, b, h2⟩
  · exact .inl ⟨a, b, h1, h2⟩
  · exact .inr ⟨a, b, h1, h2⟩
/-- found or not, with what stands for it -/
def Fnd (C : RC) (B : Addr → Prop) (r : List Addr) (H : Hp) (o : Option PV) (u : Option V) : Prop := match o with
  | some t => ∃ v, u = some v ∧ Rep C B r H t v
  | none => u = none
theorem flat_at : ∀ {ks vs : List PV} {fk : List L2.Key} {vw : List V} {x : PV} {k : L2.Key}, fkeys ks = some fk → Reps C B r H vs vw → fk.length = vw.length → x.fkey = some k → Fnd C B r H (dAt ks vs x) (valV (fk.zip vw) k)
  | [], vs, fk, vw, x, k, h, q, l, e => by simp only [fkeys, Option.some.injEq] at h; subst h; simp [dAt, Fnd, valV]
  | y :: ks, vs, fk, vw, x, k, h, q, l, e => by
    obtain ⟨k0, fk, rfl, h0, h⟩ := fkeys_cons h
    cases vs with
    | nil => simp only [Reps] at q; subst q; simp at l
    | cons t vs =>
      simp only [Reps] at q
      obtain ⟨v, vr, rfl, q1, q2⟩ := q
      have p := peq_fkey h0 e
      by_cases z : k0 = k
      · simp only [dAt, p, z, decide_true, if_true]
        exact ⟨v, by simp [valV], q1⟩
      · have ih := flat_at h q2 (by simpa using l) e
        simp only [dAt, p, z, decide_false, Bool.false_eq_true, if_false]
        rw [List.zip_cons_cons, valV_neg z]
        exact ih
theorem tup_at : ∀ {ks vs : List PV} {nk : List NestedKey} {bs : List Addr} {vw : List V} {x : PV} {k : NestedKey}, tkeys ks = some nk → Reps C B r H vs vw → nk.length = vw.length → bs.length = vw.length → x.tkey = some k → Fnd C B r H (dAt ks vs x) (valV (Ent.vals (nk.zip (bs.zip vw))) k)
  | [], vs, fk, bs, vw, x, k, h, q, l, l', e => by simp only [tkeys, Option.some.injEq] at h; subst h; simp [dAt, Fnd, valV, Ent.vals]
  | y :: ks, vs, fk, bs, vw, x, k, h, q, l, l', e => by
    obtain ⟨k0, fk, rfl, h0, h⟩ := tkeys_cons h
    cases vs with
    | nil => simp only [Reps] at q; subst q; simp at l
    | cons t vs =>
      simp only [Reps] at q
      obtain ⟨v, vr, rfl, q1, q2⟩ := q
      cases bs with
      | nil => simp at l'
      | cons b bs =>
        have p := peq_tkey h0 e
        by_cases z : k0 = k
        · simp only [dAt, p, z, decide_true, if_true]
          exact ⟨v, by simp [valV, Ent.vals], q1⟩
        · have ih := tup_at (bs := bs) h q2 (by simpa using l) (by simpa using l') e
          simp only [dAt, p, z, decide_false, Bool.false_eq_true, if_false]
          simp only [Ent.vals, List.zip_cons_cons, List.map_cons]
          rw [valV_neg z]
          exact ih
theorem keys_at : ∀ {ks : List PV} {nk : List NestedKey} {bs : List Addr} {vw : List V}, tkeys ks = some nk → Reps C B r H ks (bs.map .ref) → ∀ x ∈ (nk.zip (bs.zip vw)), KeyAt C.K H x.1 x.2.1
  | [], nk, bs, vw, h, _, x, hx => by simp only [tkeys, Option.some.injEq] at h; subst h; simp at hx
  | y :: ks, nk, bs, vw, h, q, x, hx => by
    obtain ⟨k0, nk, rfl, h0, h⟩ := tkeys_cons h
    simp only [Reps] at q
    obtain ⟨v, vr, e, q1, q2⟩ := q
    cases bs with
    | nil => simp at hx
    | cons b bs =>
      simp only [List.map_cons, List.cons.injEq] at e
      obtain ⟨rfl, rfl⟩ := e
      cases vw with
      | nil => simp at hx
      | cons w vw =>
        simp only [List.zip_cons_cons, List.mem_cons] at hx
        rcases hx with rfl | hx
        · obtain ⟨b', e, kb⟩ := tk_rep h0 q1
          cases e
          exact kb
        · exact keys_at h q2 x hx
/-- THE LOOK -/
theorem dct_look {a : Addr} {ks vs : List PV} {kw vw : List V} {x : PV} {y : V} (d : DO C.P C.w a (H a) ks kw vw) (qk : Reps C B r H ks kw) (qv : Reps C B r H vs vw) (ok : dOk ks x = true) (rx : Rep C B r H x y) : ∃ u, DLv C.K C.P C.w H a y u ∧ Fnd C B r H (dAt ks vs x) u := by
  rcases dOk_cases ok with ⟨fk, k, h1, h2⟩ | ⟨nk, k, h1, h2⟩
  · rcases d with ⟨fk', e1, l, e2⟩ | ⟨nk, bs, e1, ne, _⟩
    · rw [h1] at e1; cases e1
      exact ⟨_, .inl ⟨_, k, e2, fk_rep h2 rx, rfl⟩, flat_at h1 qv l h2⟩
    · have := ft_nil h1 e1; subst this
      simp only [tkeys, Option.some.injEq] at e1
      exact absurd e1.symm ne
  · obtain ⟨b, rfl, kb⟩ := tk_rep h2 rx
    rcases d with ⟨fk', e1, l, e2⟩ | ⟨nk', bs, e1, ne, l, l', e3, e2⟩
    · have := ft_nil e1 h1; subst this
      simp only [fkeys, Option.some.injEq] at e1
      subst e1
      exact ⟨none, .inr (.inr ⟨k, b, by simpa using e2, rfl, kb, rfl⟩), by simp [dAt, Fnd]⟩
    · rw [h1] at e1; cases e1
      subst e3
      exact ⟨_, .inr (.inl ⟨_, k, b, e2, keys_at h1 qk, rfl, kb, rfl⟩), tup_at h1 qv l l' h2⟩
theorem any_flat : ∀ {ks : List PV} {fk : List L2.Key} {vw : List V} {x : PV} {k : L2.Key}, fkeys ks = some fk → fk.length = vw.length → x.fkey = some k → (ks.any fun y => peq y x) = ((fk.zip vw).any fun kv => decide (kv.1 = k))
  | [], fk, vw, x, k, h, l, e => by simp only [fkeys, Option.some.injEq] at h; subst h; rfl
  | y :: ks, fk, vw, x, k, h, l, e => by
    obtain ⟨k0, fk, rfl, h0, h⟩ := fkeys_cons h
    cases vw with
    | nil => simp at l
    | cons w vw =>
      simp only [List.any_cons, List.zip_cons_cons]
      rw [peq_fkey h0 e, any_flat h (by simpa using l) e]
theorem any_tup : ∀ {ks : List PV} {fk : List NestedKey} {bs : List Addr} {vw : List V} {x : PV} {k : NestedKey}, tkeys ks = some fk → fk.length = vw.length → bs.length = vw.length → x.tkey = some k → (ks.any fun y => peq y x) = (valV (Ent.vals (fk.zip (bs.zip vw))) k).isSome
  | [], fk, bs, vw, x, k, h, l, l', e => by simp only [tkeys, Option.some.injEq] at h; subst h; rfl
  | y :: ks, fk, bs, vw, x, k, h, l, l', e => by
    obtain ⟨k0, fk, rfl, h0, h⟩ := tkeys_cons h
    cases vw with
    | nil => simp at l
    | cons w vw =>
      cases bs with
      | nil => simp at l'
      | cons b bs =>
        have ih := any_tup (bs := bs) (vw := vw) h (by simpa using l) (by simpa using l') e
        have p := peq_tkey h0 e
        simp only [List.any_cons, p, Ent.vals, List.zip_cons_cons, List.map_cons]
        by_cases z : k0 = k
        · simp [z, valV]
        · rw [valV_neg z]
          simp only [z, decide_false, Bool.false_or]
          exact ih
theorem reps_upd : ∀ {vs : List PV} {nk : List Bool} {vw : List V} {t : PV} {v : V}, nk.length = vw.length → Reps C B r H vs vw → Rep C B r H t v → Reps C B r H (List.zipWith (fun (k : Bool) y => if k then t else y) nk vs) (List.zipWith (fun (k : Bool) y => if k then v else y) nk vw)
  | vs, [], vw, t, v, l, q, rt => by cases vw with | nil => exact .nil | cons _ _ => simp at l
  | vs, b :: nk, vw, t, v, l, q, rt => by
    cases vs with
    | nil => simp only [Reps] at q; subst q; simp at l
    | cons y vs =>
      simp only [Reps] at q
      obtain ⟨w, vr, rfl, q1, q2⟩ := q
      simp only [List.zipWith_cons_cons]
      refine .cons ?_ (reps_upd (by simpa using l) q2 rt)
      cases b
      · exact q1
      · exact rt
theorem zw_flat : ∀ {ks vs : List PV} {fk : List L2.Key} {x t : PV} {k : L2.Key}, fkeys ks = some fk → x.fkey = some k → List.zipWith (fun k v => if peq k x then t else v) ks vs = List.zipWith (fun (b : Bool) y => if b then t else y) (fk.map fun l => decide (l = k)) vs
  | [], vs, fk, x, t, k, h, e => by simp only [fkeys, Option.some.injEq] at h; subst h; simp
  | y :: ks, vs, fk, x, t, k, h, e => by
    obtain ⟨k0, fk, rfl, h0, h⟩ := fkeys_cons h
    cases vs with
    | nil => simp
    | cons z vs => simp only [List.zipWith_cons_cons, List.map_cons]; rw [peq_fkey h0 e, zw_flat h e]
theorem zw_tup : ∀ {ks vs : List PV} {fk : List NestedKey} {x t : PV} {k : NestedKey}, tkeys ks = some fk → x.tkey = some k → List.zipWith (fun k v => if peq k x then t else v) ks vs = List.zipWith (fun (b : Bool) y => if b then t else y) (fk.map fun l => decide (l = k)) vs
  | [], vs, fk, x, t, k, h, e => by simp only [tkeys, Option.some.injEq] at h; subst h; simp
  | y :: ks, vs, fk, x, t, k, h, e => by
    obtain ⟨k0, fk, rfl, h0, h⟩ := tkeys_cons h
    cases vs with
    | nil => simp
    | cons z vs => simp only [List.zipWith_cons_cons, List.map_cons]; rw [peq_tkey h0 e, zw_tup h e]
theorem map_flat {v : V} {k : L2.Key} : ∀ {fk : List L2.Key} {vw : List V}, (fk.zip vw).map (fun kv => if kv.1 = k then (kv.1, v) else kv) = fk.zip (List.zipWith (fun (b : Bool) y => if b then v else y) (fk.map fun l => decide (l = k)) vw)
  | [], _ => rfl
  | _ :: _, [] => rfl
  | k0 :: fk, w :: vw => by
    have ih := map_flat (v := v) (k := k) (fk := fk) (vw := vw)
    simp only [List.zip_cons_cons, List.map_cons, List.zipWith_cons_cons, ih]
    by_cases e : k0 = k <;> simp [e]
theorem map_tup {v : V} {k : NestedKey} : ∀ {fk : List NestedKey} {bs : List Addr} {vw : List V}, (fk.zip (bs.zip vw)).map (fun x => if x.1 = k then (x.1, x.2.1, v) else x) = fk.zip (bs.zip (List.zipWith (fun (b : Bool) y => if b then v else y) (fk.map fun l => decide (l = k)) vw))
  | [], _, _ => rfl
  | _ :: _, [], _ => rfl
  | _ :: _, _ :: _, [] => rfl
  | k0 :: fk, b :: bs, w :: vw => by
    have ih := map_tup (v := v) (k := k) (fk := fk) (bs := bs) (vw := vw)
    simp only [List.zip_cons_cons, List.map_cons, List.zipWith_cons_cons, ih]
    by_cases e : k0 = k <;> simp [e]
/-- THE PUT -/
theorem dct_put {a : Addr} {ks vs : List PV} {kw vw : List V} {x t : PV} {y v : V} (d : DO C.P C.w a (H a) ks kw vw) (qk : Reps C B r H ks kw) (qv : Reps C B r H vs vw) (ok : dOk ks x = true) (rx : Rep C B r H x y) (rt : Rep C B r H t v) (hl : ks.length < sizeLine) :
    ∃ o kw' vw', DPv C.K C.P C.w H a y v o ∧ Mu o ∧ DO C.P C.w a (some o) (dSet ks vs x t).1 kw' vw' ∧ Reps C B r H (dSet ks vs x t).1 kw' ∧ Reps C B r H (dSet ks vs x t).2 vw' := by
  rcases dOk_cases ok with ⟨fk, k, h1, h2⟩ | ⟨nk, k, h1, h2⟩
  · rcases d with ⟨fk', e1, l, e2⟩ | ⟨nk, bs, e1, ne, _⟩
    · rw [h1] at e1; cases e1
      have lk := fkeys_len h1
      refine ⟨.dK (putK (fk.zip vw) k v), if (ks.any fun k => peq k x) then kw else kw ++ [y], if (ks.any fun k => peq k x) then List.zipWith (fun (b : Bool) y => if b then v else y) (fk.map fun l => decide (l = k)) vw else vw ++ [v], .inl ⟨_, k, e2, fk_rep h2 rx, by rw [List.length_zip, ← l, Nat.min_self, lk]; exact hl, rfl⟩, .inr (.inl ⟨_, rfl⟩), ?_⟩
      unfold dSet putK
      rw [← any_flat h1 l h2]
      by_cases c : (ks.any fun k => peq k x) = true
      · simp only [c, if_true]
        refine ⟨.inl ⟨fk, h1, by simp [l], by rw [map_flat]⟩, qk, ?_⟩
        rw [zw_flat h1 h2]
        exact reps_upd (by simp [l]) qv rt
      · simp only [c, if_false, Bool.false_eq_true]
        refine ⟨.inl ⟨fk ++ [k], fkeys_snoc h1 h2, by simp [l], by rw [List.zip_append l]; rfl⟩, qk.append (.cons rx .nil), qv.append (.cons rt .nil)⟩
    · have := ft_nil h1 e1; subst this
      simp only [tkeys, Option.some.injEq] at e1
      exact absurd e1.symm ne
  · obtain ⟨b, rfl, kb⟩ := tk_rep h2 rx
    rcases d with ⟨fk', e1, l, e2⟩ | ⟨nk', bs, e1, ne, l, l', e3, e2⟩
    · have := ft_nil e1 h1; subst this
      simp only [fkeys, Option.some.injEq] at e1
      subst e1
      have e0 : vw = [] := List.eq_nil_of_length_eq_zero l.symm
      subst e0
      have e4 : vs = [] := List.eq_nil_of_length_eq_zero qv.len
      subst e4
      refine ⟨DnO C.P C.w a [(k, b, v)], [.ref b], [v], .inr (.inr ⟨k, b, by simpa using e2, rfl, kb, rfl⟩), .inr (.inr ⟨_, rfl⟩), .inr ⟨[k], [b], by simp [dSet, tkeys, h2], by simp, rfl, rfl, rfl, rfl⟩, ?_, ?_⟩
      · exact .cons rx .nil
      · exact .cons rt .nil
    · rw [h1] at e1; cases e1
      subst e3
      have lk := tkeys_len h1
      refine ⟨DnO C.P C.w a (Ent.put (nk.zip (bs.zip vw)) k b v), if (ks.any fun k => peq k x) then bs.map .ref else bs.map .ref ++ [.ref b], if (ks.any fun k => peq k x) then List.zipWith (fun (b : Bool) y => if b then v else y) (nk.map fun l => decide (l = k)) vw else vw ++ [v], .inr (.inl ⟨_, k, b, e2, keys_at h1 qk, rfl, kb, by simp only [List.length_zip]; omega, rfl⟩), .inr (.inr ⟨_, rfl⟩), ?_⟩
      unfold dSet Ent.put
      rw [← any_tup h1 l l' h2]
      by_cases c : (ks.any fun k => peq k x) = true
      · simp only [c, if_true]
        refine ⟨.inr ⟨nk, bs, h1, ne, by simp [l], by simp [l, l'], rfl, by rw [map_tup]⟩, qk, ?_⟩
        rw [zw_tup h1 h2]
        exact reps_upd (by simp [l]) qv rt
      · simp only [c, if_false, Bool.false_eq_true]
        refine ⟨.inr ⟨nk ++ [k], bs ++ [b], tkeys_snoc h1 h2, by simp, by simp [l], by simp [l'], by simp, ?_⟩, qk.append (.cons rx .nil), qv.append (.cons rt .nil)⟩
        rw [List.zip_append l', List.zip_append (by simp [l, l'])]; rfl
theorem put_flat {ks vs : List PV} {kw vw : List V} {fk : List L2.Key} {x t : PV} {y v : V} {k : L2.Key} (h1 : fkeys ks = some fk) (l : fk.length = vw.length) (h2 : x.fkey = some k) (qk : Reps C B r H ks kw) (qv : Reps C B r H vs vw) (rx : Rep C B r H x y) (rt : Rep C B r H t v) :
    ∃ (fk' : List L2.Key) (kw' vw' : List V), fkeys (dSet ks vs x t).1 = some fk' ∧ fk'.length = vw'.length ∧ fk'.zip vw' = putK (fk.zip vw) k v ∧ Reps C B r H (dSet ks vs x t).1 kw' ∧ Reps C B r H (dSet ks vs x t).2 vw' := by
  unfold dSet putK
  rw [← any_flat h1 l h2]
  by_cases c : (ks.any fun k => peq k x) = true
  · simp only [c, if_true]
    refine ⟨fk, kw, List.zipWith (fun (b : Bool) y => if b then v else y) (fk.map fun l => decide (l = k)) vw, h1, by simp [l], by rw [map_flat], qk, ?_⟩
    rw [zw_flat h1 h2]
    exact reps_upd (by simp [l]) qv rt
  · simp only [c, if_false, Bool.false_eq_true]
    exact ⟨fk ++ [k], kw ++ [y], vw ++ [v], fkeys_snoc h1 h2, by simp [l], by rw [List.zip_append l]; rfl, qk.append (.cons rx .nil), qv.append (.cons rt .nil)⟩
theorem put_tup {ks vs : List PV} {vw : List V} {bs : List Addr} {nk : List NestedKey} {x t : PV} {b : Addr} {v : V} {k : NestedKey} (h1 : tkeys ks = some nk) (l : nk.length = vw.length) (l' : bs.length = vw.length) (h2 : x.tkey = some k) (qk : Reps C B r H ks (bs.map .ref)) (qv : Reps C B r H vs vw) (rx : Rep C B r H x (.ref b)) (rt : Rep C B r H t v) :
    ∃ (nk' : List NestedKey) (bs' : List Addr) (vw' : List V), tkeys (dSet ks vs x t).1 = some nk' ∧ nk' ≠ [] ∧ nk'.length = vw'.length ∧ bs'.length = vw'.length ∧ nk'.zip (bs'.zip vw') = Ent.put (nk.zip (bs.zip vw)) k b v ∧ Reps C B r H (dSet ks vs x t).1 (bs'.map .ref) ∧ Reps C B r H (dSet ks vs x t).2 vw' := by
  unfold dSet Ent.put
  rw [← any_tup h1 l l' h2]
  by_cases c : (ks.any fun k => peq k x) = true
  · simp only [c, if_true]
    refine ⟨nk, bs, List.zipWith (fun (b : Bool) y => if b then v else y) (nk.map fun l => decide (l = k)) vw, h1, fun e => ?_, by simp [l], by simp [l, l'], by rw [map_tup], qk, ?_⟩
    · subst e
      have := tkeys_len h1
      cases ks with
      | nil => simp at c
      | cons _ _ => simp at this
    · rw [zw_tup h1 h2]
      exact reps_upd (by simp [l]) qv rt
  · simp only [c, if_false, Bool.false_eq_true]
    refine ⟨nk ++ [k], bs ++ [b], vw ++ [v], tkeys_snoc h1 h2, by simp, by simp [l], by simp [l'], ?_, ?_, qv.append (.cons rt .nil)⟩
    · rw [List.zip_append l', List.zip_append (by simp [l, l'])]; rfl
    · rw [List.map_append]; exact qk.append (.cons rx .nil)
theorem puts_flat : ∀ {prs : List (PV × PV)} {pk : List L2.Key} {pw qw : List V} {ks vs : List PV} {kw vw : List V} {fk : List L2.Key}, fkeys (prs.map (·.1)) = some pk → Reps C B r H (prs.map (·.1)) pw → Reps C B r H (prs.map (·.2)) qw → fkeys ks = some fk → fk.length = vw.length → Reps C B r H ks kw → Reps C B r H vs vw →
    ∃ (fk' : List L2.Key) (kw' vw' : List V), fkeys (dPuts (ks, vs) prs).1 = some fk' ∧ fk'.length = vw'.length ∧ fk'.zip vw' = mergeK (fk.zip vw) (pk.zip qw) ∧ Reps C B r H (dPuts (ks, vs) prs).1 kw' ∧ Reps C B r H (dPuts (ks, vs) prs).2 vw'
  | [], pk, pw, qw, ks, vs, kw, vw, fk, hp, _, _, h1, l, qk, qv => by
    simp only [List.map_nil, fkeys, Option.some.injEq] at hp
    subst hp
    exact ⟨fk, kw, vw, h1, l, rfl, qk, qv⟩
  | p :: prs, pk, pw, qw, ks, vs, kw, vw, fk, hp, rp, rq, h1, l, qk, qv => by
    obtain ⟨k, pk, rfl, h0, hp⟩ := fkeys_cons hp
    simp only [List.map_cons, Reps] at rp rq
    obtain ⟨y, pw, rfl, r1, r2⟩ := rp
    obtain ⟨v, qw, rfl, s1, s2⟩ := rq
    obtain ⟨fk1, kw1, vw1, e1, e2, e3, e4, e5⟩ := put_flat h1 l h0 qk qv r1 s1
    obtain ⟨fk', kw', vw', g1, g2, g3, g4, g5⟩ := puts_flat hp r2 s2 e1 e2 e4 e5
    exact ⟨fk', kw', vw', g1, g2, by rw [g3, e3]; rfl, g4, g5⟩
theorem puts_tup : ∀ {prs : List (PV × PV)} {pk : List NestedKey} {pb : List Addr} {qw : List V} {ks vs : List PV} {bs : List Addr} {vw : List V} {nk : List NestedKey}, tkeys (prs.map (·.1)) = some pk → Reps C B r H (prs.map (·.1)) (pb.map .ref) → Reps C B r H (prs.map (·.2)) qw → tkeys ks = some nk → nk.length = vw.length → bs.length = vw.length → Reps C B r H ks (bs.map .ref) → Reps C B r H vs vw →
    ∃ (nk' : List NestedKey) (bs' : List Addr) (vw' : List V), tkeys (dPuts (ks, vs) prs).1 = some nk' ∧ (prs ≠ [] ∨ nk ≠ [] → nk' ≠ []) ∧ nk'.length = vw'.length ∧ bs'.length = vw'.length ∧ nk'.zip (bs'.zip vw') = Ent.all (nk.zip (bs.zip vw)) (pk.zip (pb.zip qw)) ∧ Reps C B r H (dPuts (ks, vs) prs).1 (bs'.map .ref) ∧ Reps C B r H (dPuts (ks, vs) prs).2 vw'
  | [], pk, pb, qw, ks, vs, bs, vw, nk, hp, _, _, h1, l, l', qk, qv => by
    simp only [List.map_nil, tkeys, Option.some.injEq] at hp
    subst hp
    exact ⟨nk, bs, vw, h1, fun h => h.elim (fun z => absurd rfl z) id, l, l', rfl, qk, qv⟩
  | p :: prs, pk, pb, qw, ks, vs, bs, vw, nk, hp, rp, rq, h1, l, l', qk, qv => by
    obtain ⟨k, pk, rfl, h0, hp⟩ := tkeys_cons hp
    simp only [List.map_cons, Reps] at rp rq
    obtain ⟨y, pw, e, r1, r2⟩ := rp
    obtain ⟨v, qw, rfl, s1, s2⟩ := rq
    cases pb with
    | nil => simp at e
    | cons b pb =>
      simp only [List.map_cons, List.cons.injEq] at e
      obtain ⟨rfl, rfl⟩ := e
      obtain ⟨nk1, bs1, vw1, e1, ne, e2, e2', e3, e4, e5⟩ := put_tup h1 l l' h0 qk qv r1 s1
      obtain ⟨nk', bs', vw', g1, gn, g2, g2', g3, g4, g5⟩ := puts_tup hp r2 s2 e1 e2 e2' e4 e5
      exact ⟨nk', bs', vw', g1, fun _ => gn (.inr ne), g2, g2', by rw [g3, e3]; rfl, g4, g5⟩
theorem tk_refs : ∀ {ks : List PV} {nk : List NestedKey} {kw : List V}, tkeys ks = some nk → Reps C B r H ks kw → ∃ bs : List Addr, kw = bs.map .ref
  | [], _, _, _, q => by simp only [Reps] at q; exact ⟨[], by simpa using q⟩
  | x :: xs, _, _, h, q => by
    obtain ⟨k, ks, rfl, h0, h⟩ := tkeys_cons h
    simp only [Reps] at q
    obtain ⟨v, vr, rfl, q1, q2⟩ := q
    obtain ⟨b, rfl, _⟩ := tk_rep h0 q1
    obtain ⟨bs, rfl⟩ := tk_refs h q2
    exact ⟨b :: bs, rfl⟩
end
end Q
/-! Qe: comparisons, tests. -/
namespace Q
open PySem PySem.Spec PyProof.Rows L2
/-! ### data -/
mutual
theorem isD_lay : ∀ {n : Nat} {x : PV}, x.isD n = true → PyData.canLay0 x.toD = true ∧ x.toD.depth ≤ n
  | n, .non, _ => by simp [PV.toD, PyData.canLay0, PyData.depth]
  | n, .bl _, _ => by simp [PV.toD, PyData.canLay0, PyData.depth]
  | n, .int _, _ => by simp [PV.toD, PyData.canLay0, PyData.depth]
  | n, .str s, h => by
    simp only [PV.isD] at h
    exact ⟨h, by simp [PV.toD, PyData.depth]⟩
  | 0, .tup _, h => by simp [PV.isD] at h
  | n + 1, .tup xs, h => by
    simp only [PV.isD] at h
    obtain ⟨h1, h2⟩ := areD_lay h
    simp only [PV.toD, PyData.canLay0, PyData.depth]
    exact ⟨h1, by omega⟩
  | 0, .lst _, h => by simp [PV.isD] at h
  | n + 1, .lst xs, h => by
    simp only [PV.isD] at h
    obtain ⟨h1, h2⟩ := areD_lay h
    simp only [PV.toD, PyData.canLay0, PyData.depth]
    exact ⟨h1, by omega⟩
  | n, .dct _ _, h => by simp [PV.isD] at h
  | n, .ins _ _ _, h => by simp [PV.isD] at h
  | n, .ref _, h => by simp [PV.isD] at h
theorem areD_lay : ∀ {n : Nat} {xs : List PV}, areD n xs = true → PyData.canLayAll0 (toDs xs) = true ∧ PyData.depthAll (toDs xs) ≤ n
  | n, [], _ => by simp [toDs, PyData.canLayAll0, PyData.depthAll]
  | n, x :: xs, h => by
    simp only [areD, Bool.and_eq_true] at h
    obtain ⟨h1, h2⟩ := isD_lay h.1
    obtain ⟨h3, h4⟩ := areD_lay h.2
    simp only [toDs, PyData.canLayAll0, PyData.depthAll, Bool.and_eq_true]
    exact ⟨⟨h1, h3⟩, by omega⟩
end
theorem isD_shaped {x : PV} (h : x.isD deep = true) : SeqAt.shaped x.toD = true := by
  obtain ⟨h1, h2⟩ := isD_lay h
  show (_ && decide _) = true
  rw [Bool.and_eq_true]
  exact ⟨h1, decide_eq_true (Nat.le_trans h2 (by decide))⟩
theorem areD_shapedT {xs : List PV} (h : areD deep xs = true) : SeqAt.shaped (.tuple (toDs xs)) = true := by
  obtain ⟨h1, h2⟩ := areD_lay h
  show (_ && decide _) = true
  rw [Bool.and_eq_true]
  simp only [PyData.canLay0, PyData.depth]
  exact ⟨h1, decide_eq_true (Nat.le_trans (Nat.add_le_add_right h2 1) (by decide))⟩
theorem areD_shapedL {xs : List PV} (h : areD deep xs = true) : SeqAt.shaped (.list (toDs xs)) = true := by
  obtain ⟨h1, h2⟩ := areD_lay h
  show (_ && decide _) = true
  rw [Bool.and_eq_true]
  simp only [PyData.canLay0, PyData.depth]
  exact ⟨h1, decide_eq_true (Nat.le_trans (Nat.add_le_add_right h2 1) (by decide))⟩
mutual
theorem Rep.dp {C : RC} {B : Addr → Prop} {r : List Addr} {H : Hp} : ∀ {n : Nat} {t : PV} {v : V}, t.isD n = true → Rep C B r H t v → Dp C.K H v t.toD
  | _, .non, _, _, h => by simp only [Rep] at h; subst h; exact .non
  | _, .bl _, _, _, h => by simp only [Rep] at h; subst h; exact .bl _
  | _, .int _, _, _, h => by simp only [Rep] at h; subst h; exact .int _
  | _, .str _, _, _, h => by simp only [Rep] at h; subst h; exact .str _
  | 0, .tup _, _, d, _ => by simp [PV.isD] at d
  | n + 1, .tup xs, v, d, h => by
    simp only [PV.isD] at d
    simp only [Rep] at h
    obtain ⟨a, vs, rfl, s, q⟩ := h
    simp only [PV.toD]
    exact .tup s (Reps.dp d q)
  | 0, .lst _, _, d, _ => by simp [PV.isD] at d
  | n + 1, .lst xs, v, d, h => by
    simp only [PV.isD] at d
    simp only [Rep] at h
    obtain ⟨a, vs, rfl, s, q⟩ := h
    simp only [PV.toD]
    exact .lst (.of s.1) (Reps.dp d q)
  | _, .dct _ _, _, d, _ => by simp [PV.isD] at d
  | _, .ins _ _ _, _, d, _ => by simp [PV.isD] at d
  | _, .ref _, _, d, _ => by simp [PV.isD] at d
theorem Reps.dp {C : RC} {B : Addr → Prop} {r : List Addr} {H : Hp} : ∀ {n : Nat} {t : List PV} {v : List V}, areD n t = true → Reps C B r H t v → DpAll C.K H v (toDs t)
  | _, [], _, _, h => by simp only [Reps] at h; subst h; exact .nil
  | n, x :: xs, _, d, h => by
    simp only [areD, Bool.and_eq_true] at d
    simp only [Reps] at h
    obtain ⟨v, vr, rfl, h1, h2⟩ := h
    exact .cons (Rep.dp d.1 h1) (Reps.dp d.2 h2)
end
theorem RepP.dp {C : RC} {B : Addr → Prop} {r : List Addr} {H : Hp} {n : Nat} {t : PV} {v : V} (d : t.isD n = true) (h : RepP C B r H t v) : Dp C.K H v t.toD := by
  cases t with
  | lst xs =>
    obtain ⟨a, vs, rfl, s, q⟩ := h
    cases n with
    | zero => simp [PV.isD] at d
    | succ n =>
      simp only [PV.isD] at d
      simp only [PV.toD]
      exact .lst (.of s.1) (Reps.dp d q)
  | dct _ _ => simp [PV.isD] at d
  | _ => exact Rep.dp (B := B) (r := r) d h
mutual
theorem peq_eqv : ∀ {n m : Nat} {x y : PV}, x.isD n = true → y.isD m = true → peq x y = PyData.eqv x.toD y.toD
  | n, m, .non, y, _, h => by cases y <;> simp only [peq, PV.toD, PyData.eqv] <;> simp_all [PV.isD]
  | n, m, .bl a, y, _, h => by cases y <;> simp only [peq, PV.toD, PyData.eqv] <;> simp_all [PV.isD]
  | n, m, .int a, y, _, h => by cases y <;> simp only [peq, PV.toD, PyData.eqv] <;> simp_all [PV.isD]
  | n, m, .str a, y, _, h => by cases y <;> simp only [peq, PV.toD, PyData.eqv] <;> simp_all [PV.isD]
  | 0, m, .tup _, y, d, h => by simp [PV.isD] at d
  | n + 1, m, .tup xs, y, d, h => by
    simp only [PV.isD] at d
    cases y with
    | tup ys =>
      cases m with
      | zero => simp [PV.isD] at h
      | succ m =>
        simp only [PV.isD] at h
        simp only [peq, PV.toD, PyData.eqv]
        exact peqs_eqv d h
    | dct _ _ => simp [PV.isD] at h
    | ins _ _ _ => simp [PV.isD] at h
    | ref _ => simp [PV.isD] at h
    | _ => simp only [peq, PV.toD, PyData.eqv]
  | 0, m, .lst _, y, d, h => by simp [PV.isD] at d
  | n + 1, m, .lst xs, y, d, h => by
    simp only [PV.isD] at d
    cases y with
    | lst ys =>
      cases m with
      | zero => simp [PV.isD] at h
      | succ m =>
        simp only [PV.isD] at h
        simp only [peq, PV.toD, PyData.eqv]
        exact peqs_eqv d h
    | dct _ _ => simp [PV.isD] at h
    | ins _ _ _ => simp [PV.isD] at h
    | ref _ => simp [PV.isD] at h
    | _ => simp only [peq, PV.toD, PyData.eqv]
  | n, m, .dct _ _, y, d, h => by simp [PV.isD] at d
  | n, m, .ins _ _ _, y, d, h => by simp [PV.isD] at d
  | n, m, .ref _, y, d, h => by simp [PV.isD] at d
theorem peqs_eqv : ∀ {n m : Nat} {xs ys : List PV}, areD n xs = true → areD m ys = true → peqs xs ys = PyData.eqvAll (toDs xs) (toDs ys)
  | n, m, [], ys, _, _ => by cases ys <;> simp only [peqs, toDs, PyData.eqvAll]
  | n, m, x :: xs, ys, d, h => by
    cases ys with
    | nil => simp only [peqs, toDs, PyData.eqvAll]
    | cons y ys =>
      simp only [areD, Bool.and_eq_true] at d h
      simp only [peqs, toDs, PyData.eqvAll]
      rw [peq_eqv d.1 h.1, peqs_eqv d.2 h.2]
end
theorem any_eqv {n m : Nat} {x : PV} (hx : x.isD n = true) : ∀ {ys : List PV}, areD m ys = true → (ys.any fun y => peq y x) = ((toDs ys).any fun y => PyData.eqv y x.toD)
  | [], _ => rfl
  | y :: ys, h => by
    simp only [areD, Bool.and_eq_true] at h
    simp only [List.any_cons, toDs]
    rw [peq_eqv h.1 hx, any_eqv hx h.2]

/-! ### in -/
def rInA (K : PySem.W.Frag) (P : Program) (w : World) (neg : Bool) : R2 := fun x y H Q => rInDn K P w neg x y H Q ∨ ∃ d ds, Dp K H x d ∧ (Dp K H y (.tuple ds) ∨ Dp K H y (.list ds)) ∧ SeqAt.shaped d = true ∧ SeqAt.shaped (.list ds) = true ∧ Q (.bl (if neg then !(ds.any fun z => PyData.eqv z d) else ds.any fun z => PyData.eqv z d)) H
theorem room_in {A : Around} {d : PyData} {ds : List PyData} (sd : SeqAt.shaped d = true) (hu : A.units + 65 < cLine) : A.units + 1 + min (PyData.depthAll ds) d.depth < cLine := by
  have h1 := SeqAt.depth_of_shaped sd
  have h2 : min (PyData.depthAll ds) d.depth ≤ d.depth := Nat.min_le_right _ _
  omega
section
variable {X : Cx} {c : Cn} {e a b d : Expr} {es : List Expr} {ma mb md : SE} {ba bb : SB} {m : SA} {pos : Pos}
theorem op_inA (hu : X.A.units + 65 < cLine) : OpR X (compareOp .In) (rInA X.K X.prog X.w false) := by
  intro pins s σ H x y v u Q I rx ry h
  rcases h with h | h
  · exact op_inDn (by omega) pins s σ H x y v u Q I rx ry h
  obtain ⟨d, ds, hd, he, sd, se, q⟩ := h
  obtain ⟨as, r1⟩ := Dp.reads I d x v hd rx
  rcases he with he | he
  · obtain ⟨bs, r2⟩ := Dp.reads I (.tuple ds) y u he ry
    exact SeqAt.in_tuple_reads r2 r1 (SeqAt.canLay_of_shaped se) (SeqAt.canLay_of_shaped sd) (room_in sd hu) ⟨.bl _, H, I, rfl, q⟩
  · obtain ⟨bs, r2⟩ := Dp.reads I (.list ds) y u he ry
    exact SeqAt.in_list_reads r2 r1 (SeqAt.canLay_of_shaped se) (SeqAt.canLay_of_shaped sd) (room_in sd hu) ⟨.bl _, H, I, rfl, q⟩
theorem op_ninA (hu : X.A.units + 65 < cLine) : OpR X (compareOp .NotIn) (rInA X.K X.prog X.w true) := by
  intro pins s σ H x y v u Q I rx ry h
  rcases h with h | h
  · exact op_ninDn (by omega) pins s σ H x y v u Q I rx ry h
  obtain ⟨d, ds, hd, he, sd, se, q⟩ := h
  obtain ⟨as, r1⟩ := Dp.reads I d x v hd rx
  rcases he with he | he
  · obtain ⟨bs, r2⟩ := Dp.reads I (.tuple ds) y u he ry
    exact SeqAt.notIn_tuple_reads r2 r1 (SeqAt.canLay_of_shaped se) (SeqAt.canLay_of_shaped sd) (room_in sd hu) ⟨.bl _, H, I, rfl, q⟩
  · obtain ⟨bs, r2⟩ := Dp.reads I (.list ds) y u he ry
    exact SeqAt.notIn_list_reads r2 r1 (SeqAt.canLay_of_shaped se) (SeqAt.canLay_of_shaped sd) (room_in sd hu) ⟨.bl _, H, I, rfl, q⟩

/-! ### what a comparison's rule asks, for trees -/
def CmT (c : Cn) (o : Cm) (r : R2) : Prop := ∀ (M : Addr → Prop) (H : Hp) (x y : PV) (k : Bool) (v w : V) (q : VK), o.on x y = some k → c.RP M H x v → c.RP M H y w → q (.bl k) H → r v w H q
theorem cm_eq : CmT c .eq (rEqD c.C.K) := by
  intro M H x y k v w q e r1 r2 h
  simp only [Cm.on] at e
  obtain ⟨p, rfl⟩ := if_some e
  rw [Bool.and_eq_true] at p
  exact ⟨_, _, r1.dp p.1, r2.dp p.2, isD_shaped p.1, isD_shaped p.2, by rw [← peq_eqv p.1 p.2]; exact h⟩
theorem cm_ne : CmT c .ne (rNeD c.C.K) := by
  intro M H x y k v w q e r1 r2 h
  simp only [Cm.on] at e
  obtain ⟨p, rfl⟩ := if_some e
  rw [Bool.and_eq_true] at p
  exact ⟨_, _, r1.dp p.1, r2.dp p.2, isD_shaped p.1, isD_shaped p.2, by rw [← peq_eqv p.1 p.2]; exact h⟩
theorem rp_key {M : Addr → Prop} {H : Hp} {ks : List PV} {x : PV} {v : V} (ok : dOk ks x = true) (h : c.RP M H x v) : c.R M H x v := by
  rcases dOk_cases ok with ⟨_, k, _, e⟩ | ⟨_, k, _, e⟩
  · rcases fkey_some e with ⟨i, rfl, _⟩ | ⟨s, rfl, _⟩ <;> exact h
  · obtain ⟨xs, rfl, _⟩ := tkey_some e; exact h
theorem rp_dct {M : Addr → Prop} {H : Hp} {ks vs : List PV} {v : V} (h : c.RP M H (.dct ks vs) v) : ∃ a kw vw, v = .ref a ∧ a ∉ c.r ∧ DO c.C.P c.C.w a (H a) ks kw vw ∧ c.Rs M H ks kw ∧ c.Rs M H vs vw := h
theorem fnd_isSome {C : RC} {B : Addr → Prop} {r : List Addr} {H : Hp} {o : Option PV} {u : Option V} (h : Fnd C B r H o u) : u.isSome = o.isSome := by
  cases o with
  | none => rw [show u = none from h]; rfl
  | some t => obtain ⟨v, rfl, _⟩ := h; rfl
theorem cm_inD {M : Addr → Prop} {H : Hp} {x : PV} {ks vs : List PV} {k : Bool} {v w : V} (e : inV x (.dct ks vs) = some k) (r1 : c.RP M H x v) (r2 : c.RP M H (.dct ks vs) w) : ∃ a u, w = .ref a ∧ DLv c.C.K c.C.P c.C.w H a v u ∧ u.isSome = k := by
  rw [inV_dct] at e
  obtain ⟨ok, rfl⟩ := if_some e
  obtain ⟨a, kw, vw, rfl, _, d, q1, q2⟩ := rp_dct r2
  obtain ⟨u, g, f⟩ := dct_look d q1 q2 ok (rp_key ok r1)
  exact ⟨a, u, rfl, g, fnd_isSome f⟩
theorem cm_inV {M : Addr → Prop} {H : Hp} {x y : PV} {k : Bool} {v w : V} (nd : ∀ ks vs, y ≠ .dct ks vs) (e : inV x y = some k) (r1 : c.RP M H x v) (r2 : c.RP M H y w) :
    ∃ d ds, Dp c.C.K H v d ∧ (Dp c.C.K H w (.tuple ds) ∨ Dp c.C.K H w (.list ds)) ∧ SeqAt.shaped d = true ∧ SeqAt.shaped (.list ds) = true ∧ (ds.any fun z => PyData.eqv z d) = k := by
  unfold inV at e
  split at e
  · rename_i ys
    obtain ⟨p, rfl⟩ := if_some e
    rw [Bool.and_eq_true] at p
    have d : PV.isD (deep + 1) (.tup ys) = true := by simp only [PV.isD]; exact p.2
    exact ⟨_, _, r1.dp p.1, .inl (by have z := r2.dp d; simp only [PV.toD] at z; exact z), isD_shaped p.1, areD_shapedL p.2, by rw [← any_eqv p.1 p.2]⟩
  · rename_i ys
    obtain ⟨p, rfl⟩ := if_some e
    rw [Bool.and_eq_true] at p
    have d : PV.isD (deep + 1) (.lst ys) = true := by simp only [PV.isD]; exact p.2
    exact ⟨_, _, r1.dp p.1, .inr (by have z := r2.dp d; simp only [PV.toD] at z; exact z), isD_shaped p.1, areD_shapedL p.2, by rw [← any_eqv p.1 p.2]⟩
  · exact absurd rfl (nd _ _)
  · exact nomatch e
theorem map_not {o : Option Bool} {k : Bool} (h : o.map (!·) = some k) : ∃ j, o = some j ∧ k = !j := by
  cases o with
  | none => exact nomatch h
  | some j => exact ⟨j, rfl, (Option.some.inj h).symm⟩
theorem dct_or (y : PV) : (∃ ks vs, y = .dct ks vs) ∨ ∀ ks vs, y ≠ .dct ks vs := by
  cases y with
  | dct ks vs => exact .inl ⟨ks, vs, rfl⟩
  | _ => exact .inr fun ks vs e => nomatch e
theorem cm_in : CmT c .isin (rInA c.C.K c.C.P c.C.w false) := by
  intro M H x y k v w q e r1 r2 h
  rcases dct_or y with ⟨ks, vs, rfl⟩ | nd
  · obtain ⟨a, u, rfl, g, rfl⟩ := cm_inD e r1 r2
    exact .inl ⟨a, u, rfl, g, h⟩
  obtain ⟨d, ds, h1, h2, h3, h4, rfl⟩ := cm_inV nd e r1 r2
  exact .inr ⟨d, ds, h1, h2, h3, h4, h⟩
theorem cm_nin : CmT c .notin (rInA c.C.K c.C.P c.C.w true) := by
  intro M H x y k v w q e r1 r2 h
  obtain ⟨j, e', rfl⟩ := map_not e
  rcases dct_or y with ⟨ks, vs, rfl⟩ | nd
  · obtain ⟨a, u, rfl, g, rfl⟩ := cm_inD e' r1 r2
    exact .inl ⟨a, u, rfl, g, h⟩
  obtain ⟨d, ds, h1, h2, h3, h4, rfl⟩ := cm_inV nd e' r1 r2
  exact .inr ⟨d, ds, h1, h2, h3, h4, h⟩
mutual
theorem pal_alike : ∀ {n m : Nat} {x y : PV}, x.isD n = true → y.isD m = true → pal x y = PySem.W.alike x.toD y.toD
  | n, m, .non, y, _, h => by cases y <;> simp only [pal, PV.toD, PySem.W.alike] <;> simp_all [PV.isD]
  | n, m, .bl a, y, _, h => by cases y <;> simp only [pal, PV.toD, PySem.W.alike] <;> simp_all [PV.isD]
  | n, m, .int a, y, _, h => by cases y <;> simp only [pal, PV.toD, PySem.W.alike] <;> simp_all [PV.isD]
  | n, m, .str a, y, _, h => by cases y <;> simp only [pal, PV.toD, PySem.W.alike] <;> simp_all [PV.isD]
  | 0, m, .tup _, y, d, h => by simp [PV.isD] at d
  | n + 1, m, .tup xs, y, d, h => by
    simp only [PV.isD] at d
    cases y with
    | tup ys =>
      cases m with
      | zero => simp [PV.isD] at h
      | succ m =>
        simp only [PV.isD] at h
        simp only [pal, PV.toD, PySem.W.alike]
        exact pals_alike d h
    | dct _ _ => simp [PV.isD] at h
    | ins _ _ _ => simp [PV.isD] at h
    | ref _ => simp [PV.isD] at h
    | _ => simp only [pal, PV.toD, PySem.W.alike]
  | 0, m, .lst _, y, d, h => by simp [PV.isD] at d
  | n + 1, m, .lst xs, y, d, h => by
    simp only [PV.isD] at d
    cases y with
    | lst ys =>
      cases m with
      | zero => simp [PV.isD] at h
      | succ m =>
        simp only [PV.isD] at h
        simp only [pal, PV.toD, PySem.W.alike]
        exact pals_alike d h
    | dct _ _ => simp [PV.isD] at h
    | ins _ _ _ => simp [PV.isD] at h
    | ref _ => simp [PV.isD] at h
    | _ => simp only [pal, PV.toD, PySem.W.alike]
  | n, m, .dct _ _, y, d, h => by simp [PV.isD] at d
  | n, m, .ins _ _ _, y, d, h => by simp [PV.isD] at d
  | n, m, .ref _, y, d, h => by simp [PV.isD] at d
theorem pals_alike : ∀ {n m : Nat} {xs ys : List PV}, areD n xs = true → areD m ys = true → pals xs ys = PySem.W.alikeAll (toDs xs) (toDs ys)
  | n, m, [], ys, _, _ => by cases ys <;> simp only [pals, toDs, PySem.W.alikeAll]
  | n, m, x :: xs, ys, d, h => by
    cases ys with
    | nil => simp only [pals, toDs, PySem.W.alikeAll]
    | cons y ys =>
      simp only [areD, Bool.and_eq_true] at d h
      simp only [pals, toDs, PySem.W.alikeAll]
      rw [pal_alike d.1 h.1, pals_alike d.2 h.2]
end
mutual
theorem plt_data : ∀ {n m : Nat} {x y : PV}, x.isD n = true → y.isD m = true → pal x y = true → plt x y = PySem.W.dataLt x.toD y.toD
  | n, m, .non, y, _, h, p => by cases y <;> simp only [pal, Bool.false_eq_true] at p; rfl
  | n, m, .bl a, y, _, h, p => by
    cases y <;> simp only [pal, Bool.false_eq_true] at p
    rename_i b
    simp only [plt, PV.toD]
    rw [PySem.W.dataLt_bool]; cases a <;> cases b <;> rfl
  | n, m, .int a, y, _, h, p => by
    cases y <;> simp only [pal, Bool.false_eq_true] at p
    simp only [plt, PV.toD]
    rw [PySem.W.dataLt_int]
  | n, m, .str a, y, _, h, p => by
    cases y <;> simp only [pal, Bool.false_eq_true] at p
    simp only [plt, PV.toD]
    rw [PySem.W.dataLt_str]
  | 0, m, .tup _, y, d, h, p => by simp [PV.isD] at d
  | n + 1, m, .tup xs, y, d, h, p => by
    simp only [PV.isD] at d
    cases y with
    | tup ys =>
      cases m with
      | zero => simp [PV.isD] at h
      | succ m =>
        simp only [PV.isD] at h
        simp only [pal] at p
        simp only [plt, PV.toD]
        rw [PySem.W.dataLt_tuple]
        exact plts_data d h p
    | _ => simp [pal] at p
  | 0, m, .lst _, y, d, h, p => by simp [PV.isD] at d
  | n + 1, m, .lst xs, y, d, h, p => by
    simp only [PV.isD] at d
    cases y with
    | lst ys =>
      cases m with
      | zero => simp [PV.isD] at h
      | succ m =>
        simp only [PV.isD] at h
        simp only [pal] at p
        simp only [plt, PV.toD]
        rw [PySem.W.dataLt_list]
        exact plts_data d h p
    | _ => simp [pal] at p
  | n, m, .dct _ _, y, d, h, p => by simp [PV.isD] at d
  | n, m, .ins _ _ _, y, d, h, p => by simp [PV.isD] at d
  | n, m, .ref _, y, d, h, p => by simp [PV.isD] at d
theorem plts_data : ∀ {n m : Nat} {xs ys : List PV}, areD n xs = true → areD m ys = true → pals xs ys = true → plts xs ys = PyProof.Rows.lexLt PyProof.Rows.itemOrd (PySem.W.keyToksAll (toDs xs)) (PySem.W.keyToksAll (toDs ys))
  | n, m, [], ys, _, _, _ => by cases ys <;> rfl
  | n, m, x :: xs, ys, d, h, p => by
    cases ys with
    | nil => rfl
    | cons y ys =>
      simp only [areD, Bool.and_eq_true] at d h
      simp only [pals, Bool.and_eq_true] at p
      have al : PySem.W.alike x.toD y.toD = true := by rw [← pal_alike d.1 h.1]; exact p.1
      simp only [plts, toDs]
      rw [PySem.W.dataLt_cons al, peq_eqv d.1 h.1, plts_data d.2 h.2 p.2, plt_data d.1 h.1 p.1]
end
theorem toD_none {x : PV} (h : x.isNon' = false) (d : x.isD 60 = true) : x.toD ≠ .none := by
  cases x <;> simp only [PV.toD] <;> simp_all [PV.isNon', PV.isD]
theorem ltO_some {f : PV → PV → Bool} {x y : PV} {k : Bool} (h : ltO f x y = some k) : x.isD 60 = true ∧ y.isD 60 = true ∧ pal x y = true ∧ x.isNon' = false ∧ k = f x y := by
  unfold ltO at h
  obtain ⟨p, rfl⟩ := if_some h
  simp only [Bool.and_eq_true, Bool.not_eq_true'] at p
  exact ⟨p.1.1.1, p.1.1.2, p.1.2, p.2, rfl⟩
theorem pal_comm {x y : PV} (h1 : x.isD 60 = true) (h2 : y.isD 60 = true) (h : pal x y = true) : pal y x = true := by
  rw [pal_alike h2 h1, PySem.W.alike_comm, ← pal_alike h1 h2]; exact h
theorem cmpD_of {M : Addr → Prop} {H : Hp} {f : PV → PV → Bool} {x y : PV} {k : Bool} {v w : V} (e : ltO f x y = some k) (r1 : c.RP M H x v) (r2 : c.RP M H y w) : CmpD c.C.K H v w x.toD y.toD ∧ k = f x y ∧ plt x y = PySem.W.dataLt x.toD y.toD ∧ plt y x = PySem.W.dataLt y.toD x.toD := by
  obtain ⟨h1, h2, h3, h4, h5⟩ := ltO_some e
  exact ⟨⟨r1.dp h1, r2.dp h2, by rw [← pal_alike h1 h2]; exact h3, toD_none h4 h1, (isD_lay h1).2⟩, h5, plt_data h1 h2 h3, plt_data h2 h1 (pal_comm h1 h2 h3)⟩
theorem or_some {α : Type} {o u : Option α} {k : α} (h : o.or u = some k) : o = some k ∨ u = some k := by
  cases o with
  | none => exact .inr h
  | some a => exact .inl h
theorem cm_ord {o : Cm} {g : Int → Int → Bool} {f : PV → PV → Bool} {fd : PyData → PyData → Bool} (ho : ∀ x y, o.on x y = (cmI g x y).or (ltO f x y)) (hf : ∀ x y, plt x y = PySem.W.dataLt x.toD y.toD → plt y x = PySem.W.dataLt y.toD x.toD → f x y = fd x.toD y.toD) : CmT c o (fun x y H Q => rI0 (fun i j => .bl (g i j)) x y H Q ∨ rCmpD c.C.K fd x y H Q) := by
  intro M H x y k v w q e r1 r2 h
  rw [ho] at e
  rcases or_some e with e | e
  · unfold cmI at e
    split at e
    · cases e
      exact .inl ⟨_, _, rp_int r1, rp_int r2, h⟩
    · exact nomatch e
  · obtain ⟨h1, rfl, h3, h4⟩ := cmpD_of e r1 r2
    exact .inr ⟨_, _, h1, by rw [← hf x y h3 h4]; exact h⟩
abbrev rLt (K : PySem.W.Frag) : R2 := fun x y H Q => rI0 (fun i j => .bl (decide (i < j))) x y H Q ∨ rCmpD K (fun d e => PySem.W.dataLt d e) x y H Q
abbrev rLe (K : PySem.W.Frag) : R2 := fun x y H Q => rI0 (fun i j => .bl (decide (i ≤ j))) x y H Q ∨ rCmpD K (fun d e => !PySem.W.dataLt e d) x y H Q
abbrev rGt (K : PySem.W.Frag) : R2 := fun x y H Q => rI0 (fun i j => .bl (decide (j < i))) x y H Q ∨ rCmpD K (fun d e => PySem.W.dataLt e d) x y H Q
abbrev rGe (K : PySem.W.Frag) : R2 := fun x y H Q => rI0 (fun i j => .bl (decide (j ≤ i))) x y H Q ∨ rCmpD K (fun d e => !PySem.W.dataLt d e) x y H Q
theorem cm_lt : CmT c .lt (rLt c.C.K) := cm_ord (fun _ _ => rfl) fun x y h1 h2 => h1
theorem cm_le : CmT c .le (rLe c.C.K) := cm_ord (fun _ _ => rfl) fun x y h1 h2 => by rw [h2]
theorem cm_gt : CmT c .gt (rGt c.C.K) := cm_ord (fun _ _ => rfl) fun x y h1 h2 => h2
theorem cm_ge : CmT c .ge (rGe c.C.K) := cm_ord (fun _ _ => rfl) fun x y h1 h2 => by rw [h1]
theorem rp_non {M : Addr → Prop} {H : Hp} {x : PV} {v : V} (h : c.RP M H x v) : decide (v = .non) = x.isNon := by
  cases x with
  | non => simp only [Cn.RP, RepP, RepM, Rep] at h; subst h; rfl
  | bl _ => simp only [Cn.RP, RepP, RepM, Rep] at h; subst h; rfl
  | int _ => simp only [Cn.RP, RepP, RepM, Rep] at h; subst h; rfl
  | str _ => simp only [Cn.RP, RepP, RepM, Rep] at h; subst h; rfl
  | tup _ => obtain ⟨a, vs, rfl, _⟩ := rp_tup h; rfl
  | lst _ => obtain ⟨a, vs, rfl, _⟩ := rp_lst h; rfl
  | dct _ _ => obtain ⟨a, _, _, rfl, _⟩ := h; rfl
  | ins _ _ _ => simp only [Cn.RP, RepP, RepM, Rep] at h; obtain ⟨a, _, _, rfl, _⟩ := h; rfl
  | ref _ => simp only [Cn.RP, RepP, RepM, Rep] at h; obtain ⟨a, rfl, _⟩ := h; rfl
theorem isNo_some {x y : PV} {k : Bool} (h : isNo x y = some k) : y = .non ∧ k = x.isNon := by
  unfold isNo at h
  split at h
  · exact ⟨rfl, (Option.some.inj h).symm⟩
  · cases h
theorem cm_isN : CmT c .isN (fun x y H Q => y = .non ∧ Q (.bl (decide (x = .non))) H) := by
  intro M H x y k v w q e r1 r2 h
  obtain ⟨rfl, rfl⟩ := isNo_some e
  refine ⟨by simpa only [Cn.RP, RepP, RepM, Rep] using r2, ?_⟩
  rw [rp_non r1]; exact h
theorem cm_notN : CmT c .notN (fun x y H Q => y = .non ∧ Q (.bl (!decide (x = .non))) H) := by
  intro M H x y k v w q e r1 r2 h
  obtain ⟨j, e', rfl⟩ := map_not e
  obtain ⟨rfl, rfl⟩ := isNo_some e'
  refine ⟨by simpa only [Cn.RP, RepP, RepM, Rep] using r2, ?_⟩
  rw [rp_non r1]; exact h
theorem cmB_some {f : Bool → Bool → Bool} {x y : PV} {k : Bool} (h : cmB f x y = some k) : ∃ a b, x = .bl a ∧ y = .bl b ∧ k = f a b := by
  unfold cmB at h
  split at h
  · exact ⟨_, _, rfl, rfl, (Option.some.inj h).symm⟩
  · exact nomatch h
theorem cm_isBl : CmT c .isBl rIsB := by
  intro M H x y k v w q e r1 r2 h
  obtain ⟨a, b, rfl, rfl, rfl⟩ := cmB_some e
  exact ⟨_, _, rp_bl r1, rp_bl r2, h⟩
theorem cm_notBl : CmT c .notBl rNotB := by
  intro M H x y k v w q e r1 r2 h
  obtain ⟨a, b, rfl, rfl, rfl⟩ := cmB_some e
  exact ⟨_, _, rp_bl r1, rp_bl r2, h⟩

/-! ### rules -/
theorem PoE.of {α β : Type} {M : Addr → Prop} {S : Sto} {H : Hp} {o : Option α} {R : Hp → α → β → Prop} {q : β → Hp → Prop} (h : PoE c M H (Re.of o S) R q) : ∃ t, o = some t ∧ ∀ v H', Kp c.r H H' → c.St M S H' → R H' t v → q v H' := by
  cases o with
  | none => exact h.elim
  | some t => exact ⟨t, rfl, h⟩
theorem bt_cm {op : CmpOp} {o : Cm} {r : R2} (ht : CmT c o r) (hr : OpR X (compareOp op) r) (ha : PE X a (LP c ma)) (hb : PE X b (LP c mb)) (hm : behindInMarks op b = false) : PT X (.Compare a [op] [b] pos) (LB c (bCm o ma mb)) :=
  (pt_cmpR hr ha hb hm).w fun s H q ⟨M, S, fr, rs, h⟩ => by
    refine ⟨M, S, fr, rs, PoE.bind h fun x S1 v H1 k1 st1 r1 h1 => ?_⟩
    have rs1 := rs.step k1 st1
    refine ⟨M, S1, fr, rs1, PoE.bind h1 fun y S2 w H2 k2 st2 r2 h2 => ?_⟩
    obtain ⟨k, e, h3⟩ := h2.of
    exact ht M H2 x y k v w _ e (r1.k k2 rs.rb) r2 ⟨k, rfl, h3 k H2 .refl st2 rfl⟩
theorem be_cm {op : CmpOp} {o : Cm} {r : R2} (ht : CmT c o r) (hr : OpR X (compareOp op) r) (ha : PE X a (LP c ma)) (hb : PE X b (LP c mb)) (hm : behindInMarks op b = false) : PE X (.Compare a [op] [b] pos) (LE c (eB (bCm o ma mb))) :=
  (pe_cmpR hr ha hb hm).w fun s H q ⟨M, S, fr, rs, h⟩ => by
    simp only [eB, bCm, Re.bind_assoc] at h
    refine ⟨M, S, fr, rs, PoE.bind h fun x S1 v H1 k1 st1 r1 h1 => ?_⟩
    have rs1 := rs.step k1 st1
    refine ⟨M, S1, fr, rs1, PoE.bind h1 fun y S2 w H2 k2 st2 r2 h2 => ?_⟩
    cases e : o.on x y with
    | none => rw [e] at h2; exact h2.elim
    | some k =>
      rw [e] at h2
      exact ht M H2 x y k v w _ e (r1.k k2 rs.rb) r2 (h2 _ H2 .refl st2 (.flat rfl))
end
end Q
/-! Qf: chains, and, or, not, if; displays; subscripts; built-ins. -/
namespace Q
open PySem PySem.Spec PyProof.Rows L2
section
variable {X : Cx} {c : Cn} {e a b d : Expr} {es rest : List Expr} {ma mb md : SE} {ba bb : SB} {m : SA} {pos : Pos}

theorem be_ch {op op' : CmpOp} {o o' : Cm} {r r' : R2} (ht : CmT c o r) (ht' : CmT c o' r') (hr : OpR X (compareOp op) r) (hr' : OpR X (compareOp op') r') (ha : PE X a (LP c ma)) (hb : PE X b (LP c mb)) (hd : PE X d (LP c md))
    (hm : lastMarks [op, op'] [b, d] = false) : PE X (.Compare a [op, op'] [b, d] pos) (LE c (eB (bCh o o' ma mb md))) :=
  (pe_chain hr hr' ha hb hd hm).w fun s H q ⟨M, S, fr, rs, h⟩ => by
    simp only [eB, bCh, Re.bind_assoc] at h
    refine ⟨M, S, fr, rs, PoE.bind h fun x S1 v H1 k1 st1 r1 h1 => ?_⟩
    have rs1 := rs.step k1 st1
    refine ⟨M, S1, fr, rs1, PoE.bind h1 fun y S2 w H2 k2 st2 r2 h2 => ?_⟩
    have rs2 := rs1.step k2 st2
    cases e : o.on x y with
    | none => rw [e] at h2; exact h2.elim
    | some k =>
      rw [e] at h2
      refine ht M H2 x y k v w _ e (r1.k k2 rs.rb) r2 ⟨k, rfl, ?_⟩
      cases k with
      | false =>
        rw [if_neg (by decide)]
        exact h2 (.bl false) H2 .refl st2 (.flat rfl)
      | true =>
        rw [if_pos rfl]
        simp only [Re.of_some, Re.bind_ok, if_true] at h2
        rw [Re.bind_assoc] at h2
        refine ⟨M, S2, fr, rs2, PoE.bind h2 fun z S3 u H3 k3 st3 r3 h3 => ?_⟩
        cases e : o'.on y z with
        | none => rw [e] at h3; exact h3.elim
        | some k =>
          rw [e] at h3
          exact ht' M H3 y z k w u _ e (r2.k k3 rs.rb) r3 (h3 _ H3 .refl st3 (.flat rfl))
theorem bt_ch {op op' : CmpOp} {o o' : Cm} {r r' : R2} (ht : CmT c o r) (ht' : CmT c o' r') (hr : OpR X (compareOp op) r) (hr' : OpR X (compareOp op') r') (ha : PE X a (LP c ma)) (hb : PE X b (LP c mb)) (hd : PE X d (LP c md))
    (hm : lastMarks [op, op'] [b, d] = false) : PT X (.Compare a [op, op'] [b, d] pos) (LB c (bCh o o' ma mb md)) :=
  (pt_chain hr hr' ha hb hd hm).w fun s H q ⟨M, S, fr, rs, h⟩ => by
    simp only [bCh] at h
    refine ⟨M, S, fr, rs, PoE.bind h fun x S1 v H1 k1 st1 r1 h1 => ?_⟩
    have rs1 := rs.step k1 st1
    refine ⟨M, S1, fr, rs1, PoE.bind h1 fun y S2 w H2 k2 st2 r2 h2 => ?_⟩
    have rs2 := rs1.step k2 st2
    cases e : o.on x y with
    | none => rw [e] at h2; exact h2.elim
    | some k =>
      rw [e] at h2
      refine ht M H2 x y k v w _ e (r1.k k2 rs.rb) r2 ⟨k, rfl, ?_⟩
      cases k with
      | false =>
        rw [if_neg (by decide)]
        exact ⟨false, rfl, h2 false H2 .refl st2 rfl⟩
      | true =>
        rw [if_pos rfl]
        simp only [Re.of_some, Re.bind_ok, if_true] at h2
        refine ⟨M, S2, fr, rs2, PoE.bind h2 fun z S3 u H3 k3 st3 r3 h3 => ?_⟩
        obtain ⟨k, e, h4⟩ := h3.of
        exact ht' M H3 y z k w u _ e (r2.k k3 rs.rb) r3 ⟨k, rfl, h4 k H3 .refl st3 rfl⟩

/-! ### and, or, not -/
theorem bt_and1 (ha : PT X a (LB c ba)) : PW X (.BoolOp .And [a] pos) (LB c ba) := pw_and1 ha
theorem bt_or1 (ha : PT X a (LB c ba)) : PW X (.BoolOp .Or [a] pos) (LB c ba) := pw_or1 ha
theorem bt_and (ha : PT X a (LB c ba)) (hb : PW X (.BoolOp .And (b :: rest) pos) (LB c bb)) : PW X (.BoolOp .And (a :: b :: rest) pos) (LB c (bAnd ba bb)) :=
  (pw_and ha hb).w fun s H q ⟨M, S, fr, rs, h⟩ => ⟨M, S, fr, rs, PoE.bind h fun k S1 k' H1 k1 st1 r1 h1 => by
    subst r1
    cases k' with
    | true => exact ⟨M, S1, fr, rs.step k1 st1, h1⟩
    | false => exact h1 false H1 .refl st1 rfl⟩
theorem bt_or (ha : PT X a (LB c ba)) (hb : PW X (.BoolOp .Or (b :: rest) pos) (LB c bb)) : PW X (.BoolOp .Or (a :: b :: rest) pos) (LB c (bOr ba bb)) :=
  (pw_or ha hb).w fun s H q ⟨M, S, fr, rs, h⟩ => ⟨M, S, fr, rs, PoE.bind h fun k S1 k' H1 k1 st1 r1 h1 => by
    subst r1
    cases k' with
    | false => exact ⟨M, S1, fr, rs.step k1 st1, h1⟩
    | true => exact h1 true H1 .refl st1 rfl⟩
theorem bt_not (ha : PT X a (LB c ba)) : PT X (.UnaryOp .Not a pos) (LB c (bNot ba)) :=
  (pt_not ha).w fun s H q ⟨M, S, fr, rs, h⟩ => ⟨M, S, fr, rs, PoE.bind h fun k S1 k' H1 k1 st1 r1 h1 => by
    subst r1
    exact h1 (!k') H1 .refl st1 rfl⟩
theorem bt_val (h : PE X e (LE c ma)) (he : ∀ whole, isTrue e X.env whole = (do let v ← whole; standAt e.pos; holding [v] (truthy v))) : PT X e (LB c (bE ma)) :=
  (pt_val h he).w fun s H q ⟨M, S, fr, rs, h⟩ => ⟨M, S, fr, rs, PoE.bind h fun x S1 v H1 k1 st1 r1 h1 => by
    cases x with
    | bl k => exact ⟨k, rp_bl (Rep.p rs.rb r1), h1 k H1 .refl st1 rfl⟩
    | _ => exact h1.elim⟩
theorem be_one {op} (h : PE X a (LE c ma)) : PE X (.BoolOp op [a] pos) (LE c ma) := pe_one h
theorem be_and (ha : PE X a (LE c ma)) (hb : PE X (.BoolOp .And (b :: rest) pos) (LE c mb)) : PE X (.BoolOp .And (a :: b :: rest) pos) (LE c (eAnd (bE ma) mb)) :=
  (pe_and ha hb).w fun s H q ⟨M, S, fr, rs, h⟩ => by
    simp only [eAnd, bE, Re.bind_assoc] at h
    exact ⟨M, S, fr, rs, PoE.bind h fun x S1 v H1 k1 st1 r1 h1 => by
      cases x with
      | bl k =>
        refine ⟨k, rp_bl (Rep.p rs.rb r1), ?_⟩
        cases k with
        | true => exact ⟨M, S1, fr, rs.step k1 st1, h1⟩
        | false => exact h1 _ H1 .refl st1 (.flat rfl)
      | _ => exact h1.elim⟩
theorem be_or (ha : PE X a (LE c ma)) (hb : PE X (.BoolOp .Or (b :: rest) pos) (LE c mb)) : PE X (.BoolOp .Or (a :: b :: rest) pos) (LE c (eOr (bE ma) mb)) :=
  (pe_or ha hb).w fun s H q ⟨M, S, fr, rs, h⟩ => by
    simp only [eOr, bE, Re.bind_assoc] at h
    exact ⟨M, S, fr, rs, PoE.bind h fun x S1 v H1 k1 st1 r1 h1 => by
      cases x with
      | bl k =>
        refine ⟨k, rp_bl (Rep.p rs.rb r1), ?_⟩
        cases k with
        | false => exact ⟨M, S1, fr, rs.step k1 st1, h1⟩
        | true => exact h1 _ H1 .refl st1 (.flat rfl)
      | _ => exact h1.elim⟩
theorem be_not (ha : PE X a (LE c ma)) : PE X (.UnaryOp .Not a pos) (LE c (eB (bNot (bE ma)))) :=
  (pe_not ha).w fun s H q ⟨M, S, fr, rs, h⟩ => by
    simp only [eB, bNot, bE, Re.bind_assoc] at h
    exact ⟨M, S, fr, rs, PoE.bind h fun x S1 v H1 k1 st1 r1 h1 => by
      cases x with
      | bl k => exact ⟨k, rp_bl (Rep.p rs.rb r1), h1 _ H1 .refl st1 (.flat rfl)⟩
      | _ => exact h1.elim⟩
theorem be_if (hc : PT X d (LB c ba)) (ha : PE X a (LE c ma)) (hb : PE X b (LE c mb)) : PE X (.IfExp d a b pos) (LE c (eIf ba ma mb)) :=
  (pe_ifExp hc ha hb).w fun s H q ⟨M, S, fr, rs, h⟩ => ⟨M, S, fr, rs, PoE.bind h fun k S1 k' H1 k1 st1 r1 h1 => by
    subst r1
    cases k' with
    | true => exact ⟨M, S1, fr, rs.step k1 st1, h1⟩
    | false => exact ⟨M, S1, fr, rs.step k1 st1, h1⟩⟩

/-! ### displays -/
theorem ok_aN : PA X [] (LA c aN) := pa_nil.w fun s H q ⟨M, S, fr, rs, h⟩ => h [] H .refl rs.st .nil
theorem ok_aC (ha : PE X e (LE c ma)) (hr : PA X es (LA c m)) (hs : starEach (e :: es) X.env = (false, eval e X.env) :: starEach es X.env) : PA X (e :: es) (LA c (aC ma m)) :=
  (pa_cons ha hr hs).w fun s H q ⟨M, S, fr, rs, h⟩ => ⟨M, S, fr, rs, PoE.bind h fun x S1 v H1 k1 st1 r1 h1 => ⟨M, S1, fr, rs.step k1 st1, PoE.bind h1 fun xs S2 vs H2 k2 st2 r2 h2 =>
    h2 (v :: vs) H2 .refl st2 (.cons (r1.k k2 rs.rb) r2)⟩⟩
theorem ok_pN : PA X [] (LAp c aN) := pa_nil.w fun s H q ⟨M, S, fr, rs, h⟩ => h [] H .refl rs.st rfl
theorem ok_pC (ha : PE X e (LP c ma)) (hr : PA X es (LAp c m)) (hs : starEach (e :: es) X.env = (false, eval e X.env) :: starEach es X.env) : PA X (e :: es) (LAp c (aC ma m)) :=
  (pa_cons ha hr hs).w fun s H q ⟨M, S, fr, rs, h⟩ => ⟨M, S, fr, rs, PoE.bind h fun x S1 v H1 k1 st1 r1 h1 => ⟨M, S1, fr, rs.step k1 st1, PoE.bind h1 fun xs S2 vs H2 k2 st2 r2 h2 =>
    h2 (v :: vs) H2 .refl st2 ⟨v, vs, rfl, r1.k k2 rs.rb, r2⟩⟩⟩
theorem ok_tup {k} (h : PA X es (LA c m)) : PE X (.Tuple es k pos) (LE c (eTup m)) :=
  (pe_tup h).w fun s H q ⟨M, S, fr, rs, h⟩ => ⟨M, S, fr, rs, PoE.bind h fun xs S1 vs H1 k1 st1 r1 h1 => by
    by_cases z : fits xs.length = true
    · simp only [z, if_true] at h1
      exact ⟨by rw [← r1.len]; exact fits_le z, fun p n => h1 _ _ (Kp.upd_new n) (st1.k (Kp.upd_new n) rs.rb (upd_keeps n)) (R.tup_new rs.rb n r1)⟩
    · simp only [z] at h1
      exact h1.elim⟩
theorem ok_lst (h : PA X es (LA c m)) : PE X (.List es pos) (LE c (eLst m)) :=
  (pe_lst h).w fun s H q ⟨M, S, fr, rs, h⟩ => ⟨M, S, fr, rs, PoE.bind h fun xs S1 vs H1 k1 st1 r1 h1 => by
    by_cases z : fits xs.length = true
    · simp only [z, if_true] at h1
      exact ⟨by rw [← r1.len]; exact fits_le z, fun p n => h1 _ _ (Kp.upd_new n) (st1.k (Kp.upd_new n) rs.rb (upd_keeps n)) (R.lst_new rs.rb (rs.step k1 st1).bn n r1)⟩
    · simp only [z] at h1
      exact h1.elim⟩
theorem ok_neg (ha : PE X a (LP c ma)) : PE X (.UnaryOp .USub a pos) (LE c (eNeg ma)) :=
  (pe_un un_neg ha).w fun s H q ⟨M, S, fr, rs, h⟩ => ⟨M, S, fr, rs, PoE.bind h fun x S1 v H1 k1 st1 r1 h1 => by
    cases x with
    | int i => exact ⟨i, rp_int r1, h1 _ H1 .refl st1 (.flat rfl)⟩
    | _ => exact h1.elim⟩

theorem ite_some {α : Type} {p : Prop} [Decidable p] {a : Option α} {b : α} (h : (if p then a else none) = some b) : p ∧ a = some b := by
  by_cases z : p
  · rw [if_pos z] at h; exact ⟨z, h⟩
  · rw [if_neg z] at h; exact nomatch h
/-! ### subscripts -/
theorem ixN_eq (n : Nat) (i : Int) : ixN n i = L2.ixN n i := rfl
theorem ixV_at {C : RC} {B : Addr → Prop} {r : List Addr} {H : Hp} {xs : List PV} {vs : List V} {i : Int} {x : PV} (h : Reps C B r H xs vs) (e : ixV xs i = some x) : ∃ v, atI vs i = some v ∧ Rep C B r H x v := by
  unfold ixV at e
  unfold atI
  rw [ixN_eq, h.len] at e
  cases q : L2.ixN vs.length i with
  | none => rw [q] at e; exact nomatch e
  | some j =>
    rw [q] at e
    exact h.get e
/-- the model's own things are the frame's -/
def SX (X : Cx) (c : Cn) : Prop := X.K = c.C.K ∧ X.prog = c.C.P ∧ X.w = c.C.w
theorem ok_ix (hk : SX X c) (hu : X.A.units + 9 < cLine) (ha : PE X a (LP c ma)) (hb : PE X b (LP c mb)) (hs : PlainIx b) : PE X (.Subscript a b pos) (LE c (eIx ma mb)) :=
  (pe_ix (ix_list.or (ix_tup.or (ix_dn hu))) ha hb hs).w fun s H q ⟨M, S, fr, rs, h⟩ => ⟨M, S, fr, rs, PoE.bind h fun x S1 v H1 k1 st1 r1 h1 => ⟨M, S1, fr, rs.step k1 st1, PoE.bind h1 fun y S2 w H2 k2 st2 r2 h2 => by
    obtain ⟨z, e, h3⟩ := h2.of
    unfold PV.at_ at e
    split at e
    · obtain ⟨p, vs, rfl, sq, q1⟩ := rp_tup (r1.k k2 rs.rb)
      obtain ⟨u, e1, r3⟩ := ixV_at q1 e
      exact .inr (.inl ⟨p, vs, _, u, rfl, rp_int r2, hk.1 ▸ sq, e1, h3 _ _ .refl st2 r3⟩)
    · obtain ⟨p, vs, rfl, sq, _, q1⟩ := rp_lst (r1.k k2 rs.rb)
      obtain ⟨u, e1, r3⟩ := ixV_at q1 e
      exact .inl ⟨p, vs, _, u, rfl, rp_int r2, .of sq, e1, h3 _ _ .refl st2 r3⟩
    · obtain ⟨ok, e⟩ := ite_some e
      obtain ⟨p, kw, vw, rfl, _, d, q1, q2⟩ := rp_dct (r1.k k2 rs.rb)
      obtain ⟨u, g, fd⟩ := dct_look d q1 q2 ok (rp_key ok r2)
      rw [e] at fd
      obtain ⟨r, rfl, r3⟩ := fd
      refine .inr (.inr ⟨p, r, rfl, ?_, h3 _ _ .refl st2 r3⟩)
      rw [hk.1, hk.2.1, hk.2.2]; exact g
    · exact nomatch e⟩⟩
/-- x[i], x in the store -/
theorem ok_ixS (hk : SX X c) (hu : X.A.units + 9 < cLine) (ha : PE X a (LP c ma)) (hb : PE X b (LP c mb)) (hs : PlainIx b) : PE X (.Subscript a b pos) (LE c (eIxS ma mb)) :=
  (pe_ix (ix_list.or (ix_dn hu)) ha hb hs).w fun s H q ⟨M, S, fr, rs, h⟩ => ⟨M, S, fr, rs, PoE.bind h fun x S1 v H1 k1 st1 r1 h1 => ⟨M, S1, fr, rs.step k1 st1, PoE.bind h1 fun y S2 w H2 k2 st2 r2 h2 => by
    obtain ⟨z, e, h3⟩ := h2.of
    unfold stAt at e
    split at e
    · rename_i k
      split at e
      · rename_i t et
        have r1' : ∃ p, v = .ref p ∧ c.r[k]? = some p := by simpa only [Cn.RP, RepP, RepM, Rep] using r1
        obtain ⟨p, rfl, ep⟩ := r1'
        have q := st2.at_ k p t ep et
        unfold PV.at_ at e
        split at e
        · exact q.elim
        · obtain ⟨vs, e1, q1⟩ := q
          obtain ⟨u, e2, r3⟩ := ixV_at q1 e
          exact .inl ⟨p, vs, _, u, rfl, rp_int r2, .of e1, e2, h3 _ _ .refl st2 r3⟩
        · obtain ⟨ok, e⟩ := ite_some e
          obtain ⟨kw, vw, d, q1, q2⟩ := q
          obtain ⟨u, g, fd⟩ := dct_look d q1 q2 ok (rp_key ok r2)
          rw [e] at fd
          obtain ⟨r, rfl, r3⟩ := fd
          refine .inr ⟨p, r, rfl, ?_, h3 _ _ .refl st2 r3⟩
          rw [hk.1, hk.2.1, hk.2.2]; exact g
        · exact nomatch e
      · exact nomatch e
    · exact nomatch e⟩⟩
theorem ok_oN : PO X none (LO c oN) := po_none.w fun s H q ⟨M, S, fr, rs, h⟩ => h none H .refl rs.st rfl
theorem ok_oS (h : PE X e (LP c ma)) : PO X (some e) (LO c (oS ma)) := (po_some h).w fun s H q ⟨M, S, fr, rs, h⟩ => ⟨M, S, fr, rs, PoE.bind h fun x S1 v H1 k1 st1 r1 h1 => by
    cases x with
    | int i => exact ⟨i, rp_int r1, h1 (some i) H1 .refl st1 rfl⟩
    | _ => exact h1.elim⟩
theorem sIx_eq (n d : Nat) (o : Option Int) : sIx n d o = HT.sIx n d o := by cases o <;> rfl
theorem cut_reps {C : RC} {B : Addr → Prop} {r : List Addr} {H : Hp} {xs : List PV} {vs : List V} (lo hi : Option Int) (h : Reps C B r H xs vs) : Reps C B r H (cut xs lo hi) (cutV vs lo hi) := by
  unfold cut cutV
  rw [sIx_eq, sIx_eq, h.len]
  exact (h.drop _).take _
theorem cutV_whole {vs : List V} {lo hi : Option Int} (h : HT.sIx vs.length 0 lo = 0 ∧ HT.sIx vs.length vs.length hi = vs.length) : cutV vs lo hi = vs := by
  unfold cutV
  rw [h.1, h.2]
  simp
theorem ok_sl {lo hi : Option Expr} {ml mh : SO} {p2 : Pos} (hk : X.K = c.C.K) (he : PE X e (LP c ma)) (hl : PO X lo (LO c ml)) (hu : PO X hi (LO c mh)) : PE X (.Subscript e (.Slice lo hi none p2) pos) (LE c (eSl ma ml mh)) :=
  (pe_slice (sl_tupA.or sl_list) he hl hu).w fun s H q ⟨M, S, fr, rs, h⟩ => ⟨M, S, fr, rs, PoE.bind h fun x S1 v H1 k1 st1 r1 h1 => ⟨M, S1, fr, rs.step k1 st1, PoE.bind h1 fun l S2 l' H2 k2 st2 r2 h2 =>
    ⟨M, S2, fr, (rs.step k1 st1).step k2 st2, PoE.bind h2 fun u S3 u' H3 k3 st3 r3 h3 => by
      subst r2 r3
      obtain ⟨z, e, h4⟩ := h3.of
      have rs3 := ((rs.step k1 st1).step k2 st2).step k3 st3
      unfold PV.cut_ at e
      split at e
      · cases e
        have r1' := (r1.k k2 rs.rb).k k3 rs.rb
        obtain ⟨p, vs, rfl, sq, q1⟩ := rp_tup r1'
        refine .inl ⟨p, vs, rfl, hk ▸ sq, fun hw => h4 _ _ .refl st3 ?_, fun _ t n => h4 _ _ (Kp.upd_new n) (st3.k (Kp.upd_new n) rs.rb (upd_keeps n)) (R.tup_new rs.rb n (cut_reps _ _ q1))⟩
        show Rep _ _ _ _ _ _
        simp only [Rep]
        refine ⟨p, vs, rfl, sq, ?_⟩
        have := cut_reps l' u' q1
        rwa [cutV_whole hw] at this
      · cases e
        obtain ⟨p, vs, rfl, sq, _, q1⟩ := rp_lst ((r1.k k2 rs.rb).k k3 rs.rb)
        exact .inr ⟨p, vs, rfl, .of sq, fun t n => h4 _ _ (Kp.upd_new n) (st3.k (Kp.upd_new n) rs.rb (upd_keeps n)) (R.lst_new rs.rb rs3.bn n (cut_reps _ _ q1))⟩
      · exact nomatch e⟩⟩⟩
end
end Q
/-! Qg: built-ins. -/
namespace Q
open PySem PySem.Spec PyProof.Rows L2
section
variable {X : Cx} {c : Cn} {e a b d : Expr} {es rest : List Expr} {ma mb md : SE} {ba bb : SB} {m : SA} {pos p : Pos} {x : Str}
/-- what a built-in's rule asks, for trees -/
def BiT (c : Cn) (f : List PV → Option PV) (r : List V → Hp → VK → Prop) : Prop :=
  ∀ (M : Addr → Prop) (H : Hp) (xs : List PV) (z : PV) (vs : List V) (q : VK), (∀ a ∈ c.r, c.B M a) → (∀ a, c.B M a → H a ≠ none) → f xs = some z → c.RPs M H xs vs → (∀ u H', Kp c.r H H' → (∀ b o, H b = some o → H' b = some o) → c.R M H' z u → q u H') → r vs H q
theorem BiT.of {f : List PV → Option PV} {r : List V → Hp → VK → Prop} (ht : BiT c f r) {s : L2.St} {H : Hp} {q : VK} (h : LE c (eBi f m) s H q) : tCB r (LAp c m) s H q := by
  obtain ⟨M, S, fr, rs, h⟩ := h
  refine ⟨M, S, fr, rs, PoE.bind h fun xs S1 vs H1 k1 st1 r1 h1 => ?_⟩
  cases e : f xs with
  | none => rw [e] at h1; exact h1.elim
  | some z =>
    rw [e] at h1
    exact ht M H1 xs z vs q rs.rb (rs.step k1 st1).bn e r1 fun u H' k hk r => h1 u H' k (st1.k k rs.rb hk) r
theorem ok_bi {f : List PV → Option PV} {id : String} {r : List V → Hp → VK → Prop} (ht : BiT c f r) (hc : CallR X (.builtin id) r) (hv : bootBuiltins x = some (.builtin id)) (hg : Gl X x) (hm : X.mg x = none) (ha : PA X (e :: es) (LAp c m))
    (hn : x ≠ "__name__") (hdb : (x == ("__debug__" : Str)) = false) (he : starEach (e :: es) X.env = (false, eval e X.env) :: starEach es X.env) (hpl : (backTo pos (starEach es X.env)).any (·.1) = false) : PE X (.Call (.Name x p) (e :: es) [] pos) (LE c (eBi f m)) :=
  (pe_callB hc hg hm hv ha hn hdb he hpl).w fun s H q h => ht.of h
theorem ok_ty {f : List PV → Option PV} {T : String} {r : List V → Hp → VK → Prop} (ht : BiT c f r) (hc : CallR X (.type T) r) (hv : bootBuiltins x = some (.type T)) (hg : Gl X x) (hm : X.mg x = none) (ha : PA X (e :: es) (LAp c m))
    (hn : x ≠ "__name__") (hdb : (x == ("__debug__" : Str)) = false) (he : starEach (e :: es) X.env = (false, eval e X.env) :: starEach es X.env) (hpl : (backTo pos (starEach es X.env)).any (·.1) = false) : PE X (.Call (.Name x p) (e :: es) [] pos) (LE c (eBi f m)) :=
  (pe_callTy hc hg hm hv ha hn hdb he hpl).w fun s H q h => ht.of h
theorem rps1 {M : Addr → Prop} {H : Hp} {t : PV} {vs : List V} (h : c.RPs M H [t] vs) : ∃ v, vs = [v] ∧ c.RP M H t v := by
  obtain ⟨v, vr, rfl, h1, rfl⟩ := h
  exact ⟨v, rfl, h1⟩
theorem rps2 {M : Addr → Prop} {H : Hp} {t u : PV} {vs : List V} (h : c.RPs M H [t, u] vs) : ∃ v w, vs = [v, w] ∧ c.RP M H t v ∧ c.RP M H u w := by
  obtain ⟨v, vr, rfl, h1, w, wr, rfl, h2, rfl⟩ := h
  exact ⟨v, w, rfl, h1, h2⟩
theorem CallR.or {f : Value} {r r' : List V → Hp → VK → Prop} (h : CallR X f r) (h' : CallR X f r') : CallR X f (fun xs H Q => r xs H Q ∨ r' xs H Q) := by
  intro pins s σ H xs us Q I rs q
  rcases q with q | q
  · exact h pins s σ H xs us Q I rs q
  · exact h' pins s σ H xs us Q I rs q
theorem fkw : ∀ {ks : List PV} {fk : List L2.Key} {kw : List V} {C : RC} {B : Addr → Prop} {r : List Addr} {H : Hp}, fkeys ks = some fk → Reps C B r H ks kw → kw = fk.map kV
  | [], _, _, _, _, _, _, h, q => by simp only [fkeys, Option.some.injEq] at h; subst h; simpa only [Reps, List.map_nil] using q
  | x :: xs, _, _, _, _, _, _, h, q => by
    obtain ⟨k, ks, rfl, h0, h⟩ := fkeys_cons h
    simp only [Reps] at q
    obtain ⟨v, vr, rfl, q1, q2⟩ := q
    rw [fk_rep h0 q1, fkw h q2]; rfl
theorem dcv_of {C : RC} {B : Addr → Prop} {r : List Addr} {H : Hp} {a : Addr} {ks : List PV} {kw vw : List V} (d : DO C.P C.w a (H a) ks kw vw) (q : Reps C B r H ks kw) : DcV C.P C.w H a kw vw := by
  rcases d with ⟨fk, e1, l, e2⟩ | ⟨nk, bs, e1, ne, l, l', e3, e2⟩
  · exact .inl ⟨fk, e2, fkw e1 q, l⟩
  · exact .inr ⟨nk, bs, e2, e3, l, l'⟩
theorem bi_len (hk : SX X c) : BiT c bLen (fun xs H Q => (∃ x n, xs = [x] ∧ LenV X.K x H n ∧ Q (.int n) H) ∨ ∃ a kw vw, xs = [V.ref a] ∧ DcV X.prog X.w H a kw vw ∧ Q (.int kw.length) H) := by
  intro M H xs z vs q rb bn e r k
  unfold bLen at e
  split at e <;> try (cases e; done)
  · cases e
    obtain ⟨v, rfl, r1⟩ := rps1 r
    obtain ⟨a, ws, rfl, s, r2⟩ := rp_tup r1
    exact .inl ⟨_, _, rfl, .inr ⟨ws, hk.1 ▸ s, r2.len⟩, k _ H .refl (fun _ _ z => z) (.flat rfl)⟩
  · cases e
    obtain ⟨v, rfl, r1⟩ := rps1 r
    obtain ⟨a, ws, rfl, s, _, r2⟩ := rp_lst r1
    exact .inl ⟨_, _, rfl, .inl ⟨ws, .of s, r2.len⟩, k _ H .refl (fun _ _ z => z) (.flat rfl)⟩
  · cases e
    obtain ⟨v, rfl, r1⟩ := rps1 r
    obtain ⟨a, kw, vw, rfl, _, d, q1, q2⟩ := rp_dct r1
    refine .inr ⟨a, kw, vw, rfl, ?_, ?_⟩
    · rw [hk.2.1, hk.2.2]; exact dcv_of d q1
    · rw [← q1.len]; exact k _ H .refl (fun _ _ z => z) (.flat rfl)
theorem allBl_reps {C : RC} {B : Addr → Prop} {r : List Addr} {H : Hp} : ∀ {xs : List PV} {bs : List Bool} {vs : List V}, allBl xs = some bs → Reps C B r H xs vs → vs = bs.map V.bl
  | [], _, _, h, q => by
    simp only [allBl, Option.some.injEq] at h
    simp only [Reps] at q
    subst h q; rfl
  | x :: xs, bs, _, h, q => by
    simp only [Reps] at q
    obtain ⟨v, vr, rfl, h1, h2⟩ := q
    cases x <;> simp only [allBl, reduceCtorEq, Option.map_eq_some_iff] at h
    obtain ⟨cs, hc, rfl⟩ := h
    simp only [Rep] at h1
    rw [h1, allBl_reps hc h2]; rfl
theorem allInt_reps {C : RC} {B : Addr → Prop} {r : List Addr} {H : Hp} : ∀ {xs : List PV} {bs : List Int} {vs : List V}, allInt xs = some bs → Reps C B r H xs vs → vs = bs.map V.int
  | [], _, _, h, q => by
    simp only [allInt, Option.some.injEq] at h
    simp only [Reps] at q
    subst h q; rfl
  | x :: xs, bs, _, h, q => by
    simp only [Reps] at q
    obtain ⟨v, vr, rfl, h1, h2⟩ := q
    cases x <;> simp only [allInt, reduceCtorEq, Option.map_eq_some_iff] at h
    obtain ⟨cs, hc, rfl⟩ := h
    simp only [Rep] at h1
    rw [h1, allInt_reps hc h2]; rfl
theorem bi_all : BiT c bAll (rAll c.C.K) := by
  intro M H xs z vs q rb bn e r k
  unfold bAll at e
  split at e <;> try (cases e; done)
  · rw [Option.map_eq_some_iff] at e
    obtain ⟨bs, hb, rfl⟩ := e
    obtain ⟨v, rfl, r1⟩ := rps1 r
    obtain ⟨a, ws, rfl, s, _, r2⟩ := rp_lst r1
    exact ⟨a, bs, rfl, .of (by rw [s, allBl_reps hb r2]), k _ H .refl (fun _ _ z => z) (.flat rfl)⟩
theorem bi_any : BiT c bAny (rAny c.C.K) := by
  intro M H xs z vs q rb bn e r k
  unfold bAny at e
  split at e <;> try (cases e; done)
  · rw [Option.map_eq_some_iff] at e
    obtain ⟨bs, hb, rfl⟩ := e
    obtain ⟨v, rfl, r1⟩ := rps1 r
    obtain ⟨a, ws, rfl, s, _, r2⟩ := rp_lst r1
    exact ⟨a, bs, rfl, .of (by rw [s, allBl_reps hb r2]), k _ H .refl (fun _ _ z => z) (.flat rfl)⟩
theorem bi_sum : BiT c bSum (fun xs H Q => rSum c.C.K xs H Q ∨ ∃ (a : Addr) (ns : List Int), xs = [V.ref a] ∧ SqT c.C.K H a (ns.map V.int) ∧ Q (.int ns.sum) H) := by
  intro M H xs z vs q rb bn e r k
  unfold bSum at e
  split at e <;> try (cases e; done)
  · rw [Option.map_eq_some_iff] at e
    obtain ⟨bs, hb, rfl⟩ := e
    obtain ⟨v, rfl, r1⟩ := rps1 r
    obtain ⟨a, ws, rfl, s, _, r2⟩ := rp_lst r1
    exact .inl ⟨a, bs, rfl, .of (by rw [s, allInt_reps hb r2]), k _ H .refl (fun _ _ z => z) (.flat rfl)⟩
  · rw [Option.map_eq_some_iff] at e
    obtain ⟨bs, hb, rfl⟩ := e
    obtain ⟨v, rfl, r1⟩ := rps1 r
    obtain ⟨a, ws, rfl, s, r2⟩ := rp_tup r1
    exact .inr ⟨a, bs, rfl, by rw [← allInt_reps hb r2]; exact s, k _ H .refl (fun _ _ z => z) (.flat rfl)⟩
/-! data in a list: pairs of a tree and what stands for it -/
theorem zip_fst {xs : List PV} {vs : List V} (h : xs.length = vs.length) : (xs.zip vs).map (·.1) = xs := by rw [List.map_fst_zip]; omega
theorem zip_snd {xs : List PV} {vs : List V} (h : xs.length = vs.length) : (xs.zip vs).map (·.2) = vs := by rw [List.map_snd_zip]; omega
theorem zip_reps {C : RC} {B : Addr → Prop} {r : List Addr} {H : Hp} : ∀ {xs : List PV} {vs : List V}, Reps C B r H xs vs → ∀ b ∈ xs.zip vs, Rep C B r H b.1 b.2
  | [], _, _, b, hb => by simp at hb
  | x :: xs, _, h, b, hb => by
    simp only [Reps] at h
    obtain ⟨v, vr, rfl, h1, h2⟩ := h
    rw [List.zip_cons_cons] at hb
    rcases List.mem_cons.mp hb with rfl | hb
    · exact h1
    · exact zip_reps h2 b hb
theorem reps_zip {C : RC} {B : Addr → Prop} {r : List Addr} {H : Hp} : ∀ {bs : List Bt}, (∀ b ∈ bs, Rep C B r H b.1 b.2) → Reps C B r H (bs.map (·.1)) (bs.map (·.2))
  | [], _ => .nil
  | b :: bs, h => .cons (h b (by simp)) (reps_zip fun c hc => h c (by simp [hc]))
theorem areD_mem : ∀ {n : Nat} {xs : List PV}, areD n xs = true → ∀ x ∈ xs, x.isD n = true
  | _, [], _, x, hx => by simp at hx
  | n, y :: xs, h, x, hx => by
    simp only [areD, Bool.and_eq_true] at h
    rcases List.mem_cons.mp hx with rfl | hx
    · exact h.1
    · exact areD_mem h.2 x hx
theorem encB_mem {xs : List PV} {vs : List V} {d : PyData} (h : d ∈ (xs.zip vs).map encB) : ∃ x ∈ xs, d = x.toD := by
  obtain ⟨b, hb, rfl⟩ := List.mem_map.mp h
  exact ⟨b.1, (List.of_mem_zip hb).1, rfl⟩
theorem zip_alike {xs : List PV} {vs : List V} (h1 : areD 60 xs = true) (h2 : (xs.all fun x => xs.all fun y => pal x y) = true) : PySem.W.AllAlike ((xs.zip vs).map encB) := by
  intro d hd e he
  obtain ⟨x, hx, rfl⟩ := encB_mem hd
  obtain ⟨y, hy, rfl⟩ := encB_mem he
  rw [← pal_alike (areD_mem h1 x hx) (areD_mem h1 y hy)]
  exact List.all_eq_true.mp (List.all_eq_true.mp h2 x hx) y hy
theorem zip_dp {M : Addr → Prop} {H : Hp} {xs : List PV} {vs : List V} (h1 : areD 60 xs = true) (r : c.Rs M H xs vs) : ∀ b ∈ xs.zip vs, Dp c.C.K H b.2 b.1.toD := fun b hb => Rep.dp (areD_mem h1 _ (List.of_mem_zip hb).1) (zip_reps r b hb)
theorem zip_depth {xs : List PV} {vs : List V} (h1 : areD 60 xs = true) : ∀ b ∈ xs.zip vs, (encB b).depth ≤ 60 := fun b hb => (isD_lay (areD_mem h1 _ (List.of_mem_zip hb).1)).2
theorem zip_srtb {xs : List PV} {vs : List V} (h1 : areD 60 xs = true) (h : (xs.all PV.isTup || xs.all fun x => !x.isNon' && !x.isTup) = true) : PySem.W.Srtb ((xs.zip vs).map encB) := by
  rw [Bool.or_eq_true] at h
  rcases h with h | h
  · left
    intro d hd
    obtain ⟨x, hx, rfl⟩ := encB_mem hd
    have := List.all_eq_true.mp h x hx
    cases x with
    | tup ys => exact ⟨toDs ys, by simp only [PV.toD]⟩
    | _ => simp [PV.isTup] at this
  · right
    intro d hd
    obtain ⟨x, hx, rfl⟩ := encB_mem hd
    have q := List.all_eq_true.mp h x hx
    simp only [Bool.and_eq_true, Bool.not_eq_true'] at q
    refine ⟨toD_none q.1 (areD_mem h1 x hx), fun xs e => ?_⟩
    cases x <;> simp only [PV.toD, reduceCtorEq] at e
    simp [PV.isTup] at q
theorem sortV_some {xs ys : List PV} (h : sortV xs = some ys) : areD 60 xs = true ∧ (xs.all fun x => xs.all fun y => pal x y) = true ∧ (xs.all PV.isTup || xs.all fun x => !x.isNon' && !x.isTup) = true ∧ ys = xs.mergeSort fun a b => !plt b a := by
  unfold sortV at h
  obtain ⟨p, rfl⟩ := if_some h
  unfold sortOk at p
  simp only [Bool.and_eq_true] at p
  exact ⟨p.1.1, p.1.2, p.2, rfl⟩
theorem sort_zip {xs : List PV} {vs : List V} (hl : xs.length = vs.length) (h1 : areD 60 xs = true) (h2 : (xs.all fun x => xs.all fun y => pal x y) = true) : ((xs.zip vs).mergeSort (PySem.W.dataLe false encB)).map (·.1) = xs.mergeSort fun a b => !plt b a := by
  rw [List.map_mergeSort (s := fun a b => !plt b a), zip_fst hl]
  intro a ha b hb
  rw [PySem.W.dataLe_eq]
  have xa := (List.of_mem_zip ha).1
  have xb := (List.of_mem_zip hb).1
  show (!PySem.W.dataLt b.1.toD a.1.toD) = !plt b.1 a.1
  rw [plt_data (areD_mem h1 _ xb) (areD_mem h1 _ xa) (List.all_eq_true.mp (List.all_eq_true.mp h2 _ xb) _ xa)]
theorem bi_sorted : BiT c bSorted (rSortedA c.C.K c.C.P c.C.w) := by
  intro M H xs z vs q rb bn e r k
  have key : ∀ (ks ys : List PV) (kw : List V) (a : Addr), sortV ks = some ys → z = .lst ys → Src c.C.K c.C.P c.C.w H a kw → c.Rs M H ks kw → rSortedA c.C.K c.C.P c.C.w [.ref a] H q := by
    rintro ks ys kw a hs rfl src rk
    obtain ⟨h1, h2, h3, rfl⟩ := sortV_some hs
    have hl := rk.len
    refine ⟨a, ks.zip kw, rfl, by rw [zip_snd hl]; exact src, zip_dp h1 rk, zip_alike h1 h2, zip_srtb h1 h3, zip_depth h1, fun p hn => k _ _ (Kp.upd_new hn) (upd_keeps hn) (R.lst_new rb bn hn ?_)⟩
    rw [← sort_zip hl h1 h2]
    exact reps_zip fun b hb => zip_reps rk b ((List.mergeSort_perm _ _).mem_iff.mp hb)
  unfold bSorted at e
  split at e <;> try (cases e; done)
  · rw [Option.map_eq_some_iff] at e
    obtain ⟨ys, hs, rfl⟩ := e
    obtain ⟨v, rfl, r1⟩ := rps1 r
    obtain ⟨a, ws, rfl, s, _, r2⟩ := rp_lst r1
    exact key _ _ _ a hs rfl (.inl (.of s)) r2
  · rw [Option.map_eq_some_iff] at e
    obtain ⟨ys, hs, rfl⟩ := e
    obtain ⟨v, rfl, r1⟩ := rps1 r
    obtain ⟨a, kw, vw, rfl, _, d, q1, q2⟩ := rp_dct r1
    exact key _ _ _ a hs rfl (.inr ⟨_, dcv_of d q1⟩) q1
theorem leastI_spec : ∀ (l : List Int) (m : Int), (leastI m l = m ∨ leastI m l ∈ l) ∧ leastI m l ≤ m ∧ ∀ x ∈ l, leastI m l ≤ x
  | [], m => ⟨.inl rfl, Int.le_refl _, fun x h => absurd h (by simp)⟩
  | x :: r, m => by
    simp only [leastI]
    obtain ⟨h1, h2, h3⟩ := leastI_spec r (if x < m then x else m)
    by_cases hx : x < m
    · rw [if_pos hx] at h1 h2 h3 ⊢
      exact ⟨.inr (h1.elim (fun e => by rw [e]; simp) (fun e => by simp [e])), by omega, fun y hy => (List.mem_cons.mp hy).elim (fun e => by subst e; exact h2) (h3 y)⟩
    · rw [if_neg hx] at h1 h2 h3 ⊢
      exact ⟨h1.elim .inl (fun e => .inr (by simp [e])), h2, fun y hy => (List.mem_cons.mp hy).elim (fun e => by subst e; omega) (h3 y)⟩
theorem greatestI_spec : ∀ (l : List Int) (m : Int), (greatestI m l = m ∨ greatestI m l ∈ l) ∧ m ≤ greatestI m l ∧ ∀ x ∈ l, x ≤ greatestI m l
  | [], m => ⟨.inl rfl, Int.le_refl _, fun x h => absurd h (by simp)⟩
  | x :: r, m => by
    simp only [greatestI]
    obtain ⟨h1, h2, h3⟩ := greatestI_spec r (if m < x then x else m)
    by_cases hx : m < x
    · rw [if_pos hx] at h1 h2 h3 ⊢
      exact ⟨.inr (h1.elim (fun e => by rw [e]; simp) (fun e => by simp [e])), by omega, fun y hy => (List.mem_cons.mp hy).elim (fun e => by subst e; exact h2) (h3 y)⟩
    · rw [if_neg hx] at h1 h2 h3 ⊢
      exact ⟨h1.elim .inl (fun e => .inr (by simp [e])), h2, fun y hy => (List.mem_cons.mp hy).elim (fun e => by subst e; omega) (h3 y)⟩
theorem fold_enc {f : PV → PV → Bool} {g : PyData → PyData → Bool} : ∀ (bs : List Bt) (b : Bt), (∀ x ∈ b :: bs, ∀ y ∈ b :: bs, f y.1 x.1 = g y.1.toD x.1.toD) → ((bs.map (·.1)).foldl (fun a y => if f y a then y else a) b.1).toD = (bs.map encB).foldl (fun a y => if g y a then y else a) (encB b)
  | [], b, _ => rfl
  | d :: bs, b, h => by
    simp only [List.map_cons, List.foldl_cons]
    have e : (if f d.1 b.1 = true then d.1 else b.1) = (if f d.1 b.1 = true then d else b).1 := by split <;> rfl
    have e2 : (if g (encB d) (encB b) = true then encB d else encB b) = encB (if f d.1 b.1 = true then d else b) := by
      have := h b (by simp) d (by simp)
      show (if g d.1.toD b.1.toD = true then encB d else encB b) = _
      rw [← this]; split <;> rfl
    rw [e, e2]
    refine fold_enc bs _ fun x hx y hy => ?_
    have sub : ∀ w ∈ (if f d.1 b.1 = true then d else b) :: bs, w ∈ b :: d :: bs := fun w hw => by
      rcases List.mem_cons.mp hw with rfl | hw
      · split <;> simp
      · simp [hw]
    exact h x (sub x hx) y (sub y hy)
theorem toD_inj : ∀ {n m : Nat} {x y : PV}, x.isD n = true → y.isD m = true → x.toD = y.toD → x = y := by
  have key : ∀ n, ∀ {m : Nat} {x y : PV}, x.isD n = true → y.isD m = true → x.toD = y.toD → x = y := by
    intro n
    induction n with
    | zero =>
      intro m x y h1 h2 e
      cases x <;> cases y <;> simp only [PV.toD, reduceCtorEq, PyData.bool.injEq, PyData.int.injEq, PyData.str.injEq] at e <;> first | rfl | (subst e; rfl) | (simp [PV.isD] at h1; done) | (simp [PV.isD] at h2; done)
    | succ n ih =>
      have ihs : ∀ {m : Nat} {xs ys : List PV}, areD n xs = true → areD m ys = true → toDs xs = toDs ys → xs = ys := by
        intro m xs
        induction xs with
        | nil => intro ys h1 h2 e; cases ys with | nil => rfl | cons _ _ => simp [toDs] at e
        | cons x xs ihx =>
          intro ys h1 h2 e
          cases ys with
          | nil => simp [toDs] at e
          | cons y ys =>
            simp only [areD, Bool.and_eq_true] at h1 h2
            simp only [toDs, List.cons.injEq] at e
            rw [ih h1.1 h2.1 e.1, ihx h1.2 h2.2 e.2]
      intro m x y h1 h2 e
      cases x <;> cases y <;> simp only [PV.toD, reduceCtorEq, PyData.bool.injEq, PyData.int.injEq, PyData.str.injEq, PyData.tuple.injEq, PyData.list.injEq] at e <;> first | rfl | (subst e; rfl) | (simp [PV.isD] at h1; done) | (simp [PV.isD] at h2; done) | skip
      · cases m with
        | zero => simp [PV.isD] at h2
        | succ m => simp only [PV.isD] at h1 h2; rw [ihs h1 h2 e]
      · cases m with
        | zero => simp [PV.isD] at h2
        | succ m => simp only [PV.isD] at h1 h2; rw [ihs h1 h2 e]
  intro n m x y; exact key n
theorem bestOk_some {xs : List PV} (h : bestOk xs = true) : areD 60 xs = true ∧ (xs.all fun x => xs.all fun y => pal x y) = true ∧ ∀ x ∈ xs, x.isNon' = false := by
  unfold bestOk at h
  simp only [Bool.and_eq_true] at h
  refine ⟨h.1.1, h.1.2, fun x hx => ?_⟩
  have := List.all_eq_true.mp h.2 x hx
  simpa using this
theorem bi_bestK {M : Addr → Prop} {H : Hp} {q : VK} {f : PV → PV → Bool} {g : PyData → PyData → Bool} {x : PV} {xs : List PV} {ws : List V} {a : Addr} (hf : ∀ y ∈ x :: xs, ∀ z ∈ x :: xs, f y z = g y.toD z.toD) (ok : bestOk (x :: xs) = true) (hs : SqL c.C.K H a ws ∨ SqT c.C.K H a ws) (r : c.Rs M H (x :: xs) ws)
    (k : ∀ u, c.R M H (xs.foldl (fun a y => if f y a then y else a) x) u → q u H) : rBest c.C.K (fun b bs => bs.foldl (fun a y => if g y a then y else a) b) [.ref a] H q := by
  obtain ⟨h1, h2, h3⟩ := bestOk_some ok
  have hl := r.len
  cases ws with
  | nil => simp at hl
  | cons w ws =>
    have hz : (x :: xs).zip (w :: ws) = (x, w) :: xs.zip ws := rfl
    refine ⟨a, (x, w), xs.zip ws, rfl, by rw [← hz, zip_snd hl]; exact hs, by rw [← hz]; exact zip_dp h1 r, by rw [← hz]; exact zip_alike h1 h2, ?_, by rw [← hz]; exact zip_depth h1, fun b hb eb => ?_⟩
    · rw [← hz]
      intro d hd
      obtain ⟨y, hy, rfl⟩ := encB_mem hd
      exact toD_none (h3 y hy) (areD_mem h1 y hy)
    · have hl' : xs.length = ws.length := by simpa using hl
      have e := fold_enc (f := f) (g := g) (xs.zip ws) (x, w) fun b1 hb1 b2 hb2 => by
        rw [← hz] at hb1 hb2
        exact hf _ (List.of_mem_zip hb2).1 _ (List.of_mem_zip hb1).1
      rw [zip_fst hl'] at e
      have mem : xs.foldl (fun a y => if f y a = true then y else a) x ∈ x :: xs := fold_mem f xs x
      rw [← hz] at hb
      have hb1 : b.1 ∈ x :: xs := (List.of_mem_zip hb).1
      have : b.1 = xs.foldl (fun a y => if f y a = true then y else a) x := toD_inj (areD_mem h1 _ hb1) (areD_mem h1 _ mem) (eb.trans e.symm)
      exact k _ (this ▸ zip_reps r b hb)
theorem bi_minK {M : Addr → Prop} {H : Hp} {q : VK} {xs : List PV} {z : PV} {ws : List V} {a : Addr} (e : minO xs = some z) (hs : SqL c.C.K H a ws ∨ SqT c.C.K H a ws) (r : c.Rs M H xs ws) (k : ∀ u, c.R M H z u → q u H) : rBest c.C.K PySem.W.minD [.ref a] H q := by
  cases xs with
  | nil => exact nomatch e
  | cons x xs =>
    obtain ⟨ok, rfl⟩ := if_some e
    obtain ⟨h1, h2, h3⟩ := bestOk_some ok
    exact bi_bestK (f := plt) (g := PySem.W.dataLt) (fun y hy z hz => plt_data (areD_mem h1 y hy) (areD_mem h1 z hz) (List.all_eq_true.mp (List.all_eq_true.mp h2 y hy) z hz)) ok hs r k
theorem bi_maxK {M : Addr → Prop} {H : Hp} {q : VK} {xs : List PV} {z : PV} {ws : List V} {a : Addr} (e : maxO xs = some z) (hs : SqL c.C.K H a ws ∨ SqT c.C.K H a ws) (r : c.Rs M H xs ws) (k : ∀ u, c.R M H z u → q u H) : rBest c.C.K PySem.W.maxD [.ref a] H q := by
  cases xs with
  | nil => exact nomatch e
  | cons x xs =>
    obtain ⟨ok, rfl⟩ := if_some e
    obtain ⟨h1, h2, h3⟩ := bestOk_some ok
    exact bi_bestK (f := fun y a => plt a y) (g := fun y a => PySem.W.dataLt a y) (fun y hy z hz => plt_data (areD_mem h1 z hz) (areD_mem h1 y hy) (List.all_eq_true.mp (List.all_eq_true.mp h2 z hz) y hy)) ok hs r k
theorem bi_min : BiT c bMin (fun xs H Q => rMin c.C.K xs H Q ∨ rBest c.C.K PySem.W.minD xs H Q) := by
  intro M H xs z vs q rb bn e r k
  unfold bMin at e
  split at e <;> try (cases e; done)
  · rcases or_some e with e | e
    case inr =>
      obtain ⟨v, rfl, r1⟩ := rps1 r
      obtain ⟨a, ws, rfl, s, _, r2⟩ := rp_lst r1
      exact .inr (bi_minK e (.inl (.of s)) r2 fun u h => k u H .refl (fun _ _ z => z) h)
    left
    rw [Option.bind_eq_some_iff] at e
    obtain ⟨l0, hb, e⟩ := e
    cases l0 with
    | nil => exact nomatch e
    | cons n l =>
    cases e
    obtain ⟨v, rfl, r1⟩ := rps1 r
    obtain ⟨a, ws, rfl, s, _, r2⟩ := rp_lst r1
    refine ⟨a, n :: l, rfl, .of (by rw [s, allInt_reps hb r2]), Nat.succ_pos _, fun m hm hl => ?_⟩
    obtain ⟨h1, h2, h3⟩ := leastI_spec l n
    have h4 : leastI n l ∈ n :: l := h1.elim (fun e => by rw [e]; simp) (fun e => by simp [e])
    have h5 := hl _ h4
    have h6 : leastI n l ≤ m := (List.mem_cons.mp hm).elim (fun e => by subst e; exact h2) (h3 m)
    have : m = leastI n l := by omega
    subst this
    exact k _ H .refl (fun _ _ z => z) (.flat rfl)
  · obtain ⟨v, rfl, r1⟩ := rps1 r
    obtain ⟨a, ws, rfl, s, r2⟩ := rp_tup r1
    exact .inr (bi_minK e (.inr s) r2 fun u h => k u H .refl (fun _ _ z => z) h)
theorem bi_max : BiT c bMax (fun xs H Q => rMax c.C.K xs H Q ∨ rBest c.C.K PySem.W.maxD xs H Q) := by
  intro M H xs z vs q rb bn e r k
  unfold bMax at e
  split at e <;> try (cases e; done)
  · rcases or_some e with e | e
    case inr =>
      obtain ⟨v, rfl, r1⟩ := rps1 r
      obtain ⟨a, ws, rfl, s, _, r2⟩ := rp_lst r1
      exact .inr (bi_maxK e (.inl (.of s)) r2 fun u h => k u H .refl (fun _ _ z => z) h)
    left
    rw [Option.bind_eq_some_iff] at e
    obtain ⟨l0, hb, e⟩ := e
    cases l0 with
    | nil => exact nomatch e
    | cons n l =>
    cases e
    obtain ⟨v, rfl, r1⟩ := rps1 r
    obtain ⟨a, ws, rfl, s, _, r2⟩ := rp_lst r1
    refine ⟨a, n :: l, rfl, .of (by rw [s, allInt_reps hb r2]), Nat.succ_pos _, fun m hm hl => ?_⟩
    obtain ⟨h1, h2, h3⟩ := greatestI_spec l n
    have h4 : greatestI n l ∈ n :: l := h1.elim (fun e => by rw [e]; simp) (fun e => by simp [e])
    have h5 := hl _ h4
    have h6 : m ≤ greatestI n l := (List.mem_cons.mp hm).elim (fun e => by subst e; exact h2) (h3 m)
    have : m = greatestI n l := by omega
    subst this
    exact k _ H .refl (fun _ _ z => z) (.flat rfl)
  · obtain ⟨v, rfl, r1⟩ := rps1 r
    obtain ⟨a, ws, rfl, s, r2⟩ := rp_tup r1
    exact .inr (bi_maxK e (.inr s) r2 fun u h => k u H .refl (fun _ _ z => z) h)
theorem bi_min2 : BiT c bMin2 (fun xs H Q => ∃ i j, xs = [.int i, .int j] ∧ Q (.int (if j < i then j else i)) H) := by
  intro M H xs z vs q rb bn e r k
  unfold bMin2 at e
  split at e <;> try (cases e; done)
  cases e
  obtain ⟨v, w, rfl, r1, r2⟩ := rps2 r
  rw [rp_int r1, rp_int r2]
  exact ⟨_, _, rfl, k _ H .refl (fun _ _ z => z) (.flat rfl)⟩
theorem bi_max2 : BiT c bMax2 (fun xs H Q => ∃ i j, xs = [.int i, .int j] ∧ Q (.int (if j > i then j else i)) H) := by
  intro M H xs z vs q rb bn e r k
  unfold bMax2 at e
  split at e <;> try (cases e; done)
  cases e
  obtain ⟨v, w, rfl, r1, r2⟩ := rps2 r
  rw [rp_int r1, rp_int r2]
  exact ⟨_, _, rfl, k _ H .refl (fun _ _ z => z) (.flat rfl)⟩
theorem bi_int : BiT c bInt (fun xs H Q => (∃ i, xs = [.int i] ∧ Q (.int i) H) ∨ ∃ k, xs = [.bl k] ∧ Q (.int (if k then 1 else 0)) H) := by
  intro M H xs z vs q rb bn e r k
  unfold bInt at e
  split at e <;> try (cases e; done)
  · cases e
    obtain ⟨v, rfl, r1⟩ := rps1 r
    rw [rp_int r1]
    exact .inl ⟨_, rfl, k _ H .refl (fun _ _ z => z) (.flat rfl)⟩
  · cases e
    obtain ⟨v, rfl, r1⟩ := rps1 r
    rw [rp_bl r1]
    exact .inr ⟨_, rfl, k _ H .refl (fun _ _ z => z) (.flat rfl)⟩
theorem bi_abs : BiT c bAbs (fun xs H Q => ∃ i, xs = [.int i] ∧ Q (.int (if i < 0 then -i else i)) H) := by
  intro M H xs z vs q rb bn e r k
  unfold bAbs at e
  split at e <;> try (cases e; done)
  cases e
  obtain ⟨v, rfl, r1⟩ := rps1 r
  rw [rp_int r1]
  exact ⟨_, rfl, k _ H .refl (fun _ _ z => z) (.flat rfl)⟩
theorem bi_tuple : BiT c bTuple (fun xs H Q => ∃ p ys, xs = [.ref p] ∧ ((SqL c.C.K H p ys ∧ ∀ l, H l = none → Q (.ref l) (upd H l (.tup ys))) ∨ (SqT c.C.K H p ys ∧ Q (.ref p) H))) := by
  intro M H xs z vs q rb bn e r k
  unfold bTuple at e
  split at e <;> try (cases e; done)
  · cases e
    obtain ⟨v, rfl, r1⟩ := rps1 r
    obtain ⟨a, ws, rfl, s, r2⟩ := rp_tup r1
    exact ⟨a, ws, rfl, .inr ⟨s, k _ H .refl (fun _ _ z => z) r1⟩⟩
  · cases e
    obtain ⟨v, rfl, r1⟩ := rps1 r
    obtain ⟨a, ws, rfl, s, _, r2⟩ := rp_lst r1
    exact ⟨a, ws, rfl, .inl ⟨.of s, fun p n => k _ _ (Kp.upd_new n) (upd_keeps n) (R.tup_new rb n r2)⟩⟩
abbrev rList (K : PySem.W.Frag) (P : Program) (w : World) : List V → Hp → VK → Prop := fun xs H Q => (∃ p ys, xs = [.ref p] ∧ (SqL K H p ys ∨ SqT K H p ys) ∧ ∀ l, H l = none → Q (.ref l) (upd H l (.lst ys))) ∨ ∃ a kw vw, xs = [V.ref a] ∧ DcV P w H a kw vw ∧ ∀ l, H l = none → Q (.ref l) (upd H l (.lst kw))
theorem bi_list : BiT c bList (rList c.C.K c.C.P c.C.w) := by
  intro M H xs z vs q rb bn e r k
  unfold bList at e
  split at e <;> try (cases e; done)
  · cases e
    obtain ⟨v, rfl, r1⟩ := rps1 r
    obtain ⟨a, ws, rfl, s, r2⟩ := rp_tup r1
    exact .inl ⟨a, ws, rfl, .inr s, fun p n => k _ _ (Kp.upd_new n) (upd_keeps n) (R.lst_new rb bn n r2)⟩
  · cases e
    obtain ⟨v, rfl, r1⟩ := rps1 r
    obtain ⟨a, ws, rfl, s, _, r2⟩ := rp_lst r1
    exact .inl ⟨a, ws, rfl, .inl (.of s), fun p n => k _ _ (Kp.upd_new n) (upd_keeps n) (R.lst_new rb bn n r2)⟩
  · cases e
    obtain ⟨v, rfl, r1⟩ := rps1 r
    obtain ⟨a, kw, vw, rfl, _, d, q1, q2⟩ := rp_dct r1
    exact .inr ⟨a, kw, vw, rfl, dcv_of d q1, fun p n => k _ _ (Kp.upd_new n) (upd_keeps n) (R.lst_new rb bn n q1)⟩

/-! ### isinstance -/
def Ty.nm : Ty → String
  | .int => "int" | .bool => "bool" | .str => "str" | .tuple => "tuple" | .list => "list" | .dict => "dict"
theorem tyX_of {M : Addr → Prop} {H : Hp} {t : PV} {v : V} {T : String} (e : t.tyName = some T) (r : c.RP M H t v) : TyX c.C.K H v (.type T) := by
  unfold PV.tyName at e
  split at e <;> try (cases e; done)
  all_goals (cases e)
  · simp only [Cn.RP, RepP, RepM, Rep] at r; subst r; exact .base .non
  · rw [rp_bl r]; exact .base (.bl _)
  · rw [rp_int r]; exact .base (.int _)
  · rw [rp_str r]; exact .base (.str _)
  · obtain ⟨a, vs, rfl, s, _⟩ := rp_tup r
    rcases s with (s | ⟨o, s⟩) | ⟨o, its, n, h1, h2, _⟩
    · exact .base (.tup s)
    · exact .fTuple s
    · exact .kTuple h1 h2
  · obtain ⟨a, vs, rfl, s, _⟩ := rp_lst r
    exact .base (.lst s)
theorem kit_pv (K : PySem.W.Frag) {t : PV} {T : String} (e : t.tyName = some T) (y : Ty) : PySem.W.kitOne K (.type T) (.type y.nm) = some (t.ofTy y) := by
  unfold PV.tyName at e
  split at e <;> try (cases e; done)
  all_goals (cases e; cases y <;> first | exact kit_ty (show kitB _ _ = some true from by decide +kernel) | exact kit_ty (show kitB _ _ = some false from by decide +kernel))
theorem kit_any (K : PySem.W.Frag) {t : PV} {T : String} (e : t.tyName = some T) : ∀ ys : List Ty, PySem.W.kitAny K (.type T) (ys.map fun y => .type y.nm) = some (ys.any t.ofTy)
  | [] => rfl
  | y :: ys => kitAny_cons (kit_pv K e y) (fun h => by rw [kit_any K e ys]; simp [h]) (fun h => by simp [h])
theorem isV_some {t : PV} {ts : List Ty} {k : Bool} (h : isV t ts = some k) : ∃ T, t.tyName = some T ∧ k = ts.any t.ofTy := by
  unfold isV at h
  cases e : t.tyName with
  | none => rw [e] at h; exact nomatch h
  | some T => rw [e] at h; exact ⟨T, rfl, (Option.some.inj h).symm⟩
/-- isinstance(a, T) -/
theorem ok_is1 {y : Ty} {yn : Str} {py : Pos} (hk : X.K = c.C.K) (hg : Gl X "isinstance") (hm : X.mg "isinstance" = none) (hgy : Gl X yn) (hmy : X.mg yn = none) (hy : bootBuiltins yn = some (.type y.nm)) (ha : PE X a (LP c ma))
    (hn : yn ≠ "__name__") (hd : (yn == ("__debug__" : Str)) = false) (hs1 : starEach [a, .Name yn py] X.env = (false, eval a X.env) :: starEach [.Name yn py] X.env) (hs2 : starEach [.Name yn py] X.env = [(false, eval (.Name yn py) X.env)])
    (hpl : (backTo pos (starEach [.Name yn py] X.env)).any (·.1) = false) : PE X (.Call (.Name "isinstance" p) [a, .Name yn py] [] pos) (LE c (eB (bIs ma [y]))) :=
  (pe_callB call_isi hg hm (by decide +kernel) (pa_cons ha (pa_cons (pe_bltn (v := .ty y.nm) hgy hmy hy rfl hn hd) pa_nil hs2) hs1) (by decide) (by decide) hs1 hpl).w fun s H q ⟨M, S, fr, rs, h⟩ => by
    simp only [eB, bIs, Re.bind_assoc] at h
    refine ⟨M, S, fr, rs, PoE.bind h fun x S1 v H1 k1 st1 r1 h1 => ?_⟩
    cases e : isV x [y] with
    | none => rw [e] at h1; exact h1.elim
    | some k =>
      rw [e] at h1
      obtain ⟨T, e1, e2⟩ := isV_some e
      refine ⟨v, .ty y.nm, .type T, .type y.nm, k, rfl, .ty _, hk ▸ tyX_of e1 r1, ?_, h1 _ H1 .refl st1 (.flat rfl)⟩
      rw [kit_pv _ e1 y, e2]; simp
/-- isinstance(a, (T, U)) -/
theorem ok_is2 {y z : Ty} {yn zn : Str} {py pz pt : Pos} {kt} (hk : X.K = c.C.K) (hg : Gl X "isinstance") (hm : X.mg "isinstance" = none) (hgy : Gl X yn) (hmy : X.mg yn = none) (hy : bootBuiltins yn = some (.type y.nm))
    (hgz : Gl X zn) (hmz : X.mg zn = none) (hz : bootBuiltins zn = some (.type z.nm)) (ha : PE X a (LP c ma))
    (hn : yn ≠ "__name__") (hd : (yn == ("__debug__" : Str)) = false) (hn' : zn ≠ "__name__") (hd' : (zn == ("__debug__" : Str)) = false)
    (ht1 : starEach [.Name yn py, .Name zn pz] X.env = (false, eval (.Name yn py) X.env) :: starEach [.Name zn pz] X.env) (ht2 : starEach [.Name zn pz] X.env = [(false, eval (.Name zn pz) X.env)])
    (hs1 : starEach [a, .Tuple [.Name yn py, .Name zn pz] kt pt] X.env = (false, eval a X.env) :: starEach [.Tuple [.Name yn py, .Name zn pz] kt pt] X.env)
    (hs2 : starEach [.Tuple [.Name yn py, .Name zn pz] kt pt] X.env = [(false, eval (.Tuple [.Name yn py, .Name zn pz] kt pt) X.env)])
    (hpl : (backTo pos (starEach [.Tuple [.Name yn py, .Name zn pz] kt pt] X.env)).any (·.1) = false) : PE X (.Call (.Name "isinstance" p) [a, .Tuple [.Name yn py, .Name zn pz] kt pt] [] pos) (LE c (eB (bIs ma [y, z]))) :=
  (pe_callB call_isiT hg hm (by decide +kernel) (pa_cons ha (pa_cons (pe_tup (pa_cons (pe_bltn (v := .ty y.nm) hgy hmy hy rfl hn hd) (pa_cons (pe_bltn (v := .ty z.nm) hgz hmz hz rfl hn' hd') pa_nil ht2) ht1)) pa_nil hs2) hs1) (by decide) (by decide) hs1 hpl).w fun s H q ⟨M, S, fr, rs, h⟩ => by
    simp only [eB, bIs, Re.bind_assoc] at h
    refine ⟨M, S, fr, rs, PoE.bind h fun x S1 v H1 k1 st1 r1 h1 => ?_⟩
    cases e : isV x [y, z] with
    | none => rw [e] at h1; exact h1.elim
    | some k =>
      rw [e] at h1
      obtain ⟨T, e1, e2⟩ := isV_some e
      refine ⟨by show 2 ≤ sizeLine; decide, fun t n => ?_⟩
      refine ⟨v, t, [.ty y.nm, .ty z.nm], .type T, [.type y.nm, .type z.nm], k, rfl, upd_same, .cons (.ty _) (.cons (.ty _) .nil), hk ▸ tyX_of e1 (r1.k (Kp.upd_new n) rs.rb), ?_, h1 _ _ (Kp.upd_new n) (st1.k (Kp.upd_new n) rs.rb (upd_keeps n)) (.flat rfl)⟩
      rw [e2]
      exact kit_any _ e1 [y, z]
end
end Q
/-! Qh: what is walked, targets, comprehensions. -/
namespace Q
open PySem PySem.Spec PyProof.Rows L2

/-! ### what stays while statements run -/
structure Kq (M : Addr → Prop) (H : Hp) (M1 : Addr → Prop) (H1 : Hp) : Prop where
  keep : ∀ a o, H a = some o → ¬ M a → (∀ ps, o ≠ .tbl ps) → H1 a = some o
  tups : ∀ a xs, H a = some (.tup xs) → H1 a = some (.tup xs)
  frzs : ∀ a o u, H a = some (.frz o u) → H1 a = some (.frz o u)
  tbls : ∀ a ps, H a = some (.tbl ps) → ∃ more, H1 a = some (.tbl (ps ++ more))
  mx : ∀ a, M1 a → M a ∨ H a = none
section
variable {M M1 M2 B B1 : Addr → Prop} {H H1 H2 : Hp} {r : List Addr} {c : Cn} {S S1 : Sto} {s s1 : L2.St} {fr fr1 : Fr}
theorem Kq.kb (k : Kq M H M1 H1) (hM : ∀ a, M a → B a) : Kb B H H1 := ⟨fun a o e n t => k.keep a o e (fun z => n (hM a z)) t, k.tups, k.frzs⟩
theorem Kq.refl : Kq M H M H := ⟨fun _ _ h _ _ => h, fun _ _ h => h, fun _ _ _ h => h, fun _ ps h => ⟨#[], by rw [h]; simp⟩, fun _ z => .inl z⟩
theorem Kp.kq (k : Kp r H H1) (hr : ∀ a ∈ r, M a) : Kq M H M H1 := ⟨fun a o e n t => k.keep a o e (fun z => n (hr a z)) t, k.tups, k.frzs, k.tbls, fun _ z => .inl z⟩
theorem Kq.there (k : Kq M H M1 H1) {a : Addr} (h : H a ≠ none) (n : ¬ M a) : H1 a ≠ none := by
  cases e : H a with
  | none => exact absurd e h
  | some o =>
    by_cases t : ∃ ps, o = .tbl ps
    · obtain ⟨ps, rfl⟩ := t
      obtain ⟨m, e'⟩ := k.tbls a ps e
      rw [e']; exact fun z => nomatch z
    · rw [k.keep a o e n (fun ps z => t ⟨ps, z⟩)]; exact fun z => nomatch z
theorem Kq.trans (a : Kq M H M1 H1) (b : Kq M1 H1 M2 H2) : Kq M H M2 H2 :=
  have n1 : ∀ c o, H c = some o → ¬ M c → ¬ M1 c := fun c o e n z => (a.mx c z).elim n fun z => by rw [e] at z; exact nomatch z
  ⟨fun c o e n t => b.keep c o (a.keep c o e n t) (n1 c o e n) t, fun c xs h => b.tups c xs (a.tups c xs h), fun c o u h => b.frzs c o u (a.frzs c o u h), fun c ps h => by
    obtain ⟨m1, e1⟩ := a.tbls c ps h
    obtain ⟨m2, e2⟩ := b.tbls c _ e1
    exact ⟨m1 ++ m2, by rw [e2, Array.append_assoc]⟩, fun c z => by
      rcases b.mx c z with z | z
      · exact a.mx c z
      · by_cases m : M c
        · exact .inl m
        · refine .inr ?_
          cases e : H c with
          | none => rfl
          | some o => exact absurd z (a.there (by rw [e]; exact fun z => nomatch z) m)⟩
/-- what is known of a value, later -/
theorem Rep.kq {t : PV} {v : V} (h : c.R M H t v) (k : Kq M H M1 H1) : c.R M1 H1 t v :=
  Rep.kb (k.kb fun _ z => .inr z) (fun a z => by
    rcases z with z | z
    · exact .inl (.inl z)
    · exact (k.mx a z).imp .inr id) h
theorem Reps.kq {t : List PV} {v : List V} (h : c.Rs M H t v) (k : Kq M H M1 H1) : c.Rs M1 H1 t v :=
  Reps.kb (k.kb fun _ z => .inr z) (fun a z => by
    rcases z with z | z
    · exact .inl (.inl z)
    · exact (k.mx a z).imp .inr id) h

/-! ### targets -/
/-- slots alike but for some -/
def Alike (is : List Nat) (s s1 : L2.St) : Prop := s1.length = s.length ∧ ∀ j, j ∉ is → s1[j]? = s[j]?
def TgOk (c : Cn) (is : List Nat) (g : TG) (tg : TgS) : Prop :=
  ∀ (M : Addr → Prop) (S : Sto) (H : Hp) (s : L2.St) (fr : Fr) (x : PV) (v : V) (fr1 : Fr) (q : L2.St → Hp → Prop), c.RS M S H s fr → c.R M H x v → tg x fr = some fr1 →
    (∀ s1, c.RS M S H s1 fr1 → Alike is s s1 → q s1 H) → g v s H q
theorem RS.set {t : PV} {v : V} (rs : c.RS M S H s fr) (i : Nat) (r : c.R M H t v) : c.RS M S H (s.set i (some v)) (fr.set i (.va t)) :=
  ⟨rs.kp, rs.ut, rs.mt, rs.mn, rs.ru, rs.rm, rs.st, by rw [List.length_set, List.length_set]; exact rs.len, fun j a e o e' => by
    by_cases ij : i = j
    · subst ij
      obtain ⟨l1, e1⟩ := List.getElem?_eq_some_iff.mp e
      obtain ⟨l2, e2⟩ := List.getElem?_eq_some_iff.mp e'
      rw [List.getElem_set_self] at e1 e2
      subst e1 e2
      exact r
    · rw [List.getElem?_set_ne ij] at e e'
      exact rs.sl j a e o e', fun j k t' u p e1 e2 e3 e4 => by
    have nj : i ≠ j := fun z => by
      subst z
      obtain ⟨_, z⟩ := List.getElem?_eq_some_iff.mp e1
      rw [List.getElem_set_self] at z
      exact nomatch z
    have nk : i ≠ k := fun z => by
      subst z
      obtain ⟨_, z⟩ := List.getElem?_eq_some_iff.mp e2
      rw [List.getElem_set_self] at z
      exact nomatch z
    rw [List.getElem?_set_ne nj] at e1 e3
    rw [List.getElem?_set_ne nk] at e2 e4
    exact rs.inj j k t' u p e1 e2 e3 e4⟩
theorem Alike.refl {is : List Nat} : Alike is s s := ⟨rfl, fun _ _ => rfl⟩
theorem Alike.set {is : List Nat} {i : Nat} {o : Option V} (h : i ∈ is) (a : Alike is s s1) : Alike is s (s1.set i o) := ⟨by rw [List.length_set]; exact a.1, fun j n => by
  rw [List.getElem?_set_ne (fun z => n (by rw [← z]; exact h))]; exact a.2 j n⟩
theorem tg_name {i : Nat} : TgOk c [i] (gName i) (tN i) := fun M S H s fr x v fr1 q rs r e k => by
  cases e
  exact k _ (rs.set i r) (Alike.refl.set (by simp))
/-- names one by one -/
def gNames : List Nat → TGs
  | [] => gNil
  | i :: is => gCons (gName i) (gNames is)
theorem setAll_ok (q : L2.St → Hp → Prop) (js : List Nat) : ∀ (is : List Nat) (xs : List PV) (vs : List V) (s s0 : L2.St) (fr fr1 : Fr), (∀ i ∈ is, i ∈ js) → c.RS M S H s fr → c.Rs M H xs vs → setAll is xs fr = some fr1 → Alike js s0 s → (∀ s1, c.RS M S H s1 fr1 → Alike js s0 s1 → q s1 H) → gNames is vs s H q
  | [], [], vs, s, s0, fr, fr1, hj, rs, r, e, al, k => by
    simp only [Reps] at r
    cases e
    exact ⟨r, k s rs al⟩
  | [], x :: xs, vs, s, s0, fr, fr1, hj, rs, r, e, al, k => nomatch e
  | i :: is, [], vs, s, s0, fr, fr1, hj, rs, r, e, al, k => nomatch e
  | i :: is, x :: xs, vs, s, s0, fr, fr1, hj, rs, r, e, al, k => by
    simp only [Reps] at r
    obtain ⟨v, vr, rfl, r1, r2⟩ := r
    exact ⟨v, vr, rfl, setAll_ok q js is xs vr _ s0 _ fr1 (fun i z => hj i (by simp [z])) (rs.set i r1) r2 e (al.set (hj i (by simp))) k⟩
theorem setAll_len : ∀ {is : List Nat} {xs : List PV} {fr fr1 : Fr}, setAll is xs fr = some fr1 → xs.length = is.length
  | [], [], _, _, _ => rfl
  | [], x :: xs, _, _, e => nomatch e
  | i :: is, [], _, _, e => nomatch e
  | i :: is, x :: xs, fr, fr1, e => by
    have h : setAll is xs (fr.set i (.va x)) = some fr1 := e
    simp only [List.length_cons, setAll_len h]
theorem tg_tup {is : List Nat} {n : Nat} (hn : is.length = n) : TgOk c is (gTup c.C.K n (gNames is)) (tT is) := fun M S H s fr x v fr1 q rs r e k => by
  cases x with
  | tup xs =>
    obtain ⟨a, vs, rfl, sq, r1⟩ := rp_tup (Rep.p rs.rb r)
    have e : setAll is xs fr = some fr1 := e
    exact ⟨a, vs, rfl, sq, by rw [← r1.len, setAll_len e, hn], setAll_ok q is is xs vs s s fr fr1 (fun _ z => z) rs r1 e .refl k⟩
  | _ => exact nomatch e

/-! ### walks -/
structure WalkR (c : Cn) (M : Addr → Prop) (H : Hp) (xs : List PV) (J : It) : Prop where
  sz : xs.length ≤ sizeLine
  run : ∃ G Y, Walk J xs.length G Y ∧ ∀ M1 H1, Kq M H M1 H1 → (∀ a ∈ c.r, c.B M1 a) → G H1 ∧ ∀ i x H2, i < xs.length → Y i H1 x H2 → (∀ b o, H1 b = some o → H2 b = some o) ∧ ∃ t, xs[i]? = some t ∧ c.R M1 H2 t x
theorem walkR_list {K : PySem.W.Frag} {a : Addr} {xs : List PV} {vs : List V} (e : H a = some (.lst vs)) (n : ¬ M a) (r : c.Rs M H xs vs) (hz : vs.length ≤ sizeLine) : WalkR c M H xs (Itl K a) :=
  ⟨by rw [r.len]; exact hz, _, _, by rw [r.len]; exact walk_list (K := K) (a := a) (xs := vs), fun M1 H1 k rb => ⟨SqL.of (K := K) (k.keep _ _ e n (fun _ z => nomatch z)), fun i x H2 hi y => by
    obtain ⟨rfl, ex⟩ := y
    obtain ⟨t, e1, r1⟩ := (r.kq k).get' ex
    exact ⟨fun _ _ z => z, t, e1, r1⟩⟩⟩
theorem walkR_tup {a : Addr} {xs : List PV} {vs : List V} (e : SqT c.C.K H a vs) (r : c.Rs M H xs vs) (hz : vs.length ≤ sizeLine) : WalkR c M H xs (Itt c.C.K a) :=
  ⟨by rw [r.len]; exact hz, _, _, by rw [r.len]; exact walk_tup (K := c.C.K) (a := a) (xs := vs), fun M1 H1 k rb => ⟨SqT.kb e (k.kb (B := M) fun _ z => z), fun i x H2 hi y => by
    obtain ⟨rfl, ex⟩ := y
    obtain ⟨t, e1, r1⟩ := (r.kq k).get' ex
    exact ⟨fun _ _ z => z, t, e1, r1⟩⟩⟩
theorem rangeV_len {lo : Int} {n : Nat} : (rangeV lo n).length = n := by unfold rangeV; rw [List.length_map, List.length_range]
theorem rangeV_get {lo : Int} {n i : Nat} (h : i < n) : (rangeV lo n)[i]? = some (.int (lo + i)) := by
  unfold rangeV
  rw [List.getElem?_map, List.getElem?_range h]; rfl
theorem walkR_range {lo : Int} {n : Nat} (hz : n ≤ 16777216) : WalkR c M H (rangeV lo n) (Itr lo n) :=
  ⟨by rw [rangeV_len, sizeLine_eq]; exact hz, _, _, by rw [rangeV_len]; exact walk_range (lo := lo) (n := n), fun M1 H1 k rb => ⟨True.intro, fun i x H2 hi y => by
    obtain ⟨rfl, rfl⟩ := y
    rw [rangeV_len] at hi
    exact ⟨fun _ _ z => z, _, rangeV_get hi, .flat rfl⟩⟩⟩
end
/-- .. over what an expression cannot write to -/
structure WalkC (c : Cn) (M : Addr → Prop) (H : Hp) (xs : List PV) (J : It) : Prop where
  sz : xs.length ≤ sizeLine
  run : ∃ G Y, Walk J xs.length G Y ∧ ∀ M1 H1, Kp c.r H H1 → Kq M H M1 H1 → (∀ a ∈ c.r, c.B M1 a) → G H1 ∧ ∀ i x H2, i < xs.length → Y i H1 x H2 → (∀ b o, H1 b = some o → H2 b = some o) ∧ ∃ t, xs[i]? = some t ∧ c.R M1 H2 t x
theorem WalkR.c {c : Cn} {M : Addr → Prop} {H : Hp} {xs : List PV} {J : It} (w : WalkR c M H xs J) : WalkC c M H xs J := by
  obtain ⟨hz, G, Y, wk, wr⟩ := w
  exact ⟨hz, G, Y, wk, fun M1 H1 _ k rb => wr M1 H1 k rb⟩
theorem walkC_list {c : Cn} {M : Addr → Prop} {H : Hp} {K : PySem.W.Frag} {a : Addr} {xs : List PV} {vs : List V} (e : H a = some (.lst vs)) (n : a ∉ c.r) (r : c.Rs M H xs vs) (hz : vs.length ≤ sizeLine) : WalkC c M H xs (Itl K a) :=
  ⟨by rw [r.len]; exact hz, _, _, by rw [r.len]; exact walk_list (K := K) (a := a) (xs := vs), fun M1 H1 k kq rb => ⟨SqL.of (K := K) (k.keep _ _ e n (fun _ z => nomatch z)), fun i x H2 hi y => by
    obtain ⟨rfl, ex⟩ := y
    obtain ⟨t, e1, r1⟩ := (r.kq kq).get' ex
    exact ⟨fun _ _ z => z, t, e1, r1⟩⟩⟩
def LIc (c : Cn) (m : SI) : TI := fun s H R => ∃ M S fr, c.RS M S H s fr ∧ PoE c M H (m fr S) (fun H' xs J => WalkC c M H' xs J) R
def LI (c : Cn) (m : SI) : TI := fun s H R => ∃ M S fr, c.RS M S H s fr ∧ PoE c M H (m fr S) (fun H' xs J => WalkR c M H' xs J) R
section
variable {X : Cx} {c : Cn} {e a b d l tg : Expr} {es rest : List Expr} {ma mb md : SE} {ba bb : SB} {m : SA} {pos p : Pos} {x : Str}
def iSq (K : PySem.W.Frag) (t : TE) : TI := fun s H R => t s H fun x H1 => ∃ a, x = .ref a ∧ ((∃ xs, SqL K H1 a xs ∧ (xs.length ≤ sizeLine → R (Itl K a) H1)) ∨ ∃ xs, SqT K H1 a xs ∧ (xs.length ≤ sizeLine → R (Itt K a) H1))
/-- a list or a tuple, whichever it is -/
theorem pi_sq {t : TE} (hl : PE X l t) : PI X tg l (iSq X.K t) := ⟨fun pins s σ H R I h => by
  refine thn (hl.run pins s σ H _ I h) fun v s1 ⟨x, H1, J, r1, a, ex, q⟩ => ?_
  subst ex
  cases r1
  have new : ∀ (ob : Obj) (b u : _), s1.heap.get? b = some u → (s1.heap.push ob).get? b = some u := fun ob b u z => Heap.get?_push_of_some _ z
  have fp : ∀ b ∈ [s1.heap.objs.size], FpOk X pins H1 b := fun b hb => by
    rw [List.mem_singleton.mp hb]
    exact J.fpOk (Nat.le_refl _) (J.hok.fresh (Nat.le_refl _))
  rcases q with ⟨xs, hq, q⟩ | ⟨xs, hq, q⟩
  · obtain ⟨its, rv, pl, hz⟩ := J.list hq
    exact wpAny_pyIter_list pl.isList ⟨_, _, _, _, H1, rfl, J.kept (t' := s1.toks) (new _), turn_list a _, ⟨_, Heap.get?_push_size _ rfl, rfl, rfl⟩, fp, q hz⟩
  · obtain ⟨its, rv, pl, hz⟩ := J.tuple hq
    exact wpAny_pyIter_tuple (show s1.heap.IsTuple a its.toArray from pl) ⟨_, _, _, _, H1, rfl, J.kept (t' := s1.toks) (new _), turn_tuple a _, ⟨_, Heap.get?_push_size _ rfl, rfl, rfl⟩, fp, q hz⟩⟩
theorem items_some {x : PV} {xs : List PV} (h : x.items = some xs) : x = .tup xs ∨ x = .lst xs := by
  cases x <;> first | (cases h; done) | (cases h; exact .inl rfl) | (cases h; exact .inr rfl)
/-- over a plain value -/
theorem ok_iSeq (hk : X.K = c.C.K) (h : PE X l (LE c ma)) : PI X tg l (LI c (iSeq ma)) := (pi_sq h).w fun s H R ⟨M, S, fr, rs, h⟩ => ⟨M, S, fr, rs, PoE.bind h fun x S1 v H1 k1 st1 r1 h1 => by
  obtain ⟨xs, e, h2⟩ := h1.of
  rcases items_some e with rfl | rfl
  · obtain ⟨a, vs, rfl, sq, r2⟩ := rp_tup (Rep.p rs.rb r1)
    exact ⟨a, rfl, .inr ⟨vs, hk ▸ sq, fun hz => hk ▸ h2 _ H1 .refl st1 (walkR_tup sq r2 hz)⟩⟩
  · have r1 : c.R M H1 (.lst xs) v := r1
    simp only [Cn.R, Rep] at r1
    obtain ⟨a, vs, rfl, sq, r2⟩ := r1
    exact ⟨a, rfl, .inl ⟨vs, .of sq.1, fun hz => h2 _ H1 .refl st1 (walkR_list sq.1 (fun z => sq.2 (.inr z)) r2 hz)⟩⟩⟩
theorem ok_iRng1 (hg : Gl X "range") (hm : X.mg "range" = none) (ha : PE X a (LP c ma)) (hs : starEach [a] X.env = [(false, eval a X.env)]) : PI X tg (.Call (.Name "range" p) [a] [] pos) (LI c (iRng1 ma)) :=
  (pi_range1 hg hm (pa_cons ha pa_nil hs) hs).w fun s H R ⟨M, S, fr, rs, h⟩ => ⟨M, S, fr, rs, PoE.bind h fun x S1 v H1 k1 st1 r1 h1 => by
    obtain ⟨xs, e, h2⟩ := h1.of
    unfold rng1 at e
    split at e
    · obtain ⟨z, rfl⟩ := if_some e
      simp only [Bool.and_eq_true, decide_eq_true_eq] at z
      exact ⟨_, by rw [rp_int r1], z.2, by omega, h2 _ H1 .refl st1 (walkR_range (by omega))⟩
    · exact nomatch e⟩
theorem ok_iRng2 (hg : Gl X "range") (hm : X.mg "range" = none) (ha : PE X a (LP c ma)) (hb : PE X b (LP c mb)) (hs : starEach [a, b] X.env = [(false, eval a X.env), (false, eval b X.env)]) (hs2 : starEach [b] X.env = [(false, eval b X.env)]) : PI X tg (.Call (.Name "range" p) [a, b] [] pos) (LI c (iRng2 ma mb)) :=
  (pi_range2 hg hm (pa_cons ha (pa_cons hb pa_nil hs2) (by rw [hs, hs2])) hs hs2).w fun s H R ⟨M, S, fr, rs, h⟩ => ⟨M, S, fr, rs, PoE.bind h fun x S1 v H1 k1 st1 r1 h1 => ⟨M, S1, fr, rs.step k1 st1, PoE.bind h1 fun y S2 w H2 k2 st2 r2 h2 => by
    obtain ⟨xs, e, h3⟩ := h2.of
    unfold rng2 at e
    split at e
    · obtain ⟨z, rfl⟩ := if_some e
      simp only [Bool.and_eq_true, decide_eq_true_eq] at z
      exact ⟨_, _, by rw [rp_int r1, rp_int r2], ⟨z.1.1.1.1, z.1.1.1.2, z.1.1.2, z.1.2⟩, h3 _ H2 .refl st2 (walkR_range (by omega))⟩
    · exact nomatch e⟩⟩
theorem xi_c {mi : SI} (h : PI X tg l (LI c mi)) : PI X tg l (LIc c mi) := h.w fun s H R ⟨M, S, fr, rs, h⟩ => ⟨M, S, fr, rs, by
  revert h
  cases mi fr S with
  | ok t S' => exact fun h v H' k st r => h v H' k st r.c
  | ex c as S' => exact fun h => h
  | bad => exact fun h => h⟩
/-- over what is only looked at -/
theorem xi_peek (hk : X.K = c.C.K) (h : PE X l (LP c ma)) : PI X tg l (LIc c (iSeq ma)) := (pi_sq h).w fun s H R ⟨M, S, fr, rs, h⟩ => ⟨M, S, fr, rs, PoE.bind h fun x S1 v H1 k1 st1 r1 h1 => by
  obtain ⟨xs, e, h2⟩ := h1.of
  rcases items_some e with rfl | rfl
  · obtain ⟨a, vs, rfl, sq, r2⟩ := rp_tup r1
    exact ⟨a, rfl, .inr ⟨vs, hk ▸ sq, fun hz => hk ▸ h2 _ H1 .refl st1 (walkR_tup sq r2 hz).c⟩⟩
  · obtain ⟨a, vs, rfl, e1, n1, r2⟩ := rp_lst r1
    exact ⟨a, rfl, .inl ⟨vs, .of e1, fun hz => h2 _ H1 .refl st1 (walkC_list e1 n1 r2 hz)⟩⟩⟩
end
end Q
/-! Qi: zip and enumerate over lists and tuples in any mix. -/
namespace Q
open PySem PySem.Spec PyProof.Rows L2

inductive Kd | l | t
def SqK (k : Kd) (K : PySem.W.Frag) (H : Hp) (a : Addr) (xs : List V) : Prop := match k with
  | .l => SqL K H a xs
  | .t => SqT K H a xs
def IterK (k : Kd) (h : Heap) (it a : Addr) (i : Nat) : Prop := match k with
  | .l => h.IsListIter it a i
  | .t => h.IsTupleIter it a i
def PlK (k : Kd) (h : Heap) (a : Addr) (its : Array Value) : Prop := match k with
  | .l => h.IsList a its
  | .t => h.IsTuple a its
def objK (k : Kd) (a : Addr) : Obj := match k with
  | .l => { cls := .type "list_iterator", data := .fields #[.ref a, .int 0 0] }
  | .t => { cls := .type "tuple_iterator", data := .fields #[.ref a, .int 0 0] }
section
variable {X : Cx} {pins : List (Addr × Obj)} {s : L2.St} {H : Hp} {S : Shared} {k : Kd} {a it : Addr} {xs ys : List V}
theorem seqK (I : Inv X pins s H S) (h : SqK k X.K H a xs) : ∃ its : List Value, Vals xs its ∧ PlK k S.heap a its.toArray ∧ xs.length ≤ sizeLine := by
  cases k with
  | l => obtain ⟨its, r, p, z⟩ := I.list h; exact ⟨its, r, p.isList, z⟩
  | t => obtain ⟨its, r, p, z⟩ := I.tuple h; exact ⟨its, r, p, z⟩
theorem seqK_inj (I : Inv X pins s H S) (h : SqK k X.K H a xs) (h' : SqK k X.K H a ys) : xs = ys := by
  cases k with
  | l => exact I.list_inj h h'
  | t => exact I.tuple_inj h h'
theorem drawsK {prog : Program} {w : World} {A : Around} (hh : A.handled = none) (hne : a ≠ it) (its : Array Value) :
    Draws prog w A it [it, a] its.size (fun i v => its[i]? = some v) (fun i h => IterK k h it a i ∧ PlK k h a its) := by
  cases k with
  | l => exact Draws.list hh it a hne its
  | t => exact Draws.tuple hh it a hne its
theorem begK (its : Array Value) : Begins (.ref a) (objK k a) (fun h => PlK k h a its) := by
  cases k with
  | l => exact begins_list a its
  | t => exact begins_tuple a its
theorem iterK_0 {h : Heap} (e : h.get? it = some (objK k a)) : IterK k h it a 0 := by
  cases k with
  | l => exact ⟨_, e, rfl, rfl⟩
  | t => exact ⟨_, e, rfl, rfl⟩
theorem iterK_at {h h' : Heap} {i : Nat} (st : IterK k h it a i) (f : ∀ o, h.get? it = some o → h'.get? it = some o) : IterK k h' it a i := by
  cases k with
  | l => exact (show h.IsListIter it a i from st).at f
  | t => exact (show h.IsTupleIter it a i from st).at f
theorem iterK_obj {h : Heap} {i : Nat} (st : IterK k h it a i) : ∃ o, h.get? it = some o ∧ ∀ v, o.data ≠ .cell v := by
  cases k with
  | l => obtain ⟨o, e, _, d⟩ := (show h.IsListIter it a i from st); exact ⟨o, e, fun v z => by rw [d] at z; cases z⟩
  | t => obtain ⟨o, e, _, d⟩ := (show h.IsTupleIter it a i from st); exact ⟨o, e, fun v z => by rw [d] at z; cases z⟩
theorem plK_lt {h : Heap} {its : Array Value} (p : PlK k h a its) : a < h.objs.size := by
  cases k with
  | l => obtain ⟨o, e, _⟩ := (show h.IsList a its from p); exact Heap.lt_size e
  | t => obtain ⟨o, e, _⟩ := (show h.IsTuple a its from p); exact Heap.lt_size e
end

/-! ### zip -/
def Jz (j k : Kd) (K : PySem.W.Frag) (a b : Addr) : It where
  go := fun i H => ∃ xs ys : List V, SqK j K H a xs ∧ SqK k K H b ys ∧ i < min xs.length ys.length
  yld := fun i H v H' => ∃ T x y, v = .ref T ∧ H T = none ∧ H' = upd H T (.tup [x, y]) ∧ (∀ xs, SqK j K H a xs → xs[i]? = some x) ∧ ∀ ys, SqK k K H b ys → ys[i]? = some y
  stop := fun i H => ∃ xs ys : List V, SqK j K H a xs ∧ SqK k K H b ys ∧ i = min xs.length ys.length
theorem turn_zm {P : Program} {w : World} {K : PySem.W.Frag} {elts : List Expr} {kk : Nat} {tpos : Pos} {j k : Kd} {a b z TI TO i1 i2 : Addr} (D : ZipSep2 z TI TO i1 i2 [i1, a] [i2, b]) (n1 : a ≠ i1) (n2 : b ≠ i2) :
    Turn P w K (.Tuple elts kk tpos) (Jz j k K a b) [z, TI, TO, i1, i2] z (fun i h => IsZip h z TI TO .none ∧ IsTupOf2 h TI (.ref i1) (.ref i2) ∧ (∃ a1 a2, IsTupOf2 h TO a1 a2) ∧ IterK j h i1 a i ∧ IterK k h i2 b i) where
  mem := by simp
  obj := fun i h st c hc => by
    obtain ⟨hz, hTI, ⟨a1, a2, hTO⟩, q1, q2⟩ := st
    simp only [List.mem_cons, List.not_mem_nil, or_false] at hc
    rcases hc with rfl | rfl | rfl | rfl | rfl
    · exact ⟨_, hz, fun v q => nomatch q⟩
    · exact ⟨_, hTI, fun v q => nomatch q⟩
    · exact ⟨_, hTO, fun v q => nomatch q⟩
    · exact iterK_obj q1
    · exact iterK_obj q2
  keep := fun i h h' ⟨hz, hTI, ⟨a1, a2, hTO⟩, q1, q2⟩ f => ⟨f z (by simp) _ hz, f TI (by simp) _ hTI, ⟨a1, a2, f TO (by simp) _ hTO⟩, iterK_at q1 (f i1 (by simp)), iterK_at q2 (f i2 (by simp))⟩
  item := by
    intro X hP hw hK hc i pins s σ H E I hf st hg
    subst hP hw hK
    obtain ⟨hz, hTI, hTO, q1, q2⟩ := st
    obtain ⟨xs, ys, hx, hy, hi⟩ := hg
    obtain ⟨us, rx, px, zx⟩ := seqK I hx
    obtain ⟨ws, ry, py, _⟩ := seqK I hy
    have hh : X.A.in1.handled = none := I.ok.hd hc
    have W := GoesN.zip2 (prog := X.prog) (w := X.w) (A := X.A) (elts := elts) (x1 := kk) (pos := tpos) D (drawsK (k := j) hh n1 us.toArray) (drawsK (k := k) hh n2 ws.toArray)
    refine W.goes i s _ E (by rw [List.size_toArray, List.size_toArray, ← rx.length, ← ry.length]; exact hi) ⟨hz, hTI, hTO, ⟨q1, px⟩, ⟨q2, py⟩⟩ fun v h' tk hY st' hk _ => ?_
    obtain ⟨T, u, t, rfl, hT, eu, et, hI⟩ := hY
    obtain ⟨hz', hTI', hTO', ⟨q1', _⟩, ⟨q2', _⟩⟩ := st'
    have hi' : i < xs.length ∧ i < ys.length := by omega
    have ex : xs[i]? = some xs[i] := List.getElem?_eq_getElem hi'.1
    have ey : ys[i]? = some ys[i] := List.getElem?_eq_getElem hi'.2
    obtain ⟨u', eu', ru⟩ := rx.get ex
    obtain ⟨t', et', rt⟩ := ry.get ey
    have zu : u' = u := by simpa [eu'] using eu
    have zt : t' = t := by simpa [et'] using et
    subst zu zt
    have nT : H T = none := I.hok.fresh hT
    have old : ∀ c ∈ [z, TI, TO, i1, i2], c < s.heap.objs.size := fun c hc => by
      obtain ⟨_, _⟩ := hTO
      simp only [List.mem_cons, List.not_mem_nil, or_false] at hc
      rcases hc with rfl | rfl | rfl | rfl | rfl
      · exact Heap.lt_size hz
      · exact Heap.lt_size hTI
      · rename_i q; obtain ⟨_, q⟩ := q; exact Heap.lt_size q
      · obtain ⟨_, q, _⟩ := iterK_obj q1; exact Heap.lt_size q
      · obtain ⟨_, q, _⟩ := iterK_obj q2; exact Heap.lt_size q
    have I1 : Inv X pins σ (upd H T (.tup [xs[i], ys[i]])) { s with heap := h', toks := tk } :=
      I.turnedNew (ch := [z, TO, i1, i2]) hk (fun c hc => hf c (by simp only [List.mem_cons, List.not_mem_nil, or_false] at hc ⊢; rcases hc with h | h | h | h <;> simp [h])) hT ⟨by show 2 ≤ sizeLine; decide, [u', t'], .cons ru (.cons rt .nil), hI⟩
    refine ⟨.ref T, _, I1, rfl, ⟨T, _, _, rfl, nT, rfl, fun zs hz => by rw [seqK_inj I hz hx]; exact ex, fun zs hz => by rw [seqK_inj I hz hy]; exact ey⟩, ⟨hz', hTI', hTO', q1', q2'⟩, fun c hc => ?_⟩
    rw [upd_ne (Nat.ne_of_lt (Nat.lt_of_lt_of_le (old c hc) hT))]
    exact (hf c hc).1
  done := by
    intro X hP hw hK hc i pins s σ H E I hf st hg
    subst hP hw hK
    obtain ⟨hz, hTI, hTO, q1, q2⟩ := st
    obtain ⟨xs, ys, hx, hy, hi⟩ := hg
    obtain ⟨us, rx, px, zx⟩ := seqK I hx
    obtain ⟨ws, ry, py, _⟩ := seqK I hy
    have hh : X.A.in1.handled = none := I.ok.hd hc
    have W := GoesN.zip2 (prog := X.prog) (w := X.w) (A := X.A) (elts := elts) (x1 := kk) (pos := tpos) D (drawsK (k := j) hh n1 us.toArray) (drawsK (k := k) hh n2 ws.toArray)
    have en : min us.toArray.size ws.toArray.size = i := by rw [List.size_toArray, List.size_toArray, ← rx.length, ← ry.length]; exact hi.symm
    refine W.stops s _ E (by rw [en]; exact ⟨hz, hTI, hTO, ⟨q1, px⟩, ⟨q2, py⟩⟩) fun h' tk hk _ => ?_
    exact I.turnedL (ch := [z, TO, i1, i2]) hk fun c hc => hf c (by simp only [List.mem_cons, List.not_mem_nil, or_false] at hc ⊢; rcases hc with h | h | h | h <;> simp [h])
  self := fun A i s Q E st h => wpAny_pyIter_zip st.1 h
def iZm (K : PySem.W.Frag) (ta tb : TE) : TI := fun s H R => ta s H fun x H1 => tb s H1 fun y H2 => ∃ a b j k xs ys, [x, y] = [V.ref a, V.ref b] ∧ SqK j K H2 a xs ∧ SqK k K H2 b ys ∧ (xs.length ≤ sizeLine → R (Jz j k K a b) H2)
theorem pi_zm {X : Cx} {e f : Expr} {ta tb : TE} {p pos tpos : Pos} {elts : List Expr} {kk : Nat} (hg : Gl X "zip") (hm : X.mg "zip" = none) (ha : PE X e ta) (hb : PE X f tb)
    (hs : starEach [e, f] X.env = (false, eval e X.env) :: starEach [f] X.env) (hs2 : starEach [f] X.env = (false, eval f X.env) :: starEach [] X.env) (hpl : (backTo pos (starEach [f] X.env)).any (·.1) = false) :
    PI X (.Tuple elts kk tpos) (.Call (.Name "zip" p) [e, f] [] pos) (iZm X.K ta tb) := ⟨fun pins s σ H R I h => by
  refine Call_ (ld_blt I hg hm boot_zip (callWith_type1 (thn ((pa_cons ha (pa_cons hb pa_nil hs2) hs).run pos pins s σ H (fun vs H2 => ∃ a b j k xs ys, vs = [V.ref a, V.ref b] ∧ SqK j X.K H2 a xs ∧ SqK k X.K H2 b ys ∧ (xs.length ≤ sizeLine → R (Jz j k X.K a b) H2)) I h) fun us s1 ⟨vs, H1, J, r1, a, b, j, k, xs, ys, ev, hx, hy, q⟩ => ?_) hs hpl))
  subst ev
  cases r1 with
  | cons r rr =>
    cases rr with
    | cons r' rr =>
      cases rr
      cases r
      cases r'
      obtain ⟨us, rx, px, zx⟩ := seqK J hx
      obtain ⟨ws, ry, py, _⟩ := seqK J hy
      have la := plK_lt px
      have lb := plK_lt py
      refine zip_begins2 (begK (k := j) us.toArray) (begK (k := k) ws.toArray) px py fun h' hz hTI hTO h1 h2 hsz hk => wpAny_pyIter_zip hz ?_
      have I2 : Inv X pins σ H1 { s1 with heap := h' } := J.kept (t' := s1.toks) hk
      have sep := zip_sep2 (N := s1.heap.objs.size) (fp1 := [a]) (fp2 := [b]) (fun c hc => by rw [List.mem_singleton.mp hc]; exact la) (fun c hc => by rw [List.mem_singleton.mp hc]; exact lb)
      refine ⟨s1.heap.objs.size + 4, _, _, _, H1, rfl, I2, turn_zm sep (Nat.ne_of_lt la) (Nat.ne_of_lt (Nat.lt_succ_of_lt lb)), ⟨hz, hTI, ⟨_, _, hTO⟩, iterK_0 h1, iterK_0 h2⟩, fun c hc => ?_, q zx⟩
      have hle : s1.heap.objs.size ≤ c := by
        simp only [List.mem_cons, List.not_mem_nil, or_false] at hc
        rcases hc with z | z | z | z | z <;> rw [z] <;> first | exact Nat.le_refl _ | exact Nat.le_add_right _ _
      exact J.fpOk hle (J.hok.fresh hle)⟩
/-! ### enumerate -/
def Je (k : Kd) (K : PySem.W.Frag) (a : Addr) : It where
  go := fun i H => ∃ xs : List V, SqK k K H a xs ∧ i < xs.length
  yld := fun i H v H' => ∃ T x, v = .ref T ∧ H T = none ∧ H' = upd H T (.tup [.int (i : Nat), x]) ∧ ∀ xs, SqK k K H a xs → xs[i]? = some x
  stop := fun i H => ∃ xs : List V, SqK k K H a xs ∧ i = xs.length
theorem turn_em {P : Program} {w : World} {K : PySem.W.Frag} {elts : List Expr} {kk : Nat} {tpos : Pos} {k : Kd} {a e it : Addr} (n1 : a ≠ it) (n2 : e ≠ it) (n3 : e ≠ a) :
    Turn P w K (.Tuple elts kk tpos) (Je k K a) [e, it] e (fun i h => (∃ old, IsEnum h e it (0 + (i : Int)) old) ∧ IterK k h it a i) where
  mem := by simp
  obj := fun i h ⟨⟨old, he⟩, q⟩ c hc => by
    simp only [List.mem_cons, List.not_mem_nil, or_false] at hc
    rcases hc with rfl | rfl
    · exact ⟨_, he, fun v q => nomatch q⟩
    · exact iterK_obj q
  keep := fun i h h' ⟨⟨old, he⟩, q⟩ f => ⟨⟨old, f e (by simp) _ he⟩, iterK_at q (f it (by simp))⟩
  item := by
    intro X hP hw hK hc i pins s σ H E I hf st hg
    subst hP hw hK
    obtain ⟨⟨old, he⟩, q⟩ := st
    obtain ⟨xs, hx, hi⟩ := hg
    obtain ⟨us, rx, px, zx⟩ := seqK I hx
    have hh : X.A.in1.handled = none := I.ok.hd hc
    have W := GoesN.enumFrom (prog := X.prog) (w := X.w) (A := X.A) (elts := elts) (x1 := kk) (pos := tpos) 0 (drawsK (k := k) hh n1 us.toArray) e n2 (by simp [n2, n3]) (by simp)
    refine W.goes i s _ E (by rw [List.size_toArray, ← rx.length]; exact hi) ⟨⟨old, he⟩, q, px⟩ fun v h' tk hY st' hk _ => ?_
    obtain ⟨T, t, u, rfl, hT, eu, hI⟩ := hY
    obtain ⟨⟨old', he'⟩, q', _⟩ := st'
    have ex : xs[i]? = some xs[i] := List.getElem?_eq_getElem hi
    obtain ⟨u', eu', ru⟩ := rx.get ex
    have zu : u' = u := by simpa [eu'] using eu
    subst zu
    have nT : H T = none := I.hok.fresh hT
    have I1 : Inv X pins σ (upd H T (.tup [.int (i : Nat), xs[i]])) { s with heap := h', toks := tk } :=
      I.turnedNew (ch := [e, it]) hk hf hT ⟨by show 2 ≤ sizeLine; decide, [.int (0 + (i : Int)) t, u'], .cons ⟨t, by rw [Int.zero_add]⟩ (.cons ru .nil), hI⟩
    refine ⟨.ref T, _, I1, rfl, ⟨T, _, rfl, nT, rfl, fun zs hz => by rw [seqK_inj I hz hx]; exact ex⟩, ⟨⟨old', he'⟩, q'⟩, fun c hc => ?_⟩
    have old : c < s.heap.objs.size := by
      simp only [List.mem_cons, List.not_mem_nil, or_false] at hc
      rcases hc with rfl | rfl
      · exact Heap.lt_size he
      · obtain ⟨_, z, _⟩ := iterK_obj q; exact Heap.lt_size z
    rw [upd_ne (Nat.ne_of_lt (Nat.lt_of_lt_of_le old hT))]
    exact (hf c hc).1
  done := by
    intro X hP hw hK hc i pins s σ H E I hf st hg
    subst hP hw hK
    obtain ⟨⟨old, he⟩, q⟩ := st
    obtain ⟨xs, hx, hi⟩ := hg
    obtain ⟨us, rx, px, zx⟩ := seqK I hx
    have hh : X.A.in1.handled = none := I.ok.hd hc
    have W := GoesN.enumFrom (prog := X.prog) (w := X.w) (A := X.A) (elts := elts) (x1 := kk) (pos := tpos) 0 (drawsK (k := k) hh n1 us.toArray) e n2 (by simp [n2, n3]) (by simp)
    have en : us.toArray.size = i := by rw [List.size_toArray, ← rx.length]; exact hi.symm
    refine W.stops s _ E (by rw [en]; exact ⟨⟨old, he⟩, q, px⟩) fun h' tk hk _ => ?_
    exact I.turnedL (ch := [e, it]) hk hf
  self := fun A i s Q E st h => let ⟨⟨_, he⟩, _⟩ := st; wpAny_pyIter_enum he h
theorem meets_enum1 {v : Value} {ob : Obj} {G : Heap → Prop} (B : Begins v ob G) : Meets (Builtin.«enumerate.__new__» ⟨[.type "enumerate", v], []⟩) (fun _ R s => G s.heap ∧
      R (.ok (.ret (.ref (s.heap.push ob).objs.size))) { s with heap := (s.heap.push ob).push { cls := .type "enumerate", data := .fields #[.none, .bool false, .ref s.heap.objs.size, rawInt 0, .none, .none] } }) := .of_wp fun prog w A R s hh => by
  obtain ⟨hp, gs, dr, tks, os⟩ := s
  obtain ⟨hG, hR⟩ := hh
  have sb := sub_enumerate
  have it1 : ∀ {A' : Around} {E : Value → Shared → Prop} {Q : Value → Shared → Prop}, Q (.ref hp.objs.size) ⟨hp.push ob, gs, dr, tks, os⟩ → wpAny (model prog w) A' (pyIter v) Q E ⟨hp, gs, dr, tks, os⟩ := fun q => B.iter prog w _ _ ⟨hp, gs, dr, tks, os⟩ _ hG q
  wp_walk
  refine wpAny_stack_any fun stk => wpAny_pure ?_
  split
  · rename_i cc _ _ _ _ _
    cases (cc == Value.type "enumerate") <;> (wp_walk using it1; exact ⟨_, rfl, hR⟩)
  · wp_walk using it1
    exact ⟨_, rfl, hR⟩
/-- enumerate of a list, of a tuple begins -/
theorem enum1_begins {prog : Program} {w : World} {A : Around} {E : Value → Shared → Prop} {s : Shared} {k : Kd} {a : Addr} {its : List Value} {Q : Value → Shared → Prop} (p : PlK k s.heap a its.toArray)
    (h : ∀ h', IsEnum h' (s.heap.objs.size + 1) s.heap.objs.size 0 .none → IterK k h' s.heap.objs.size a 0 → (∀ b o, s.heap.get? b = some o → h'.get? b = some o) → Q (.ref (s.heap.objs.size + 1)) { s with heap := h' }) :
    wpAny (model prog w) A (call (.type "enumerate") [.ref a]) Q E s := by
  refine callType_new F.called_enumerate (by decide) (F.typeCall_enumerate_1 _) (F.newCall_enumerate_1 _) (fun obj => F.args_object_init_2 obj _) F.entry_enumerate_new (meets_enum1 (begK its.toArray)) ⟨p, ?_⟩
  have hz : (s.heap.push (objK k a)).objs.size = s.heap.objs.size + 1 := Heap.size_push ..
  have fr : (objK k a).isFreed = false := by cases k <;> rfl
  show _ ∧ _
  rw [hz]
  have he := Heap.get?_push_size (s.heap.push (objK k a)) (o := { cls := .type "enumerate", data := .fields #[.none, .bool false, .ref s.heap.objs.size, rawInt 0, .none, .none] }) rfl
  rw [hz] at he
  exact ⟨⟨_, he, rfl⟩, h _ he (iterK_0 (Heap.get?_push_of_some _ (Heap.get?_push_size _ fr))) fun b o z => Heap.get?_push_of_some _ (Heap.get?_push_of_some _ z)⟩
def iEm (K : PySem.W.Frag) (ta : TE) : TI := fun s H R => ta s H fun x H1 => ∃ a k xs, [x] = [V.ref a] ∧ SqK k K H1 a xs ∧ (xs.length ≤ sizeLine → R (Je k K a) H1)
theorem pi_em {X : Cx} {e : Expr} {ta : TE} {p pos tpos : Pos} {elts : List Expr} {kk : Nat} (hg : Gl X "enumerate") (hm : X.mg "enumerate" = none) (ha : PE X e ta) (hs : starEach [e] X.env = (false, eval e X.env) :: starEach [] X.env) :
    PI X (.Tuple elts kk tpos) (.Call (.Name "enumerate" p) [e] [] pos) (iEm X.K ta) := ⟨fun pins s σ H R I h => by
  refine Call_ (ld_blt I hg hm boot_enumerate (callWith_type1 (thn ((pa_cons ha pa_nil hs).run pos pins s σ H (fun vs H2 => ∃ a k xs, vs = [V.ref a] ∧ SqK k X.K H2 a xs ∧ (xs.length ≤ sizeLine → R (Je k X.K a) H2)) I h) fun us s1 ⟨vs, H1, J, r1, a, k, xs, ev, hx, q⟩ => ?_) hs rfl))
  subst ev
  cases r1 with
  | cons r rr =>
    cases rr
    cases r
    obtain ⟨us, rx, px, zx⟩ := seqK J hx
    have la := plK_lt px
    refine enum1_begins px fun h' he h1 hk => wpAny_pyIter_enum he ?_
    have I2 : Inv X pins σ H1 { s1 with heap := h' } := J.kept (t' := s1.toks) hk
    refine ⟨s1.heap.objs.size + 1, _, _, _, H1, rfl, I2, turn_em (it := s1.heap.objs.size) (Nat.ne_of_lt la) (Nat.succ_ne_self _) (Nat.ne_of_gt (Nat.lt_succ_of_lt la)), ⟨⟨_, he⟩, h1⟩, fun c hc => ?_, q zx⟩
    have hle : s1.heap.objs.size ≤ c := by
      simp only [List.mem_cons, List.not_mem_nil, or_false] at hc
      rcases hc with z | z <;> rw [z] <;> first | exact Nat.le_refl _ | exact Nat.le_add_right _ _
    exact J.fpOk hle (J.hok.fresh hle)⟩
end Q
/-! Qj: zip, enumerate as readings; comprehensions. -/
namespace Q
open PySem PySem.Spec PyProof.Rows L2
section
variable {M M1 M2 B B1 : Addr → Prop} {H H1 H2 : Hp} {r : List Addr} {c : Cn} {S S1 : Sto} {s s1 : L2.St} {fr fr1 : Fr}
/-- the items of a list or tuple that stands still -/
theorem items_sq {x : PV} {xs : List PV} {v : V} (e : x.items = some xs) (r1 : c.R M H x v) : ∃ a k vs, v = .ref a ∧ SqK k c.C.K H a vs ∧ c.Rs M H xs vs ∧ ∀ M1 H1, Kq M H M1 H1 → SqK k c.C.K H1 a vs := by
  rcases items_some e with rfl | rfl
  · simp only [Cn.R, Rep] at r1
    obtain ⟨a, vs, rfl, sq, r2⟩ := r1
    exact ⟨a, .t, vs, rfl, sq, r2, fun M1 H1 k => SqT.kb sq (k.kb (B := M) fun _ z => z)⟩
  · simp only [Cn.R, Rep] at r1
    obtain ⟨a, vs, rfl, sq, r2⟩ := r1
    exact ⟨a, .l, vs, rfl, .of sq.1, r2, fun M1 H1 k => .of (k.keep _ _ sq.1 (fun z => sq.2 (.inr z)) (fun _ z => nomatch z))⟩
theorem zipV_get {xs ys : List PV} {i : Nat} {x y : PV} (h1 : xs[i]? = some x) (h2 : ys[i]? = some y) : (zipV xs ys)[i]? = some (.tup [x, y]) := by
  unfold zipV
  rw [List.getElem?_zipWith, h1, h2]
theorem zipV_len {xs ys : List PV} : (zipV xs ys).length = min xs.length ys.length := by unfold zipV; rw [List.length_zipWith]
theorem enumV_len : ∀ (xs : List PV) (n : Nat), (enumV n xs).length = xs.length
  | [], _ => rfl
  | x :: r, n => by simp only [enumV, List.length_cons, enumV_len r]
theorem enumV_get : ∀ {xs : List PV} {n i : Nat} {x : PV}, xs[i]? = some x → (enumV n xs)[i]? = some (.tup [.int ((n + i : Nat) : Int), x])
  | [], _, _, _, h => by simp at h
  | y :: r, n, 0, x, h => by
    simp at h
    subst h
    simp [enumV]
  | y :: r, n, i + 1, x, h => by
    have := enumV_get (n := n + 1) (i := i) (x := x) (xs := r) (by simpa using h)
    simp only [enumV, List.getElem?_cons_succ]
    rw [this]
    congr 4
    omega
theorem R.pair {x y : PV} {v w : V} {T : Addr} (rb : ∀ a ∈ c.r, c.B M a) (n : H T = none) (h1 : c.R M H x v) (h2 : c.R M H y w) : c.R M (upd H T (.tup [v, w])) (.tup [x, y]) (.ref T) := R.tup_new rb n (.cons h1 (.cons h2 .nil))
theorem walkR_zip {j k : Kd} {a b : Addr} {xs ys : List PV} {vs ws : List V} (f1 : ∀ M1 H1, Kq M H M1 H1 → SqK j c.C.K H1 a vs) (f2 : ∀ M1 H1, Kq M H M1 H1 → SqK k c.C.K H1 b ws) (r1 : c.Rs M H xs vs) (r2 : c.Rs M H ys ws) (hz : vs.length ≤ sizeLine) :
    WalkR c M H (zipV xs ys) (Jz j k c.C.K a b) :=
  ⟨by rw [zipV_len, r1.len]; exact Nat.le_trans (Nat.min_le_left _ _) hz, fun H => SqK j c.C.K H a vs ∧ SqK k c.C.K H b ws, (Jz j k c.C.K a b).yld, ⟨fun i H hi q => ⟨vs, ws, q.1, q.2, by rw [zipV_len] at hi; rw [← r1.len, ← r2.len]; exact hi⟩, fun H q => ⟨vs, ws, q.1, q.2, by rw [zipV_len, r1.len, r2.len]⟩, fun i H x H' hi q y => y⟩,
    fun M1 H1 k rb => ⟨⟨f1 M1 H1 k, f2 M1 H1 k⟩, fun i x H2 hi y => by
      obtain ⟨T, u, t, rfl, n, rfl, g1, g2⟩ := y
      obtain ⟨x1, e1, q1⟩ := (r1.kq k).get' (g1 _ (f1 M1 H1 k))
      obtain ⟨y1, e2, q2⟩ := (r2.kq k).get' (g2 _ (f2 M1 H1 k))
      exact ⟨upd_keeps n, _, zipV_get e1 e2, R.pair rb n q1 q2⟩⟩⟩
theorem walkR_enum {k : Kd} {a : Addr} {xs : List PV} {vs : List V} (f1 : ∀ M1 H1, Kq M H M1 H1 → SqK k c.C.K H1 a vs) (r1 : c.Rs M H xs vs) (hz : vs.length ≤ sizeLine) : WalkR c M H (enumV 0 xs) (Je k c.C.K a) :=
  ⟨by rw [enumV_len, r1.len]; exact hz, fun H => SqK k c.C.K H a vs, (Je k c.C.K a).yld, ⟨fun i H hi q => ⟨vs, q, by rw [enumV_len] at hi; rw [← r1.len]; exact hi⟩, fun H q => ⟨vs, q, by rw [enumV_len, r1.len]⟩, fun i H x H' hi q y => y⟩,
    fun M1 H1 k rb => ⟨f1 M1 H1 k, fun i x H2 hi y => by
      obtain ⟨T, u, rfl, n, rfl, g1⟩ := y
      obtain ⟨x1, e1, q1⟩ := (r1.kq k).get' (g1 _ (f1 M1 H1 k))
      refine ⟨upd_keeps n, _, enumV_get (n := 0) e1, ?_⟩
      rw [Nat.zero_add]
      exact R.pair rb n (.flat rfl) q1⟩⟩
end
section
variable {X : Cx} {c : Cn} {e a b d l tg : Expr} {es rest : List Expr} {ma mb md : SE} {ba bb : SB} {m : SA} {pos p tpos : Pos} {x : Str} {elts : List Expr} {kk : Nat}
theorem ok_iZip (hk : X.K = c.C.K) (hg : Gl X "zip") (hm : X.mg "zip" = none) (ha : PE X a (LE c ma)) (hb : PE X b (LE c mb)) (hs : starEach [a, b] X.env = (false, eval a X.env) :: starEach [b] X.env) (hs2 : starEach [b] X.env = (false, eval b X.env) :: starEach [] X.env)
    (hpl : (backTo pos (starEach [b] X.env)).any (·.1) = false) : PI X (.Tuple elts kk tpos) (.Call (.Name "zip" p) [a, b] [] pos) (LI c (iZip ma mb)) :=
  (pi_zm hg hm ha hb hs hs2 hpl).w fun s H R ⟨M, S, fr, rs, h⟩ => ⟨M, S, fr, rs, PoE.bind h fun x S1 v H1 k1 st1 r1 h1 => ⟨M, S1, fr, rs.step k1 st1, PoE.bind h1 fun y S2 w H2 k2 st2 r2 h2 => by
    obtain ⟨zs, e, h3⟩ := h2.of
    unfold zipO at e
    rw [Option.bind_eq_some_iff] at e
    obtain ⟨xs, ex, e⟩ := e
    rw [Option.map_eq_some_iff] at e
    obtain ⟨ys, ey, rfl⟩ := e
    obtain ⟨a, j, vs, rfl, sq1, q1, f1⟩ := items_sq ex (Rep.k k2 rs.rb r1)
    obtain ⟨b, k, ws, rfl, sq2, q2, f2⟩ := items_sq ey r2
    refine ⟨a, b, j, k, vs, ws, rfl, hk ▸ sq1, hk ▸ sq2, fun hz => ?_⟩
    rw [hk]
    exact h3 _ H2 .refl st2 (walkR_zip f1 f2 q1 q2 hz)⟩⟩
theorem ok_iEnum (hk : X.K = c.C.K) (hg : Gl X "enumerate") (hm : X.mg "enumerate" = none) (ha : PE X a (LE c ma)) (hs : starEach [a] X.env = (false, eval a X.env) :: starEach [] X.env) : PI X (.Tuple elts kk tpos) (.Call (.Name "enumerate" p) [a] [] pos) (LI c (iEnum ma)) :=
  (pi_em hg hm ha hs).w fun s H R ⟨M, S, fr, rs, h⟩ => ⟨M, S, fr, rs, PoE.bind h fun x S1 v H1 k1 st1 r1 h1 => by
    obtain ⟨zs, e, h3⟩ := h1.of
    unfold enumO at e
    rw [Option.map_eq_some_iff] at e
    obtain ⟨xs, ex, rfl⟩ := e
    obtain ⟨a, j, vs, rfl, sq1, q1, f1⟩ := items_sq ex r1
    refine ⟨a, j, vs, rfl, hk ▸ sq1, fun hz => ?_⟩
    rw [hk]
    exact h3 _ H1 .refl st1 (walkR_enum f1 q1 hz)⟩

/-! ### comprehensions -/
theorem wipeF_get : ∀ {vs : List Nat} {fr : Fr} {i : Nat} {a : Sl}, (wipeF fr vs)[i]? = some a → a ≠ .no → fr[i]? = some a ∧ i ∉ vs
  | [], _, _, _, h, _ => ⟨h, by simp⟩
  | v :: vs, fr, i, a, h, n => by
    rw [wipeF_cons] at h
    by_cases hi : v = i
    · subst hi
      obtain ⟨l, z⟩ := List.getElem?_eq_some_iff.mp h
      rw [List.getElem_set_self] at z
      exact absurd z.symm n
    · rw [List.getElem?_set_ne hi] at h
      obtain ⟨h1, h2⟩ := wipeF_get h n
      exact ⟨h1, by simp only [List.mem_cons, not_or]; exact ⟨fun e => hi e.symm, h2⟩⟩
theorem wipeF_len : ∀ {vs : List Nat} {fr : Fr}, (wipeF fr vs).length = fr.length
  | [], _ => rfl
  | v :: vs, fr => by rw [wipeF_cons, List.length_set, wipeF_len]
theorem wipe_get : ∀ {vs : List Nat} {s : L2.St} {i : Nat}, i ∉ vs → (wipe s vs)[i]? = s[i]?
  | [], _, _, _ => rfl
  | v :: vs, s, i, h => by
    simp only [List.mem_cons, not_or] at h
    unfold wipe
    rw [List.getElem?_set_ne (fun z => h.1 z.symm), wipe_get h.2]
theorem wipe_alike : ∀ {vs : List Nat} {s s1 : L2.St}, s1.length = s.length → (∀ j, j ∉ vs → s1[j]? = s[j]?) → wipe s1 vs = wipe s vs
  | vs, s, s1, hl, h => by
    refine List.ext_getElem? fun j => ?_
    by_cases hj : j ∈ vs
    · have : ∀ (vs : List Nat) (s : L2.St), j ∈ vs → (wipe s vs)[j]? = if j < s.length then some none else none := fun vs s => by
        induction vs with
        | nil => intro z; simp at z
        | cons v vs ih =>
          intro z
          unfold wipe
          by_cases e : v = j
          · subst e
            by_cases l : v < s.length
            · rw [if_pos l, List.getElem?_set_self (by rw [wipe_length]; exact l)]
            · rw [if_neg l]
              exact List.getElem?_eq_none (by rw [List.length_set, wipe_length]; omega)
          · rw [List.getElem?_set_ne e]
            exact ih ((List.mem_cons.mp z).resolve_left fun q => e q.symm)
      rw [this vs s1 hj, this vs s hj, hl]
    · rw [wipe_get hj, wipe_get hj]
      exact h j hj
/-- a new list of the comprehension's own, at D -/
abbrev plusD (M : Addr → Prop) (D : Addr) : Addr → Prop := fun a => M a ∨ a = D
section
variable {M : Addr → Prop} {S : Sto} {H H1 : Hp} {s : L2.St} {fr : Fr} {D : Addr}
theorem St.mono {M1 : Addr → Prop} (h : c.St M S H) (k : Kb (c.B M) H H1) (hB : ∀ a, c.B M1 a → c.B M a ∨ H a = none) (hr : ∀ p ∈ c.r, ∀ o, H p = some o → H1 p = some o) : c.St M1 S H1 :=
  ⟨h.len, h.nd, fun i p t e1 e2 => (h.at_ i p t e1 e2).kb k hB fun o e _ => hr p (List.mem_of_getElem? e1) _ e⟩
theorem SlotR.mono {M1 : Addr → Prop} {a : Sl} {o : Option V} (h : SlotR c.C (c.B M) M c.r H a o) (k : Kb (c.B M) H H1) (km : Kb M H H1) (hB : ∀ a, c.B M1 a → c.B M a ∨ H a = none) (hM : ∀ a, M1 a → M a ∨ H a = none) (h0 : ∀ a, M a → M1 a)
    (hn : ∀ p o, M p → p ∉ c.r → (∀ ps, o ≠ .tbl ps) → H p = some o → H1 p = some o) (kc : ∀ v F, c.C.cl c.r H v F → c.C.cl c.r H1 v F) : SlotR c.C (c.B M1) M1 c.r H1 a o := by
  cases a with
  | no => exact True.intro
  | va t =>
    cases o with
    | none => exact h
    | some v => exact Rep.kb k hB h
  | ow t =>
    cases o with
    | none => exact h
    | some v =>
      obtain ⟨p, e, m, n, q⟩ := h
      exact ⟨p, e, h0 p m, n, q.kb k hB fun o e mu => hn p _ m n mu.ntbl e⟩
  | bo t =>
    cases o with
    | none => exact h
    | some v => exact RepM.kb k km hB hM h
  | cl F =>
    cases o with
    | none => exact h
    | some v => exact kc v F h
/-- one more list that is nobody's yet -/
theorem RS.plus (rs : c.RS M S H s fr) (n : H D = none) (o : HO) : c.RS (plusD M D) S (upd H D o) s fr :=
  have nr : D ∉ c.r := fun z => rs.mt D (rs.rm D z) n
  have k : Kp c.r H (upd H D o) := Kp.upd_new n
  have mx : ∀ a, plusD M D a → M a ∨ H a = none := fun a z => z.imp id fun e => by rw [e]; exact n
  have bx : ∀ a, c.B (plusD M D) a → c.B M a ∨ H a = none := fun a z => z.elim (fun z => .inl (.inl z)) fun z => (mx a z).imp .inr id
  ⟨rs.kp.trans k, rs.ut, fun a z => by
      rcases z with z | z
      · cases e : H a with
        | none => exact absurd e (rs.mt a z)
        | some q => rw [upd_keeps n a q e]; exact fun z => nomatch z
      · rw [z, upd_same]; exact (fun z => nomatch z),
    fun a z na => by
      rcases z with z | z
      · exact rs.mn a z na
      · rw [z]
        cases e : c.H0 D with
        | none => rfl
        | some q => exact absurd n (rs.kp.there (by rw [e]; exact fun z => nomatch z) nr),
    rs.ru, fun a z => .inl (rs.rm a z), St.mono rs.st (k.kb rs.rb) bx (fun p _ o e => upd_keeps n p o e), rs.len,
    fun i a e q e' => SlotR.mono (rs.sl i a e q e') (k.kb rs.rb) (k.kb rs.rm) bx mx (fun a z => .inl z) (fun p o _ _ _ e => upd_keeps n p o e) (fun v F z => c.C.clk z k), rs.inj⟩
/-- that list is changed -/
theorem RS.put (rs : c.RS (plusD M D) S H s fr) (hM : ¬ M D) (nr : D ∉ c.r) (ns : ∀ (i : Nat) (t : PV), fr[i]? = some (.ow t) → s[i]? ≠ some (some (.ref D))) {vs : List V} (e : H D = some (.lst vs)) (ws : List V) : c.RS (plusD M D) S (upd H D (.lst ws)) s fr :=
  have ne : ∀ b o, b ≠ D → H b = some o → upd H D (.lst ws) b = some o := fun b o z e => by rw [upd_ne z]; exact e
  have k : Kb (plusD M D) H (upd H D (.lst ws)) := ⟨fun a o e n _ => ne a o (fun z => n (.inr z)) e, fun a xs q => ne a _ (fun z => by rw [z, e] at q; exact nomatch q) q, fun a o u q => ne a _ (fun z => by rw [z, e] at q; exact nomatch q) q⟩
  have kB : Kb (c.B (plusD M D)) H (upd H D (.lst ws)) := ⟨fun a o e n t => k.keep a o e (fun z => n (.inr z)) t, k.tups, k.frzs⟩
  have hn : ∀ a, H a ≠ none → upd H D (.lst ws) a ≠ none := fun a h => by
    by_cases z : a = D
    · rw [z, upd_same]; exact fun z => nomatch z
    · rw [upd_ne z]; exact h
  have nD : c.H0 D = none := rs.mn D (.inr rfl) nr
  have kc : Kp c.r c.H0 (upd H D (.lst ws)) := ⟨fun a o q n t => ne a o (fun z => by rw [z, nD] at q; exact nomatch q) (rs.kp.keep a o q n t), fun a xs q => ne a _ (fun z => by rw [z, nD] at q; exact nomatch q) (rs.kp.tups a xs q), fun a o u q => ne a _ (fun z => by rw [z, nD] at q; exact nomatch q) (rs.kp.frzs a o u q), fun a ps q => by
      obtain ⟨m, z⟩ := rs.kp.tbls a ps q
      exact ⟨m, ne a _ (fun y => by rw [y, e] at z; exact nomatch z) z⟩⟩
  ⟨kc, rs.ut, fun a z => hn a (rs.mt a z), rs.mn, rs.ru, rs.rm, St.mono rs.st kB (fun _ z => .inl z) (fun p hp o e => ne p o (fun z => nr (z ▸ hp)) e), rs.len,
    fun i a ea q e' => by
      have h := rs.sl i a ea q e'
      cases a with
      | no => exact True.intro
      | va t =>
        cases q with
        | none => exact h
        | some v => exact Rep.kb kB (fun _ z => .inl z) h
      | ow t =>
        cases q with
        | none => exact h
        | some v =>
          obtain ⟨p, rfl, m, n, q⟩ := h
          exact ⟨p, rfl, m, n, q.kb kB (fun _ z => .inl z) fun o eu _ => ne p _ (fun z => ns i _ ea (by rw [e', z])) eu⟩
      | bo t =>
        cases q with
        | none => exact h
        | some v => exact RepM.kb kB k (fun _ z => .inl z) (fun _ z => .inl z) h
      | cl F =>
        cases q with
        | none => exact h
        | some v => exact c.C.clD h e .lst, rs.inj⟩
theorem RS.wipe (rs : c.RS M S H s fr) (vs : List Nat) : c.RS M S H (L2.wipe s vs) (wipeF fr vs) :=
  ⟨rs.kp, rs.ut, rs.mt, rs.mn, rs.ru, rs.rm, rs.st, by rw [wipe_length, wipeF_len]; exact rs.len, fun i a e o e' => by
    by_cases n : a = .no
    · subst n; exact True.intro
    · obtain ⟨h1, h2⟩ := wipeF_get e n
      rw [wipe_get h2] at e'
      exact rs.sl i a h1 o e', fun i j t u p e1 e2 e3 e4 => by
    obtain ⟨h1, h2⟩ := wipeF_get e1 (fun z => nomatch z)
    obtain ⟨h3, h4⟩ := wipeF_get e2 (fun z => nomatch z)
    rw [wipe_get h2] at e3
    rw [wipe_get h4] at e4
    exact rs.inj i j t u p h1 h3 e3 e4⟩
end
end
end Q
/-! Qib: zip of three. -/
namespace Q
open PySem PySem.Spec PyProof.Rows L2
def Jz3 (j k l : Kd) (K : PySem.W.Frag) (a b d : Addr) : It where
  go := fun i H => ∃ xs ys zs : List V, SqK j K H a xs ∧ SqK k K H b ys ∧ SqK l K H d zs ∧ i < min (min xs.length ys.length) zs.length
  yld := fun i H v H' => ∃ T x y z, v = .ref T ∧ H T = none ∧ H' = upd H T (.tup [x, y, z]) ∧ (∀ xs, SqK j K H a xs → xs[i]? = some x) ∧ (∀ ys, SqK k K H b ys → ys[i]? = some y) ∧ ∀ zs, SqK l K H d zs → zs[i]? = some z
  stop := fun i H => ∃ xs ys zs : List V, SqK j K H a xs ∧ SqK k K H b ys ∧ SqK l K H d zs ∧ i = min (min xs.length ys.length) zs.length
theorem turn_z3 {P : Program} {w : World} {K : PySem.W.Frag} {elts : List Expr} {kk : Nat} {tpos : Pos} {j k l : Kd} {a b d z TI TO i1 i2 i3 : Addr} (D : ZipSep3 z TI TO i1 i2 i3 [i1, a] [i2, b] [i3, d]) (n1 : a ≠ i1) (n2 : b ≠ i2) (n3 : d ≠ i3) :
    Turn P w K (.Tuple elts kk tpos) (Jz3 j k l K a b d) [z, TI, TO, i1, i2, i3] z (fun i h => IsZip h z TI TO .none ∧ IsTupOf3 h TI (.ref i1) (.ref i2) (.ref i3) ∧ (∃ a1 a2 a3, IsTupOf3 h TO a1 a2 a3) ∧ IterK j h i1 a i ∧ IterK k h i2 b i ∧ IterK l h i3 d i) where
  mem := by simp
  obj := fun i h st c hc => by
    obtain ⟨hz, hTI, ⟨a1, a2, a3, hTO⟩, q1, q2, q3⟩ := st
    simp only [List.mem_cons, List.not_mem_nil, or_false] at hc
    rcases hc with rfl | rfl | rfl | rfl | rfl | rfl
    · exact ⟨_, hz, fun v q => nomatch q⟩
    · exact ⟨_, hTI, fun v q => nomatch q⟩
    · exact ⟨_, hTO, fun v q => nomatch q⟩
    · exact iterK_obj q1
    · exact iterK_obj q2
    · exact iterK_obj q3
  keep := fun i h h' ⟨hz, hTI, ⟨a1, a2, a3, hTO⟩, q1, q2, q3⟩ f => ⟨f z (by simp) _ hz, f TI (by simp) _ hTI, ⟨a1, a2, a3, f TO (by simp) _ hTO⟩, iterK_at q1 (f i1 (by simp)), iterK_at q2 (f i2 (by simp)), iterK_at q3 (f i3 (by simp))⟩
  item := by
    intro X hP hw hK hc i pins s σ H E I hf st hg
    subst hP hw hK
    obtain ⟨hz, hTI, hTO, q1, q2, q3⟩ := st
    obtain ⟨xs, ys, zs, hx, hy, hd, hi⟩ := hg
    obtain ⟨us, rx, px, zx⟩ := seqK I hx
    obtain ⟨ws, ry, py, _⟩ := seqK I hy
    obtain ⟨vs, rd, pd, _⟩ := seqK I hd
    have hh : X.A.in1.handled = none := I.ok.hd hc
    have W := GoesN.zip3 (prog := X.prog) (w := X.w) (A := X.A) (elts := elts) (x1 := kk) (pos := tpos) D (drawsK (k := j) hh n1 us.toArray) (drawsK (k := k) hh n2 ws.toArray) (drawsK (k := l) hh n3 vs.toArray)
    refine W.goes i s _ E (by rw [List.size_toArray, List.size_toArray, List.size_toArray, ← rx.length, ← ry.length, ← rd.length]; exact hi) ⟨hz, hTI, hTO, ⟨q1, px⟩, ⟨q2, py⟩, ⟨q3, pd⟩⟩ fun v h' tk hY st' hk _ => ?_
    obtain ⟨T, u, t, r, rfl, hT, eu, et, er, hI⟩ := hY
    obtain ⟨hz', hTI', hTO', ⟨q1', _⟩, ⟨q2', _⟩, ⟨q3', _⟩⟩ := st'
    have hi' : i < xs.length ∧ i < ys.length ∧ i < zs.length := by omega
    have ex : xs[i]? = some xs[i] := List.getElem?_eq_getElem hi'.1
    have ey : ys[i]? = some ys[i] := List.getElem?_eq_getElem hi'.2.1
    have ez : zs[i]? = some zs[i] := List.getElem?_eq_getElem hi'.2.2
    obtain ⟨u', eu', ru⟩ := rx.get ex
    obtain ⟨t', et', rt⟩ := ry.get ey
    obtain ⟨r', er', rr⟩ := rd.get ez
    have zu : u' = u := by simpa [eu'] using eu
    have zt : t' = t := by simpa [et'] using et
    have zr : r' = r := by simpa [er'] using er
    subst zu zt zr
    have nT : H T = none := I.hok.fresh hT
    have old : ∀ c ∈ [z, TI, TO, i1, i2, i3], c < s.heap.objs.size := fun c hc => by
      obtain ⟨_, _, _, qTO⟩ := hTO
      simp only [List.mem_cons, List.not_mem_nil, or_false] at hc
      rcases hc with rfl | rfl | rfl | rfl | rfl | rfl
      · exact Heap.lt_size hz
      · exact Heap.lt_size hTI
      · exact Heap.lt_size qTO
      · obtain ⟨_, q, _⟩ := iterK_obj q1; exact Heap.lt_size q
      · obtain ⟨_, q, _⟩ := iterK_obj q2; exact Heap.lt_size q
      · obtain ⟨_, q, _⟩ := iterK_obj q3; exact Heap.lt_size q
    have I1 : Inv X pins σ (upd H T (.tup [xs[i], ys[i], zs[i]])) { s with heap := h', toks := tk } :=
      I.turnedNew (ch := [z, TO, i1, i2, i3]) hk (fun c hc => hf c (by simp only [List.mem_cons, List.not_mem_nil, or_false] at hc ⊢; rcases hc with h | h | h | h | h <;> simp [h])) hT ⟨by show 3 ≤ sizeLine; decide, [u', t', r'], .cons ru (.cons rt (.cons rr .nil)), hI⟩
    refine ⟨.ref T, _, I1, rfl, ⟨T, _, _, _, rfl, nT, rfl, fun ws hz => by rw [seqK_inj I hz hx]; exact ex, fun ws hz => by rw [seqK_inj I hz hy]; exact ey, fun ws hz => by rw [seqK_inj I hz hd]; exact ez⟩, ⟨hz', hTI', hTO', q1', q2', q3'⟩, fun c hc => ?_⟩
    rw [upd_ne (Nat.ne_of_lt (Nat.lt_of_lt_of_le (old c hc) hT))]
    exact (hf c hc).1
  done := by
    intro X hP hw hK hc i pins s σ H E I hf st hg
    subst hP hw hK
    obtain ⟨hz, hTI, hTO, q1, q2, q3⟩ := st
    obtain ⟨xs, ys, zs, hx, hy, hd, hi⟩ := hg
    obtain ⟨us, rx, px, zx⟩ := seqK I hx
    obtain ⟨ws, ry, py, _⟩ := seqK I hy
    obtain ⟨vs, rd, pd, _⟩ := seqK I hd
    have hh : X.A.in1.handled = none := I.ok.hd hc
    have W := GoesN.zip3 (prog := X.prog) (w := X.w) (A := X.A) (elts := elts) (x1 := kk) (pos := tpos) D (drawsK (k := j) hh n1 us.toArray) (drawsK (k := k) hh n2 ws.toArray) (drawsK (k := l) hh n3 vs.toArray)
    have en : min (min us.toArray.size ws.toArray.size) vs.toArray.size = i := by rw [List.size_toArray, List.size_toArray, List.size_toArray, ← rx.length, ← ry.length, ← rd.length]; exact hi.symm
    refine W.stops s _ E (by rw [en]; exact ⟨hz, hTI, hTO, ⟨q1, px⟩, ⟨q2, py⟩, ⟨q3, pd⟩⟩) fun h' tk hk _ => ?_
    exact I.turnedL (ch := [z, TO, i1, i2, i3]) hk fun c hc => hf c (by simp only [List.mem_cons, List.not_mem_nil, or_false] at hc ⊢; rcases hc with h | h | h | h | h <;> simp [h])
  self := fun A i s Q E st h => wpAny_pyIter_zip st.1 h
def iZ3 (K : PySem.W.Frag) (ta tb td : TE) : TI := fun s H R => ta s H fun x H1 => tb s H1 fun y H2 => td s H2 fun z H3 => ∃ a b d j k l xs ys zs, [x, y, z] = [V.ref a, V.ref b, V.ref d] ∧ SqK j K H3 a xs ∧ SqK k K H3 b ys ∧ SqK l K H3 d zs ∧ (xs.length ≤ sizeLine → R (Jz3 j k l K a b d) H3)
theorem pi_z3 {X : Cx} {e f g : Expr} {ta tb td : TE} {p pos tpos : Pos} {elts : List Expr} {kk : Nat} (hg : Gl X "zip") (hm : X.mg "zip" = none) (ha : PE X e ta) (hb : PE X f tb) (hd : PE X g td)
    (hs : starEach [e, f, g] X.env = (false, eval e X.env) :: starEach [f, g] X.env) (hs1 : starEach [f, g] X.env = (false, eval f X.env) :: starEach [g] X.env) (hs2 : starEach [g] X.env = (false, eval g X.env) :: starEach [] X.env) (hpl : (backTo pos (starEach [f, g] X.env)).any (·.1) = false) :
    PI X (.Tuple elts kk tpos) (.Call (.Name "zip" p) [e, f, g] [] pos) (iZ3 X.K ta tb td) := ⟨fun pins s σ H R I h => by
  refine Call_ (ld_blt I hg hm boot_zip (callWith_type1 (thn ((pa_cons ha (pa_cons hb (pa_cons hd pa_nil hs2) hs1) hs).run pos pins s σ H (fun vs H3 => ∃ a b d j k l xs ys zs, vs = [V.ref a, V.ref b, V.ref d] ∧ SqK j X.K H3 a xs ∧ SqK k X.K H3 b ys ∧ SqK l X.K H3 d zs ∧ (xs.length ≤ sizeLine → R (Jz3 j k l X.K a b d) H3)) I h) fun us s1 ⟨vs, H1, J, r1, a, b, d, j, k, l, xs, ys, zs, ev, hx, hy, hz, q⟩ => ?_) hs hpl))
  subst ev
  cases r1 with
  | cons r rr =>
    cases rr with
    | cons r' rr =>
      cases rr with
      | cons r'' rr =>
        cases rr
        cases r
        cases r'
        cases r''
        obtain ⟨us, rx, px, zx⟩ := seqK J hx
        obtain ⟨ws, ry, py, _⟩ := seqK J hy
        obtain ⟨vs, rd, pd, _⟩ := seqK J hz
        have la := plK_lt px
        have lb := plK_lt py
        have ld := plK_lt pd
        refine zip_begins3 (begK (k := j) us.toArray) (begK (k := k) ws.toArray) (begK (k := l) vs.toArray) px py pd fun h' hz hTI hTO h1 h2 h3 hsz hk => wpAny_pyIter_zip hz ?_
        have I2 : Inv X pins σ H1 { s1 with heap := h' } := J.kept (t' := s1.toks) hk
        have sep := zip_sep3 (N := s1.heap.objs.size) (fp1 := [a]) (fp2 := [b]) (fp3 := [d]) (fun c hc => by rw [List.mem_singleton.mp hc]; exact la) (fun c hc => by rw [List.mem_singleton.mp hc]; exact lb) (fun c hc => by rw [List.mem_singleton.mp hc]; exact ld)
        refine ⟨s1.heap.objs.size + 5, _, _, _, H1, rfl, I2, turn_z3 sep (Nat.ne_of_lt la) (Nat.ne_of_lt (Nat.lt_succ_of_lt lb)) (Nat.ne_of_lt (Nat.lt_succ_of_lt (Nat.lt_succ_of_lt ld))), ⟨hz, hTI, ⟨_, _, _, hTO⟩, iterK_0 h1, iterK_0 h2, iterK_0 h3⟩, fun c hc => ?_, q zx⟩
        have hle : s1.heap.objs.size ≤ c := by
          simp only [List.mem_cons, List.not_mem_nil, or_false] at hc
          rcases hc with z | z | z | z | z | z <;> rw [z] <;> first | exact Nat.le_refl _ | exact Nat.le_add_right _ _
        exact J.fpOk hle (J.hok.fresh hle)⟩
theorem zip3V_get : ∀ {xs ys zs : List PV} {i : Nat} {x y z : PV}, xs[i]? = some x → ys[i]? = some y → zs[i]? = some z → (zip3V xs ys zs)[i]? = some (.tup [x, y, z])
  | [], _, _, _, _, _, _, h, _, _ => by simp at h
  | _ :: _, [], _, _, _, _, _, _, h, _ => by simp at h
  | _ :: _, _ :: _, [], _, _, _, _, _, _, h => by simp at h
  | a :: xs, b :: ys, d :: zs, 0, x, y, z, h1, h2, h3 => by simp at h1 h2 h3; subst h1 h2 h3; rfl
  | a :: xs, b :: ys, d :: zs, i + 1, x, y, z, h1, h2, h3 => by
    simp only [zip3V, List.getElem?_cons_succ] at h1 h2 h3 ⊢
    exact zip3V_get h1 h2 h3
theorem zip3V_len : ∀ {xs ys zs : List PV}, (zip3V xs ys zs).length = min (min xs.length ys.length) zs.length
  | [], _, _ => by simp [zip3V]
  | _ :: _, [], _ => by simp [zip3V]
  | _ :: _, _ :: _, [] => by simp [zip3V]
  | a :: xs, b :: ys, d :: zs => by simp only [zip3V, List.length_cons, zip3V_len]; omega
section
variable {M M1 : Addr → Prop} {H H1 : Hp} {c : Cn}
theorem walkR_zip3 {j k l : Kd} {a b d : Addr} {xs ys zs : List PV} {vs ws us : List V} (f1 : ∀ M1 H1, Kq M H M1 H1 → SqK j c.C.K H1 a vs) (f2 : ∀ M1 H1, Kq M H M1 H1 → SqK k c.C.K H1 b ws) (f3 : ∀ M1 H1, Kq M H M1 H1 → SqK l c.C.K H1 d us) (r1 : c.Rs M H xs vs) (r2 : c.Rs M H ys ws) (r3 : c.Rs M H zs us) (hz : vs.length ≤ sizeLine) :
    WalkR c M H (zip3V xs ys zs) (Jz3 j k l c.C.K a b d) :=
  ⟨by rw [zip3V_len, r1.len]; omega, fun H => SqK j c.C.K H a vs ∧ SqK k c.C.K H b ws ∧ SqK l c.C.K H d us, (Jz3 j k l c.C.K a b d).yld, ⟨fun i H hi q => ⟨vs, ws, us, q.1, q.2.1, q.2.2, by rw [zip3V_len] at hi; rw [← r1.len, ← r2.len, ← r3.len]; exact hi⟩, fun H q => ⟨vs, ws, us, q.1, q.2.1, q.2.2, by rw [zip3V_len, r1.len, r2.len, r3.len]⟩, fun i H x H' hi q y => y⟩,
    fun M1 H1 k rb => ⟨⟨f1 M1 H1 k, f2 M1 H1 k, f3 M1 H1 k⟩, fun i x H2 hi y => by
      obtain ⟨T, u, t, r, rfl, n, rfl, g1, g2, g3⟩ := y
      obtain ⟨x1, e1, q1⟩ := (r1.kq k).get' (g1 _ (f1 M1 H1 k))
      obtain ⟨y1, e2, q2⟩ := (r2.kq k).get' (g2 _ (f2 M1 H1 k))
      obtain ⟨z1, e3, q3⟩ := (r3.kq k).get' (g3 _ (f3 M1 H1 k))
      exact ⟨upd_keeps n, _, zip3V_get e1 e2 e3, R.tup_new rb n (.cons q1 (.cons q2 (.cons q3 .nil)))⟩⟩⟩
end
section
variable {X : Cx} {c : Cn} {a b d l tg : Expr} {ma mb md : SE} {pos p tpos : Pos} {elts : List Expr} {kk : Nat}
theorem xi_zip3 (hm : X.mg "zip" = none) (hk : X.K = c.C.K) (ha : PE X a (LE c ma)) (hb : PE X b (LE c mb)) (hd : PE X d (LE c md)) (hg : Gl X "zip" := by rfl) (hs : starEach [a, b, d] X.env = (false, eval a X.env) :: starEach [b, d] X.env := by rfl) (hs1 : starEach [b, d] X.env = (false, eval b X.env) :: starEach [d] X.env := by rfl) (hs2 : starEach [d] X.env = (false, eval d X.env) :: starEach [] X.env := by rfl)
    (hpl : (backTo pos (starEach [b, d] X.env)).any (·.1) = false := by rfl) : PI X (.Tuple elts kk tpos) (.Call (.Name "zip" p) [a, b, d] [] pos) (LI c (iZip3 ma mb md)) :=
  (pi_z3 hg hm ha hb hd hs hs1 hs2 hpl).w fun s H R ⟨M, S, fr, rs, h⟩ => ⟨M, S, fr, rs, PoE.bind h fun x S1 v H1 k1 st1 r1 h1 => ⟨M, S1, fr, rs.step k1 st1, PoE.bind h1 fun y S2 w H2 k2 st2 r2 h2 => ⟨M, S2, fr, (rs.step k1 st1).step k2 st2, PoE.bind h2 fun z S3 u H3 k3 st3 r3 h3 => by
    obtain ⟨zs0, e, h4⟩ := h3.of
    unfold zip3O at e
    rw [Option.bind_eq_some_iff] at e
    obtain ⟨xs, ex, e⟩ := e
    rw [Option.bind_eq_some_iff] at e
    obtain ⟨ys, ey, e⟩ := e
    rw [Option.map_eq_some_iff] at e
    obtain ⟨zs, ez, rfl⟩ := e
    obtain ⟨a, j, vs, rfl, sq1, q1, f1⟩ := items_sq ex (Rep.k k3 rs.rb (Rep.k k2 rs.rb r1))
    obtain ⟨b, k, ws, rfl, sq2, q2, f2⟩ := items_sq ey (Rep.k k3 rs.rb r2)
    obtain ⟨d, l, us, rfl, sq3, q3, f3⟩ := items_sq ez r3
    refine ⟨a, b, d, j, k, l, vs, ws, us, rfl, hk ▸ sq1, hk ▸ sq2, hk ▸ sq3, fun hz => ?_⟩
    rw [hk]
    exact h4 _ H3 .refl st3 (walkR_zip3 f1 f2 f3 q1 q2 q3 hz)⟩⟩⟩
end
end Q
/-! Qzn: zip of two, its tuples held by a name: the zip may find its last tuple in use. -/
namespace Q
open PySem PySem.Spec PyProof.Rows L2

/-- a zip whatever it remembers of its last tuple -/
abbrev ZipU (h : Heap) (z TI TO : Addr) (f0 f1 : Value) : Prop := h.get? z = some { cls := .type "zip", dict := none, data := .fields #[f0, f1, .bool false, .ref TI, .ref TO], slots := #[] }
def Free (f0 : Value) : Prop := f0 = .none ∨ ∃ n : Nat, f0 = rawInt n
section
variable {prog : Program} {w : World} {A : Around} {E : Value → Shared → Prop} {s : Shared} {z TI TO i1 i2 : Addr} {fp1 fp2 : List Addr} {n1 n2 i : Nat} {P1 P2 : Nat → Value → Prop} {St1 St2 : Nat → Heap → Prop} {f0 f1 a1 a2 : Value}
theorem aliveAny {M : Model} {a : Addr} {Q : Option Obj → Shared → Prop} (h : Q (s.heap.get? a) s) : wpAny M A (loadIfAlive a) Q E s := fun _ _ _ => h
theorem sameBut_refl {a : Addr} {h : Heap} : Heap.SameBut a h h := ⟨rfl, fun _ _ => rfl⟩
theorem owned_free (hz : ZipU s.heap z TI TO f0 f1) (hf : Free f0) :
    wpAny (model prog w) A (Builtin.SmallTypes.ownedTupleIsFree (.ref z)) (fun b s' => (b = true ∧ s' = s) ∨ (b = false ∧ ∃ h' f, s' = { s with heap := h' } ∧ ZipU h' z TI TO f0 f ∧ Heap.SameBut z s.heap h')) E s := by
  unfold Builtin.SmallTypes.ownedTupleIsFree
  refine wpAny_bind (wpAny_field hz rfl (x := f0) rfl ?_)
  rcases hf with rfl | ⟨n, rfl⟩
  · exact wpAny_pure (.inl ⟨rfl, rfl⟩)
  · refine wpAny_bind (aliveAny ?_)
    show wpAny _ _ (if (s.heap.get? _).isNone = true then _ else _) _ _ _
    split
    · exact wpAny_pure (.inl ⟨rfl, rfl⟩)
    · refine wpAny_bind (wpAny_field hz rfl (x := f1) rfl ?_)
      show wpAny _ _ (if (f1 != Value.bool true) = true then _ else _) _ _ _
      split
      · refine wpAny_bind (wpAny_setField_rec hz (by simp) fun g0 hz0 hs0 => wpAny_pure (.inr ⟨rfl, g0, .bool true, rfl, hz0, hs0⟩))
      · exact wpAny_pure (.inr ⟨rfl, s.heap, f1, rfl, hz, sameBut_refl⟩)
theorem zipU_item {Q : Value → Shared → Prop} (S : ZipSep2 z TI TO i1 i2 fp1 fp2) (D1 : Draws prog w A i1 fp1 n1 P1 St1) (D2 : Draws prog w A i2 fp2 n2 P2 St2)
    (hz : ZipU s.heap z TI TO f0 f1) (hf : Free f0) (hTI : IsTupOf2 s.heap TI (.ref i1) (.ref i2)) (hTO : IsTupOf2 s.heap TO a1 a2) (st1 : St1 i s.heap) (st2 : St2 i s.heap) (hlt1 : i < n1) (hlt2 : i < n2)
    (hQ : ∀ x1 x2 h' tk g0 g1 b1 b2, P1 i x1 → P2 i x2 → ZipU h' z TI TO g0 g1 → Free g0 → IsTupOf2 h' TO b1 b2 → St1 (i + 1) h' → St2 (i + 1) h' → IsTupOf2 h' s.heap.objs.size x1 x2 → h'.objs.size = s.heap.objs.size + 1 →
      (∀ c o, c ≠ z → c ≠ TO → c ≠ i1 → c ≠ i2 → s.heap.get? c = some o → h'.get? c = some o) → Q (.ref s.heap.objs.size) { s with heap := h', toks := tk }) :
    wpAny (model prog w) A (Builtin.«zip.__next__» ⟨[.ref z], []⟩) (fun fin s' => ∃ v, fin = .done (.ret v) ∧ Q v s') E s := by
  obtain ⟨hp, g, d, tk0, os⟩ := s
  show wpAny _ _ (field (.ref z) 2 >>= _) _ _ _
  refine wpAny_bind (wpAny_field hz rfl (x := .bool false) rfl ?_)
  show wpAny _ _ (field (.ref z) 3 >>= _) _ _ _
  refine wpAny_bind (wpAny_field hz rfl (x := .ref TI) rfl ?_)
  refine wpAny_bind (wpAny_seqItems hTI rfl ?_)
  show wpAny _ _ (Builtin.SmallTypes.ownedTupleIsFree (.ref z) >>= _) _ _ _
  refine wpAny_bind (thn (owned_free hz hf) fun b s' hb => ?_)
  rcases hb with ⟨rfl, rfl⟩ | ⟨rfl, g0, f, rfl, hz0, hs0⟩
  · simp only [if_true]
    refine wpAny_bind (wpAny_rule ?_)
    refine wpAny_bind (wpAny_field hz rfl (x := .ref TO) rfl ?_)
    refine wpAny_bind (wpAny_setField_rec hz (by simp) fun g0 hz0 hs0 => ?_)
    replace hz0 : ZipU g0 z TI TO .ellipsis f1 := hz0
    replace hs0 : Heap.SameBut z hp g0 := hs0
    refine wpAny_bind ?_
    simp only [List.zipIdx_cons, List.zipIdx_nil, List.forIn_cons, List.forIn_nil]
    refine wpAny_bind (wpAny_bind (wpAny_onRaise ?_))
    show wpAny _ _ (Builtin.SmallTypes.nextOf (.ref i1) >>= _) _ _ ⟨g0, g, d, tk0, os⟩
    refine wpAny_bind (D1.item i _ _ _ hlt1 (D1.over st1 hs0 S.zf1) fun x1 p1 tk1 hx1 sn1 hp1 => wpAny_pure ?_)
    replace hp1 : Heap.SameBut i1 g0 p1 := hp1
    have hU1 : IsTupOf2 p1 TO a1 a2 := hp1.extBut _ _ S.Ti1 (hs0.extBut _ _ S.TOz hTO)
    refine wpAny_bind (wpAny_seqItems (s := ⟨p1, g, d, tk1, os⟩) hU1 rfl ?_)
    refine wpAny_bind (updateSeq_IsTupOf2 (s := ⟨p1, g, d, tk1, os⟩) hU1 fun g1 hT1 hs1 => ?_)
    replace hT1 : IsTupOf2 g1 TO x1 a2 := hT1
    replace hs1 : Heap.SameBut TO p1 g1 := hs1
    refine wpAny_bind (wpAny_letGo (wpAny_pure ?_))
    refine wpAny_bind (wpAny_bind (wpAny_onRaise ?_))
    show wpAny _ _ (Builtin.SmallTypes.nextOf (.ref i2) >>= _) _ _ ⟨g1, g, d, tk1, os⟩
    refine wpAny_bind (D2.item i _ _ _ hlt2 (D2.over (D2.over (D2.over st2 hs0 S.zf2) hp1 S.sep1_2) hs1 S.Tf2) fun x2 p2 tk2 hx2 sn2 hp2 => wpAny_pure ?_)
    replace hp2 : Heap.SameBut i2 g1 p2 := hp2
    have hU2 : IsTupOf2 p2 TO x1 a2 := hp2.extBut _ _ S.Ti2 hT1
    refine wpAny_bind (wpAny_seqItems (s := ⟨p2, g, d, tk2, os⟩) hU2 rfl ?_)
    refine wpAny_bind (updateSeq_IsTupOf2 (s := ⟨p2, g, d, tk2, os⟩) hU2 fun g2 hT2 hs2 => ?_)
    replace hT2 : IsTupOf2 g2 TO x1 x2 := hT2
    replace hs2 : Heap.SameBut TO p2 g2 := hs2
    refine wpAny_bind (wpAny_letGo (wpAny_pure (wpAny_pure ?_)))
    refine wpAny_bind (wpAny_seqItems (s := ⟨g2, g, d, tk2, os⟩) hT2 rfl ?_)
    refine wpAny_bind (wpAny_newTuple ?_)
    have hsz : g2.objs.size = hp.objs.size := by rw [hs2.1, hp2.1, hs1.1, hp1.1, hs0.1]
    have hzz : ZipU g2 z TI TO .ellipsis f1 := (hs2.extBut _ _ S.TOz.symm (hp2.extBut _ _ S.zi2 (hs1.extBut _ _ S.TOz.symm (hp1.extBut _ _ S.zi1 hz0))))
    have hkk : ∀ c o, c ≠ z → c ≠ TO → c ≠ i1 → c ≠ i2 → hp.get? c = some o → g2.get? c = some o := fun c o cz cT c1 c2 e =>
      (hs2.extBut _ _ cT (hp2.extBut _ _ c2 (hs1.extBut _ _ cT (hp1.extBut _ _ c1 (hs0.extBut _ _ cz e)))))
    have hj1 : St1 (i + 1) g2 := (D1.over (D1.over (D1.over sn1 hs1 S.Tf1) hp2 S.sep2_1) hs2 S.Tf1)
    have hj2 : St2 (i + 1) g2 := (D2.over sn2 hs2 S.Tf2)
    have hzlt : z < g2.objs.size := Heap.lt_size hzz
    show wpAny _ _ (Builtin.SmallTypes.ownedTupleHandOut (.ref z) (.ref g2.objs.size) >>= _) _ _ ⟨g2.push { cls := .type "tuple", data := .seq #[x1, x2] }, g, d, tk2, os⟩
    refine wpAny_bind ?_
    unfold Builtin.SmallTypes.ownedTupleHandOut
    have hz₆ : ZipU (g2.push { cls := .type "tuple", data := .seq #[x1, x2] }) z TI TO .ellipsis f1 := Heap.get?_push_of_some _ hzz
    refine wpAny_bind (wpAny_setField_rec hz₆ (by simp) fun h₇ hz₇ hs₇ => ?_)
    replace hz₇ : ZipU h₇ z TI TO (rawInt g2.objs.size) f1 := hz₇
    refine wpAny_setField_rec hz₇ (by simp) fun h₈ hz₈ hs₈ => ?_
    replace hz₈ : ZipU h₈ z TI TO (rawInt g2.objs.size) (.bool false) := hz₈
    replace hs₇ : Heap.SameBut z (g2.push { cls := .type "tuple", data := .seq #[x1, x2] }) h₇ := hs₇
    replace hs₈ : Heap.SameBut z h₇ h₈ := hs₈
    have up : ∀ c o, c ≠ z → g2.get? c = some o → h₈.get? c = some o := fun c o c1 e => hs₈.extBut _ _ c1 (hs₇.extBut _ _ c1 (Heap.get?_push_of_some _ e))
    have hT₈ : IsTupOf2 h₈ g2.objs.size x1 x2 := hs₈.extBut _ _ (Nat.ne_of_gt hzlt) (hs₇.extBut _ _ (Nat.ne_of_gt hzlt) (Heap.get?_push_size _ rfl))
    have hz8 : h₈.objs.size = g2.objs.size + 1 := by rw [hs₈.1, hs₇.1, Heap.size_push]
    rw [hsz] at hz₈ hT₈ hz8
    refine wpAny_pure ⟨_, rfl, ?_⟩
    show Q (.ref g2.objs.size) ⟨h₈, g, d, tk2, os⟩
    rw [hsz]
    exact hQ x1 x2 h₈ tk2 _ _ _ _ hx1 hx2 hz₈ (.inr ⟨_, rfl⟩) (up _ _ S.TOz hT2) (D1.frame _ _ _ hj1 fun b hb o e => up b o (fun q => S.zf1 (q ▸ hb)) e) (D2.frame _ _ _ hj2 fun b hb o e => up b o (fun q => S.zf2 (q ▸ hb)) e) hT₈ hz8 fun c o cz cT c1 c2 e => up c o cz (hkk c o cz cT c1 c2 e)
  · simp only [Bool.false_eq_true, if_false]
    replace hs0 : Heap.SameBut z hp g0 := hs0
    refine wpAny_bind ?_
    rw [← Array.forIn_toList]
    simp only [List.forIn_cons, List.forIn_nil]
    refine wpAny_bind (wpAny_bind (wpAny_holding ?_))
    show wpAny _ _ (Builtin.SmallTypes.nextOf (.ref i1) >>= _) _ _ ⟨g0, g, d, tk0, os⟩
    refine wpAny_bind (D1.item i _ _ _ hlt1 (D1.over st1 hs0 S.zf1) fun x1 p1 tk1 hx1 sn1 hp1 => wpAny_pure ?_)
    replace hp1 : Heap.SameBut i1 g0 p1 := hp1
    refine wpAny_pure ?_
    refine wpAny_bind (wpAny_bind (wpAny_holding ?_))
    show wpAny _ _ (Builtin.SmallTypes.nextOf (.ref i2) >>= _) _ _ ⟨p1, g, d, tk1, os⟩
    refine wpAny_bind (D2.item i _ _ _ hlt2 (D2.over (D2.over st2 hs0 S.zf2) hp1 S.sep1_2) fun x2 p2 tk2 hx2 sn2 hp2 => wpAny_pure ?_)
    replace hp2 : Heap.SameBut i2 p1 p2 := hp2
    refine wpAny_pure (wpAny_pure ?_)
    refine wpAny_bind (wpAny_newTuple (hsz := show (2 : Nat) ≤ sizeLine by decide) ?_)
    have hsz : p2.objs.size = hp.objs.size := by rw [hp2.1, hp1.1, hs0.1]
    have hkk : ∀ c o, c ≠ z → c ≠ i1 → c ≠ i2 → hp.get? c = some o → p2.get? c = some o := fun c o cz c1 c2 e => hp2.extBut _ _ c2 (hp1.extBut _ _ c1 (hs0.extBut _ _ cz e))
    have hzz : ZipU p2 z TI TO f0 f := hp2.extBut _ _ S.zi2 (hp1.extBut _ _ S.zi1 hz0)
    have hTO2 : IsTupOf2 p2 TO a1 a2 := hkk _ _ S.TOz S.Ti1 S.Ti2 hTO
    refine wpAny_pure ⟨_, rfl, ?_⟩
    show Q (.ref p2.objs.size) ⟨p2.push { cls := .type "tuple", data := .seq #[x1, x2] }, g, d, tk2, os⟩
    have up : ∀ c o, p2.get? c = some o → (p2.push { cls := .type "tuple", data := .seq #[x1, x2] }).get? c = some o := fun c o e => Heap.get?_push_of_some _ e
    rw [hsz]
    refine hQ x1 x2 _ tk2 f0 f a1 a2 hx1 hx2 (up _ _ hzz) hf (up _ _ hTO2) (D1.frame _ _ _ (D1.over sn1 hp2 S.sep2_1) fun b hb o e => up b o e) (D2.frame _ _ _ sn2 fun b hb o e => up b o e) ?_ (by rw [Heap.size_push, hsz]) fun c o cz cT c1 c2 e => up c o (hkk c o cz c1 c2 e)
    show IsTupOf2 _ hp.objs.size x1 x2
    rw [← hsz]
    exact Heap.get?_push_size _ rfl
theorem zipU_end {Q : PySem.Fin → Shared → Prop} (S : ZipSep2 z TI TO i1 i2 fp1 fp2) (D1 : Draws prog w A i1 fp1 n1 P1 St1) (D2 : Draws prog w A i2 fp2 n2 P2 St2)
    (hz : ZipU s.heap z TI TO f0 f1) (hf : Free f0) (hTI : IsTupOf2 s.heap TI (.ref i1) (.ref i2)) (hTO : IsTupOf2 s.heap TO a1 a2) (st1 : St1 i s.heap) (st2 : St2 i s.heap) (hle1 : i ≤ n1) (hle2 : i ≤ n2) (hend : i = n1 ∨ i = n2)
    (hE : ∀ h' tk e, (∀ c o, c ≠ z → c ≠ TO → c ≠ i1 → c ≠ i2 → s.heap.get? c = some o → h'.get? c = some o) → (∃ o, h'.get? e = some o ∧ o.cls = .type "StopIteration") → E (.ref e) { s with heap := h', toks := tk }) :
    wpAny (model prog w) A (Builtin.«zip.__next__» ⟨[.ref z], []⟩) Q E s := by
  obtain ⟨hp, g, d, tk0, os⟩ := s
  show wpAny _ _ (field (.ref z) 2 >>= _) _ _ _
  refine wpAny_bind (wpAny_field hz rfl (x := .bool false) rfl ?_)
  show wpAny _ _ (field (.ref z) 3 >>= _) _ _ _
  refine wpAny_bind (wpAny_field hz rfl (x := .ref TI) rfl ?_)
  refine wpAny_bind (wpAny_seqItems hTI rfl ?_)
  show wpAny _ _ (Builtin.SmallTypes.ownedTupleIsFree (.ref z) >>= _) _ _ _
  refine wpAny_bind (thn (owned_free hz hf) fun b s' hb => ?_)
  rcases hb with ⟨rfl, rfl⟩ | ⟨rfl, g0, f, rfl, hz0, hs0⟩
  · simp only [if_true]
    refine wpAny_bind (wpAny_rule ?_)
    refine wpAny_bind (wpAny_field hz rfl (x := .ref TO) rfl ?_)
    refine wpAny_bind (wpAny_setField_rec hz (by simp) fun g0 hz0 hs0 => ?_)
    replace hz0 : ZipU g0 z TI TO .ellipsis f1 := hz0
    replace hs0 : Heap.SameBut z hp g0 := hs0
    refine wpAny_bind ?_
    simp only [List.zipIdx_cons, List.zipIdx_nil, List.forIn_cons, List.forIn_nil]
    refine wpAny_bind (wpAny_bind (wpAny_onRaise ?_))
    show wpAny _ _ (Builtin.SmallTypes.nextOf (.ref i1) >>= _) _ _ ⟨g0, g, d, tk0, os⟩
    by_cases hlt1 : i < n1
    · refine wpAny_bind (D1.item i _ _ _ hlt1 (D1.over st1 hs0 S.zf1) fun x1 p1 tk1 hx1 sn1 hp1 => wpAny_pure ?_)
      replace hp1 : Heap.SameBut i1 g0 p1 := hp1
      have hU1 : IsTupOf2 p1 TO a1 a2 := hp1.extBut _ _ S.Ti1 (hs0.extBut _ _ S.TOz hTO)
      refine wpAny_bind (wpAny_seqItems (s := ⟨p1, g, d, tk1, os⟩) hU1 rfl ?_)
      refine wpAny_bind (updateSeq_IsTupOf2 (s := ⟨p1, g, d, tk1, os⟩) hU1 fun g1 hT1 hs1 => ?_)
      replace hT1 : IsTupOf2 g1 TO x1 a2 := hT1
      replace hs1 : Heap.SameBut TO p1 g1 := hs1
      refine wpAny_bind (wpAny_letGo (wpAny_pure ?_))
      have hi2 : i = n2 := by omega
      refine wpAny_bind (wpAny_bind (wpAny_onRaise ?_))
      show wpAny _ _ (Builtin.SmallTypes.nextOf (.ref i2) >>= _) _ _ ⟨g1, g, d, tk1, os⟩
      refine wpAny_bind (D2.done ⟨g1, g, d, tk1, os⟩ _ _ (by rw [← hi2]; exact (D2.over (D2.over (D2.over st2 hs0 S.zf2) hp1 S.sep1_2) hs1 S.Tf2)) fun q e hq he => ?_)
      replace hq : Heap.ExtBut i2 g1 q := hq
      obtain ⟨oe, hoe, hce⟩ := he
      replace hoe : q.get? e = some oe := hoe
      have hzq : ZipU q z TI TO .ellipsis f1 := hq _ _ S.zi2 (hs1.extBut _ _ S.TOz.symm (hp1.extBut _ _ S.zi1 hz0))
      have hez : e ≠ z := fun x => by subst x; rw [hzq] at hoe; cases hoe; simp at hce
      refine wpAny_setField_rec (s := ⟨q, g, d, tk1, os⟩) hzq (by simp) fun q' _ hq' => ?_
      replace hq' : Heap.SameBut z q q' := hq'
      exact hE q' tk1 e (fun c o cz cT c1 c2 x => hq'.extBut _ _ cz (hq _ _ c2 (hs1.extBut _ _ cT (hp1.extBut _ _ c1 (hs0.extBut _ _ cz x))))) ⟨oe, hq'.extBut _ _ hez hoe, hce⟩
    · have hi1 : i = n1 := by omega
      refine wpAny_bind (D1.done ⟨g0, g, d, tk0, os⟩ _ _ (by rw [← hi1]; exact (D1.over st1 hs0 S.zf1)) fun q e hq he => ?_)
      replace hq : Heap.ExtBut i1 g0 q := hq
      obtain ⟨oe, hoe, hce⟩ := he
      replace hoe : q.get? e = some oe := hoe
      have hzq : ZipU q z TI TO .ellipsis f1 := hq _ _ S.zi1 hz0
      have hez : e ≠ z := fun x => by subst x; rw [hzq] at hoe; cases hoe; simp at hce
      refine wpAny_setField_rec (s := ⟨q, g, d, tk0, os⟩) hzq (by simp) fun q' _ hq' => ?_
      replace hq' : Heap.SameBut z q q' := hq'
      exact hE q' tk0 e (fun c o cz cT c1 c2 x => hq'.extBut _ _ cz (hq _ _ c1 (hs0.extBut _ _ cz x))) ⟨oe, hq'.extBut _ _ hez hoe, hce⟩
  · simp only [Bool.false_eq_true, if_false]
    replace hs0 : Heap.SameBut z hp g0 := hs0
    refine wpAny_bind ?_
    rw [← Array.forIn_toList]
    simp only [List.forIn_cons, List.forIn_nil]
    refine wpAny_bind (wpAny_bind (wpAny_holding ?_))
    show wpAny _ _ (Builtin.SmallTypes.nextOf (.ref i1) >>= _) _ _ ⟨g0, g, d, tk0, os⟩
    by_cases hlt1 : i < n1
    · refine wpAny_bind (D1.item i _ _ _ hlt1 (D1.over st1 hs0 S.zf1) fun x1 p1 tk1 hx1 sn1 hp1 => wpAny_pure ?_)
      replace hp1 : Heap.SameBut i1 g0 p1 := hp1
      refine wpAny_pure ?_
      have hi2 : i = n2 := by omega
      refine wpAny_bind (wpAny_bind (wpAny_holding ?_))
      show wpAny _ _ (Builtin.SmallTypes.nextOf (.ref i2) >>= _) _ _ ⟨p1, g, d, tk1, os⟩
      refine wpAny_bind (D2.done ⟨p1, g, d, tk1, os⟩ _ _ (by rw [← hi2]; exact (D2.over (D2.over st2 hs0 S.zf2) hp1 S.sep1_2)) fun q e hq he => ?_)
      replace hq : Heap.ExtBut i2 p1 q := hq
      exact hE q tk1 e (fun c o cz cT c1 c2 x => hq _ _ c2 (hp1.extBut _ _ c1 (hs0.extBut _ _ cz x))) he
    · have hi1 : i = n1 := by omega
      refine wpAny_bind (D1.done ⟨g0, g, d, tk0, os⟩ _ _ (by rw [← hi1]; exact (D1.over st1 hs0 S.zf1)) fun q e hq he => ?_)
      replace hq : Heap.ExtBut i1 g0 q := hq
      exact hE q tk0 e (fun c o cz cT c1 c2 x => hq _ _ c1 (hs0.extBut _ _ cz x)) he
theorem next_zipU_item {Q : Option Value → Shared → Prop} (S : ZipSep2 z TI TO i1 i2 fp1 fp2) (D1 : Draws prog w A.in1 i1 fp1 n1 P1 St1) (D2 : Draws prog w A.in1 i2 fp2 n2 P2 St2)
    (hz : ZipU s.heap z TI TO f0 f1) (hf : Free f0) (hTI : IsTupOf2 s.heap TI (.ref i1) (.ref i2)) (hTO : IsTupOf2 s.heap TO a1 a2) (st1 : St1 i s.heap) (st2 : St2 i s.heap) (hlt1 : i < n1) (hlt2 : i < n2)
    (hQ : ∀ x1 x2 h' tk g0 g1 b1 b2, P1 i x1 → P2 i x2 → ZipU h' z TI TO g0 g1 → Free g0 → IsTupOf2 h' TO b1 b2 → St1 (i + 1) h' → St2 (i + 1) h' → IsTupOf2 h' s.heap.objs.size x1 x2 → h'.objs.size = s.heap.objs.size + 1 →
      (∀ c o, c ≠ z → c ≠ TO → c ≠ i1 → c ≠ i2 → s.heap.get? c = some o → h'.get? c = some o) → Q (some (.ref s.heap.objs.size)) { s with heap := h', toks := tk }) :
    wpAny (model prog w) A (pyNext (.ref z)) Q E s := by
  have hT : s.TypeIs (.ref z) "zip" := ⟨_, hz, rfl⟩
  unfold pyNext
  exact wpAny_bind (wpAny_attempt (wpAny_callSpecial?_slot (name := Str.ofString "__next__") hT F.slot_zip_next
    (wpAny_call_entry F.slot_zip_next hT F.entry_zip_next
      (zipU_item S D1 D2 hz hf hTI hTO st1 st2 hlt1 hlt2 fun x1 x2 h' tk g0 g1 c1 c2 y1 y2 b1 b0 b2 d1 d2 b5 b6 b7 => wpAny_pure (hQ x1 x2 h' tk g0 g1 c1 c2 y1 y2 b1 b0 b2 d1 d2 b5 b6 b7)) (F.args_zip_next_1 _))))
theorem next_zipU_end {Q : Option Value → Shared → Prop} (S : ZipSep2 z TI TO i1 i2 fp1 fp2) (D1 : Draws prog w A.in1 i1 fp1 n1 P1 St1) (D2 : Draws prog w A.in1 i2 fp2 n2 P2 St2)
    (hz : ZipU s.heap z TI TO f0 f1) (hf : Free f0) (hTI : IsTupOf2 s.heap TI (.ref i1) (.ref i2)) (hTO : IsTupOf2 s.heap TO a1 a2) (st1 : St1 i s.heap) (st2 : St2 i s.heap) (hle1 : i ≤ n1) (hle2 : i ≤ n2) (hend : i = n1 ∨ i = n2)
    (hQ : ∀ h' tk, (∀ c o, c ≠ z → c ≠ TO → c ≠ i1 → c ≠ i2 → s.heap.get? c = some o → h'.get? c = some o) → Q none { s with heap := h', toks := tk }) : wpAny (model prog w) A (pyNext (.ref z)) Q E s := by
  have hT : s.TypeIs (.ref z) "zip" := ⟨_, hz, rfl⟩
  unfold pyNext
  refine wpAny_bind (wpAny_attempt (wpAny_callSpecial?_slot (name := Str.ofString "__next__") hT F.slot_zip_next
    (wpAny_call_entry F.slot_zip_next hT F.entry_zip_next (zipU_end S D1 D2 hz hf hTI hTO st1 st2 hle1 hle2 hend fun h' tk e hk he => ?_) (F.args_zip_next_1 _))))
  obtain ⟨o, ho, hc⟩ := he
  refine wpAny_bind (wpAny_isInstance (T := "StopIteration") (b := true) ⟨o, ho, hc⟩ isSubtype_stop ?_)
  exact wpAny_pure (hQ _ _ hk)
end
/-! ### over a list or a tuple each -/
theorem iter_zipU {prog : Program} {w : World} {A : Around} {E : Value → Shared → Prop} {s : Shared} {z TI TO : Addr} {f0 f1 : Value} {Q : Value → Shared → Prop} (hz : ZipU s.heap z TI TO f0 f1) (h : Q (.ref z) s) : wpAny (model prog w) A (pyIter (.ref z)) Q E s := by
  have hT : s.TypeIs (.ref z) "zip" := ⟨_, hz, rfl⟩
  refine wpAny_pyIter_slot hT F.slot_zip_iter (wpAny_call_entry F.slot_zip_iter hT F.entry_zip_iter ?_ (F.args_zip_iter_1 _))
  show wpAny _ _ (ret (.ref z)) _ _ s
  exact wpAny_pure ⟨_, rfl, "zip", _, hT, F.slot_zip_next.lookup, h⟩
theorem go_name {M : Model} {A : Around} {E : Value → Shared → Prop} {s : Shared} {x : Str} {p : Pos} {it u : Value} {Q : Unit → Shared → Prop} (h : Q () s) : wpAny M A (letOwnedTupleGo (.Name x p) it u) Q E s := by
  unfold letOwnedTupleGo
  exact wpAny_pure h
theorem turn_zn {P : Program} {w : World} {K : PySem.W.Frag} {x : Str} {tpos : Pos} {j k : Kd} {a b z TI TO i1 i2 : Addr} (D : ZipSep2 z TI TO i1 i2 [i1, a] [i2, b]) (n1 : a ≠ i1) (n2 : b ≠ i2) :
    Turn P w K (.Name x tpos) (Jz j k K a b) [z, TI, TO, i1, i2] z (fun i h => (∃ f0 f1, ZipU h z TI TO f0 f1 ∧ Free f0) ∧ IsTupOf2 h TI (.ref i1) (.ref i2) ∧ (∃ a1 a2, IsTupOf2 h TO a1 a2) ∧ IterK j h i1 a i ∧ IterK k h i2 b i) where
  mem := by simp
  obj := fun i h st c hc => by
    obtain ⟨⟨f0, f1, hz, hf⟩, hTI, ⟨a1, a2, hTO⟩, q1, q2⟩ := st
    simp only [List.mem_cons, List.not_mem_nil, or_false] at hc
    rcases hc with rfl | rfl | rfl | rfl | rfl
    · exact ⟨_, hz, fun v q => nomatch q⟩
    · exact ⟨_, hTI, fun v q => nomatch q⟩
    · exact ⟨_, hTO, fun v q => nomatch q⟩
    · exact iterK_obj q1
    · exact iterK_obj q2
  keep := fun i h h' ⟨⟨f0, f1, hz, hf⟩, hTI, ⟨a1, a2, hTO⟩, q1, q2⟩ f => ⟨⟨f0, f1, f z (by simp) _ hz, hf⟩, f TI (by simp) _ hTI, ⟨a1, a2, f TO (by simp) _ hTO⟩, iterK_at q1 (f i1 (by simp)), iterK_at q2 (f i2 (by simp))⟩
  item := by
    intro X hP hw hK hc i pins s σ H E I hf st hg
    subst hP hw hK
    obtain ⟨⟨f0, f1, hz, hfr⟩, hTI, ⟨a1, a2, hTO⟩, q1, q2⟩ := st
    obtain ⟨xs, ys, hx, hy, hi⟩ := hg
    obtain ⟨us, rx, px, zx⟩ := seqK I hx
    obtain ⟨ws, ry, py, _⟩ := seqK I hy
    have hh : X.A.in1.handled = none := I.ok.hd hc
    refine next_zipU_item (A := X.A) D (drawsK (k := j) hh n1 us.toArray) (drawsK (k := k) hh n2 ws.toArray) hz hfr hTI hTO ⟨q1, px⟩ ⟨q2, py⟩ (i := i) (by rw [List.size_toArray, ← rx.length]; omega) (by rw [List.size_toArray, ← ry.length]; omega) fun u t h' tk g0 g1 b1 b2 eu et hz' hfr' hTO' st1' st2' hI hsz hk => ?_
    refine ⟨_, rfl, go_name ?_⟩
    have hi' : i < xs.length ∧ i < ys.length := by omega
    have ex : xs[i]? = some xs[i] := List.getElem?_eq_getElem hi'.1
    have ey : ys[i]? = some ys[i] := List.getElem?_eq_getElem hi'.2
    obtain ⟨u', eu', ru⟩ := rx.get ex
    obtain ⟨t', et', rt⟩ := ry.get ey
    have zu : u' = u := by simpa [eu'] using eu
    have zt : t' = t := by simpa [et'] using et
    subst zu zt
    have nT : H s.heap.objs.size = none := I.hok.fresh (Nat.le_refl _)
    have old : ∀ c ∈ [z, TI, TO, i1, i2], c < s.heap.objs.size := fun c hc => by
      simp only [List.mem_cons, List.not_mem_nil, or_false] at hc
      rcases hc with rfl | rfl | rfl | rfl | rfl
      · exact Heap.lt_size hz
      · exact Heap.lt_size hTI
      · exact Heap.lt_size hTO
      · obtain ⟨_, q, _⟩ := iterK_obj q1; exact Heap.lt_size q
      · obtain ⟨_, q, _⟩ := iterK_obj q2; exact Heap.lt_size q
    have I1 : Inv X pins σ (upd H s.heap.objs.size (.tup [xs[i], ys[i]])) { s with heap := h', toks := tk } :=
      I.turnedNew (ch := [z, TO, i1, i2]) (fun c o hc e => by simp only [List.mem_cons, List.not_mem_nil, or_false, not_or] at hc; exact hk c o hc.1 hc.2.1 hc.2.2.1 hc.2.2.2 e) (fun c hc => hf c (by simp only [List.mem_cons, List.not_mem_nil, or_false] at hc ⊢; rcases hc with h | h | h | h <;> simp [h])) (Nat.le_refl _) ⟨by show 2 ≤ sizeLine; decide, [u', t'], .cons ru (.cons rt .nil), ⟨_, hI, rfl, _, rfl⟩⟩
    refine ⟨.ref s.heap.objs.size, _, I1, rfl, ⟨_, _, _, rfl, nT, rfl, fun zs hz => by rw [seqK_inj I hz hx]; exact ex, fun zs hz => by rw [seqK_inj I hz hy]; exact ey⟩, ⟨⟨g0, g1, hz', hfr'⟩, ?_, ⟨_, _, hTO'⟩, st1'.1, st2'.1⟩, fun c hc => ?_⟩
    · exact hk TI _ D.TIz D.TITO D.TIi1 D.TIi2 hTI
    · rw [upd_ne (Nat.ne_of_lt (old c hc))]
      exact (hf c hc).1
  done := by
    intro X hP hw hK hc i pins s σ H E I hf st hg
    subst hP hw hK
    obtain ⟨⟨f0, f1, hz, hfr⟩, hTI, ⟨a1, a2, hTO⟩, q1, q2⟩ := st
    obtain ⟨xs, ys, hx, hy, hi⟩ := hg
    obtain ⟨us, rx, px, zx⟩ := seqK I hx
    obtain ⟨ws, ry, py, _⟩ := seqK I hy
    have hh : X.A.in1.handled = none := I.ok.hd hc
    refine next_zipU_end (A := X.A) D (drawsK (k := j) hh n1 us.toArray) (drawsK (k := k) hh n2 ws.toArray) hz hfr hTI hTO ⟨q1, px⟩ ⟨q2, py⟩ (i := i) (by rw [List.size_toArray, ← rx.length]; omega) (by rw [List.size_toArray, ← ry.length]; omega) (by rw [List.size_toArray, List.size_toArray, ← rx.length, ← ry.length]; omega) fun h' tk hk => ⟨rfl, ?_⟩
    exact I.turnedL (ch := [z, TO, i1, i2]) (fun c o hc e => by simp only [List.mem_cons, List.not_mem_nil, or_false, not_or] at hc; exact hk c o hc.1 hc.2.1 hc.2.2.1 hc.2.2.2 e) fun c hc => hf c (by simp only [List.mem_cons, List.not_mem_nil, or_false] at hc ⊢; rcases hc with h | h | h | h <;> simp [h])
  self := fun A i s Q E st h => by
    obtain ⟨⟨f0, f1, hz, _⟩, _⟩ := st
    exact iter_zipU hz h
theorem pi_zn {X : Cx} {e f : Expr} {ta tb : TE} {p pos tpos : Pos} {x : Str} (hg : Gl X "zip") (hm : X.mg "zip" = none) (ha : PE X e ta) (hb : PE X f tb)
    (hs : starEach [e, f] X.env = (false, eval e X.env) :: starEach [f] X.env) (hs2 : starEach [f] X.env = (false, eval f X.env) :: starEach [] X.env) (hpl : (backTo pos (starEach [f] X.env)).any (·.1) = false) :
    PI X (.Name x tpos) (.Call (.Name "zip" p) [e, f] [] pos) (iZm X.K ta tb) := ⟨fun pins s σ H R I h => by
  refine Call_ (ld_blt I hg hm boot_zip (callWith_type1 (thn ((pa_cons ha (pa_cons hb pa_nil hs2) hs).run pos pins s σ H (fun vs H2 => ∃ a b j k xs ys, vs = [V.ref a, V.ref b] ∧ SqK j X.K H2 a xs ∧ SqK k X.K H2 b ys ∧ (xs.length ≤ sizeLine → R (Jz j k X.K a b) H2)) I h) fun us s1 ⟨vs, H1, J, r1, a, b, j, k, xs, ys, ev, hx, hy, q⟩ => ?_) hs hpl))
  subst ev
  cases r1 with
  | cons r rr =>
    cases rr with
    | cons r' rr =>
      cases rr
      cases r
      cases r'
      obtain ⟨us, rx, px, zx⟩ := seqK J hx
      obtain ⟨ws, ry, py, _⟩ := seqK J hy
      have la := plK_lt px
      have lb := plK_lt py
      refine zip_begins2 (begK (k := j) us.toArray) (begK (k := k) ws.toArray) px py fun h' hz hTI hTO h1 h2 hsz hk => wpAny_pyIter_zip hz ?_
      have I2 : Inv X pins σ H1 { s1 with heap := h' } := J.kept (t' := s1.toks) hk
      have sep := zip_sep2 (N := s1.heap.objs.size) (fp1 := [a]) (fp2 := [b]) (fun c hc => by rw [List.mem_singleton.mp hc]; exact la) (fun c hc => by rw [List.mem_singleton.mp hc]; exact lb)
      refine ⟨s1.heap.objs.size + 4, _, _, _, H1, rfl, I2, turn_zn sep (Nat.ne_of_lt la) (Nat.ne_of_lt (Nat.lt_succ_of_lt lb)), ⟨⟨_, _, hz, .inl rfl⟩, hTI, ⟨_, _, hTO⟩, iterK_0 h1, iterK_0 h2⟩, fun c hc => ?_, q zx⟩
      have hle : s1.heap.objs.size ≤ c := by
        simp only [List.mem_cons, List.not_mem_nil, or_false] at hc
        rcases hc with z | z | z | z | z <;> rw [z] <;> first | exact Nat.le_refl _ | exact Nat.le_add_right _ _
      exact J.fpOk hle (J.hok.fresh hle)⟩
section
variable {X : Cx} {c : Cn} {e a b d l tg : Expr} {ma mb md : SE} {pos p tpos : Pos} {x : Str}
theorem xi_zipN (hm : X.mg "zip" = none) (hk : X.K = c.C.K) (ha : PE X a (LE c ma)) (hb : PE X b (LE c mb)) (hg : Gl X "zip" := by rfl) (hs : starEach [a, b] X.env = (false, eval a X.env) :: starEach [b] X.env := by rfl) (hs2 : starEach [b] X.env = (false, eval b X.env) :: starEach [] X.env := by rfl)
    (hpl : (backTo pos (starEach [b] X.env)).any (·.1) = false := by rfl) : PI X (.Name x tpos) (.Call (.Name "zip" p) [a, b] [] pos) (LI c (iZip ma mb)) :=
  (pi_zn hg hm ha hb hs hs2 hpl).w fun s H R ⟨M, S, fr, rs, h⟩ => ⟨M, S, fr, rs, PoE.bind h fun x S1 v H1 k1 st1 r1 h1 => ⟨M, S1, fr, rs.step k1 st1, PoE.bind h1 fun y S2 w H2 k2 st2 r2 h2 => by
    obtain ⟨zs, e, h3⟩ := h2.of
    unfold zipO at e
    rw [Option.bind_eq_some_iff] at e
    obtain ⟨xs, ex, e⟩ := e
    rw [Option.map_eq_some_iff] at e
    obtain ⟨ys, ey, rfl⟩ := e
    obtain ⟨a, j, vs, rfl, sq1, q1, f1⟩ := items_sq ex (Rep.k k2 rs.rb r1)
    obtain ⟨b, k, ws, rfl, sq2, q2, f2⟩ := items_sq ey r2
    refine ⟨a, b, j, k, vs, ws, rfl, hk ▸ sq1, hk ▸ sq2, fun hz => ?_⟩
    rw [hk]
    exact h3 _ H2 .refl st2 (walkR_zip f1 f2 q1 q2 hz)⟩⟩
end
end Q
/-! Qk: comprehensions. -/
namespace Q
open PySem PySem.Spec PyProof.Rows L2
section
variable {X : Cx} {c : Cn} {elt tg iter : Expr} {ifs : List Expr} {ma mb md me : SE} {cb : SB} {m : SA} {mi : SI} {pos p : Pos} {x : Str} {is vs : List Nat} {g : TG} {tgm : TgS}
theorem lcGo_cons {fr : Fr} {x : PV} {r : List PV} {S : Sto} : lcGo tgm cb me fr (x :: r) S = match tgm x fr with
    | none => .bad
    | some fr1 => match cb fr1 S with
      | .ok k S1 => if k then
          match me fr1 S1 with
          | .ok y S2 => (lcGo tgm cb me fr r S2).bind fun ys S3 => .ok (y :: ys) S3
          | _ => .bad
        else lcGo tgm cb me fr r S1
      | _ => .bad := rfl
/-- behind the turns: the new list at D -/
def PoL (c : Cn) (M : Addr → Prop) (D : Addr) (H : Hp) (res : Re (List PV)) (q : VK) : Prop := match res with
  | .ok ys S' => ∀ ws H', Kp c.r H H' → c.St (plusD M D) S' H' → H' D = some (.lst ws) → c.Rs (plusD M D) H' ys ws → q (.ref D) H'
  | _ => False
/-- the turns -/
theorem lc_read {M : Addr → Prop} {S : Sto} {H H1 : Hp} {s : L2.St} {fr : Fr} {J : It} {xs : List PV} {q : VK} {D : Addr} (hv : ∀ i ∈ is, i ∈ vs) (tgo : TgOk c is g tgm) (rs : c.RS M S H1 s fr) (w : WalkC c M H1 xs J) (n : H1 D = none)
    (h : PoL c M D H1 (lcGo tgm cb me (wipeF fr vs) xs S) q) :
    ∃ W : Nat → Nat → Hp → Prop, (∃ m, W 0 m (upd H1 D (.lst []))) ∧ ∀ i m H, W i m H →
      (J.stop i H ∧ q (.ref D) H) ∨ (J.go i H ∧ ∃ Nx : Hp → Prop, (∀ H', Nx H' → ∃ m', m' < m ∧ W (i + 1) m' H') ∧ ∀ x H', J.yld i H x H' → g x (L2.wipe s vs) H' fun σ2 H2 => L2.wipe σ2 vs = L2.wipe s vs ∧ LB c cb σ2 H2 fun b H3 =>
        if b = true then LE c me σ2 H3 fun y H4 => ∃ acc, H4 D = some (.lst acc) ∧ acc.length < sizeLine ∧ Nx (upd H4 D (.lst (acc ++ [y]))) else Nx H3) := by
  obtain ⟨hz, G, Y, wk, wr⟩ := w
  have nM : ¬ M D := fun z => rs.mt D z n
  have nU : ¬ c.B M D := fun z => rs.bn D z n
  have nr : D ∉ c.r := fun z => nM (rs.rm D z)
  have ns : ∀ (i : Nat) (t : PV), (wipeF fr vs)[i]? = some (.ow t) → (L2.wipe s vs)[i]? ≠ some (some (.ref D)) := fun i t e z => by
    obtain ⟨v, e1, p, rfl, mp, _⟩ := (rs.wipe vs).at e (fun z => nomatch z)
    rw [e1] at z
    cases z
    exact nM mp
  -- a heap of the turns, seen from ahead of them
  have kq : ∀ H', Kp c.r H1 H' → Kq M H1 (plusD M D) H' := fun H' k => ⟨(k.kq rs.rm).keep, k.tups, k.frzs, k.tbls, fun a z => z.imp id fun e => by rw [e]; exact n⟩
  refine lc_it wk (fun i H' => ∃ S ws acc, Kp c.r H1 H' ∧ c.RS (plusD M D) S H' (L2.wipe s vs) (wipeF fr vs) ∧ H' D = some (.lst ws) ∧ c.Rs (plusD M D) H' acc ws ∧ acc.length ≤ i ∧
    PoL c M D H1 ((lcGo tgm cb me (wipeF fr vs) (xs.drop i) S).bind fun ys S2 => .ok (acc ++ ys) S2) q)
    ⟨S, [], [], Kp.upd_new n, (rs.plus n _).wipe vs, upd_same, .nil, Nat.le_refl _, ?_⟩ (fun i H' _ ⟨S, ws, acc, k, rs', _⟩ => (wr _ _ k (kq H' k) rs'.rb).1) (fun i x H' H2 hi ⟨S, ws, acc, k, rs', eD, rw_, hl, hp⟩ y => ?_) (fun H' ⟨S, ws, acc, k, rs', eD, rw_, hl, hp⟩ => ?_)
  · rw [List.drop_zero]
    revert h
    cases lcGo tgm cb me (wipeF fr vs) xs S with
    | ok ys S2 => exact fun h => h
    | _ => exact fun h => h
  · obtain ⟨kk, t, et, rt⟩ := (wr _ _ k (kq H' k) rs'.rb).2 i x H2 hi y
    have kH : Kp c.r H' H2 := Kp.of_all kk
    have rs2 := rs'.step kH (rs'.st.k kH rs'.rb kk)
    have ex : xs.drop i = t :: xs.drop (i + 1) := by
      obtain ⟨l, e⟩ := List.getElem?_eq_some_iff.mp et
      rw [List.drop_eq_getElem_cons l, e]
    rw [ex, lcGo_cons] at hp
    cases e1 : tgm t (wipeF fr vs) with
    | none => simp only [e1] at hp; exact hp.elim
    | some fr1 =>
      simp only [e1] at hp
      refine tgo _ S H2 _ _ t x fr1 _ rs2 rt e1 fun s1 rs3 al => ⟨?_, ?_⟩
      · have := wipe_alike (vs := vs) al.1 fun j hj => al.2 j fun z => hj (hv j z)
        rw [this]
        refine wipe_alike (vs := vs) (wipe_length _ _) fun j hj => wipe_get hj
      · refine ⟨plusD M D, S, fr1, rs3, ?_⟩
        cases e2 : cb fr1 S with
        | bad => simp only [e2] at hp; exact hp.elim
        | ex _ _ _ => simp only [e2] at hp; exact hp.elim
        | ok b S1 =>
          simp only [e2] at hp
          intro b' H3 k3 st3 eb
          subst eb
          have rs4 := rs3.step k3 st3
          have kD : ∀ {Ha Hb : Hp}, Kp c.r Ha Hb → ∀ {us}, Ha D = some (.lst us) → Hb D = some (.lst us) := fun k _ e => k.keep _ _ e nr (fun _ z => nomatch z)
          cases b' with
          | false =>
            rw [if_neg (by decide)]
            rw [if_neg (by decide)] at hp
            exact ⟨S1, ws, acc, (k.trans kH).trans k3, rs2.step k3 st3, kD k3 (kD kH eD), (Reps.k k3 rs3.rb (Reps.k kH rs'.rb rw_)), Nat.le_succ_of_le hl, hp⟩
          | true =>
            rw [if_pos rfl]
            rw [if_pos rfl] at hp
            refine ⟨plusD M D, S1, fr1, rs4, ?_⟩
            cases e3 : me fr1 S1 with
            | bad => simp only [e3] at hp; exact hp.elim
            | ex _ _ _ => simp only [e3] at hp; exact hp.elim
            | ok y' S2 =>
              simp only [e3] at hp
              intro yv H4 k4 st4 ry
              have e4 : H4 D = some (.lst ws) := kD k4 (kD k3 (kD kH eD))
              have rs5 := rs2.step (k3.trans k4) st4
              have rw4 := Reps.k k4 rs3.rb (Reps.k k3 rs3.rb (Reps.k kH rs'.rb rw_))
              refine ⟨ws, e4, ?_, ?_⟩
              · rw [← rw_.len]
                exact Nat.lt_of_le_of_lt hl (Nat.lt_of_lt_of_le hi hz)
              · have kb : Kb (c.B (plusD M D)) H4 (upd H4 D (.lst (ws ++ [yv]))) :=
                  ⟨fun a o e n _ => by rw [upd_ne (fun z => n (.inr (.inr z)))]; exact e, fun a xs q => by rw [upd_ne (fun z => by rw [z, e4] at q; exact nomatch q)]; exact q, fun a o u q => by rw [upd_ne (fun z => by rw [z, e4] at q; exact nomatch q)]; exact q⟩
                refine ⟨S2, ws ++ [yv], acc ++ [y'], ?_, rs5.put nM nr ns e4 _, upd_same, ?_, ?_, ?_⟩
                · have ka := ((k.trans kH).trans k3).trans k4
                  refine ⟨fun a o e m t => ?_, fun a xs e => ?_, fun a o u e => ?_, fun a ps e => ?_⟩
                  · rw [upd_ne (ne_of_none e n)]; exact ka.keep a o e m t
                  · rw [upd_ne (ne_of_none e n)]; exact ka.tups a xs e
                  · rw [upd_ne (ne_of_none e n)]; exact ka.frzs a o u e
                  · rw [upd_ne (ne_of_none e n)]; exact ka.tbls a ps e
                · exact Reps.kb kb (fun _ z => .inl z) (rw4.append (.cons ry .nil))
                · rw [List.length_append]; exact Nat.succ_le_succ hl
                · rw [Re.bind_assoc] at hp
                  simpa only [Re.bind_ok, List.append_assoc, List.cons_append, List.nil_append] using hp
  · rw [List.drop_length] at hp
    have hp : PoL c M D H1 (.ok (acc ++ []) S) q := hp
    rw [List.append_nil] at hp
    exact hp ws H' k rs'.st eD rw_

theorem PTs.w {X : Cx} {e : List Expr} {t t' : TT} (h : PTs X e t) (i : ∀ σ H Q, t' σ H Q → t σ H Q) : PTs X e t' := ⟨fun pins s σ H Q I q => h.run pins s σ H Q I (i _ _ _ q)⟩
theorem ts_nil : PTs X [] (LB c bT) := PTs.w pts_nil fun s H q ⟨M, S, fr, rs, h⟩ => h true H .refl rs.st rfl
theorem ts_one {a : Expr} {ba : SB} (h : PT X a (LB c ba)) : PTs X [a] (LB c ba) := pts_one h
/-- from the reading of the things walked to the reading of the list -/
theorem lc_of {σ : L2.St} {H : Hp} {q : VK} (hv : ∀ i ∈ is, i ∈ vs) (tgo : TgOk c is g tgm) (h : LE c (eLc vs mi tgm cb me) σ H q) : tLc (LIc c mi) g (LB c cb) (LE c me) vs σ H q := by
  obtain ⟨M, S, fr, rs, h⟩ := h
  refine ⟨M, S, fr, rs, PoE.bind h fun xs S1 J H1 k1 st1 w h1 => fun D n => lc_read (H := H1) hv tgo (rs.step k1 st1) w n ?_⟩
  have rs1 := rs.step k1 st1
  revert h1
  cases lcGo tgm cb me (wipeF fr vs) xs S1 with
  | ok ys S2 =>
    intro h1 ws H' k st e r
    refine h1 (.ref D) H' k (St.mono st ⟨fun a o e _ _ => e, fun a xs q => q, fun a o u q => q⟩ (fun a z => .inl (z.imp id .inl)) (fun _ _ _ e => e)) ?_
    simp only [Cn.R, Rep]
    exact ⟨D, ws, rfl, ⟨e, fun z => rs1.bn D z n⟩, Reps.kb ⟨fun a o e _ _ => e, fun a xs q => q, fun a o u q => q⟩ (fun a z => .inl (z.imp id .inl)) r⟩
  | _ => exact fun h => h
theorem ok_lc {scope : Scope} {own : List (Str × Nat)} (hc : X.calm = true) (hN : X.N.Nodup) (hi : PI X tg iter (LIc c mi)) (ok : BlkOk X.N X.env.scope scope own) (hv : ∀ i ∈ is, i ∈ own.map (·.2)) (tgo : TgOk c is g tgm)
    (hg : ∀ (s : Shared) (H : Hp) (C : Addr) (cl : List (Str × Addr)) (fp : List Addr), PG (X.blk s H scope (compEnvC scope cl C X.env) fp) tg g) (ht : ∀ (s : Shared) (H : Hp) (C : Addr) (cl : List (Str × Addr)) (fp : List Addr), PTs (X.blk s H scope (compEnvC scope cl C X.env) fp) ifs (LB c cb))
    (he : ∀ (s : Shared) (H : Hp) (C : Addr) (cl : List (Str × Addr)) (fp : List Addr), PE (X.blk s H scope (compEnvC scope cl C X.env) fp) elt (LE c me)) (hs : ∀ x, foldedSetIterable iter X.env x = pure x := by intro _; rfl) :
    PE X (.ListComp elt [⟨tg, iter, ifs, 0⟩] scope pos) (LE c (eLc (own.map (·.2)) mi tgm cb me)) :=
  (pe_lc hc hN hi ok hg ht he hs).w fun _ _ _ h => lc_of hv tgo h
end
end Q
/-! Ql: new lists, statements. -/
namespace Q
open PySem PySem.Spec PyProof.Rows L2
section
variable {c : Cn} {M M' : Addr → Prop} {S S' : Sto} {H H' : Hp} {s s' : L2.St} {fr fr' : Fr} {D : Addr}
theorem Kb.refl {B : Addr → Prop} : Kb B H H := ⟨fun _ _ e _ _ => e, fun _ _ e => e, fun _ _ _ e => e⟩
/-- more is kept apart -/
theorem RS.grow (rs : c.RS M S H s fr) (k : Kp c.r H H') (st : c.St M' S' H') (h0 : ∀ a, M a → M' a) (h1 : ∀ a, M' a → M a ∨ H a = none) (h2 : ∀ a, M' a → H' a ≠ none) : c.RS M' S' H' s fr :=
  ⟨rs.kp.trans k, rs.ut, h2, fun a m n => (h1 a m).elim (fun z => rs.mn a z n) fun z => by
      cases e : c.H0 a with
      | none => rfl
      | some o => exact absurd z (rs.kp.there (by rw [e]; exact fun z => nomatch z) n), rs.ru, fun a m => h0 a (rs.rm a m), st, rs.len,
    fun i a e o e' => SlotR.mono (rs.sl i a e o e') (k.kb rs.rb) (k.kb rs.rm) (fun a z => z.elim (fun z => .inl (.inl z)) fun z => (h1 a z).imp .inr id) h1 h0
      (fun p o _ n t e => k.keep p o e n t) (fun v F z => c.C.clk z k), rs.inj⟩
/-- one more slot, a list of one's own -/
theorem RS.own {p : Addr} {t : PV} (rs : c.RS M S H s fr) (i : Nat) (m : M p) (nr : p ∉ c.r) (q : Cnt c.C (c.B M) c.r H t p) (nw : ∀ (j : Nat) (u : PV), j ≠ i → fr[j]? = some (.ow u) → s[j]? ≠ some (some (.ref p))) : c.RS M S H (s.set i (some (.ref p))) (fr.set i (.ow t)) :=
  ⟨rs.kp, rs.ut, rs.mt, rs.mn, rs.ru, rs.rm, rs.st, by rw [List.length_set, List.length_set]; exact rs.len, fun j a e o e' => by
    by_cases ij : i = j
    · subst ij
      obtain ⟨l1, e1⟩ := List.getElem?_eq_some_iff.mp e
      obtain ⟨l2, e2⟩ := List.getElem?_eq_some_iff.mp e'
      rw [List.getElem_set_self] at e1 e2
      subst e1 e2
      exact ⟨p, rfl, m, nr, q⟩
    · rw [List.getElem?_set_ne ij] at e e'
      exact rs.sl j a e o e', fun j k t' u p' e1 e2 e3 e4 => by
    by_cases ij : i = j
    · subst ij
      obtain ⟨_, e3'⟩ := List.getElem?_eq_some_iff.mp e3
      rw [List.getElem_set_self] at e3'
      cases e3'
      by_cases ik : i = k
      · exact ik
      · rw [List.getElem?_set_ne ik] at e2 e4
        exact absurd e4 (nw k u (fun z => ik z.symm) e2)
    · rw [List.getElem?_set_ne ij] at e1 e3
      by_cases ik : i = k
      · subst ik
        obtain ⟨_, e4'⟩ := List.getElem?_eq_some_iff.mp e4
        rw [List.getElem_set_self] at e4'
        cases e4'
        exact absurd e3 (nw j t' (fun z => ij z.symm) e1)
      · rw [List.getElem?_set_ne ik] at e2 e4
        exact rs.inj j k t' u p' e1 e2 e3 e4⟩
/-- no slot's list is at an address that M has not -/
theorem RS.far {p : Addr} (rs : c.RS M S H s fr) (n : ¬ M p) (j : Nat) (u : PV) (e : fr[j]? = some (.ow u)) : s[j]? ≠ some (some (.ref p)) := fun z => by
  obtain ⟨v, e1, p', rfl, m, _⟩ := rs.at e (fun z => nomatch z)
  rw [e1] at z
  cases z
  exact n m
/-- what is changed at p alone -/
theorem Kb.own {M : Addr → Prop} {p : Addr} {o o' : HO} (m : M p) (e : H p = some o) (mu : Mu o) : Kb M H (upd H p o') :=
  have ne : ∀ b u, b ≠ p → H b = some u → upd H p o' b = some u := fun b u z e => by rw [upd_ne z]; exact e
  ⟨fun a o e n _ => ne a o (fun z => n (by rw [z]; exact m)) e, fun a xs q => ne a _ (fun z => by rw [z, e] at q; cases q; exact mu.ntup _ rfl) q, fun a o u q => ne a _ (fun z => by rw [z, e] at q; cases q; exact mu.nfrz _ _ rfl) q⟩
/-- a slot of a thing of one's own: the thing is changed -/
theorem RS.chg {p : Addr} {i : Nat} {t t' : PV} {o o' : HO} (rs : c.RS M S H s fr) (ei : fr[i]? = some (.ow t)) (es : s[i]? = some (some (.ref p))) (e : H p = some o) (mu : Mu o) (r : Kb (c.B M) H (upd H p o') → Cnt c.C (c.B M) c.r (upd H p o') t' p) : c.RS M S (upd H p o') s (fr.set i (.ow t')) := by
  obtain ⟨v, e1, p', rfl, m, nr, _⟩ := rs.at ei (fun z => nomatch z)
  rw [es] at e1
  cases e1
  have ne : ∀ b u, b ≠ p → H b = some u → upd H p o' b = some u := fun b u z e => by rw [upd_ne z]; exact e
  have k : Kb M H (upd H p o') := Kb.own m e mu
  have kB : Kb (c.B M) H (upd H p o') := Kb.own (.inr m) e mu
  have hn : ∀ a, H a ≠ none → upd H p o' a ≠ none := fun a h => by
    by_cases z : a = p
    · rw [z, upd_same]; exact fun z => nomatch z
    · rw [upd_ne z]; exact h
  have nD : c.H0 p = none := rs.mn p m nr
  have kc : Kp c.r c.H0 (upd H p o') := ⟨fun a o q n t => ne a o (fun z => by rw [z, nD] at q; exact nomatch q) (rs.kp.keep a o q n t), fun a xs q => ne a _ (fun z => by rw [z, nD] at q; exact nomatch q) (rs.kp.tups a xs q), fun a o u q => ne a _ (fun z => by rw [z, nD] at q; exact nomatch q) (rs.kp.frzs a o u q), fun a ps q => by
      obtain ⟨m, z⟩ := rs.kp.tbls a ps q
      exact ⟨m, ne a _ (fun y => by rw [y, e] at z; cases z; exact mu.ntbl _ rfl) z⟩⟩
  refine ⟨kc, rs.ut, fun a z => hn a (rs.mt a z), rs.mn, rs.ru, rs.rm, St.mono rs.st kB (fun _ z => .inl z) (fun q hq o e => ne q o (fun z => nr (z ▸ hq)) e), by rw [List.length_set]; exact rs.len, fun j a ea o1 e' => ?_, fun j k t1 u p' e1 e2 e3 e4 => ?_⟩
  · by_cases ij : i = j
    · subst ij
      obtain ⟨l1, e1⟩ := List.getElem?_eq_some_iff.mp ea
      rw [List.getElem_set_self] at e1
      rw [es] at e'
      cases e1
      cases e'
      exact ⟨p, rfl, m, nr, r kB⟩
    · rw [List.getElem?_set_ne ij] at ea
      have h := rs.sl j a ea o1 e'
      cases a with
      | no => exact True.intro
      | va t =>
        cases o1 with
        | none => exact h
        | some v => exact Rep.kb kB (fun _ z => .inl z) h
      | ow u =>
        cases o1 with
        | none => exact h
        | some v =>
          obtain ⟨q, rfl, m1, n1, q1⟩ := h
          have nq : q ≠ p := fun z => by
            subst z
            exact ij (rs.inj i j t u q ei ea es e')
          exact ⟨q, rfl, m1, n1, q1.kb kB (fun _ z => .inl z) fun o eu _ => ne q _ nq eu⟩
      | bo t =>
        cases o1 with
        | none => exact h
        | some v => exact RepM.kb kB k (fun _ z => .inl z) (fun _ z => .inl z) h
      | cl F =>
        cases o1 with
        | none => exact h
        | some v => exact c.C.clD h e mu
  · have g : ∀ (j : Nat) (t1 : PV), (fr.set i (.ow t'))[j]? = some (.ow t1) → ∃ t2, fr[j]? = some (.ow t2) := fun j t1 e => by
      by_cases ij : i = j
      · subst ij; exact ⟨t, ei⟩
      · rw [List.getElem?_set_ne ij] at e; exact ⟨t1, e⟩
    obtain ⟨t1, f1⟩ := g j t1 e1
    obtain ⟨t2, f2⟩ := g k u e2
    exact rs.inj j k t1 t2 p' f1 f2 e3 e4
/-- some lists of one's own are one's own no longer -/
theorem RS.frz {f : Nat → Bool} {N : Addr → Prop} (rs : c.RS M S H s fr) (hN : ∀ a, N a ↔ M a ∧ ∀ (i : Nat) (t : PV), f i = true → fr[i]? = some (.ow t) → s[i]? ≠ some (some (.ref a))) :
    c.RS N S H s (fr.mapIdx fun i a => if f i then a.froz else a) :=
  have hM : ∀ a, N a → M a := fun a z => ((hN a).mp z).1
  have kN : ∀ a ∈ c.r, N a := fun a z => (hN a).mpr ⟨rs.rm a z, fun i t _ e e' => by
    obtain ⟨v, e1, p, rfl, m, nr, _⟩ := rs.at e (fun z => nomatch z)
    rw [e1] at e'
    cases e'
    exact nr z⟩
  have hB : ∀ a, c.B N a → c.B M a ∨ H a = none := fun a z => .inl (z.imp id (hM a))
  have key : ∀ (i : Nat) (a : Sl), (fr.mapIdx fun i a => if f i then a.froz else a)[i]? = some a → ∃ b, fr[i]? = some b ∧ a = (if f i then b.froz else b) := fun i a e => by
    rw [List.getElem?_mapIdx, Option.map_eq_some_iff] at e
    obtain ⟨b, e1, rfl⟩ := e
    exact ⟨b, e1, rfl⟩
  ⟨rs.kp, rs.ut, fun a z => rs.mt a (hM a z), fun a z n => rs.mn a (hM a z) n, rs.ru, kN, St.mono rs.st .refl hB (fun _ _ _ e => e), by rw [List.length_mapIdx]; exact rs.len, fun i a e o e' => by
    obtain ⟨b, e1, rfl⟩ := key i a e
    have h := rs.sl i b e1 o e'
    cases b with
    | no => cases f i <;> exact True.intro
    | va t =>
      cases o with
      | none => cases f i <;> exact h
      | some v => cases f i <;> exact Rep.kb .refl hB h
    | ow t =>
      cases o with
      | none => cases f i <;> exact h
      | some v =>
        obtain ⟨p, rfl, m, n, q⟩ := h
        cases hf : f i with
        | true =>
          show Rep _ _ _ _ _ _
          refine (q.kb .refl hB fun _ e _ => e).rep fun z => ?_
          rcases z with z | z
          · exact absurd (rs.mn p m n) (rs.ut p z)
          · exact ((hN p).mp z).2 i _ hf e1 e'
        | false =>
          refine ⟨p, rfl, (hN p).mpr ⟨m, fun j t' fj ej z => ?_⟩, n, ?_⟩
          · have := rs.inj i j _ t' p e1 ej e' z
            subst this
            rw [hf] at fj
            exact nomatch fj
          · exact q.kb .refl hB fun _ e _ => e
    | bo t =>
      cases o with
      | none => cases f i <;> exact h
      | some v => cases f i <;> exact RepM.kb .refl .refl hB (fun a z => .inl (hM a z)) h
    | cl F =>
      cases o with
      | none => cases f i <;> exact h
      | some v => cases f i <;> exact h, fun i j t u p e1 e2 e3 e4 => by
    obtain ⟨b, f1, g1⟩ := key i _ e1
    obtain ⟨d, f2, g2⟩ := key j _ e2
    have : ∀ (b : Sl) (k : Bool) (t : PV), Sl.ow t = (if k then b.froz else b) → b = .ow t := fun b k t e => by
      cases k
      · exact e.symm
      · cases b <;> exact nomatch e
    have g1 := this _ _ _ g1
    have g2 := this _ _ _ g2
    subst g1 g2
    exact rs.inj i j t u p f1 f2 e3 e4⟩
end
end Q
/-! Qm: new lists; statements. -/
namespace Q
open PySem PySem.Spec PyProof.Rows L2
/-! ### new lists -/
def PoF (c : Cn) (M : Addr → Prop) (H : Hp) (res : Re PV) (q : VK) : Prop := match res with
  | .ok t S' => t.isC = true ∧ ∀ p H', Kp c.r H H' → H p = none → H' p ≠ none → c.St (plusD M p) S' H' → Cnt c.C (c.B (plusD M p)) c.r H' t p → q (.ref p) H'
  | _ => False
def LF (c : Cn) (m : SE) : TE := fun s H q => ∃ M S fr, c.RS M S H s fr ∧ PoF c M H (m fr S) q
section
variable {X : Cx} {c : Cn} {M M' : Addr → Prop} {S S' : Sto} {H H' : Hp} {s s' : L2.St} {fr fr' : Fr} {D : Addr} {q : VK} {res : Re PV}
theorem mono_down {B B' : Addr → Prop} (h : ∀ a, B' a → B a) : ∀ a, B' a → B a ∨ H a = none := fun a z => .inl (h a z)
theorem St.down (st : c.St M' S H) (h : ∀ a, M a → M' a) : c.St M S H := St.mono st .refl (mono_down fun a z => z.imp id (h a)) fun _ _ _ e => e
theorem StoR.there {C : RC} {B : Addr → Prop} {r : List Addr} (st : StoR C B r S H) {a : Addr} (z : a ∈ r) : H a ≠ none := by
  obtain ⟨i, hi, e⟩ := List.getElem_of_mem z
  have l : i < S.length := by rw [← st.len]; exact hi
  obtain ⟨o, eo, _⟩ := (st.at_ i a S[i] (by rw [List.getElem?_eq_getElem hi, e]) (List.getElem?_eq_getElem l)).is
  rw [eo]; exact fun z => nomatch z
theorem new_back (k : Kp c.r H H') (st : c.St M S H') {p : Addr} (n : H' p = none) : H p = none := by
  cases e : H p with
  | none => rfl
  | some o => exact absurd n (by
    by_cases z : p ∈ c.r
    · exact st.there z
    · exact k.there (by rw [e]; exact fun z => nomatch z) z)
/-- behind a piece -/
theorem PoF.bind {α β : Type} {x : Re α} {f : α → Sto → Re PV} {R : Hp → α → β → Prop} {q' : β → Hp → Prop}
    (h : PoF c M H (x.bind f) q) (g : ∀ t S' v H', Kp c.r H H' → c.St M S' H' → R H' t v → PoF c M H' (f t S') q → q' v H') : PoE c M H x R q' := by
  cases x with
  | ok t S' =>
    intro v H' k st r
    refine g t S' v H' k st r ?_
    have h : PoF c M H (f t S') q := h
    revert h
    cases f t S' with
    | ok u S2 => exact fun h => ⟨h.1, fun p H2 k2 n n2 st2 r2 => h.2 p H2 (k.trans k2) (new_back k st n) n2 st2 r2⟩
    | ex c as S2 => exact fun h => h
    | bad => exact fun h => h
  | ex c as S' => exact h
  | bad => exact h
/-- a list is laid -/
theorem PoF.new {xs : List PV} {vs : List V} (rb : ∀ a ∈ c.r, c.B M a) (h : PoF c M H (.ok (.lst xs) S) q) (st : c.St M S H) (r : c.Rs M H xs vs) (p : Addr) (n : H p = none) : q (.ref p) (upd H p (.lst vs)) :=
  have k : Kp c.r H (upd H p (.lst vs)) := Kp.upd_new n
  have bx : ∀ a, c.B (plusD M p) a → c.B M a ∨ H a = none := fun a z => z.elim (fun z => .inl (.inl z)) fun z => z.elim (fun z => .inl (.inr z)) fun e => .inr (by rw [e]; exact n)
  h.2 p _ k n (by rw [upd_same]; exact fun z => nomatch z) (St.mono st (k.kb rb) bx fun _ _ _ e => upd_keeps n _ _ e) ⟨vs, upd_same, Reps.kb (k.kb rb) bx r⟩
section
variable {e a b d : Expr} {es rest : List Expr} {ma mb md : SE} {ba bb : SB} {m : SA} {pos p : Pos} {x : Str}
theorem fits_le' {n : Nat} (h : fits n = true) : n ≤ sizeLine := by rw [sizeLine_eq]; exact of_decide_eq_true h
theorem f_lst (h : PA X es (LA c m)) : PE X (.List es pos) (LF c (eLst m)) :=
  (pe_lst h).w fun s H q ⟨M, S, fr, rs, h⟩ => ⟨M, S, fr, rs, PoF.bind h fun xs S1 vs H1 k1 st1 r1 h1 => by
    by_cases z : fits xs.length = true
    · simp only [z, if_true] at h1
      exact ⟨by rw [← Reps.len r1]; exact fits_le' z, fun p n => h1.new rs.rb st1 r1 p n⟩
    · simp only [z] at h1
      exact h1.elim⟩
theorem f_list (hv : bootBuiltins x = some (.type "list")) (hc : CallR X (.type "list") (rList c.C.K c.C.P c.C.w)) (hg : Gl X x) (hm : X.mg x = none) (ha : PA X (e :: es) (LAp c m))
    (hn : x ≠ "__name__") (hdb : (x == ("__debug__" : Str)) = false) (he : starEach (e :: es) X.env = (false, eval e X.env) :: starEach es X.env) (hpl : (backTo pos (starEach es X.env)).any (·.1) = false) : PE X (.Call (.Name x p) (e :: es) [] pos) (LF c (eBi bList m)) :=
  (pe_callTy hc hg hm hv ha hn hdb he hpl).w fun s H q ⟨M, S, fr, rs, h⟩ => ⟨M, S, fr, rs, PoF.bind h fun xs S1 vs H1 k1 st1 r1 h1 => by
    cases e : bList xs with
    | none => rw [e] at h1; exact h1.elim
    | some z =>
      rw [e] at h1
      unfold bList at e
      split at e
      · cases e
        obtain ⟨v, rfl, r3⟩ := rps1 r1
        obtain ⟨a, ws, rfl, s, r2⟩ := rp_tup r3
        exact .inl ⟨a, ws, rfl, .inr s, fun p n => h1.new rs.rb st1 r2 p n⟩
      · cases e
        obtain ⟨v, rfl, r3⟩ := rps1 r1
        obtain ⟨a, ws, rfl, s, _, r2⟩ := rp_lst r3
        exact .inl ⟨a, ws, rfl, .inl (.of s), fun p n => h1.new rs.rb st1 r2 p n⟩
      · cases e
        obtain ⟨v, rfl, r3⟩ := rps1 r1
        obtain ⟨a, kw, vw, rfl, _, d, q1, q2⟩ := rp_dct r3
        exact .inr ⟨a, kw, vw, rfl, dcv_of d q1, fun p n => h1.new rs.rb st1 q1 p n⟩
      · exact nomatch e⟩
/-- list + list, list * int, as new lists -/
@[simp] def eCatL (a b : SE) : SE := fun fr S => (a fr S).bind fun x S1 => (b fr S1).bind fun y S2 => .of (catL x y) S2
@[simp] def eRepL (a b : SE) : SE := fun fr S => (a fr S).bind fun x S1 => (b fr S1).bind fun y S2 => .of (repL x y) S2
theorem f_cat (ha : PE X a (LP c ma)) (hb : PE X b (LP c mb)) : PE X (.BinOp a .Add b pos) (LF c (eCatL ma mb)) :=
  (pe_op op_cat ha hb).w fun s H q ⟨M, S, fr, rs, h⟩ => ⟨M, S, fr, rs, PoF.bind h fun x S1 v H1 k1 st1 r1 h1 => ⟨M, S1, fr, rs.step k1 st1, PoF.bind h1 fun y S2 w H2 k2 st2 r2 h2 => by
    cases e : catL x y with
    | none => rw [e] at h2; exact h2.elim
    | some z =>
      rw [e] at h2
      unfold catL at e
      split at e
      · split at e
        · rename_i hf
          cases e
          obtain ⟨a, vs, rfl, s1, _, q1⟩ := rp_lst (RepP.k k2 rs.rb r1)
          obtain ⟨b, ws, rfl, s2, _, q2⟩ := rp_lst r2
          exact ⟨a, b, vs, ws, rfl, rfl, s1, s2, by rw [← q1.len, ← q2.len]; exact fits_le' hf, fun p n => h2.new rs.rb st2 (q1.append q2) p n⟩
        · exact nomatch e
      · exact nomatch e⟩⟩
theorem f_rep (ha : PE X a (LP c ma)) (hb : PE X b (LP c mb)) : PE X (.BinOp a .Mult b pos) (LF c (eRepL ma mb)) :=
  (pe_op op_rep ha hb).w fun s H q ⟨M, S, fr, rs, h⟩ => ⟨M, S, fr, rs, PoF.bind h fun x S1 v H1 k1 st1 r1 h1 => ⟨M, S1, fr, rs.step k1 st1, PoF.bind h1 fun y S2 w H2 k2 st2 r2 h2 => by
    cases e : repL x y with
    | none => rw [e] at h2; exact h2.elim
    | some z =>
      rw [e] at h2
      unfold repL at e
      split at e
      · split at e
        · rename_i hf
          cases e
          simp only [Bool.and_eq_true, decide_eq_true_eq] at hf
          obtain ⟨⟨h1, h2'⟩, h3⟩ := hf
          obtain ⟨a, vs, rfl, s1, _, q1⟩ := rp_lst (RepP.k k2 rs.rb r1)
          exact ⟨a, _, vs, rfl, rp_int r2, s1, h3, h2', by rw [← q1.len, sizeLine_eq]; exact h1, fun p n => h2.new rs.rb st2 (q1.rep _) p n⟩
        · exact nomatch e
      · exact nomatch e⟩⟩
end

section
variable {elt tg iter : Expr} {ifs : List Expr} {me : SE} {cb : SB} {mi : SI} {pos p : Pos} {is vs : List Nat} {g : TG} {tgm : TgS}
theorem lc_ofF {σ : L2.St} {H : Hp} {q : VK} (hv : ∀ i ∈ is, i ∈ vs) (tgo : TgOk c is g tgm) (h : LF c (eLc vs mi tgm cb me) σ H q) : tLc (LIc c mi) g (LB c cb) (LE c me) vs σ H q := by
  obtain ⟨M, S, fr, rs, h⟩ := h
  refine ⟨M, S, fr, rs, PoF.bind h fun xs S1 J H1 k1 st1 w h1 => fun D n => lc_read (H := H1) hv tgo (rs.step k1 st1) w n ?_⟩
  have rs1 := rs.step k1 st1
  revert h1
  cases lcGo tgm cb me (wipeF fr vs) xs S1 with
  | ok ys S2 => exact fun h1 ws H' k st e r => h1.2 D H' k n (by rw [e]; exact fun z => nomatch z) st ⟨ws, e, r⟩
  | _ => exact fun h => h
theorem f_lc {scope : Scope} {own : List (Str × Nat)} (hc : X.calm = true) (hN : X.N.Nodup) (hi : PI X tg iter (LIc c mi)) (ok : BlkOk X.N X.env.scope scope own) (hv : ∀ i ∈ is, i ∈ own.map (·.2)) (tgo : TgOk c is g tgm)
    (hg : ∀ (s : Shared) (H : Hp) (C : Addr) (cl : List (Str × Addr)) (fp : List Addr), PG (X.blk s H scope (compEnvC scope cl C X.env) fp) tg g) (ht : ∀ (s : Shared) (H : Hp) (C : Addr) (cl : List (Str × Addr)) (fp : List Addr), PTs (X.blk s H scope (compEnvC scope cl C X.env) fp) ifs (LB c cb))
    (he : ∀ (s : Shared) (H : Hp) (C : Addr) (cl : List (Str × Addr)) (fp : List Addr), PE (X.blk s H scope (compEnvC scope cl C X.env) fp) elt (LE c me)) (hs : ∀ x, foldedSetIterable iter X.env x = pure x := by intro _; rfl) :
    PE X (.ListComp elt [⟨tg, iter, ifs, 0⟩] scope pos) (LF c (eLc (own.map (·.2)) mi tgm cb me)) :=
  (pe_lc hc hN hi ok hg ht he hs).w fun _ _ _ h => lc_ofF hv tgo h
end
end
end Q
/-! Qmb: new dicts. -/
namespace Q
open PySem PySem.Spec PyProof.Rows L2
section
variable {C : RC} {B : Addr → Prop} {r : List Addr} {H : Hp}
theorem pairs_reps : ∀ {xs : List PV} {ws : List V} {prs : List (PV × PV)}, allPr xs = some prs → Reps C B r H xs ws → ∃ (ps : List Addr) (kw vw : List V), ws = ps.map .ref ∧ Paired (fun p (kv : V × V) => SqT C.K H p [kv.1, kv.2]) ps (kw.zip vw) ∧ kw.length = vw.length ∧ Reps C B r H (prs.map (·.1)) kw ∧ Reps C B r H (prs.map (·.2)) vw
  | [], _, prs, e, h => by
    simp only [allPr, Option.some.injEq] at e
    subst e
    simp only [Reps] at h
    exact ⟨[], [], [], h, .nil, rfl, .nil, .nil⟩
  | x :: xs, _, prs, e, h => by
    have ht : ∃ k v, x = .tup [k, v] := by
      unfold allPr at e
      split at e
      · rename_i e2; cases e2
      · rename_i e2; cases e2; exact ⟨_, _, rfl⟩
      · exact nomatch e
    obtain ⟨k, v, rfl⟩ := ht
    simp only [allPr, Option.map_eq_some_iff] at e
    obtain ⟨prs', e, rfl⟩ := e
    simp only [Reps] at h
    obtain ⟨u, ur, rfl, h1, h2⟩ := h
    obtain ⟨ps, kw, vw, rfl, hp, l, q1, q2⟩ := pairs_reps e h2
    simp only [Rep] at h1
    obtain ⟨a, vs, rfl, s, q⟩ := h1
    simp only [Reps] at q
    obtain ⟨w1, _, rfl, r1, w2, _, rfl, r2, rfl⟩ := q
    exact ⟨a :: ps, w1 :: kw, w2 :: vw, rfl, .cons s hp, by simp [l], .cons r1 q1, .cons r2 q2⟩
theorem dMk_some {prs : List (PV × PV)} {z : PV} (h : dMk prs = some z) : ((∃ pk, fkeys (prs.map (·.1)) = some pk) ∨ ∃ pk, tkeys (prs.map (·.1)) = some pk ∧ prs ≠ []) ∧ z = .dct (dPuts ([], []) prs).1 (dPuts ([], []) prs).2 := by
  unfold dMk at h
  obtain ⟨p, rfl⟩ := if_some h
  refine ⟨?_, rfl⟩
  unfold keysOk at p
  rw [Bool.or_eq_true, Option.isSome_iff_exists, Option.isSome_iff_exists] at p
  rcases p with ⟨pk, e⟩ | ⟨pk, e⟩
  · exact .inl ⟨pk, e⟩
  · cases prs with
    | nil => exact .inl ⟨[], rfl⟩
    | cons _ _ => exact .inr ⟨pk, e, by simp⟩
/-- the content of what is made of pairs -/
theorem mk_flat {prs : List (PV × PV)} {kw vw : List V} {pk : List L2.Key} {a : Addr} (h : fkeys (prs.map (·.1)) = some pk) (q1 : Reps C B r H (prs.map (·.1)) kw) (q2 : Reps C B r H (prs.map (·.2)) vw) : kw = pk.map kV ∧ ∃ kw' vw', DO C.P C.w a (some (.dK (mergeK [] (pk.zip vw)))) (dPuts ([], []) prs).1 kw' vw' ∧ Reps C B r H (dPuts ([], []) prs).1 kw' ∧ Reps C B r H (dPuts ([], []) prs).2 vw' := by
  refine ⟨fkw h q1, ?_⟩
  obtain ⟨fk', kw', vw', g1, g2, g3, g4, g5⟩ := puts_flat (ks := []) (vs := []) (kw := []) (vw := []) (fk := []) h q1 q2 rfl rfl .nil .nil
  exact ⟨kw', vw', .inl ⟨fk', g1, g2, by rw [g3]; rfl⟩, g4, g5⟩
theorem mk_tup {prs : List (PV × PV)} {kw vw : List V} {pk : List NestedKey} {a : Addr} (h : tkeys (prs.map (·.1)) = some pk) (ne : prs ≠ []) (q1 : Reps C B r H (prs.map (·.1)) kw) (q2 : Reps C B r H (prs.map (·.2)) vw) :
    ∃ bs : List Addr, kw = bs.map .ref ∧ pk.length = vw.length ∧ bs.length = vw.length ∧ (∀ x ∈ pk.zip (bs.zip vw), KeyAt C.K H x.1 x.2.1) ∧ ∃ kw' vw', DO C.P C.w a (some (DnO C.P C.w a (Ent.all [] (pk.zip (bs.zip vw))))) (dPuts ([], []) prs).1 kw' vw' ∧ Reps C B r H (dPuts ([], []) prs).1 kw' ∧ Reps C B r H (dPuts ([], []) prs).2 vw' := by
  obtain ⟨bs, rfl⟩ := tk_refs h q1
  have l1 := tkeys_len h
  have l2 := q1.len
  have l3 := q2.len
  simp only [List.length_map] at l1 l2 l3
  obtain ⟨nk', bs', vw', g1, gn, g2, g2', g3, g4, g5⟩ := puts_tup (ks := []) (vs := []) (bs := []) (vw := []) (nk := []) h q1 q2 rfl rfl rfl .nil .nil
  exact ⟨bs, rfl, by omega, by omega, keys_at h q1, bs'.map .ref, vw', .inr ⟨nk', bs', g1, gn (.inl ne), g2, g2', rfl, by rw [g3]; rfl⟩, g4, g5⟩
theorem paired_map {α β γ : Type} {F : α → γ → Prop} {f : β → γ} : ∀ {l : List α} {m : List β}, Paired F l (m.map f) → Paired (fun a b => F a (f b)) l m
  | [], [], _ => .nil
  | [], _ :: _, h => by cases h
  | _ :: _, [], h => by cases h
  | a :: l, b :: m, h => by cases h with | cons h1 h2 => exact .cons h1 (paired_map h2)
end
/-- dict(list of pairs) -/
def rDict (K : PySem.W.Frag) (P : Program) (w : World) : List V → Hp → VK → Prop := fun xs H Q => (∃ (a : Addr) (ps : List Addr) (kvs : List (L2.Key × V)), xs = [.ref a] ∧ SqL K H a (ps.map V.ref) ∧ Paired (fun p (kv : L2.Key × V) => SqT K H p [kV kv.1, kv.2]) ps kvs ∧ ∀ p, H p = none → Q (.ref p) (upd H p (.dK (mergeK [] kvs)))) ∨
  ∃ (a : Addr) (ps : List Addr) (es : Ent), xs = [.ref a] ∧ SqL K H a (ps.map V.ref) ∧ Paired (fun p (e : NestedKey × Addr × V) => SqT K H p [.ref e.2.1, e.2.2]) ps es ∧ (∀ x ∈ es, KeyAt K H x.1 x.2.1) ∧ ∀ p, H p = none → Q (.ref p) (upd H p (DnO P w p (Ent.all [] es)))
section
variable {X : Cx} {c : Cn} {M : Addr → Prop} {S : Sto} {H : Hp} {q : VK}
theorem zip_map_kV {pk : List L2.Key} {vw : List V} : (pk.map kV).zip vw = (pk.zip vw).map fun kv => (kV kv.1, kv.2) := by rw [List.zip_map_left]; rfl
theorem zip_ent : ∀ {pk : List NestedKey} {bs : List Addr} {vw : List V}, pk.length = vw.length → bs.length = vw.length → (bs.map V.ref).zip vw = (pk.zip (bs.zip vw)).map fun e => (V.ref e.2.1, e.2.2)
  | [], [], [], _, _ => rfl
  | [], _, _ :: _, h, _ => by simp at h
  | [], _ :: _, [], _, h => by simp at h
  | _ :: _, _, [], h, _ => by simp at h
  | _ :: _, [], _ :: _, _, h => by simp at h
  | k :: pk, b :: bs, v :: vw, h, h' => by
    simp only [List.map_cons, List.zip_cons_cons]
    rw [zip_ent (pk := pk) (by simpa using h) (by simpa using h')]
/-- what dict(xs) needs, and makes -/
theorem dict_mk {xs : List PV} {z : PV} {vs : List V} (e : bDict xs = some z) (r : c.RPs M H xs vs) (k : ∀ p o kw vw, H p = none → z = .dct (kw : List PV) vw → (∃ kw' vw', DO c.C.P c.C.w p (some o) kw kw' vw' ∧ c.Rs M H kw kw' ∧ c.Rs M H vw vw') → q (.ref p) (upd H p o)) : rDict c.C.K c.C.P c.C.w vs H q := by
  unfold bDict at e
  split at e <;> try (cases e; done)
  rw [Option.bind_eq_some_iff] at e
  obtain ⟨prs, e1, e2⟩ := e
  obtain ⟨v, rfl, r1⟩ := rps1 r
  obtain ⟨a, ws, rfl, s, _, r2⟩ := rp_lst r1
  obtain ⟨ps, kw, vw, rfl, hp, l, q1, q2⟩ := pairs_reps e1 r2
  obtain ⟨alt, rfl⟩ := dMk_some e2
  rcases alt with ⟨pk, h⟩ | ⟨pk, h, ne⟩
  · have ek := (mk_flat (a := 0) h q1 q2).1
    refine .inl ⟨a, ps, pk.zip vw, rfl, .of s, ?_, fun p hn => k p _ _ _ hn rfl (mk_flat h q1 q2).2⟩
    rw [ek, zip_map_kV] at hp
    exact paired_map (F := fun p (kv : V × V) => SqT c.C.K H p [kv.1, kv.2]) hp
  · obtain ⟨bs, rfl, l1, l2, hk, _⟩ := mk_tup (a := 0) h ne q1 q2
    refine .inr ⟨a, ps, pk.zip (bs.zip vw), rfl, .of s, ?_, hk, fun p hn => k p _ _ _ hn rfl ?_⟩
    · rw [zip_ent l1 l2] at hp
      exact paired_map (F := fun p (kv : V × V) => SqT c.C.K H p [kv.1, kv.2]) hp
    · obtain ⟨bs', e', _, _, _, g⟩ := mk_tup (a := p) h ne q1 q2
      have : bs' = bs := by
        have := e'
        exact ((List.map_inj_right (fun a b h => by cases h; rfl)).mp this).symm
      subst this
      exact g
theorem R.dct_new {ks vs : List PV} {kw vw : List V} {p : Addr} {o : HO} (rb : ∀ a ∈ c.r, c.B M a) (nb : ∀ a, c.B M a → H a ≠ none) (n : H p = none) (d : DO c.C.P c.C.w p (some o) ks kw vw) (h1 : c.Rs M H ks kw) (h2 : c.Rs M H vs vw) : c.R M (upd H p o) (.dct ks vs) (.ref p) := by
  show Rep _ _ _ _ _ _
  simp only [Rep]
  exact ⟨p, kw, vw, rfl, fun z => nb p z n, by rw [upd_same]; exact d, h1.k (Kp.upd_new n) rb, h2.k (Kp.upd_new n) rb⟩
theorem bi_dict : BiT c bDict (rDict c.C.K c.C.P c.C.w) := by
  intro M H xs z vs q rb bn e r k
  refine dict_mk e r fun p o kw vw hn ez ⟨kw', vw', d, h1, h2⟩ => ?_
  subst ez
  exact k _ _ (Kp.upd_new hn) (upd_keeps hn) (R.dct_new rb bn hn d h1 h2)
/-- a dict is laid -/
theorem PoF.newD {ks vs : List PV} {kw vw : List V} {o : HO} (rb : ∀ a ∈ c.r, c.B M a) (h : PoF c M H (.ok (.dct ks vs) S) q) (st : c.St M S H) (p : Addr) (n : H p = none) (d : DO c.C.P c.C.w p (some o) ks kw vw) (h1 : c.Rs M H ks kw) (h2 : c.Rs M H vs vw) : q (.ref p) (upd H p o) :=
  have k : Kp c.r H (upd H p o) := Kp.upd_new n
  have bx : ∀ a, c.B (plusD M p) a → c.B M a ∨ H a = none := fun a z => z.elim (fun z => .inl (.inl z)) fun z => z.elim (fun z => .inl (.inr z)) fun e => .inr (by rw [e]; exact n)
  h.2 p _ k n (by rw [upd_same]; exact fun z => nomatch z) (St.mono st (k.kb rb) bx fun _ _ _ e => upd_keeps n _ _ e) ⟨kw, vw, by rw [upd_same]; exact d, Reps.kb (k.kb rb) bx h1, Reps.kb (k.kb rb) bx h2⟩
section
variable {e : Expr} {es : List Expr} {m : SA} {md : SD} {mk mv : SE} {pos p : Pos} {x : Str} {ek ev : Expr} {ks : List (Option Expr)} {vs : List Expr} {trs : List (TE × TE)}
theorem f_dict (hv : bootBuiltins x = some (.type "dict")) (hc : CallR X (.type "dict") (rDict c.C.K c.C.P c.C.w)) (hg : Gl X x) (hm : X.mg x = none) (ha : PA X (e :: es) (LAp c m))
    (hn : x ≠ "__name__") (hdb : (x == ("__debug__" : Str)) = false) (he : starEach (e :: es) X.env = (false, eval e X.env) :: starEach es X.env) (hpl : (backTo pos (starEach es X.env)).any (·.1) = false) : PE X (.Call (.Name x p) (e :: es) [] pos) (LF c (eBi bDict m)) :=
  (pe_callTy hc hg hm hv ha hn hdb he hpl).w fun s H q ⟨M, S, fr, rs, h⟩ => ⟨M, S, fr, rs, PoF.bind h fun xs S1 vs H1 k1 st1 r1 h1 => by
    cases e : bDict xs with
    | none => rw [e] at h1; exact h1.elim
    | some z =>
      rw [e] at h1
      refine dict_mk e r1 fun p o kw vw hn ez ⟨kw', vw', d, g1, g2⟩ => ?_
      subst ez
      exact h1.newD rs.rb st1 p hn d g1 g2⟩
theorem f_dnew : PE X (.Dict [] [] pos) (LF c eDNew) := pe_dnewK.w fun s H q ⟨M, S, fr, rs, h⟩ p n => PoF.newD (kw := []) (vw := []) rs.rb h rs.st p n (.inl ⟨[], rfl, rfl, rfl⟩) .nil .nil
end
/-! displays -/
def PoP (c : Cn) (M : Addr → Prop) (H : Hp) (res : Re (List (PV × PV))) (q : List (V × V) → Hp → Prop) : Prop := match res with
  | .ok prs S' => ∀ kw vw H', Kp c.r H H' → c.St M S' H' → kw.length = vw.length → c.Rs M H' (prs.map (·.1)) kw → c.Rs M H' (prs.map (·.2)) vw → q (kw.zip vw) H'
  | _ => False
def trsOf (c : Cn) : List (SE × SE) → List (TE × TE)
  | [] => []
  | p :: r => (LE c p.1, LE c p.2) :: trsOf c r
def sdOf : List (SE × SE) → SD
  | [] => dN
  | p :: r => dC p.1 p.2 (sdOf r)
theorem PoP.bind {α β : Type} {x : Re α} {f : α → Sto → Re (List (PV × PV))} {R : Hp → α → β → Prop} {q' : β → Hp → Prop} {qp : List (V × V) → Hp → Prop}
    (h : PoP c M H (x.bind f) qp) (g : ∀ t S' v H', Kp c.r H H' → c.St M S' H' → R H' t v → PoP c M H' (f t S') qp → q' v H') : PoE c M H x R q' := by
  cases x with
  | ok t S' =>
    intro v H' k st r
    refine g t S' v H' k st r ?_
    have h : PoP c M H (f t S') qp := h
    revert h
    cases f t S' with
    | ok u S2 => exact fun h kw vw H2 k2 => h kw vw H2 (k.trans k2)
    | ex c as S2 => exact fun h => h
    | bad => exact fun h => h
  | ex c as S' => exact h
  | bad => exact h
theorem pairs_read : ∀ {ls : List (SE × SE)} {M : Addr → Prop} {S : Sto} {H : Hp} {s : L2.St} {fr : Fr} {qp : List (V × V) → Hp → Prop}, c.RS M S H s fr → PoP c M H (sdOf ls fr S) qp → tPairs (trsOf c ls) s H qp
  | [], M, S, H, s, fr, qp, rs, h => h [] [] H .refl rs.st rfl .nil .nil
  | p :: ls, M, S, H, s, fr, qp, rs, h => ⟨M, S, fr, rs, PoP.bind h fun x S1 v H1 k1 st1 r1 h1 => ⟨M, S1, fr, rs.step k1 st1, PoP.bind h1 fun y S2 w H2 k2 st2 r2 h2 => by
    have rs2 := (rs.step k1 st1).step k2 st2
    refine pairs_read (ls := ls) rs2 ?_
    revert h2
    cases sdOf ls fr S2 with
    | ok prs S3 => exact fun h2 kw vw H3 k3 st3 l q1 q2 => h2 (v :: kw) (w :: vw) H3 k3 st3 (by simp [l]) (.cons (Rep.k k3 rs.rb (Rep.k k2 rs.rb r1)) q1) (.cons (Rep.k k3 rs.rb r2) q2)
    | _ => exact fun h => h⟩⟩
theorem sd_len : ∀ {ls : List (SE × SE)} {fr : Fr} {S S' : Sto} {prs : List (PV × PV)}, sdOf ls fr S = .ok prs S' → prs.length = ls.length
  | [], _, _, _, _, h => by cases h; rfl
  | p :: ls, fr, S, S', prs, h => by
    simp only [sdOf, dC] at h
    cases e1 : p.1 fr S with
    | ok x S1 =>
      rw [e1] at h
      simp only [Re.bind_ok] at h
      cases e2 : p.2 fr S1 with
      | ok y S2 =>
        rw [e2] at h
        simp only [Re.bind_ok] at h
        cases e3 : sdOf ls fr S2 with
        | ok ps S3 => rw [e3] at h; cases h; simp [sd_len e3]
        | _ => rw [e3] at h; exact nomatch h
      | _ => rw [e2] at h; exact nomatch h
    | _ => rw [e1] at h; exact nomatch h
theorem f_disp {ks : List (Option Expr)} {vs : List Expr} {pos : Pos} {ls : List (SE × SE)} (sx : SX X c) (hu : X.A.units + 9 < cLine) (h : PPs X pos ks vs (trsOf c ls)) (h15' : ls.length ≤ 15) (hall : ks.all (·.isSome) = true) (hl : ks.length = vs.length) (h0 : ks ≠ []) (h15 : ks.length ≤ 15) : PE X (.Dict ks vs pos) (LF c (eDisp (sdOf ls))) :=
  (pe_dispN hu h hall hl h0 h15).w fun s H q ⟨M, S, fr, rs, h⟩ p n => by
    have rs1 := rs.plus n (.dK [])
    refine pairs_read rs1 ?_
    simp only [eDisp] at h
    cases e : sdOf ls fr S with
    | ok prs S1 =>
      rw [e] at h
      simp only [Re.bind_ok] at h
      have hz : prs.length ≤ 15 := by rw [sd_len e]; exact h15'
      cases ed : dMk prs with
      | none => rw [ed] at h; exact h.elim
      | some z =>
        rw [ed] at h
        obtain ⟨alt, rfl⟩ := dMk_some ed
        intro kw vw H2 k st l q1 q2
        have nr : p ∉ c.r := fun z => rs.mt p (rs.rm p z) n
        have eH : H2 p = some (.dK []) := k.keep p _ upd_same nr (fun _ z => nomatch z)
        refine ⟨eH, ?_⟩
        have fin : ∀ o, (∃ kw' vw', DO c.C.P c.C.w p (some o) (dPuts ([], []) prs).1 kw' vw' ∧ c.Rs (plusD M p) H2 (dPuts ([], []) prs).1 kw' ∧ c.Rs (plusD M p) H2 (dPuts ([], []) prs).2 vw') → q (.ref p) (upd H2 p o) := by
          intro o ⟨kw', vw', d, g1, g2⟩
          have kB : Kb (c.B (plusD M p)) H2 (upd H2 p o) := Kb.own (.inr (.inr rfl)) eH (.inr (.inl ⟨_, rfl⟩))
          refine h.2 p _ ?_ n (by rw [upd_same]; exact fun z => nomatch z) (St.mono st kB (fun _ z => .inl z) fun b hb o' e' => by rw [upd_ne (show b ≠ p from fun z => nr (by rw [← z]; exact hb))]; exact e') ⟨kw', vw', by rw [upd_same]; exact d, Reps.kb kB (fun _ z => .inl z) g1, Reps.kb kB (fun _ z => .inl z) g2⟩
          have ku : Kp c.r H (upd H p (.dK [])) := Kp.upd_new n
          have ka := ku.trans k
          exact ⟨fun a o e m t => by rw [upd_ne (ne_of_none e n)]; exact ka.keep a o e m t, fun a xs e => by rw [upd_ne (ne_of_none e n)]; exact ka.tups a xs e, fun a o u e => by rw [upd_ne (ne_of_none e n)]; exact ka.frzs a o u e, fun a ps e => by rw [upd_ne (ne_of_none e n)]; exact ka.tbls a ps e⟩
        have lp := q1.len
        have lq := q2.len
        simp only [List.length_map] at lp lq
        rcases alt with ⟨pk, hp⟩ | ⟨pk, hp, ne⟩
        · obtain ⟨ek, g⟩ := mk_flat (a := p) hp q1 q2
          have lk := fkeys_len hp
          simp only [List.length_map] at lk
          refine .inl ⟨pk.zip vw, by rw [ek, zip_map_kV], by rw [List.length_zip]; omega, fin _ g⟩
        · obtain ⟨bs, rfl, l1, l2, hk, g⟩ := mk_tup (a := p) hp ne q1 q2
          refine .inr ⟨pk.zip (bs.zip vw), zip_ent l1 l2, by simp only [List.length_zip]; omega, ?_, ?_⟩
          · rw [sx.1]; exact hk
          · rw [sx.2.1, sx.2.2]; exact fin _ g
    | _ => rw [e] at h; exact h.elim
end
end Q
/-! Qn: statements. -/
namespace Q
open PySem PySem.Spec PyProof.Rows L2
def PoS (c : Cn) (M : Addr → Prop) (H : Hp) (res : Ou) (D : Ends) : Prop := match res with
  | .nx fr S => ∀ M' s' H', Kq M H M' H' → c.RS M' S H' s' fr → D.nx s' H'
  | .bk fr S => ∀ M' s' H', Kq M H M' H' → c.RS M' S H' s' fr → D.bk s' H'
  | .ct fr S => ∀ M' s' H', Kq M H M' H' → c.RS M' S H' s' fr → D.ct s' H'
  | .rt t S => ∀ v H', Kp c.r c.H0 H' → StoR c.C c.U c.r S H' → Rep c.C c.U c.r H' t v → D.rt v H'
  | _ => False
def LS (c : Cn) (m : SS) : TS := fun D s H => ∃ M S fr, c.RS M S H s fr ∧ PoS c M H (m fr S) D
section
variable {X : Cx} {c : Cn} {M M' M1 : Addr → Prop} {S S' : Sto} {H H' H1 : Hp} {s s' : L2.St} {fr fr' : Fr} {D : Ends} {q : VK} {res : Ou}
theorem PoS.trans (k : Kq M H M1 H1) (h : PoS c M H res D) : PoS c M1 H1 res D := by
  cases res with
  | nx fr S => exact fun M' s' H' k' rs => h M' s' H' (k.trans k') rs
  | bk fr S => exact fun M' s' H' k' rs => h M' s' H' (k.trans k') rs
  | ct fr S => exact fun M' s' H' k' rs => h M' s' H' (k.trans k') rs
  | _ => exact h
theorem PoS.bind {α β : Type} {x : Re α} {f : α → Sto → Ou} {R : Hp → α → β → Prop} {q' : β → Hp → Prop} (rm : ∀ a ∈ c.r, M a)
    (h : PoS c M H (x.thn f) D) (g : ∀ t S' v H', Kp c.r H H' → c.St M S' H' → R H' t v → PoS c M H' (f t S') D → q' v H') : PoE c M H x R q' := by
  cases x with
  | ok t S' => exact fun v H' k st r => g t S' v H' k st r (PoS.trans (k.kq rm) (show PoS c M H (f t S') D from h))
  | ex c as S' => exact h
  | bad => exact h
theorem Kq.plus (k : Kp c.r H H') (rm : ∀ a ∈ c.r, M a) {p : Addr} (n : H p = none) : Kq M H (plusD M p) H' :=
  ⟨(k.kq rm).keep, k.tups, k.frzs, k.tbls, fun a z => z.imp id fun e => by rw [e]; exact n⟩
theorem RS.plusG (rs : c.RS M S H s fr) (k : Kp c.r H H') {p : Addr} (n : H p = none) (n2 : H' p ≠ none) (st : c.St (plusD M p) S' H') : c.RS (plusD M p) S' H' s fr :=
  rs.grow k st (fun _ z => .inl z) (fun a z => z.imp id fun e => by rw [e]; exact n) fun a z => by
    rcases z with z | z
    · by_cases r : a ∈ c.r
      · exact st.there r
      · exact k.there (rs.mt a z) r
    · rw [z]; exact n2
theorem PoS.bindF {x : Re PV} {f : PV → Sto → Ou} {q' : VK} (rs : c.RS M S H s fr)
    (h : PoS c M H (x.thn f) D) (hc : ∀ t S', PoS c M H (f t S') D → t.isC = true) (g : ∀ t S' p H', t.isC = true → H p = none → c.RS (plusD M p) S' H' s fr → Cnt c.C (c.B (plusD M p)) c.r H' t p → PoS c (plusD M p) H' (f t S') D → q' (.ref p) H') : PoF c M H x q' := by
  cases x with
  | ok t S' =>
    have h : PoS c M H (f t S') D := h
    exact ⟨hc t S' h, fun p H' k n n2 st r => g t S' p H' (hc t S' h) n (rs.plusG k n n2 st) r (h.trans (Kq.plus k rs.rm n))⟩
  | ex c as S' => exact h
  | bad => exact h
section
variable {st : Stmt} {rest sts sts' : List Stmt} {a b : SS} {e e2 tg : Expr} {m m2 m3 mk : SE} {cb : SB} {mi : SI} {pos : Pos} {i j : Nat} {x : Str}
theorem s_nil : PSs X [] (LS c sNil) := pss_nil.w fun D s H ⟨M, S, fr, rs, h⟩ => h M s H .refl rs
theorem s_cons (h1 : PS X st (LS c a)) (h2 : PSs X rest (LS c b)) : PSs X (st :: rest) (LS c (sSeq a b)) :=
  (pss_cons h1 h2).w fun D s H ⟨M, S, fr, rs, h⟩ => ⟨M, S, fr, rs, by
    simp only [sSeq] at h
    revert h
    cases a fr S with
    | nx fr1 S1 => exact fun h M' s' H' k rs' => ⟨M', S1, fr1, rs', h.trans k⟩
    | _ => exact fun h => h⟩
theorem s_one (h1 : PS X st (LS c a)) : PSs X [st] (LS c a) := pss_one h1
theorem s_frz (h1 : PS X st (LS c a)) : PS X st (LS c (sFrz i a)) := h1.w fun D s H ⟨M, S, fr, rs, h⟩ => by
  simp only [sFrz] at h
  split at h
  · rename_i b e
    have e2 : fr.set i b.froz = fr.mapIdx fun j a => if (j == i) then a.froz else a := by
      refine List.ext_getElem? fun j => ?_
      rw [List.getElem?_mapIdx]
      by_cases ij : i = j
      · subst ij
        obtain ⟨l, e'⟩ := List.getElem?_eq_some_iff.mp e
        rw [List.getElem?_set_self l, e]
        simp
      · rw [List.getElem?_set_ne ij]
        have : (j == i) = false := by simpa using fun z => ij z.symm
        cases fr[j]? <;> simp [this]
    rw [e2] at h
    have rs' := rs.frz (f := fun j => j == i) (N := fun a => M a ∧ ∀ (k : Nat) (t : PV), (k == i) = true → fr[k]? = some (.ow t) → s[k]? ≠ some (some (.ref a))) fun a => Iff.rfl
    exact ⟨_, S, _, rs', h.trans ⟨fun a o e n _ => by
      exact e, fun _ _ e => e, fun _ _ _ e => e, fun a ps e => ⟨#[], by rw [e]; simp⟩, fun a z => .inl z.1⟩⟩
  · exact h.elim
/-- the reading of a value that goes into a name -/
theorem asg_set (h : LS c (sSet i m) D s H) : LE c m s H fun v H1 => gName i v s H1 D.nx := by
  obtain ⟨M, S, fr, rs, h⟩ := h
  exact ⟨M, S, fr, rs, PoS.bind rs.rm h fun t S1 v H1 k st r h1 => h1 M _ H1 .refl ((rs.step k st).set i r)⟩
theorem asg_own (h : LS c (sOwn i m) D s H) : LF c m s H fun v H1 => gName i v s H1 D.nx := by
  obtain ⟨M, S, fr, rs, h⟩ := h
  refine ⟨M, S, fr, rs, PoS.bindF rs h (fun t S' h => ?_) fun t S1 p H1 tc n rs1 r h1 => ?_⟩
  · split at h
    · assumption
    · exact h.elim
  · rw [if_pos tc] at h1
    exact h1 _ _ H1 .refl (rs1.own i (.inr rfl) (fun z => rs.mt p (rs.rm p z) n) r fun j u _ e => rs.far (fun z => rs.mt p z n) j u e)
theorem s_set {px : Pos} (he : PE X e (LE c m)) (hN : X.N.Nodup) (hi : X.N[i]? = some x) (hx : Loc X.env.scope x) (hf : X.fn x = true ∨ X.env.scope.names.lookup x = some .local) (hs : swapsWith e (some (.Name x px)) pos.line X.env = pure false) : PS X (.Assign [.Name x px] e pos) (LS c (sSet i m)) :=
  (ps_set hN hi hx he hs hf).w fun D s H h => asg_set h
theorem s_own {px : Pos} (he : PE X e (LF c m)) (hN : X.N.Nodup) (hi : X.N[i]? = some x) (hx : Loc X.env.scope x) (hf : X.fn x = true ∨ X.env.scope.names.lookup x = some .local) (hs : swapsWith e (some (.Name x px)) pos.line X.env = pure false) : PS X (.Assign [.Name x px] e pos) (LS c (sOwn i m)) :=
  (ps_set hN hi hx he hs hf).w fun D s H h => asg_own h
section
variable {elt iter : Expr} {ifs : List Expr} {me : SE} {spos py : Pos} {is : List Nat} {g : TG} {tgm : TgS} {y : Str}
theorem s_setLc {scope : Scope} {own : List (Str × Nat)} (hc : X.calm = true) (hN : X.N.Nodup) (hy : X.N[i]? = some y) (hyl : X.env.scope.names.lookup y = some .local) (hsw : swapsWith (.ListComp elt [⟨tg, iter, ifs, 0⟩] scope pos) (some (.Name y py)) spos.line X.env = pure true)
    (hi : PI X tg iter (LIc c mi)) (ok : BlkOk X.N X.env.scope scope own) (hv : ∀ i ∈ is, i ∈ own.map (·.2)) (tgo : TgOk c is g tgm)
    (hg : ∀ (s : Shared) (H : Hp) (C : Addr) (cl : List (Str × Addr)) (fp : List Addr), PG (X.blk s H scope (compEnvC scope cl C X.env) fp) tg g) (ht : ∀ (s : Shared) (H : Hp) (C : Addr) (cl : List (Str × Addr)) (fp : List Addr), PTs (X.blk s H scope (compEnvC scope cl C X.env) fp) ifs (LB c cb))
    (he : ∀ (s : Shared) (H : Hp) (C : Addr) (cl : List (Str × Addr)) (fp : List Addr), PE (X.blk s H scope (compEnvC scope cl C X.env) fp) elt (LE c me)) (hs : ∀ x, foldedSetIterable iter X.env x = pure x := by intro _; rfl) :
    PS X (.Assign [.Name y py] (.ListComp elt [⟨tg, iter, ifs, 0⟩] scope pos) spos) (LS c (sSet i (eLc (own.map (·.2)) mi tgm cb me))) :=
  (ps_setLc hc hN hy hyl hsw hi ok hg ht he hs).w fun D s H h => lc_of hv tgo (asg_set h)
theorem s_ownLc {scope : Scope} {own : List (Str × Nat)} (hc : X.calm = true) (hN : X.N.Nodup) (hy : X.N[i]? = some y) (hyl : X.env.scope.names.lookup y = some .local) (hsw : swapsWith (.ListComp elt [⟨tg, iter, ifs, 0⟩] scope pos) (some (.Name y py)) spos.line X.env = pure true)
    (hi : PI X tg iter (LIc c mi)) (ok : BlkOk X.N X.env.scope scope own) (hv : ∀ i ∈ is, i ∈ own.map (·.2)) (tgo : TgOk c is g tgm)
    (hg : ∀ (s : Shared) (H : Hp) (C : Addr) (cl : List (Str × Addr)) (fp : List Addr), PG (X.blk s H scope (compEnvC scope cl C X.env) fp) tg g) (ht : ∀ (s : Shared) (H : Hp) (C : Addr) (cl : List (Str × Addr)) (fp : List Addr), PTs (X.blk s H scope (compEnvC scope cl C X.env) fp) ifs (LB c cb))
    (he : ∀ (s : Shared) (H : Hp) (C : Addr) (cl : List (Str × Addr)) (fp : List Addr), PE (X.blk s H scope (compEnvC scope cl C X.env) fp) elt (LE c me)) (hs : ∀ x, foldedSetIterable iter X.env x = pure x := by intro _; rfl) :
    PS X (.Assign [.Name y py] (.ListComp elt [⟨tg, iter, ifs, 0⟩] scope pos) spos) (LS c (sOwn i (eLc (own.map (·.2)) mi tgm cb me))) :=
  (ps_setLc hc hN hy hyl hsw hi ok hg ht he hs).w fun D s H h => lc_ofF hv tgo (asg_own h)
end
theorem s_expr (he : PE X e (LE c m)) (hs : swapsWith e none pos.line X.env = pure false) : PS X (.Expr e pos) (LS c (sExpr m)) :=
  (ps_expr he hs).w fun D s H ⟨M, S, fr, rs, h⟩ => ⟨M, S, fr, rs, PoS.bind rs.rm h fun t S1 v H1 k st r h1 => h1 M s H1 .refl (rs.step k st)⟩
theorem s_unp {is : List Nat} {n : Nat} (hk : X.K = c.C.K) (he : PE X e (LE c m)) (hg : PG X tg (gTup X.K n (gNames is))) (hn : is.length = n) (hs : swapsWithSole [tg] e pos.line X.env = pure false) (hw : swappedStores [tg] e X.env = pure none) (h1 : (assignEach [tg] X.env).map (·.2) = [assign tg X.env]) : PS X (.Assign [tg] e pos) (LS c (sUnp is m)) :=
  (ps_asg he hg hs hw h1).w fun D s H ⟨M, S, fr, rs, h⟩ => ⟨M, S, fr, rs, PoS.bind rs.rm h fun t S1 v H1 k st r h1 => by
    cases e1 : tT is t fr with
    | none => simp only [e1] at h1; exact h1.elim
    | some fr1 =>
      simp only [e1] at h1
      rw [hk]
      exact tg_tup hn M S1 H1 s fr t v fr1 _ (rs.step k st) r e1 fun s1 rs1 _ => h1 M s1 H1 .refl rs1⟩
theorem s_ret (he : PE X e (LE c m)) : PS X (.Return (some e) pos) (LS c (sRet m)) :=
  (ps_ret he).w fun D s H ⟨M, S, fr, rs, h⟩ => by
    have e2 : fr.map Sl.froz = fr.mapIdx fun j a => if (fun _ => true) j then a.froz else a := by
      refine List.ext_getElem? fun j => ?_
      rw [List.getElem?_mapIdx, List.getElem?_map]
      cases fr[j]? <;> simp
    simp only [sRet] at h
    rw [e2] at h
    have rs' := rs.frz (f := fun _ => true) (N := fun a => M a ∧ ∀ (k : Nat) (t : PV), true = true → fr[k]? = some (.ow t) → s[k]? ≠ some (some (.ref a))) fun a => Iff.rfl
    refine ⟨_, S, _, rs', PoS.bind rs'.rm (h.trans ⟨fun a o e n _ => e, fun _ _ e => e, fun _ _ _ e => e, fun a ps e => ⟨#[], by rw [e]; simp⟩, fun a z => .inl z.1⟩) fun t S1 v H1 k st r h1 => ?_⟩
    refine h1 v H1 (rs.kp.trans k) ?_ (Rep.kb .refl (mono_down fun a z => .inl z) r)
    exact ⟨st.len, st.nd, fun i p t e1 e2 => (st.at_ i p t e1 e2).kb .refl (mono_down fun a z => .inl z) fun _ e _ => e⟩
theorem StoR.up (st : c.St M S H) : StoR c.C c.U c.r S H := ⟨st.len, st.nd, fun i p t e1 e2 => (st.at_ i p t e1 e2).kb .refl (mono_down fun a z => .inl z) fun _ e _ => e⟩
theorem s_retN : PS X (.Return none pos) (LS c sRetN) := ps_retN.w fun D s H ⟨M, S, fr, rs, h⟩ => h .non H rs.kp (StoR.up rs.st) (.flat rfl)
theorem s_if {d : Expr} (hc : PT X d (LB c cb)) (ha : PSs X sts (LS c a)) (hb : PSs X sts' (LS c b)) : PS X (.If d sts sts' pos) (LS c (sIf cb a b)) :=
  (ps_if hc ha hb).w fun D s H ⟨M, S, fr, rs, h⟩ => ⟨M, S, fr, rs, PoS.bind rs.rm h fun k S1 v H1 kp st r h1 => by
    have r : v = k := r
    subst r
    cases v with
    | true => exact ⟨M, S1, fr, rs.step kp st, h1⟩
    | false => exact ⟨M, S1, fr, rs.step kp st, h1⟩⟩
theorem s_brk : PS X (.Break pos) (LS c sBrk) := ps_break.w fun D s H ⟨M, S, fr, rs, h⟩ => h M s H .refl rs
theorem s_cnt : PS X (.Continue pos) (LS c sCnt) := ps_continue.w fun D s H ⟨M, S, fr, rs, h⟩ => h M s H .refl rs
theorem s_pass : PS X (.Pass pos) (LS c sNil) := ps_pass.w fun D s H ⟨M, S, fr, rs, h⟩ => h M s H .refl rs
/-- what is never come to -/
theorem s_bad : PS X st (LS c sBad) := ps_never.w fun D s H ⟨M, S, fr, rs, h⟩ => h
theorem ss_bad : PSs X sts (LS c sBad) := pss_never.w fun D s H ⟨M, S, fr, rs, h⟩ => h
theorem forGo_cons {tgm : TgS} {x : PV} {r : List PV} : forGo tgm b (x :: r) fr S = match tgm x fr with
    | none => .bad
    | some fr1 => match b fr1 S with
      | .nx fr2 S2 => forGo tgm b r fr2 S2
      | .ct fr2 S2 => forGo tgm b r fr2 S2
      | .bk fr2 S2 => .nx fr2 S2
      | .rt t S2 => .rt t S2
      | .ex c as S2 => .ex c as S2
      | .bad => .bad := rfl
theorem s_for {iter : Expr} {is : List Nat} {g : TG} {tgm : TgS} (hp : PassesOwn (model X.prog X.w) X.A X.env X.xe) (hc : X.calm = true) (hi : PI X tg iter (LI c mi)) (hg : PG X tg g) (tgo : TgOk c is g tgm) (hb : PSs X sts (LS c b)) (hs : ∀ x, foldedSetIterable iter X.env x = pure x) : PS X (.For tg iter sts [] pos) (LS c (sFor mi tgm b)) :=
  (ps_for hp hc hi hg hb hs).w fun D s H ⟨M, S, fr, rs, h⟩ => ⟨M, S, fr, rs, PoS.bind rs.rm h fun xs S1 J H1 k st w h1 => by
    obtain ⟨hz, G, Y, wk, wr⟩ := w
    refine for_it wk (fun i s' H' => ∃ M' S fr, Kq M H1 M' H' ∧ c.RS M' S H' s' fr ∧ PoS c M' H' (forGo tgm b (xs.drop i) fr S) D) ⟨M, S1, fr, .refl, rs.step k st, by rw [List.drop_zero]; exact h1⟩ (fun i s' H' _ ⟨M', S, fr, kq, rs', _⟩ => (wr _ _ kq rs'.rb).1) (fun i x s' H' H2 hi ⟨M', S, fr, kq, rs', hp⟩ y => ?_) fun s' H' ⟨M', S, fr, kq, rs', hp⟩ => ?_
    · obtain ⟨kk, t, et, rt⟩ := (wr _ _ kq rs'.rb).2 i x H2 hi y
      have kH : Kp c.r H' H2 := Kp.of_all kk
      have rs2 := rs'.step kH (rs'.st.k kH rs'.rb kk)
      have ex : xs.drop i = t :: xs.drop (i + 1) := by
        obtain ⟨l, e⟩ := List.getElem?_eq_some_iff.mp et
        rw [List.drop_eq_getElem_cons l, e]
      rw [ex, forGo_cons] at hp
      cases e1 : tgm t fr with
      | none => simp only [e1] at hp; exact hp.elim
      | some fr1 =>
        simp only [e1] at hp
        refine tgo _ S H2 _ _ t x fr1 _ rs2 rt e1 fun s1 rs3 _ => ⟨M', S, fr1, rs3, ?_⟩
        have hp := hp.trans (kH.kq rs'.rm)
        cases e2 : b fr1 S with
        | nx fr2 S2 => simp only [e2] at hp; exact fun M2 s2 H3 k2 rs4 => ⟨M2, S2, fr2, (kq.trans (kH.kq rs'.rm)).trans k2, rs4, hp.trans k2⟩
        | ct fr2 S2 => simp only [e2] at hp; exact fun M2 s2 H3 k2 rs4 => ⟨M2, S2, fr2, (kq.trans (kH.kq rs'.rm)).trans k2, rs4, hp.trans k2⟩
        | bk fr2 S2 => simp only [e2] at hp; exact hp
        | rt t S2 => simp only [e2] at hp; exact hp
        | _ => simp only [e2] at hp; exact hp.elim
    · rw [List.drop_length] at hp
      exact hp M' s' H' .refl rs'⟩
theorem whGo_succ {n : Nat} : whGo cb b (n + 1) fr S = match cb fr S with
    | .ok k S1 => if k then
        match b fr S1 with
        | .nx fr2 S2 => whGo cb b n fr2 S2
        | .ct fr2 S2 => whGo cb b n fr2 S2
        | .bk fr2 S2 => .nx fr2 S2
        | .rt t S2 => .rt t S2
        | .ex c as S2 => .ex c as S2
        | .bad => .bad
      else .nx fr S1
    | .ex c as S1 => .ex c as S1
    | .bad => .bad := rfl
theorem s_wh {d : Expr} {n : Nat} (hp : PassesOwn (model X.prog X.w) X.A X.env X.xe) (hc : PT X d (LB c cb)) (hb : PSs X sts (LS c b)) : PS X (.While d sts [] pos) (LS c (sWh n cb b)) :=
  (ps_while hp hc hb).w fun D s H ⟨M, S, fr, rs, h⟩ => by
    refine ⟨fun m s' H' => ∃ M' S fr, c.RS M' S H' s' fr ∧ PoS c M' H' (whGo cb b m fr S) D, ⟨n, M, S, fr, rs, h⟩, fun m s' H' ⟨M', S, fr, rs', hp⟩ => ?_⟩
    cases m with
    | zero => exact hp.elim
    | succ m =>
      rw [whGo_succ] at hp
      refine ⟨M', S, fr, rs', ?_⟩
      cases e1 : cb fr S with
      | bad => simp only [e1] at hp; exact hp.elim
      | ex _ _ _ => simp only [e1] at hp; exact hp.elim
      | ok k S1 =>
        simp only [e1] at hp
        intro v H2 kp st ev
        have ev : v = k := ev
        subst ev
        have hp := hp.trans (kp.kq rs'.rm)
        have rs2 := rs'.step kp st
        cases v with
        | false =>
          rw [if_neg (by decide)] at hp ⊢
          exact hp M' s' H2 .refl rs2
        | true =>
          rw [if_pos rfl] at hp ⊢
          refine ⟨fun s2 H3 => ∃ M' S fr, c.RS M' S H3 s2 fr ∧ PoS c M' H3 (whGo cb b m fr S) D, fun s2 H3 w => ⟨m, Nat.lt_succ_self m, w⟩, M', S1, fr, rs2, ?_⟩
          cases e2 : b fr S1 with
          | nx fr2 S2 => simp only [e2] at hp; exact fun M2 s2 H3 k2 rs4 => ⟨M2, S2, fr2, rs4, hp.trans k2⟩
          | ct fr2 S2 => simp only [e2] at hp; exact fun M2 s2 H3 k2 rs4 => ⟨M2, S2, fr2, rs4, hp.trans k2⟩
          | bk fr2 S2 => simp only [e2] at hp; exact hp
          | rt t S2 => simp only [e2] at hp; exact hp
          | _ => simp only [e2] at hp; exact hp.elim
end
end
end Q
/-! Qo: several names at once; a list of one's own, of the store, changed. -/
namespace Q
open PySem PySem.Spec PyProof.Rows L2
def SlF (c : Cn) (M : Addr → Prop) (Hs H : Hp) (a : Sl) (v : V) : Prop := match a with
  | .va t => c.R M H t v
  | .ow t => ∃ p, v = .ref p ∧ M p ∧ p ∉ c.r ∧ Hs p = none ∧ H p ≠ none ∧ Cnt c.C (c.B M) c.r H t p
  | _ => False
def SlFs (c : Cn) (M : Addr → Prop) (Hs H : Hp) : List Sl → List V → Prop
  | [], vs => vs = []
  | a :: as, vs => ∃ v vr, vs = v :: vr ∧ SlF c M Hs H a v ∧ SlFs c M Hs H as vr ∧ ∀ (t : PV) (j : Nat) (u : PV), a = .ow t → as[j]? = some (.ow u) → vr[j]? ≠ some v
def PoH (c : Cn) (M : Addr → Prop) (H : Hp) (s : L2.St) (fr : Fr) (res : Re (List Sl)) (q : List V → Hp → Prop) : Prop := match res with
  | .ok as S' => ∀ vs H' M', Kp c.r H H' → (∀ a, M a → M' a) → (∀ a, M' a → M a ∨ H a = none) → c.RS M' S' H' s fr → SlFs c M' H H' as vs → q vs H'
  | _ => False
def LH (c : Cn) (m : SH) : TA := fun s H q => ∃ M S fr, c.RS M S H s fr ∧ PoH c M H s fr (m fr S) q
section
variable {X : Cx} {c : Cn} {M M' M1 : Addr → Prop} {S S' : Sto} {Hs H H' H1 : Hp} {s s' : L2.St} {fr fr' : Fr} {D : Ends} {q : VK} {res : Ou}
theorem SlF.k {a : Sl} {v : V} (h : SlF c M Hs H a v) (rb : ∀ a ∈ c.r, c.B M a) (k : Kp c.r H H') (h0 : ∀ a, M a → M' a) (h1 : ∀ a, M' a → M a ∨ H a = none) : SlF c M' Hs H' a v :=
  have hB : ∀ a, c.B M' a → c.B M a ∨ H a = none := fun a z => z.elim (fun z => .inl (.inl z)) fun z => (h1 a z).imp .inr id
  match a, h with
  | .va t, h => Rep.kb (k.kb rb) hB h
  | .ow t, ⟨p, e, m, n, n1, n2, q⟩ => by
    exact ⟨p, e, h0 p m, n, n1, k.there n2 n, q.kb (k.kb rb) hB fun o e mu => k.keep _ _ e n mu.ntbl⟩
theorem SlF.back {a : Sl} {v : V} (h : SlF c M H1 H a v) (n : ∀ p, H1 p = none → Hs p = none) : SlF c M Hs H a v :=
  match a, h with
  | .va t, h => h
  | .ow t, ⟨p, e, m, n0, n1, n2, q⟩ => ⟨p, e, m, n0, n p n1, n2, q⟩
theorem SlFs.back : ∀ {as : List Sl} {vs : List V}, SlFs c M H1 H as vs → (∀ p, H1 p = none → Hs p = none) → SlFs c M Hs H as vs
  | [], _, h, _ => h
  | a :: as, _, ⟨v, vr, e, h1, h2, h3⟩, n => ⟨v, vr, e, h1.back n, h2.back n, h3⟩
theorem SlFs.new : ∀ {as : List Sl} {vs : List V} {j : Nat} {u : PV}, SlFs c M Hs H as vs → as[j]? = some (.ow u) → ∃ p, vs[j]? = some (.ref p) ∧ Hs p = none
  | [], _, _, _, _, e => by simp at e
  | a :: as, _, j, u, ⟨v, vr, rfl, h1, h2, h3⟩, e => by
    cases j with
    | zero =>
      simp at e
      subst e
      obtain ⟨p, rfl, _, _, n, _⟩ := h1
      exact ⟨p, by simp, n⟩
    | succ j =>
      obtain ⟨p, e1, n⟩ := h2.new (by simpa using e)
      exact ⟨p, by simpa using e1, n⟩
section
variable {e : Expr} {es : List Expr} {m : SE} {r : SH}
theorem h_nil : PA X [] (LH c hN) := pa_nil.w fun s H q ⟨M, S, fr, rs, h⟩ => h [] H M .refl (fun _ z => z) (fun _ z => .inl z) rs rfl
theorem PoH.bind {α β : Type} {x : Re α} {f : α → Sto → Re (List Sl)} {R : Hp → α → β → Prop} {q : List V → Hp → Prop} {q' : β → Hp → Prop}
    (h : PoH c M H s fr (x.bind f) q) (g : ∀ t S' v H', Kp c.r H H' → c.St M S' H' → R H' t v → PoH c M H s fr (f t S') q → q' v H') : PoE c M H x R q' := by
  cases x with
  | ok t S' => exact fun v H' k st r => g t S' v H' k st r h
  | ex c as S' => exact h
  | bad => exact h
theorem h_val (he : PE X e (LE c m)) (hr : PA X es (LH c r)) (hs : starEach (e :: es) X.env = (false, eval e X.env) :: starEach es X.env) : PA X (e :: es) (LH c (hV m r)) :=
  (pa_cons he hr hs).w fun s H q ⟨M, S, fr, rs, h⟩ => ⟨M, S, fr, rs, PoH.bind h fun t S1 v H1 k st rv h1 => by
    have rs1 := rs.step k st
    refine ⟨M, S1, fr, rs1, ?_⟩
    cases e1 : r fr S1 with
    | ok as S2 =>
      rw [e1] at h1
      intro vs H2 M2 k2 h0 hM rs2 fs
      refine h1 (v :: vs) H2 M2 (k.trans k2) h0 (fun a z => (hM a z).imp id fun z => new_back k st z) rs2 ⟨v, vs, rfl, SlF.k (a := .va t) (Hs := H) rv rs.rb k2 h0 hM, fs.back fun p n => new_back k st n, fun t j u e => nomatch e⟩
    | _ => rw [e1] at h1; exact h1.elim⟩
theorem h_own (he : PE X e (LF c m)) (hr : PA X es (LH c r)) (hs : starEach (e :: es) X.env = (false, eval e X.env) :: starEach es X.env) : PA X (e :: es) (LH c (hO m r)) :=
  (pa_cons he hr hs).w fun s H q ⟨M, S, fr, rs, h⟩ => ⟨M, S, fr, rs, by
    simp only [hO] at h
    cases e0 : m fr S with
    | ok t S1 =>
      rw [e0] at h
      simp only [Re.bind_ok] at h
      have tc : t.isC = true := by
        cases z : t.isC with
        | true => rfl
        | false => rw [z] at h; exact h.elim
      rw [if_pos tc] at h
      refine ⟨tc, fun p H1 k n n2 st cn => ?_⟩
      have rs1 := rs.plusG k n n2 st
      have nr : p ∉ c.r := fun z => rs.mt p (rs.rm p z) n
      refine ⟨plusD M p, S1, fr, rs1, ?_⟩
      have nb : ∀ a, H1 a = none → H a = none := fun a z => by
        cases e : H a with
        | none => rfl
        | some o => exact absurd z (by
          by_cases y : a ∈ c.r
          · exact st.there y
          · exact k.there (by rw [e]; exact fun z => nomatch z) y)
      cases e1 : r fr S1 with
      | ok as S2 =>
        rw [e1] at h
        intro vs H2 M2 k2 h0 hM rs2 fs
        refine h (.ref p :: vs) H2 M2 (k.trans k2) (fun a z => h0 a (.inl z)) (fun a z => ?_) rs2 ⟨.ref p, vs, rfl, SlF.k (a := .ow t) (Hs := H) ⟨p, rfl, .inr rfl, nr, n, n2, cn⟩ rs1.rb k2 h0 hM, fs.back nb, fun t' j u _ ej ev => ?_⟩
        · rcases hM a z with z | z
          · exact z.imp id fun e => by rw [e]; exact n
          · exact .inr (nb a z)
        · obtain ⟨p', e2, n'⟩ := fs.new ej
          rw [ev] at e2
          cases e2
          exact n2 n'
      | _ => rw [e1] at h; exact h.elim
    | _ => rw [e0] at h; exact h.elim⟩
end
def setV : List Nat → List V → L2.St → L2.St
  | i :: is, v :: vs, s => setV is vs (s.set i (some v))
  | _, _, s => s
theorem RS.sets : ∀ {is : List Nat} {as : List Sl} {vs : List V} {s : L2.St} {fr fr1 : Fr}, c.RS M S H s fr → SlFs c M Hs H as vs → (∀ (k j : Nat) (t u : PV) (p : Addr), as[k]? = some (.ow t) → vs[k]? = some (.ref p) → fr[j]? = some (.ow u) → s[j]? ≠ some (some (.ref p))) →
    setSl is as fr = some fr1 → c.RS M S H (setV is vs s) fr1
  | [], [], vs, s, fr, fr1, rs, f, nw, e => by
    have f : vs = [] := f
    subst f
    cases e
    exact rs
  | [], a :: as, _, _, _, _, _, _, _, e => nomatch e
  | i :: is, [], _, _, _, _, _, _, _, e => nomatch e
  | i :: is, a :: as, _, s, fr, fr1, rs, ⟨v, vr, rfl, f1, f2, f3⟩, nw, e => by
    have e : setSl is as (fr.set i a) = some fr1 := e
    show c.RS M S H (setV is vr (s.set i (some v))) fr1
    have rs1 : c.RS M S H (s.set i (some v)) (fr.set i a) := by
      cases a with
      | va t => exact rs.set i f1
      | ow t =>
        obtain ⟨p, rfl, m, n, _, _, q⟩ := f1
        exact rs.own i m n q fun j u _ ej => nw 0 j t u p (by simp) (by simp) ej
      | _ => exact f1.elim
    refine RS.sets rs1 f2 (fun k j t u p e1 e2 e3 e4 => ?_) e
    by_cases ij : i = j
    · subst ij
      obtain ⟨_, z⟩ := List.getElem?_eq_some_iff.mp e3
      rw [List.getElem_set_self] at z
      obtain ⟨_, z'⟩ := List.getElem?_eq_some_iff.mp e4
      rw [List.getElem_set_self] at z'
      cases z'
      exact f3 u k t z e1 e2
    · rw [List.getElem?_set_ne ij] at e3 e4
      exact nw (k + 1) j t u p (by simpa using e1) (by simpa using e2) e3 e4
theorem SlFs.len : ∀ {as : List Sl} {vs : List V}, SlFs c M Hs H as vs → vs.length = as.length
  | [], _, h => by rw [show _ = [] from h]; rfl
  | a :: as, _, ⟨v, vr, e, h1, h2, h3⟩ => by rw [e, List.length_cons, List.length_cons, h2.len]
theorem setSl_len : ∀ {is : List Nat} {as : List Sl} {fr fr1 : Fr}, setSl is as fr = some fr1 → as.length = is.length
  | [], [], _, _, _ => rfl
  | [], a :: as, _, _, e => nomatch e
  | i :: is, [], _, _, e => nomatch e
  | i :: is, a :: as, fr, fr1, e => by
    have h : setSl is as (fr.set i a) = some fr1 := e
    simp only [List.length_cons, setSl_len h]
theorem par_of {is : List Nat} {m : SH} (h : LS c (sPar is m) D s H) : LH c m s H fun vs H1 => vs.length = is.length ∧ D.nx (setV is vs s) H1 := by
  obtain ⟨M, S, fr, rs, h⟩ := h
  refine ⟨M, S, fr, rs, ?_⟩
  simp only [sPar] at h
  cases e : m fr S with
  | ok as S1 =>
    rw [e] at h
    simp only [Re.thn_ok] at h
    cases e1 : setSl is as fr with
    | none => rw [e1] at h; exact h.elim
    | some fr1 =>
      rw [e1] at h
      intro vs H' M' k h0 h1 rs' fs
      refine ⟨by rw [fs.len, setSl_len e1], h M' _ H' ⟨(k.kq rs.rm).keep, k.tups, k.frzs, k.tbls, h1⟩ (rs'.sets fs (fun k j t u p e1 e2 e3 e4 => ?_) e1)⟩
      obtain ⟨p', e5, n⟩ := fs.new e1
      rw [e2] at e5
      cases e5
      exact rs.far (fun z => rs.mt p z n) j u e3 e4
  | _ => rw [e] at h; exact h.elim
theorem s_par2 {i j : Nat} {x y : Str} {a b : Expr} {m : SH} {px py pt pos : Pos} {kt k2 pt2} (hc : X.calm = true) (hN : X.N.Nodup) (hi : X.N[i]? = some x) (hj : X.N[j]? = some y) (hij : i ≠ j)
    (hx : X.env.scope.names.lookup x = some .local) (hy : X.env.scope.names.lookup y = some .local) (ha : PA X [a, b] (LH c m))
    (hw : swappedStores [.Tuple [.Name x px, .Name y py] kt pt] (.Tuple [a, b] k2 pt2) X.env = pure (some [x, y]))
    (hs : swapsWithSole [.Tuple [.Name x px, .Name y py] kt pt] (.Tuple [a, b] k2 pt2) pos.line X.env = pure false) :
    PS X (.Assign [.Tuple [.Name x px, .Name y py] kt pt] (.Tuple [a, b] k2 pt2) pos) (LS c (sPar [i, j] m)) :=
  (ps_par hc hN hi hj hij hx hy ha hw hs).w fun D s H h => by
    obtain ⟨M, S, fr, rs, h⟩ := par_of h
    refine ⟨M, S, fr, rs, ?_⟩
    revert h
    cases m fr S with
    | ok as S1 =>
      intro h vs H' M' k h0 h1 rs' fs
      obtain ⟨l, h⟩ := h vs H' M' k h0 h1 rs' fs
      match vs, l, h with
      | [v, w], _, h => exact ⟨v, w, rfl, h⟩
    | _ => exact fun h => h
theorem s_par3 {i j l : Nat} {x y z : Str} {a b d : Expr} {m : SH} {px py pz pt pos : Pos} {kt k2 pt2} (hc : X.calm = true) (hN : X.N.Nodup) (hi : X.N[i]? = some x) (hj : X.N[j]? = some y) (hl : X.N[l]? = some z) (hij : i ≠ j) (hil : i ≠ l) (hjl : j ≠ l)
    (hx : X.env.scope.names.lookup x = some .local) (hy : X.env.scope.names.lookup y = some .local) (hz : X.env.scope.names.lookup z = some .local) (ha : PA X [a, b, d] (LH c m))
    (hw : swappedStores [.Tuple [.Name x px, .Name y py, .Name z pz] kt pt] (.Tuple [a, b, d] k2 pt2) X.env = pure (some [x, y, z]))
    (hs : swapsWithSole [.Tuple [.Name x px, .Name y py, .Name z pz] kt pt] (.Tuple [a, b, d] k2 pt2) pos.line X.env = pure false) :
    PS X (.Assign [.Tuple [.Name x px, .Name y py, .Name z pz] kt pt] (.Tuple [a, b, d] k2 pt2) pos) (LS c (sPar [i, j, l] m)) :=
  (ps_par3 hc hN hi hj hl hij hil hjl hx hy hz ha hw hs).w fun D s H h => by
    obtain ⟨M, S, fr, rs, h⟩ := par_of h
    refine ⟨M, S, fr, rs, ?_⟩
    revert h
    cases m fr S with
    | ok as S1 =>
      intro h vs H' M' k h0 h1 rs' fs
      obtain ⟨l, h⟩ := h vs H' M' k h0 h1 rs' fs
      match vs, l, h with
      | [u, v, w], _, h => exact ⟨u, v, w, rfl, h⟩
    | _ => exact fun h => h
end
end Q
/-! Qp: append, extend, x[k] = e; x[k] = e in the store. -/
namespace Q
open PySem PySem.Spec PyProof.Rows L2
section
variable {X : Cx} {c : Cn} {M M' M1 : Addr → Prop} {S S' : Sto} {H H' H1 : Hp} {s s' : L2.St} {fr fr' : Fr} {D : Ends} {q : VK}
theorem Kq.own {p : Addr} {o o' : HO} (m : M p) (e : H p = some o) (mu : Mu o) : Kq M H M (upd H p o') := by
  have ne : ∀ b u, b ≠ p → H b = some u → upd H p o' b = some u := fun b u z e => by rw [upd_ne z]; exact e
  exact ⟨fun a o e n _ => ne a o (fun z => n (by rw [z]; exact m)) e, fun a xs q => ne a _ (fun z => by rw [z, e] at q; cases q; exact mu.ntup _ rfl) q, fun a o u q => ne a _ (fun z => by rw [z, e] at q; cases q; exact mu.nfrz _ _ rfl) q,
    fun a ps q => ⟨#[], by rw [ne a _ (fun z => by rw [z, e] at q; cases q; exact mu.ntbl _ rfl) q]; simp⟩, fun _ z => .inl z⟩
/-- a frame's own list is changed -/
theorem RS.chgL {p : Addr} {i : Nat} {t : PV} {vs ws : List V} {xs : List PV} (rs : c.RS M S H s fr) (ei : fr[i]? = some (.ow t)) (es : s[i]? = some (some (.ref p))) (e : H p = some (.lst vs)) (r : c.Rs M H xs ws) : c.RS M S (upd H p (.lst ws)) s (fr.set i (.ow (.lst xs))) :=
  rs.chg ei es e .lst fun kB => ⟨ws, upd_same, Reps.kb kB (fun _ z => .inl z) r⟩
/-- a frame's own list -/
theorem RS.ownAt {i : Nat} {xs : List PV} (rs : c.RS M S H s fr) (e : fr[i]? = some (.ow (.lst xs))) : ∃ p vs, s[i]? = some (some (.ref p)) ∧ M p ∧ p ∉ c.r ∧ H p = some (.lst vs) ∧ c.Rs M H xs vs := by
  obtain ⟨v, e1, p, rfl, m, n, vs, e2, r⟩ := rs.at e (fun z => nomatch z)
  exact ⟨p, vs, e1, m, n, e2, r⟩
section
variable {e : Expr} {m mk : SE} {i : Nat} {x : Str} {np ap cp pos : Pos}
/-- what e needs, where a list of one's own is changed behind it -/
theorem own_of {f : List PV → PV → Sto → Ou} (h : PoS c M H ((m fr S).thn fun y S1 => match fr[i]? with
  | some (.ow (.lst xs)) => f xs y S1
  | _ => .bad) D) : ∃ xs, fr[i]? = some (.ow (.lst xs)) ∧ PoS c M H ((m fr S).thn fun y S1 => f xs y S1) D := by
  cases e : m fr S with
  | ok y S1 =>
    rw [e] at h
    simp only [Re.thn_ok] at h ⊢
    split at h
    · exact ⟨_, by assumption, h⟩
    · exact h.elim
  | _ => rw [e] at h; exact h.elim
theorem s_app (hx : PE X (.Name x np) (tVar i)) (he : PE X e (LE c m)) (hs : swapsWith (.Call (.Attribute (.Name x np) "append" ap) [e] [] cp) none pos.line X.env = pure false)
    (hbase : attributeBase (.Name x np) "append" X.env (eval (.Name x np) X.env) = eval (.Name x np) X.env)
    (hfew : ((backTo cp (starEach [e] X.env)).all (fun x => !x.1) && (backToKw cp (keywordEach [] X.env)).all (fun x => x.1.isSome)
      && decide ([e].length + ([] : List Keyword).length + (if ([] : List Keyword).isEmpty then 0 else 1) < 30)) = true)
    (hline : (ap.endLine == cp.line) = true) (hst : starEach [e] X.env = (false, eval e X.env) :: starEach [] X.env) (hplain : (backTo cp (starEach [] X.env)).any (·.1) = false) :
    PS X (.Expr (.Call (.Attribute (.Name x np) "append" ap) [e] [] cp) pos) (LS c (sApp i m)) :=
  (ps_expr (pe_bm PySem.F.plainAttrs_list PySem.F.slot_list_append PySem.F.type_list_append mt_append hx (pa_cons he pa_nil hst) hbase hfew hline hst hplain) hs).w fun D s H ⟨M, S, fr, rs, h⟩ => by
    obtain ⟨xs, ei, h⟩ := own_of (f := fun xs y S1 => if fits (xs.length + 1) then .nx (fr.set i (.ow (.lst (xs ++ [y])))) S1 else .bad) h
    obtain ⟨p, vs, es, mp, nr, eH, r⟩ := rs.ownAt ei
    refine ⟨_, es, .inl ⟨rfl, vs, .of eH⟩, M, S, fr, rs, PoS.bind rs.rm h fun y S1 v H1 k st r1 h1 => ?_⟩
    have rs1 := rs.step k st
    obtain ⟨p', vs', es', _, _, eH', r'⟩ := rs1.ownAt ei
    rw [es] at es'
    cases es'
    split at h1
    · rename_i hf
      refine ⟨p, vs', v, rfl, rfl, eH', ?_, h1 _ _ _ (Kq.own mp eH' .lst) (rs1.chgL ei es eH' (r'.append (.cons r1 .nil)))⟩
      have := fits_le' hf
      rw [r'.len] at this
      exact this
    · exact h1.elim

theorem s_ext (hx : PE X (.Name x np) (tVar i)) (he : PE X e (LP c m)) (hs : swapsWith (.Call (.Attribute (.Name x np) "extend" ap) [e] [] cp) none pos.line X.env = pure false)
    (hbase : attributeBase (.Name x np) "extend" X.env (eval (.Name x np) X.env) = eval (.Name x np) X.env)
    (hfew : ((backTo cp (starEach [e] X.env)).all (fun x => !x.1) && (backToKw cp (keywordEach [] X.env)).all (fun x => x.1.isSome)
      && decide ([e].length + ([] : List Keyword).length + (if ([] : List Keyword).isEmpty then 0 else 1) < 30)) = true)
    (hline : (ap.endLine == cp.line) = true) (hst : starEach [e] X.env = (false, eval e X.env) :: starEach [] X.env) (hplain : (backTo cp (starEach [] X.env)).any (·.1) = false) :
    PS X (.Expr (.Call (.Attribute (.Name x np) "extend" ap) [e] [] cp) pos) (LS c (sExt i m)) :=
  (ps_expr (pe_bm PySem.F.plainAttrs_list PySem.F.slot_list_extend PySem.F.type_list_extend mt_extend hx (pa_cons he pa_nil hst) hbase hfew hline hst hplain) hs).w fun D s H ⟨M, S, fr, rs, h⟩ => by
    have h : PoS c M H ((m fr S).thn fun y S1 => match fr[i]? with
      | some (.ow (.lst xs)) => match y with
        | .lst ys => if fits (xs.length + ys.length) then .nx (fr.set i (.ow (.lst (xs ++ ys)))) S1 else .bad
        | _ => .bad
      | _ => .bad) D := by
      simp only [sExt] at h
      revert h
      cases m fr S with
      | ok y S1 =>
        simp only [Re.thn_ok]
        intro h
        split at h
        · rename_i z1 z2
          simp only [z2]
          exact h
        · exact h.elim
      | _ => exact fun h => h
    obtain ⟨xs, ei, h⟩ := own_of (f := fun xs y S1 => match y with
        | .lst ys => if fits (xs.length + ys.length) then .nx (fr.set i (.ow (.lst (xs ++ ys)))) S1 else .bad
        | _ => .bad) h
    obtain ⟨p, vs, es, mp, nr, eH, r⟩ := rs.ownAt ei
    refine ⟨_, es, .inl ⟨rfl, vs, .of eH⟩, M, S, fr, rs, PoS.bind rs.rm h fun y S1 v H1 k st r1 h1 => ?_⟩
    have rs1 := rs.step k st
    obtain ⟨p', vs', es', _, _, eH', r'⟩ := rs1.ownAt ei
    rw [es] at es'
    cases es'
    split at h1
    · rename_i ys
      split at h1
      · rename_i hf
        obtain ⟨b, ws, rfl, e2, _, r2⟩ := rp_lst r1
        refine ⟨p, b, vs', ws, rfl, rfl, eH', e2, ?_, h1 _ _ _ (Kq.own mp eH' .lst) (rs1.chgL ei es eH' (r'.append r2))⟩
        have := fits_le' hf
        rw [r'.len, r2.len] at this
        exact this
      · exact h1.elim
    · exact h1.elim
def rSetDn (K : PySem.W.Frag) (P : Program) (w : World) : TSet := fun o i v H Q => ∃ a ho, o = .ref a ∧ DPv K P w H a i v ho ∧ Q (upd H a ho)
theorem set_dn (hu : X.A.units + 9 < cLine) : PSet X (rSetDn X.K X.prog X.w) := by
  intro pins s σ H o i v ov iv u Q I ro ri rv h
  obtain ⟨a, ho, rfl, g, q⟩ := h
  obtain rfl : ov = Value.ref a := ro
  exact dl_setItem hu I g ri rv fun s' I' => ⟨_, I', q⟩
theorem PSet.or {t t' : TSet} (h : PSet X t) (h' : PSet X t') : PSet X (fun o i v H Q => t o i v H Q ∨ t' o i v H Q) := by
  intro pins s σ H o i v ov iv u Q I ro ri rv q
  rcases q with q | q
  · exact h pins s σ H o i v ov iv u Q I ro ri rv q
  · exact h' pins s σ H o i v ov iv u Q I ro ri rv q
/-- what a store into a container is, in the heap -/
theorem put_ok {t t' z y : PV} {zv v : V} {p : Addr} {Q : Hp → Prop} (e : putO t z y = some t') (cn : Cnt c.C (c.B M) c.r H t p) (rz : c.RP M H z zv) (ry : c.R M H y v)
    (k : ∀ o o', H p = some o → Mu o → (Kb (c.B M) H (upd H p o') → Cnt c.C (c.B M) c.r (upd H p o') t' p) → Q (upd H p o')) : rSetL (.ref p) zv v H Q ∨ rSetDn c.C.K c.C.P c.C.w (.ref p) zv v H Q := by
  unfold putO at e
  split at e
  · rw [Option.map_eq_some_iff] at e
    obtain ⟨j, ej, rfl⟩ := e
    obtain ⟨vs, eH, r⟩ := cn
    exact .inl ⟨p, vs, _, j, rfl, rp_int rz, eH, by rw [← r.len]; exact ej, k _ _ eH .lst fun kB => ⟨_, upd_same, Reps.kb kB (fun _ z => .inl z) (r.set j ry)⟩⟩
  · obtain ⟨ok, rfl⟩ := if_some e
    rw [Bool.and_eq_true] at ok
    obtain ⟨kw, vw, d, q1, q2⟩ := cn
    obtain ⟨o', kw', vw', g, mu, d', r1, r2⟩ := dct_put d q1 q2 ok.1 (rp_key ok.1 rz) ry (by rw [sizeLine_eq]; exact of_decide_eq_true ok.2)
    obtain ⟨o, eo, mo⟩ := d.is
    exact .inr ⟨p, o', rfl, g, k o o' eo mo fun kB => ⟨kw', vw', by rw [upd_same]; exact d', Reps.kb kB (fun _ z => .inl z) r1, Reps.kb kB (fun _ z => .inl z) r2⟩⟩
  · exact nomatch e
/-- x[k] = e -/
theorem s_put {o k : Expr} {tp : Pos} (sx : SX X c) (hu : X.A.units + 9 < cLine) (hx : PE X o (tVar i)) (hk : PE X k (LP c mk)) (he : PE X e (LE c m)) (hs : swapsWithSole [.Subscript o k tp] e pos.line X.env = pure false) (hw : swappedStores [.Subscript o k tp] e X.env = pure none)
    (h1 : (assignEach [.Subscript o k tp] X.env).map (·.2) = [assign (.Subscript o k tp) X.env])
    (ha : ∀ v, assign (.Subscript o k tp) X.env v = (do
      let ov ← holding [v] (eval o X.env)
      let iv ← holding [v, ov] (eval k X.env)
      standAt tp
      holding [v, ov, iv] (setItem ov iv v)
      release [v, ov, iv] [])) : PS X (.Assign [.Subscript o k tp] e pos) (LS c (sPut i mk m)) :=
  (ps_asg he (pg_sub hx hk (PSet.or set_list (set_dn hu)) ha) hs hw h1).w fun D s H ⟨M, S, fr, rs, h⟩ => ⟨M, S, fr, rs, PoS.bind rs.rm h fun y S1 v H1 kp st r1 h1 => by
    have rs1 := rs.step kp st
    obtain ⟨t, ei⟩ : ∃ t, fr[i]? = some (.ow t) := by
      revert h1
      cases mk fr S1 with
      | ok z S2 =>
        simp only [Re.thn_ok]
        intro h1
        split at h1
        · rename_i t et
          rw [Option.bind_eq_some_iff] at et
          obtain ⟨a, e1, e2⟩ := et
          cases a <;> simp only [Sl.own, reduceCtorEq, Option.some.injEq] at e2
          exact ⟨_, e1⟩
        · exact h1.elim
      | _ => exact fun h => h.elim
    obtain ⟨v', es, p, rfl, mp, nr, _⟩ := rs1.at ei (fun z => nomatch z)
    refine ⟨_, es, M, S1, fr, rs1, PoS.bind rs.rm h1 fun z S2 w H2 k2 st2 r2 h3 => ?_⟩
    have rs2 := rs1.step k2 st2
    obtain ⟨v', es', p', rfl, _, _, cn⟩ := rs2.at ei (fun z => nomatch z)
    rw [es] at es'
    cases es'
    rw [ei] at h3
    simp only [Option.bind_some, Sl.own] at h3
    cases et : putO t z y with
    | none => rw [et] at h3; exact h3.elim
    | some t' =>
      rw [et] at h3
      have := put_ok (Q := fun H' => D.nx s H') et cn r2 (Rep.k k2 rs.rb r1) fun o o' eo mo q => h3 _ _ _ (Kq.own mp eo mo) (rs2.chg ei es eo mo q)
      rw [sx.1, sx.2.1, sx.2.2]
      exact this⟩
/-- a thing of the store is changed -/
theorem RS.sto {k : Nat} {p : Addr} {o o' : HO} {t' : PV} (rs : c.RS M S H s fr) (ek : c.r[k]? = some p) (e : H p = some o) (mu : Mu o) (r : Kb (c.B M) H (upd H p o') → Cnt c.C (c.B M) c.r (upd H p o') t' p) : c.RS M (S.set k t') (upd H p o') s fr := by
  have pr : p ∈ c.r := List.mem_of_getElem? ek
  have m : M p := rs.rm p pr
  have ne : ∀ b o, b ≠ p → H b = some o → upd H p o' b = some o := fun b o z e => by rw [upd_ne z]; exact e
  have k1 : Kb M H (upd H p o') := Kb.own m e mu
  have kB : Kb (c.B M) H (upd H p o') := ⟨fun a o e n t => k1.keep a o e (fun z => n (.inr z)) t, k1.tups, k1.frzs⟩
  have hn : ∀ a, H a ≠ none → upd H p o' a ≠ none := fun a h => by
    by_cases z : a = p
    · rw [z, upd_same]; exact fun z => nomatch z
    · rw [upd_ne z]; exact h
  have kc : Kp c.r H (upd H p o') := ⟨fun a o q n t => ne a o (fun z => n (by rw [z]; exact pr)) q, k1.tups, k1.frzs, fun a ps q => ⟨#[], by rw [ne a _ (fun z => by rw [z, e] at q; cases q; exact mu.ntbl _ rfl) q]; simp⟩⟩
  refine ⟨rs.kp.trans kc, rs.ut, fun a z => hn a (rs.mt a z), rs.mn, rs.ru, rs.rm, ?_, rs.len, fun j a ea o e' => ?_, rs.inj⟩
  · refine ⟨by rw [List.length_set]; exact rs.st.len, rs.st.nd, fun j q t e1 e2 => ?_⟩
    by_cases jk : k = j
    · subst jk
      rw [ek] at e1
      cases e1
      obtain ⟨l, z⟩ := List.getElem?_eq_some_iff.mp e2
      rw [List.getElem_set_self] at z
      subst z
      exact r kB
    · rw [List.getElem?_set_ne jk] at e2
      have h := rs.st.at_ j q t e1 e2
      refine h.kb kB (fun _ z => .inl z) fun o eu _ => ne q _ (fun z => ?_) eu
      subst z
      obtain ⟨l1, z1⟩ := List.getElem?_eq_some_iff.mp e1
      obtain ⟨l2, z2⟩ := List.getElem?_eq_some_iff.mp ek
      exact jk ((List.getElem_inj rs.st.nd).mp (z2.trans z1.symm))
  · have h := rs.sl j a ea o e'
    cases a with
    | no => exact True.intro
    | va t =>
      cases o with
      | none => exact h
      | some v => exact Rep.kb kB (fun _ z => .inl z) h
    | ow u =>
      cases o with
      | none => exact h
      | some v =>
        obtain ⟨q, rfl, m1, n1, q1⟩ := h
        exact ⟨q, rfl, m1, n1, q1.kb kB (fun _ z => .inl z) fun o eu _ => ne q _ (fun z => n1 (by rw [z]; exact pr)) eu⟩
    | bo t =>
      cases o with
      | none => exact h
      | some v => exact RepM.kb kB k1 (fun _ z => .inl z) (fun _ z => .inl z) h
    | cl F =>
      cases o with
      | none => exact h
      | some v => exact c.C.clD h e mu
theorem s_putS {o k : Expr} {ma : SE} {tp : Pos} (sx : SX X c) (hu : X.A.units + 9 < cLine) (ho : PE X o (LP c ma)) (hk : PE X k (LP c mk)) (he : PE X e (LE c m)) (hs : swapsWithSole [.Subscript o k tp] e pos.line X.env = pure false) (hw : swappedStores [.Subscript o k tp] e X.env = pure none)
    (h1 : (assignEach [.Subscript o k tp] X.env).map (·.2) = [assign (.Subscript o k tp) X.env])
    (ha : ∀ v, assign (.Subscript o k tp) X.env v = (do
      let ov ← holding [v] (eval o X.env)
      let iv ← holding [v, ov] (eval k X.env)
      standAt tp
      holding [v, ov, iv] (setItem ov iv v)
      release [v, ov, iv] [])) : PS X (.Assign [.Subscript o k tp] e pos) (LS c (sPutS ma mk m)) :=
  (ps_asg he (pg_sub ho hk (PSet.or set_list (set_dn hu)) ha) hs hw h1).w fun D s H ⟨M, S, fr, rs, h⟩ => ⟨M, S, fr, rs, PoS.bind rs.rm h fun y S1 v H1 k1 st1 r1 h1 => ⟨M, S1, fr, rs.step k1 st1, PoS.bind rs.rm h1 fun x S2 xv H2 k2 st2 r2 h2 => ⟨M, S2, fr, (rs.step k1 st1).step k2 st2, PoS.bind rs.rm h2 fun z S3 zv H3 k3 st3 r3 h3 => by
    have rs3 := ((rs.step k1 st1).step k2 st2).step k3 st3
    split at h3
    · rename_i kk
      split at h3
      · rename_i t ex
        split at h3
        · rename_i t' et
          have r2 : Rep c.C (c.B M) c.r H2 (.ref kk) xv := r2
          simp only [Rep] at r2
          obtain ⟨p, rfl, ep⟩ := r2
          have cn := rs3.st.at_ kk p _ ep ex
          have pr : p ∈ c.r := List.mem_of_getElem? ep
          have := put_ok (Q := fun H' => D.nx s H') et cn r3 (Rep.k k3 rs.rb (Rep.k k2 rs.rb r1)) fun o o' eo mo q => h3 M _ _ (Kq.own (rs.rm p pr) eo mo) (rs3.sto ep eo mo q)
          rw [sx.1, sx.2.1, sx.2.2]
          exact this
        · exact h3.elim
      · exact h3.elim
    · exact h3.elim⟩⟩⟩
end
end
end Q
/-! Qq: calls, defs. -/
namespace Q
open PySem PySem.Spec PyProof.Rows L2
def ArgR (C : RC) (B : Addr → Prop) (r : List Addr) (H : Hp) : Sl → V → Prop
  | .va t, v => Rep C B r H t v
  | .bo t, v => RepP C B r H t v
  | .cl F, v => C.cl r H v F
  | _, _ => False
def ArgsR (C : RC) (B : Addr → Prop) (r : List Addr) (H : Hp) : List Sl → List V → Prop
  | [], vs => vs = []
  | a :: as, vs => ∃ v vr, vs = v :: vr ∧ ArgR C B r H a v ∧ ArgsR C B r H as vr
/-- what a def promises -/
def SpF (C : RC) (F : FN) : Sp := fun vs H Q _ => ∃ (U : Addr → Prop) (r : List Addr) (S : Sto) (as : List Sl), (∀ a, U a → H a ≠ none) ∧ (∀ a ∈ r, U a) ∧ StoR C U r S H ∧ ArgsR C U r H as vs ∧ match F as S with
  | .ok t S' => ∀ v H', Kp r H H' → StoR C U r S' H' → Rep C U r H' t v → Q v H'
  | _ => False
section
variable {C : RC} {B : Addr → Prop} {r : List Addr} {H H' : Hp} {c : Cn} {M : Addr → Prop} {S : Sto} {s : L2.St} {fr : Fr}
theorem ArgR.k {a : Sl} {v : V} (h : ArgR C B r H a v) (k : Kp r H H') (hr : ∀ a ∈ r, B a) : ArgR C B r H' a v := by
  cases a with
  | va t => exact Rep.k k hr h
  | bo t => exact RepP.k k hr h
  | cl F => exact C.clk h k
  | _ => exact h
theorem ArgsR.k : ∀ {as : List Sl} {vs : List V}, ArgsR C B r H as vs → Kp r H H' → (∀ a ∈ r, B a) → ArgsR C B r H' as vs
  | [], _, h, _, _ => h
  | a :: as, _, ⟨v, vr, e, h1, h2⟩, k, hr => ⟨v, vr, e, h1.k k hr, h2.k k hr⟩
theorem ArgsR.len : ∀ {as : List Sl} {vs : List V}, ArgsR C B r H as vs → vs.length = as.length
  | [], _, h => by rw [show _ = [] from h]; rfl
  | a :: as, _, ⟨v, vr, e, h1, h2⟩ => by rw [e, List.length_cons, List.length_cons, h2.len]
theorem ArgsR.get : ∀ {as : List Sl} {vs : List V} {i : Nat} {a : Sl}, ArgsR C B r H as vs → as[i]? = some a → ∃ v, vs[i]? = some v ∧ ArgR C B r H a v
  | [], _, _, _, _, e => by simp at e
  | a :: as, _, i, b, ⟨v, vr, rfl, h1, h2⟩, e => by
    cases i with
    | zero => simp at e; subst e; exact ⟨v, by simp, h1⟩
    | succ i =>
      obtain ⟨w, e1, h3⟩ := h2.get (by simpa using e)
      exact ⟨w, by simpa using e1, h3⟩
end
section
variable {X : Cx} {c : Cn} {e a b d : Expr} {es rest : List Expr} {ma mb md : SE} {m : SG} {pos p : Pos} {x : Str} {k j : Nat}
def LG (c : Cn) (m : SG) : TA := fun s H q => ∃ M S fr, c.RS M S H s fr ∧ PoE c M H (m fr S) (fun H' as vs => ArgsR c.C (c.B M) c.r H' as vs) q
theorem g_nil : PA X [] (LG c gN) := pa_nil.w fun s H q ⟨M, S, fr, rs, h⟩ => h [] H .refl rs.st rfl
theorem g_val (ha : PE X e (LE c ma)) (hr : PA X es (LG c m)) (hs : starEach (e :: es) X.env = (false, eval e X.env) :: starEach es X.env) : PA X (e :: es) (LG c (gV ma m)) :=
  (pa_cons ha hr hs).w fun s H q ⟨M, S, fr, rs, h⟩ => ⟨M, S, fr, rs, PoE.bind h fun t S1 v H1 k1 st1 r1 h1 => ⟨M, S1, fr, rs.step k1 st1, PoE.bind h1 fun as S2 vs H2 k2 st2 r2 h2 =>
    h2 (v :: vs) H2 .refl st2 ⟨v, vs, rfl, ArgR.k (a := .va t) r1 k2 rs.rb, r2⟩⟩⟩
theorem g_lend (ha : PE X e (LP c ma)) (hr : PA X es (LG c m)) (hs : starEach (e :: es) X.env = (false, eval e X.env) :: starEach es X.env) : PA X (e :: es) (LG c (gL ma m)) :=
  (pa_cons ha hr hs).w fun s H q ⟨M, S, fr, rs, h⟩ => ⟨M, S, fr, rs, PoE.bind h fun t S1 v H1 k1 st1 r1 h1 => ⟨M, S1, fr, rs.step k1 st1, PoE.bind h1 fun as S2 vs H2 k2 st2 r2 h2 =>
    h2 (v :: vs) H2 .refl st2 ⟨v, vs, rfl, ArgR.k (a := .bo t) r1 k2 rs.rb, r2⟩⟩⟩
/-- a def that may be called -/
structure Cl (P : Program) (w : World) (K : PySem.W.Frag) (mg : Str → Option Value) (base : Heap) (C : RC) (k : Nat) (x : Str) (F : FN) : Prop where
  ex : ∃ (f : Addr) (fd : FuncData) (ps : List Str), FnOk P w K mg base CX0 k f fd ps (SpF C F) ∧ mg x = some (.ref f) ∧ PySem.W.keepIn K (.ref f) = true ∧ Binds K fd ps []
theorem sp_of {F : FN} {M : Addr → Prop} {S : Sto} {H : Hp} {s : L2.St} {fr : Fr} {as : List Sl} {vs : List V} {q : VK} (rs : c.RS M S H s fr) (r : ArgsR c.C (c.B M) c.r H as vs) (h : PoE c M H (F as S) (c.R M) q) : SpF c.C F (vs ++ []) H q E0 := by
  rw [List.append_nil]
  refine ⟨c.B M, c.r, S, as, rs.bn, rs.rb, rs.st, r, ?_⟩
  revert h
  cases F as S with
  | ok t S' => exact fun h => h
  | _ => exact fun h => h
theorem ok_call {F : FN} (cl : Cl X.prog X.w X.K X.mg X.base c.C k x F) (hr : Room j X.A) (hk : k ≤ j) (hg : Gl X x) (ha : PA X (e :: es) (LG c m)) (hdb : (x == ("__debug__" : Str)) = false) (he : starEach (e :: es) X.env = (false, eval e X.env) :: starEach es X.env) (hpl : (backTo pos (starEach es X.env)).any (·.1) = false) :
    PE X (.Call (.Name x p) (e :: es) [] pos) (LE c (eCall F m)) := by
  obtain ⟨f, fd, ps, G, hm, kp, b⟩ := cl.ex
  exact (pe_call G (hr.mono hk) hg hm kp b .nil pass0 ha hdb he hpl).w fun s H q ⟨M, S, fr, rs, h⟩ => ⟨M, S, fr, rs, PoE.bind h fun as S1 vs H1 k1 st1 r1 h1 => sp_of (rs.step k1 st1) r1 h1⟩
theorem ok_call0 {F : FN} (cl : Cl X.prog X.w X.K X.mg X.base c.C k x F) (hr : Room j X.A) (hk : k ≤ j) (hg : Gl X x) (hdb : (x == ("__debug__" : Str)) = false) : PE X (.Call (.Name x p) [] [] pos) (LE c (eCall F gN)) := by
  obtain ⟨f, fd, ps, G, hm, kp, b⟩ := cl.ex
  exact (pe_call0 G (hr.mono hk) hg hm kp b .nil pass0 hdb).w fun s H q ⟨M, S, fr, rs, h⟩ => sp_of (vs := []) (as := []) rs (show [] = [] from rfl) h
end
section
variable {P : Program} {w : World} {mg : Str → Option Value} {base : Heap} {C : RC}
theorem fn_ok {np ns : Nat} {b : SS} {as : List Sl} {S : Sto} {t : PV} {S' : Sto} (h : fn np ns b as S = .ok t S') : as.length = np := by
  unfold fn at h
  split at h
  · assumption
  · exact nomatch h
theorem start_get {N : List Str} {vs : List V} {i : Nat} {o : Option V} (h : (L2.start N vs)[i]? = some o) : vs[i]? = o := by
  unfold L2.start at h
  by_cases l : i < vs.length
  · rw [List.getElem?_append_left (by rw [List.length_map]; exact l), List.getElem?_map] at h
    cases e : vs[i]? with
    | none => rw [e] at h; exact nomatch h
    | some v => rw [e] at h; cases h; rfl
  · rw [List.getElem?_append_right (by rw [List.length_map]; omega), List.getElem?_replicate] at h
    split at h
    · cases h; exact List.getElem?_eq_none (by omega)
    · exact nomatch h
theorem pad_get {n i : Nat} {as : List Sl} {a : Sl} (h : (pad n as)[i]? = some a) (ha : a ≠ .no) : as[i]? = some a := by
  unfold pad at h
  by_cases l : i < as.length
  · rwa [List.getElem?_append_left l] at h
  · rw [List.getElem?_append_right (by omega), List.getElem?_replicate] at h
    split at h
    · cases h; exact absurd rfl ha
    · exact nomatch h
/-- at a def's entry -/
theorem entry {U : Addr → Prop} {r : List Addr} {S : Sto} {H : Hp} {as : List Sl} {vs : List V} {N : List Str} {ns : Nat} (hns : N.length = ns) (hl : as.length ≤ ns) (ut : ∀ a, U a → H a ≠ none) (ru : ∀ a ∈ r, U a) (st : StoR C U r S H) (ar : ArgsR C U r H as vs) :
    Cn.RS ⟨C, U, H, r⟩ (fun a => a ∈ r) S H (L2.start N vs) (pad ns as) := by
  have hB : ∀ a, (U a ∨ a ∈ r) → U a ∨ H a = none := fun a z => .inl (z.elim id (ru a))
  refine ⟨.refl, ut, fun a z => ut a (ru a z), fun a z n => absurd z n, ru, fun a z => z, ⟨st.len, st.nd, fun k p t e1 e2 => ?_⟩, ?_, fun i a e o e' => ?_, fun i j t u p e1 _ _ _ => ?_⟩
  · exact (st.at_ k p t e1 e2).kb .refl hB fun _ e _ => e
  · unfold pad L2.start
    simp only [List.length_append, List.length_replicate, List.length_map]
    rw [ar.len, hns]
  · by_cases ha : a = .no
    · subst ha; exact True.intro
    · obtain ⟨v, ev, h⟩ := ar.get (pad_get e ha)
      have := start_get e'
      rw [ev] at this
      subst this
      cases a with
      | va t => exact Rep.kb .refl hB h
      | bo t => exact RepM.kb .refl .refl hB (fun a z => .inl z) h
      | cl F => exact h
      | _ => exact h.elim
  · obtain ⟨v, ev, h⟩ := ar.get (pad_get e1 (fun z => nomatch z))
    exact h.elim
/-- THE RULE: a def by its body -/
theorem cl_ok {x : Str} {st : Stmt} {f : Addr} {fd : FuncData} {N ps : List Str} {k np ns : Nat} {b : SS} {F : FN} (eF : F = fn np ns b) (G : Fun C.K x x st f fd) (hm : mg x = some (.ref f)) (bi : Binds C.K fd ps []) (Sc : FnScope N ps (defScope st)) (hp : ps.length = np) (hns : N.length = ns)
    (body : ∀ (cdv : Value) (A : Around) (outer : List Env) (s : Shared) (H : Hp) (E : XK) (U : Addr → Prop) (r : List Addr), Room k (A.deeper (envOfC x (defScope st) s.heap.objs.size f cdv)) → PSs (cxOf CX0 P w C.K mg base N x (defScope st) f cdv A outer s H E).nox (defBody st) (LS ⟨C, U, H, r⟩ b)) :
    Cl P w C.K mg base C (k + 1) x F := by
  subst eF
  refine ⟨f, fd, ps, Fun.ok G Sc (fun vs H Q E h => ?_) (fun cdv A outer s H vs Q E hr h => ?_), hm, G.kp, bi⟩
  · obtain ⟨U, r, S, as, _, _, _, ar, q⟩ := h
    cases e : fn np ns b as S with
    | ok t S' => rw [ar.len, fn_ok e, hp]
    | _ => rw [e] at q; exact q.elim
  · obtain ⟨U, r, S, as, ut, ru, st, ar, q⟩ := h
    refine ⟨_, body cdv A outer s H E U r hr, ?_⟩
    have hl : as.length = np := by
      cases e : fn np ns b as S with
      | ok t S' => exact fn_ok e
      | _ => rw [e] at q; exact q.elim
    have hpl : np ≤ ns := by
      have := congrArg List.length Sc.pre
      rw [List.length_take] at this
      omega
    refine ⟨_, S, _, entry hns (by omega) ut ru st ar, ?_⟩
    unfold fn at q
    rw [if_pos hl] at q
    revert q
    cases b (pad ns as) S with
    | nx fr S1 => exact fun q M' s' H' k rs => q .non H' rs.kp (StoR.up rs.st) (.flat rfl)
    | rt t S1 => exact fun q => q
    | bk fr S1 => exact fun q => q.elim
    | ct fr S1 => exact fun q => q.elim
    | ex c as S1 => exact fun q => q.elim
    | bad => exact fun q => q.elim
/-- a def that is not come to -/
theorem cl_bad {x : Str} {st : Stmt} {f : Addr} {fd : FuncData} {N ps : List Str} {k : Nat} (G : Fun C.K x x st f fd) (hm : mg x = some (.ref f)) (bi : Binds C.K fd ps []) : Cl P w C.K mg base C k x (fun _ _ => .bad) := by
  refine ⟨f, fd, ps, ⟨fun vs H Q E h => ?_, fun A outer s H args us vs Q E hr e0 hb rv h => ?_⟩, hm, G.kp, bi⟩
  · obtain ⟨U, r, S, as, _, _, _, ar, q⟩ := h
    exact q.elim
  · obtain ⟨U, r, S, as, _, _, _, ar, q⟩ := h
    exact q.elim
theorem Cl.mono {K : PySem.W.Frag} {x : Str} {j k : Nat} {F : FN} (c : Cl P w K mg base C j x F) (h : j ≤ k) : Cl P w K mg base C k x F := by
  obtain ⟨f, fd, ps, G, hm, kp, b⟩ := c.ex
  exact ⟨f, fd, ps, G.mono h, hm, kp, b⟩
end
end Q
/-! Qr: the rules in short, with what rfl shows. -/
namespace Q
open PySem PySem.Spec PyProof.Rows L2

/-! ### what the module holds -/
mutual
def KRep (K : PySem.W.Frag) : PV → V → Prop
  | .non, v => v = .non
  | .bl b, v => v = .bl b
  | .int i, v => v = .int i
  | .str s, v => v = .str s
  | .tup xs, v => ∃ a vs, v = .ref a ∧ (∃ (o : Obj) (its : Array Value) (n : Nat), K.lookup a = some o ∧ o.cls = .type "tuple" ∧ o.data = .seq its n ∧ its.size ≤ sizeLine ∧ Vals vs its.toList) ∧ KReps K xs vs
  | _, _ => False
def KReps (K : PySem.W.Frag) : List PV → List V → Prop
  | [], vs => vs = []
  | x :: xs, vs => ∃ v vr, vs = v :: vr ∧ KRep K x v ∧ KReps K xs vr
end
mutual
theorem KRep.rep {C : RC} {B : Addr → Prop} {r : List Addr} {H : Hp} : ∀ {t : PV} {v : V}, KRep C.K t v → Rep C B r H t v
  | .non, _, h => by simpa only [KRep, Rep] using h
  | .bl _, _, h => by simpa only [KRep, Rep] using h
  | .int _, _, h => by simpa only [KRep, Rep] using h
  | .str _, _, h => by simpa only [KRep, Rep] using h
  | .tup xs, _, h => by
    simp only [KRep, Rep] at h ⊢
    obtain ⟨a, vs, e, s, q⟩ := h
    exact ⟨a, vs, e, .inr s, KReps.rep q⟩
  | .lst _, _, h => by simp only [KRep] at h
  | .dct _ _, _, h => by simp only [KRep] at h
  | .ins _ _ _, _, h => by simp only [KRep] at h
  | .ref _, _, h => by simp only [KRep] at h
theorem KReps.rep {C : RC} {B : Addr → Prop} {r : List Addr} {H : Hp} : ∀ {t : List PV} {v : List V}, KReps C.K t v → Reps C B r H t v
  | [], _, h => by simpa only [KReps, Reps] using h
  | x :: xs, _, h => by
    simp only [KReps, Reps] at h ⊢
    obtain ⟨v, vr, e, h1, h2⟩ := h
    exact ⟨v, vr, e, KRep.rep h1, KReps.rep h2⟩
end
/-- a name of the module that stands for t -/
def GlC (K : PySem.W.Frag) (mg : Str → Option Value) (x : Str) (t : PV) : Prop := ∃ u v, mg x = some u ∧ RelV v u ∧ KRep K t v
/-- a dict of the module with texts as keys -/
def GlD (K : PySem.W.Frag) (w : World) (mg : Str → Option Value) (x : Str) (tb : List (Str × PV)) : Prop := ∃ a, mg x = some (.ref a) ∧ (a == sysModules) = false ∧ ∀ s t, tb.lookup s = some t → ∃ v, KDct K w a s v ∧ KRep K t v
def dkAt (tb : List (Str × PV)) : PV → Option PV
  | .str s => tb.lookup s
  | _ => none
@[simp] theorem dkAt_str {tb : List (Str × PV)} {s : Str} : dkAt tb (.str s) = tb.lookup s := rfl
/-- D[k] of such a dict -/
@[simp] def eDk (tb : List (Str × PV)) (k : SE) : SE := fun fr S => (k fr S).bind fun x S1 => .of (dkAt tb x) S1
section
variable {X : Cx} {c : Cn} {e a b d tg : Expr} {es rest : List Expr} {ma mb md m : SE} {ba bb : SB} {mA : SA} {mH : SH} {mG : SG} {mi : SI} {pos p : Pos} {x : Str} {st : Stmt} {sts sts' : List Stmt}
/-! ### names, constants -/
theorem xv (i : Nat) (hN : X.N[i]? = some x := by rfl) (hv : Vis X.env.scope x := by first | exact Or.inl rfl | exact Or.inr (Or.inl rfl) | exact Or.inr (Or.inr rfl)) (hd : (x == ("__debug__" : Str)) = false := by decide) (hcd : (x == ("__classdict__" : Str)) = false := by decide) : PE X (.Name x p) (LE c (eV i)) := ok_V (pe_var hN hv hd hcd)
theorem xp (i : Nat) (hN : X.N[i]? = some x := by rfl) (hv : Vis X.env.scope x := by first | exact Or.inl rfl | exact Or.inr (Or.inl rfl) | exact Or.inr (Or.inr rfl)) (hd : (x == ("__debug__" : Str)) = false := by decide) (hcd : (x == ("__classdict__" : Str)) = false := by decide) : PE X (.Name x p) (LP c (eP i)) := ok_P (pe_var hN hv hd hcd)
theorem xg {t : PV} (h : GlC c.C.K X.mg x t) (hg : Gl X x := by rfl) (hd : (x == ("__debug__" : Str)) = false := by decide) : PE X (.Name x p) (LE c (eC t)) := by
  obtain ⟨u, v, hm, r, kr⟩ := h
  exact (pe_glob hg hm r hd).w fun s H q ⟨M, S, fr, rs, h⟩ => h v H .refl rs.st kr.rep
theorem xdk {tb : List (Str × PV)} (hk : X.K = c.C.K) (h : GlD X.K X.w X.mg x tb) (hb : PE X b (LP c mb)) (hg : Gl X x := by rfl) (hd : (x == ("__debug__" : Str)) = false := by decide) (hs : PlainIx b := by exact fun _ _ => rfl) : PE X (.Subscript (.Name x p) b pos) (LE c (eDk tb mb)) := by
  obtain ⟨a, hm, _, hT⟩ := h
  exact (pe_ix ix_kdict (pe_glob (v := .ref a) hg hm rfl hd) hb hs).w fun s H q ⟨M, S, fr, rs, h⟩ => ⟨M, S, fr, rs, PoE.bind h fun y S1 w H1 k1 st1 r1 h1 => by
    obtain ⟨t, e, h2⟩ := h1.of
    cases y with
    | str z =>
      have r1 : w = .str z := by
        simp only [Cn.RP, RepP, RepM, Rep] at r1
        exact r1
      subst r1
      obtain ⟨v, kd, kr⟩ := hT z t e
      exact ⟨a, z, v, rfl, rfl, kd, h2 v H1 .refl st1 (KRep.rep (hk ▸ kr))⟩
    | _ => exact nomatch e⟩
/-- k in D, D such a dict, k there -/
def inKd (b : Bool) (tb : List (Str × PV)) : PV → Option Bool
  | .str s => (tb.lookup s).map fun _ => b
  | _ => none
@[simp] theorem inKd_str {b : Bool} {tb : List (Str × PV)} {s : Str} : inKd b tb (.str s) = (tb.lookup s).map fun _ => b := rfl
@[simp] def bInKd (b : Bool) (tb : List (Str × PV)) (k : SE) : SB := fun fr S => (k fr S).bind fun x S1 => .of (inKd b tb x) S1
def rInKd (K : PySem.W.Frag) (w : World) (b : Bool) : R2 := fun y x H Q => ∃ p z v, x = .ref p ∧ y = .str z ∧ (p == sysModules) = false ∧ KDct K w p z v ∧ Q (.bl b) H
theorem op_inKd : OpR X (compareOp .In) (rInKd X.K X.w true) := by
  intro pins s σ H x y v u Q I rx ry h
  obtain ⟨p, z, r, rfl, rfl, lo, ⟨es, n, u0, hl, hk, e, ru⟩, q⟩ := h
  obtain rfl : u = Value.ref p := ry
  obtain ⟨t, rfl⟩ := rx
  exact wpAny_in_of (strKind_is X.prog X.w z t) lo (PySem.W.mapOf_K (prog := X.prog) (w := X.w) I.kIn hl hk) (by rw [PySem.W.find_K hl e]; exact ⟨.bl true, H, I.tok _, rfl, q⟩)
theorem op_ninKd : OpR X (compareOp .NotIn) (rInKd X.K X.w false) := by
  intro pins s σ H x y v u Q I rx ry h
  obtain ⟨p, z, r, rfl, rfl, lo, ⟨es, n, u0, hl, hk, e, ru⟩, q⟩ := h
  obtain rfl : u = Value.ref p := ry
  obtain ⟨t, rfl⟩ := rx
  exact wpAny_notIn_of (strKind_is X.prog X.w z t) lo (PySem.W.mapOf_K (prog := X.prog) (w := X.w) I.kIn hl hk) (by rw [PySem.W.find_K hl e]; exact ⟨.bl false, H, I.tok _, rfl, q⟩)
theorem inKd_of {op : CmpOp} {bb : Bool} {tb : List (Str × PV)} (hr : OpR X (compareOp op) (rInKd X.K X.w bb)) (hk : X.K = c.C.K) (h : GlD X.K X.w X.mg x tb) (ha : PE X a (LP c ma)) (hg : Gl X x) (hd : (x == ("__debug__" : Str)) = false) :
    (behindInMarks op (.Name x p) = false → PT X (.Compare a [op] [.Name x p] pos) (LB c (bInKd bb tb ma))) ∧ (behindInMarks op (.Name x p) = false → PE X (.Compare a [op] [.Name x p] pos) (LE c (eB (bInKd bb tb ma)))) := by
  obtain ⟨d, hm, lo, hT⟩ := h
  refine ⟨fun hb => (pt_cmpR hr ha (pe_glob (v := .ref d) hg hm rfl hd) hb).w fun s H q ⟨M, S, fr, rs, h⟩ => ⟨M, S, fr, rs, PoE.bind h fun y S1 w H1 k1 st1 r1 h1 => ?_⟩, fun hb => (pe_cmpR hr ha (pe_glob (v := .ref d) hg hm rfl hd) hb).w fun s H q ⟨M, S, fr, rs, h⟩ => ?_⟩
  · obtain ⟨t, e, h2⟩ := h1.of
    cases y with
    | str z =>
      obtain rfl : w = .str z := rp_str r1
      simp only [inKd_str, Option.map_eq_some_iff] at e
      obtain ⟨t', e, rfl⟩ := e
      obtain ⟨v, kd, _⟩ := hT z t' e
      exact ⟨d, z, v, rfl, rfl, lo, kd, ⟨_, rfl, h2 _ H1 .refl st1 rfl⟩⟩
    | _ => exact nomatch e
  · simp only [eB, bInKd, Re.bind_assoc] at h
    refine ⟨M, S, fr, rs, PoE.bind h fun y S1 w H1 k1 st1 r1 h1 => ?_⟩
    cases e : inKd bb tb y with
    | none => rw [e] at h1; exact h1.elim
    | some k =>
      rw [e] at h1
      cases y with
      | str z =>
        obtain rfl : w = .str z := rp_str r1
        simp only [inKd_str, Option.map_eq_some_iff] at e
        obtain ⟨t', e, rfl⟩ := e
        obtain ⟨v, kd, _⟩ := hT z t' e
        exact ⟨d, z, v, rfl, rfl, lo, kd, h1 _ H1 .refl st1 (.flat rfl)⟩
      | _ => exact nomatch e
theorem xb_inKd {tb : List (Str × PV)} (hk : X.K = c.C.K) (h : GlD X.K X.w X.mg x tb) (ha : PE X a (LP c ma)) (hg : Gl X x := by rfl) (hd : (x == ("__debug__" : Str)) = false := by decide) (hb : behindInMarks .In (.Name x p) = false := by with_unfolding_all rfl) : PT X (.Compare a [.In] [.Name x p] pos) (LB c (bInKd true tb ma)) := (inKd_of op_inKd hk h ha hg hd).1 hb
theorem xe_inKd {tb : List (Str × PV)} (hk : X.K = c.C.K) (h : GlD X.K X.w X.mg x tb) (ha : PE X a (LP c ma)) (hg : Gl X x := by rfl) (hd : (x == ("__debug__" : Str)) = false := by decide) (hb : behindInMarks .In (.Name x p) = false := by with_unfolding_all rfl) : PE X (.Compare a [.In] [.Name x p] pos) (LE c (eB (bInKd true tb ma))) := (inKd_of op_inKd hk h ha hg hd).2 hb
theorem xb_ninKd {tb : List (Str × PV)} (hk : X.K = c.C.K) (h : GlD X.K X.w X.mg x tb) (ha : PE X a (LP c ma)) (hg : Gl X x := by rfl) (hd : (x == ("__debug__" : Str)) = false := by decide) (hb : behindInMarks .NotIn (.Name x p) = false := by with_unfolding_all rfl) : PT X (.Compare a [.NotIn] [.Name x p] pos) (LB c (bInKd false tb ma)) := (inKd_of op_ninKd hk h ha hg hd).1 hb
theorem xe_ninKd {tb : List (Str × PV)} (hk : X.K = c.C.K) (h : GlD X.K X.w X.mg x tb) (ha : PE X a (LP c ma)) (hg : Gl X x := by rfl) (hd : (x == ("__debug__" : Str)) = false := by decide) (hb : behindInMarks .NotIn (.Name x p) = false := by with_unfolding_all rfl) : PE X (.Compare a [.NotIn] [.Name x p] pos) (LE c (eB (bInKd false tb ma))) := (inKd_of op_ninKd hk h ha hg hd).2 hb
/-! ### built-ins -/
theorem x_bi {f : List PV → Option PV} {id : String} {r : List V → Hp → VK → Prop} (ht : BiT c f r) (hc : CallR X (.builtin id) r) (hm : X.mg x = none) (hv : bootBuiltins x = some (.builtin id)) (ha : PA X (e :: es) (LAp c mA))
    (hg : Gl X x := by rfl) (hn : x ≠ "__name__" := by decide) (hdb : (x == ("__debug__" : Str)) = false := by decide) (he : starEach (e :: es) X.env = (false, eval e X.env) :: starEach es X.env := by rfl) (hpl : (backTo pos (starEach es X.env)).any (·.1) = false := by rfl) : PE X (.Call (.Name x p) (e :: es) [] pos) (LE c (eBi f mA)) := ok_bi ht hc hv hg hm ha hn hdb he hpl
theorem x_ty {f : List PV → Option PV} {T : String} {r : List V → Hp → VK → Prop} (ht : BiT c f r) (hc : CallR X (.type T) r) (hm : X.mg x = none) (hv : bootBuiltins x = some (.type T)) (ha : PA X (e :: es) (LAp c mA))
    (hg : Gl X x := by rfl) (hn : x ≠ "__name__" := by decide) (hdb : (x == ("__debug__" : Str)) = false := by decide) (he : starEach (e :: es) X.env = (false, eval e X.env) :: starEach es X.env := by rfl) (hpl : (backTo pos (starEach es X.env)).any (·.1) = false := by rfl) : PE X (.Call (.Name x p) (e :: es) [] pos) (LE c (eBi f mA)) := ok_ty ht hc hv hg hm ha hn hdb he hpl
theorem xpN : PA X [] (LAp c aN) := ok_pN
theorem xpC (ha : PE X e (LP c ma)) (hr : PA X es (LAp c mA)) (hs : starEach (e :: es) X.env = (false, eval e X.env) :: starEach es X.env := by rfl) : PA X (e :: es) (LAp c (aC ma mA)) := ok_pC ha hr hs
theorem xaC (ha : PE X e (LE c ma)) (hr : PA X es (LA c mA)) (hs : starEach (e :: es) X.env = (false, eval e X.env) :: starEach es X.env := by rfl) : PA X (e :: es) (LA c (aC ma mA)) := ok_aC ha hr hs
theorem xgV (ha : PE X e (LE c ma)) (hr : PA X es (LG c mG)) (hs : starEach (e :: es) X.env = (false, eval e X.env) :: starEach es X.env := by rfl) : PA X (e :: es) (LG c (gV ma mG)) := g_val ha hr hs
theorem xgL (ha : PE X e (LP c ma)) (hr : PA X es (LG c mG)) (hs : starEach (e :: es) X.env = (false, eval e X.env) :: starEach es X.env := by rfl) : PA X (e :: es) (LG c (gL ma mG)) := g_lend ha hr hs
theorem xhV (ha : PE X e (LE c ma)) (hr : PA X es (LH c mH)) (hs : starEach (e :: es) X.env = (false, eval e X.env) :: starEach es X.env := by rfl) : PA X (e :: es) (LH c (hV ma mH)) := h_val ha hr hs
theorem xhO (ha : PE X e (LF c ma)) (hr : PA X es (LH c mH)) (hs : starEach (e :: es) X.env = (false, eval e X.env) :: starEach es X.env := by rfl) : PA X (e :: es) (LH c (hO ma mH)) := h_own ha hr hs
theorem Room.u9 {k : Nat} (r : Room k X.A) : X.A.units + 9 < cLine := by have := r.un; omega
theorem Room.u65 {k : Nat} (r : Room k X.A) : X.A.units + 65 < cLine := by have := r.un; omega
theorem Room.u70 {k : Nat} (r : Room k X.A) : X.A.units + 70 < cLine := by have := r.un; omega
theorem call_listA (hk : SX X c) (hc : X.calm = true) : CallR X (.type "list") (rList c.C.K c.C.P c.C.w) := by
  have h : CallR X (.type "list") (rList X.K X.prog X.w) := CallR.or call_list_of (call_listDc hc)
  rw [hk.1, hk.2.1, hk.2.2] at h
  exact h
theorem call_sortedA {k : Nat} (hr : Room k X.A) (hk : SX X c) (hc : X.calm = true) : CallR X (.builtin "sorted") (rSortedA c.C.K c.C.P c.C.w) := by
  have h := cr_sortedA (X := X) hc (Room.u70 hr)
  rw [hk.1, hk.2.1, hk.2.2] at h
  exact h
theorem x_sorted {k : Nat} (hr : Room k X.A) (hm : X.mg "sorted" = none) (hk : SX X c) (ha : PA X (e :: es) (LAp c mA)) (hc : X.calm = true := by rfl) (hg : Gl X "sorted" := by rfl) (he : starEach (e :: es) X.env = (false, eval e X.env) :: starEach es X.env := by rfl) (hpl : (backTo pos (starEach es X.env)).any (·.1) = false := by rfl) : PE X (.Call (.Name "sorted" p) (e :: es) [] pos) (LE c (eBi bSorted mA)) := x_bi bi_sorted (call_sortedA hr hk hc) hm (by decide +kernel) ha hg (by decide) (by decide) he hpl
theorem x_len (hm : X.mg "len" = none) (hk : SX X c) (ha : PA X (e :: es) (LAp c mA)) (hg : Gl X "len" := by rfl) (he : starEach (e :: es) X.env = (false, eval e X.env) :: starEach es X.env := by rfl) (hpl : (backTo pos (starEach es X.env)).any (·.1) = false := by rfl) : PE X (.Call (.Name "len" p) (e :: es) [] pos) (LE c (eBi bLen mA)) := x_bi (bi_len hk) (CallR.or call_len call_lenDc) hm PySem.boot_len ha hg (by decide) (by decide) he hpl
theorem x_int (hm : X.mg "int" = none) (ha : PA X (e :: es) (LAp c mA)) (hg : Gl X "int" := by rfl) (he : starEach (e :: es) X.env = (false, eval e X.env) :: starEach es X.env := by rfl) (hpl : (backTo pos (starEach es X.env)).any (·.1) = false := by rfl) : PE X (.Call (.Name "int" p) (e :: es) [] pos) (LE c (eBi bInt mA)) := x_ty bi_int call_int1 hm (by decide +kernel) ha hg (by decide) (by decide) he hpl
theorem x_abs (hm : X.mg "abs" = none) (ha : PA X (e :: es) (LAp c mA)) (hg : Gl X "abs" := by rfl) (he : starEach (e :: es) X.env = (false, eval e X.env) :: starEach es X.env := by rfl) (hpl : (backTo pos (starEach es X.env)).any (·.1) = false := by rfl) : PE X (.Call (.Name "abs" p) (e :: es) [] pos) (LE c (eBi bAbs mA)) := x_bi bi_abs call_abs hm (by decide +kernel) ha hg (by decide) (by decide) he hpl
theorem x_tuple (hm : X.mg "tuple" = none) (hk : X.K = c.C.K) (ha : PA X (e :: es) (LAp c mA)) (hg : Gl X "tuple" := by rfl) (he : starEach (e :: es) X.env = (false, eval e X.env) :: starEach es X.env := by rfl) (hpl : (backTo pos (starEach es X.env)).any (·.1) = false := by rfl) : PE X (.Call (.Name "tuple" p) (e :: es) [] pos) (LE c (eBi bTuple mA)) := x_ty (hk ▸ bi_tuple) call_tuple_of hm (by decide +kernel) ha hg (by decide) (by decide) he hpl
theorem x_list (hm : X.mg "list" = none) (hk : SX X c) (ha : PA X (e :: es) (LAp c mA)) (hc : X.calm = true := by rfl) (hg : Gl X "list" := by rfl) (he : starEach (e :: es) X.env = (false, eval e X.env) :: starEach es X.env := by rfl) (hpl : (backTo pos (starEach es X.env)).any (·.1) = false := by rfl) : PE X (.Call (.Name "list" p) (e :: es) [] pos) (LE c (eBi bList mA)) := x_ty bi_list (call_listA hk hc) hm (by decide +kernel) ha hg (by decide) (by decide) he hpl
theorem xf_list (hm : X.mg "list" = none) (hk : SX X c) (ha : PA X (e :: es) (LAp c mA)) (hc : X.calm = true := by rfl) (hg : Gl X "list" := by rfl) (he : starEach (e :: es) X.env = (false, eval e X.env) :: starEach es X.env := by rfl) (hpl : (backTo pos (starEach es X.env)).any (·.1) = false := by rfl) : PE X (.Call (.Name "list" p) (e :: es) [] pos) (LF c (eBi bList mA)) := f_list (by decide +kernel) (call_listA hk hc) hg hm ha (by decide) (by decide) he hpl
theorem x_all (hm : X.mg "all" = none) (hk : X.K = c.C.K) (ha : PA X (e :: es) (LAp c mA)) (hc : X.calm = true := by rfl) (hg : Gl X "all" := by rfl) (he : starEach (e :: es) X.env = (false, eval e X.env) :: starEach es X.env := by rfl) (hpl : (backTo pos (starEach es X.env)).any (·.1) = false := by rfl) : PE X (.Call (.Name "all" p) (e :: es) [] pos) (LE c (eBi bAll mA)) := x_bi (hk ▸ bi_all) (cr_all hc) hm (by decide +kernel) ha hg (by decide) (by decide) he hpl
theorem x_any (hm : X.mg "any" = none) (hk : X.K = c.C.K) (ha : PA X (e :: es) (LAp c mA)) (hc : X.calm = true := by rfl) (hg : Gl X "any" := by rfl) (he : starEach (e :: es) X.env = (false, eval e X.env) :: starEach es X.env := by rfl) (hpl : (backTo pos (starEach es X.env)).any (·.1) = false := by rfl) : PE X (.Call (.Name "any" p) (e :: es) [] pos) (LE c (eBi bAny mA)) := x_bi (hk ▸ bi_any) (cr_any hc) hm (by decide +kernel) ha hg (by decide) (by decide) he hpl
theorem x_sum (hm : X.mg "sum" = none) (hk : X.K = c.C.K) (ha : PA X (e :: es) (LAp c mA)) (hc : X.calm = true := by rfl) (hg : Gl X "sum" := by rfl) (he : starEach (e :: es) X.env = (false, eval e X.env) :: starEach es X.env := by rfl) (hpl : (backTo pos (starEach es X.env)).any (·.1) = false := by rfl) : PE X (.Call (.Name "sum" p) (e :: es) [] pos) (LE c (eBi bSum mA)) := x_bi (hk ▸ bi_sum) (CallR.or (cr_sum hc) (cr_sumT hc)) hm (by decide +kernel) ha hg (by decide) (by decide) he hpl
theorem x_min {k : Nat} (hr : Room k X.A) (hm : X.mg "min" = none) (hk : X.K = c.C.K) (ha : PA X (e :: es) (LAp c mA)) (hc : X.calm = true := by rfl) (hg : Gl X "min" := by rfl) (he : starEach (e :: es) X.env = (false, eval e X.env) :: starEach es X.env := by rfl) (hpl : (backTo pos (starEach es X.env)).any (·.1) = false := by rfl) : PE X (.Call (.Name "min" p) (e :: es) [] pos) (LE c (eBi bMin mA)) := x_bi (hk ▸ bi_min) (CallR.or (cr_min hc) (cr_minA hc (Room.u65 hr))) hm (by decide +kernel) ha hg (by decide) (by decide) he hpl
theorem x_max {k : Nat} (hr : Room k X.A) (hm : X.mg "max" = none) (hk : X.K = c.C.K) (ha : PA X (e :: es) (LAp c mA)) (hc : X.calm = true := by rfl) (hg : Gl X "max" := by rfl) (he : starEach (e :: es) X.env = (false, eval e X.env) :: starEach es X.env := by rfl) (hpl : (backTo pos (starEach es X.env)).any (·.1) = false := by rfl) : PE X (.Call (.Name "max" p) (e :: es) [] pos) (LE c (eBi bMax mA)) := x_bi (hk ▸ bi_max) (CallR.or (cr_max hc) (cr_maxA hc (Room.u65 hr))) hm (by decide +kernel) ha hg (by decide) (by decide) he hpl
theorem x_min2 (hm : X.mg "min" = none) (ha : PA X (e :: es) (LAp c mA)) (hc : X.calm = true := by rfl) (hg : Gl X "min" := by rfl) (he : starEach (e :: es) X.env = (false, eval e X.env) :: starEach es X.env := by rfl) (hpl : (backTo pos (starEach es X.env)).any (·.1) = false := by rfl) : PE X (.Call (.Name "min" p) (e :: es) [] pos) (LE c (eBi bMin2 mA)) := x_bi bi_min2 (call_min2 hc) hm (by decide +kernel) ha hg (by decide) (by decide) he hpl
theorem x_max2 (hm : X.mg "max" = none) (ha : PA X (e :: es) (LAp c mA)) (hc : X.calm = true := by rfl) (hg : Gl X "max" := by rfl) (he : starEach (e :: es) X.env = (false, eval e X.env) :: starEach es X.env := by rfl) (hpl : (backTo pos (starEach es X.env)).any (·.1) = false := by rfl) : PE X (.Call (.Name "max" p) (e :: es) [] pos) (LE c (eBi bMax2 mA)) := x_bi bi_max2 (call_max2 hc) hm (by decide +kernel) ha hg (by decide) (by decide) he hpl

theorem x_is1 {y : Ty} {yn : Str} {py : Pos} (hm : X.mg "isinstance" = none) (hmy : X.mg yn = none) (hy : bootBuiltins yn = some (.type y.nm)) (hk : X.K = c.C.K) (ha : PE X a (LP c ma)) (hg : Gl X "isinstance" := by rfl) (hgy : Gl X yn := by rfl)
    (hn : yn ≠ "__name__" := by decide) (hd : (yn == ("__debug__" : Str)) = false := by decide) (hs1 : starEach [a, .Name yn py] X.env = (false, eval a X.env) :: starEach [.Name yn py] X.env := by rfl) (hs2 : starEach [.Name yn py] X.env = [(false, eval (.Name yn py) X.env)] := by rfl)
    (hpl : (backTo pos (starEach [.Name yn py] X.env)).any (·.1) = false := by rfl) : PE X (.Call (.Name "isinstance" p) [a, .Name yn py] [] pos) (LE c (eB (bIs ma [y]))) := ok_is1 hk hg hm hgy hmy hy ha hn hd hs1 hs2 hpl
theorem x_is2 {y z : Ty} {yn zn : Str} {py pz pt : Pos} {kt} (hm : X.mg "isinstance" = none) (hmy : X.mg yn = none) (hy : bootBuiltins yn = some (.type y.nm)) (hmz : X.mg zn = none) (hz : bootBuiltins zn = some (.type z.nm)) (hk : X.K = c.C.K) (ha : PE X a (LP c ma)) (hg : Gl X "isinstance" := by rfl) (hgy : Gl X yn := by rfl) (hgz : Gl X zn := by rfl)
    (hn : yn ≠ "__name__" := by decide) (hd : (yn == ("__debug__" : Str)) = false := by decide) (hn' : zn ≠ "__name__" := by decide) (hd' : (zn == ("__debug__" : Str)) = false := by decide)
    (ht1 : starEach [.Name yn py, .Name zn pz] X.env = (false, eval (.Name yn py) X.env) :: starEach [.Name zn pz] X.env := by rfl) (ht2 : starEach [.Name zn pz] X.env = [(false, eval (.Name zn pz) X.env)] := by rfl)
    (hs1 : starEach [a, .Tuple [.Name yn py, .Name zn pz] kt pt] X.env = (false, eval a X.env) :: starEach [.Tuple [.Name yn py, .Name zn pz] kt pt] X.env := by rfl)
    (hs2 : starEach [.Tuple [.Name yn py, .Name zn pz] kt pt] X.env = [(false, eval (.Tuple [.Name yn py, .Name zn pz] kt pt) X.env)] := by rfl) (hpl : (backTo pos (starEach [.Tuple [.Name yn py, .Name zn pz] kt pt] X.env)).any (·.1) = false := by rfl) :
    PE X (.Call (.Name "isinstance" p) [a, .Tuple [.Name yn py, .Name zn pz] kt pt] [] pos) (LE c (eB (bIs ma [y, z]))) := by
  first
  | exact ok_is2 hk hg hm hgy hmy hy hgz hmz hz ha hn hd hn' hd' ht1 ht2 hs1 hs2 hpl
/-! ### operators, subscripts -/
theorem x_ix {k : Nat} (hk : SX X c) (hr : Room k X.A) (ha : PE X a (LP c ma)) (hb : PE X b (LP c mb)) (hs : PlainIx b := by exact fun _ _ => rfl) : PE X (.Subscript a b pos) (LE c (eIx ma mb)) := ok_ix hk (Room.u9 hr) ha hb hs
theorem x_ixS {k : Nat} (hk : SX X c) (hr : Room k X.A) (ha : PE X a (LP c ma)) (hb : PE X b (LP c mb)) (hs : PlainIx b := by exact fun _ _ => rfl) : PE X (.Subscript a b pos) (LE c (eIxS ma mb)) := ok_ixS hk (Room.u9 hr) ha hb hs
theorem x_bcm {op : CmpOp} {o : Cm} {r : R2} (ht : CmT c o r) (hr : OpR X (compareOp op) r) (ha : PE X a (LP c ma)) (hb : PE X b (LP c mb)) (hm : behindInMarks op b = false := by first | exact nomark _ | with_unfolding_all rfl) : PT X (.Compare a [op] [b] pos) (LB c (bCm o ma mb)) := bt_cm ht hr ha hb hm
theorem x_ecm {op : CmpOp} {o : Cm} {r : R2} (ht : CmT c o r) (hr : OpR X (compareOp op) r) (ha : PE X a (LP c ma)) (hb : PE X b (LP c mb)) (hm : behindInMarks op b = false := by first | exact nomark _ | with_unfolding_all rfl) : PE X (.Compare a [op] [b] pos) (LE c (eB (bCm o ma mb))) := be_cm ht hr ha hb hm
theorem x_val (h : PE X e (LE c ma)) (he : ∀ whole, isTrue e X.env whole = (do let v ← whole; standAt e.pos; holding [v] (truthy v)) := by intro _; rfl) : PT X e (LB c (bE ma)) := bt_val h he
/-! ### calls -/
theorem x_call {k j : Nat} {F : FN} (cl : Cl X.prog X.w X.K X.mg X.base c.C k x F) (hr : Room j X.A) (hk : k ≤ j) (ha : PA X (e :: es) (LG c mG)) (hg : Gl X x := by rfl) (hdb : (x == ("__debug__" : Str)) = false := by decide) (he : starEach (e :: es) X.env = (false, eval e X.env) :: starEach es X.env := by rfl) (hpl : (backTo pos (starEach es X.env)).any (·.1) = false := by rfl) :
    PE X (.Call (.Name x p) (e :: es) [] pos) (LE c (eCall F mG)) := ok_call cl hr hk hg ha hdb he hpl
theorem x_call0 {k j : Nat} {F : FN} (cl : Cl X.prog X.w X.K X.mg X.base c.C k x F) (hr : Room j X.A) (hk : k ≤ j) (hg : Gl X x := by rfl) (hdb : (x == ("__debug__" : Str)) = false := by decide) : PE X (.Call (.Name x p) [] [] pos) (LE c (eCall F gN)) := ok_call0 cl hr hk hg hdb
/-! ### what is walked -/
section
variable {elts : List Expr} {kk : Nat} {tpos : Pos}
theorem xi_rng1 (hm : X.mg "range" = none) (ha : PE X a (LP c ma)) (hg : Gl X "range" := by rfl) (hs : starEach [a] X.env = [(false, eval a X.env)] := by rfl) : PI X tg (.Call (.Name "range" p) [a] [] pos) (LI c (iRng1 ma)) := ok_iRng1 hg hm ha hs
theorem xi_rng2 (hm : X.mg "range" = none) (ha : PE X a (LP c ma)) (hb : PE X b (LP c mb)) (hg : Gl X "range" := by rfl) (hs : starEach [a, b] X.env = [(false, eval a X.env), (false, eval b X.env)] := by rfl) (hs2 : starEach [b] X.env = [(false, eval b X.env)] := by rfl) : PI X tg (.Call (.Name "range" p) [a, b] [] pos) (LI c (iRng2 ma mb)) := ok_iRng2 hg hm ha hb hs hs2
theorem xi_zip (hm : X.mg "zip" = none) (hk : X.K = c.C.K) (ha : PE X a (LE c ma)) (hb : PE X b (LE c mb)) (hg : Gl X "zip" := by rfl) (hs : starEach [a, b] X.env = (false, eval a X.env) :: starEach [b] X.env := by rfl) (hs2 : starEach [b] X.env = (false, eval b X.env) :: starEach [] X.env := by rfl)
    (hpl : (backTo pos (starEach [b] X.env)).any (·.1) = false := by rfl) : PI X (.Tuple elts kk tpos) (.Call (.Name "zip" p) [a, b] [] pos) (LI c (iZip ma mb)) := ok_iZip hk hg hm ha hb hs hs2 hpl
theorem xi_enum (hm : X.mg "enumerate" = none) (hk : X.K = c.C.K) (ha : PE X a (LE c ma)) (hg : Gl X "enumerate" := by rfl) (hs : starEach [a] X.env = (false, eval a X.env) :: starEach [] X.env := by rfl) : PI X (.Tuple elts kk tpos) (.Call (.Name "enumerate" p) [a] [] pos) (LI c (iEnum ma)) := ok_iEnum hk hg hm ha hs
end
/-! ### comprehensions -/
section
variable {elt iter : Expr} {ifs : List Expr} {me : SE} {cb : SB} {is : List Nat} {g : TG} {tgm : TgS} {y : Str} {py spos : Pos} {i : Nat}
theorem x_lc {scope : Scope} {own : List (Str × Nat)} {vs : List Nat} (hN : X.N.Nodup) (ok : BlkOk X.N X.env.scope scope own) (hi : PI X tg iter (LIc c mi)) (tgo : TgOk c is g tgm)
    (hg : ∀ (s : Shared) (H : Hp) (C : Addr) (cl : List (Str × Addr)) (fp : List Addr), PG (X.blk s H scope (compEnvC scope cl C X.env) fp) tg g) (ht : ∀ (s : Shared) (H : Hp) (C : Addr) (cl : List (Str × Addr)) (fp : List Addr), PTs (X.blk s H scope (compEnvC scope cl C X.env) fp) ifs (LB c cb))
    (he : ∀ (s : Shared) (H : Hp) (C : Addr) (cl : List (Str × Addr)) (fp : List Addr), PE (X.blk s H scope (compEnvC scope cl C X.env) fp) elt (LE c me)) (hc : X.calm = true := by rfl) (hvs : own.map (·.2) = vs := by rfl) (hv : ∀ i ∈ is, i ∈ vs := by decide) (hs : ∀ x, foldedSetIterable iter X.env x = pure x := by intro _; rfl) :
    PE X (.ListComp elt [⟨tg, iter, ifs, 0⟩] scope pos) (LE c (eLc vs mi tgm cb me)) := by
  subst hvs
  exact ok_lc hc hN hi ok hv tgo hg ht he hs
theorem xf_lc {scope : Scope} {own : List (Str × Nat)} {vs : List Nat} (hN : X.N.Nodup) (ok : BlkOk X.N X.env.scope scope own) (hi : PI X tg iter (LIc c mi)) (tgo : TgOk c is g tgm)
    (hg : ∀ (s : Shared) (H : Hp) (C : Addr) (cl : List (Str × Addr)) (fp : List Addr), PG (X.blk s H scope (compEnvC scope cl C X.env) fp) tg g) (ht : ∀ (s : Shared) (H : Hp) (C : Addr) (cl : List (Str × Addr)) (fp : List Addr), PTs (X.blk s H scope (compEnvC scope cl C X.env) fp) ifs (LB c cb))
    (he : ∀ (s : Shared) (H : Hp) (C : Addr) (cl : List (Str × Addr)) (fp : List Addr), PE (X.blk s H scope (compEnvC scope cl C X.env) fp) elt (LE c me)) (hc : X.calm = true := by rfl) (hvs : own.map (·.2) = vs := by rfl) (hv : ∀ i ∈ is, i ∈ vs := by decide) (hs : ∀ x, foldedSetIterable iter X.env x = pure x := by intro _; rfl) :
    PE X (.ListComp elt [⟨tg, iter, ifs, 0⟩] scope pos) (LF c (eLc vs mi tgm cb me)) := by
  subst hvs
  exact f_lc hc hN hi ok hv tgo hg ht he hs
theorem x_setLc {scope : Scope} {own : List (Str × Nat)} {vs : List Nat} (hN : X.N.Nodup) (ok : BlkOk X.N X.env.scope scope own) (hi : PI X tg iter (LIc c mi)) (tgo : TgOk c is g tgm)
    (hg : ∀ (s : Shared) (H : Hp) (C : Addr) (cl : List (Str × Addr)) (fp : List Addr), PG (X.blk s H scope (compEnvC scope cl C X.env) fp) tg g) (ht : ∀ (s : Shared) (H : Hp) (C : Addr) (cl : List (Str × Addr)) (fp : List Addr), PTs (X.blk s H scope (compEnvC scope cl C X.env) fp) ifs (LB c cb))
    (he : ∀ (s : Shared) (H : Hp) (C : Addr) (cl : List (Str × Addr)) (fp : List Addr), PE (X.blk s H scope (compEnvC scope cl C X.env) fp) elt (LE c me)) (hc : X.calm = true := by rfl) (hy : X.N[i]? = some y := by rfl) (hyl : X.env.scope.names.lookup y = some .local := by rfl) (hvs : own.map (·.2) = vs := by rfl) (hv : ∀ i ∈ is, i ∈ vs := by decide) (hs : ∀ x, foldedSetIterable iter X.env x = pure x := by intro _; rfl)
    (hsw : swapsWith (.ListComp elt [⟨tg, iter, ifs, 0⟩] scope pos) (some (.Name y py)) spos.line X.env = pure true := by exact sw_true rfl rfl rfl (by decide +kernel)) :
    PS X (.Assign [.Name y py] (.ListComp elt [⟨tg, iter, ifs, 0⟩] scope pos) spos) (LS c (sSet i (eLc vs mi tgm cb me))) := by
  subst hvs
  exact s_setLc hc hN hy hyl hsw hi ok hv tgo hg ht he hs
theorem x_ownLc {scope : Scope} {own : List (Str × Nat)} {vs : List Nat} (hN : X.N.Nodup) (ok : BlkOk X.N X.env.scope scope own) (hi : PI X tg iter (LIc c mi)) (tgo : TgOk c is g tgm)
    (hg : ∀ (s : Shared) (H : Hp) (C : Addr) (cl : List (Str × Addr)) (fp : List Addr), PG (X.blk s H scope (compEnvC scope cl C X.env) fp) tg g) (ht : ∀ (s : Shared) (H : Hp) (C : Addr) (cl : List (Str × Addr)) (fp : List Addr), PTs (X.blk s H scope (compEnvC scope cl C X.env) fp) ifs (LB c cb))
    (he : ∀ (s : Shared) (H : Hp) (C : Addr) (cl : List (Str × Addr)) (fp : List Addr), PE (X.blk s H scope (compEnvC scope cl C X.env) fp) elt (LE c me)) (hc : X.calm = true := by rfl) (hy : X.N[i]? = some y := by rfl) (hyl : X.env.scope.names.lookup y = some .local := by rfl) (hvs : own.map (·.2) = vs := by rfl) (hv : ∀ i ∈ is, i ∈ vs := by decide) (hs : ∀ x, foldedSetIterable iter X.env x = pure x := by intro _; rfl)
    (hsw : swapsWith (.ListComp elt [⟨tg, iter, ifs, 0⟩] scope pos) (some (.Name y py)) spos.line X.env = pure true := by exact sw_true rfl rfl rfl (by decide +kernel)) :
    PS X (.Assign [.Name y py] (.ListComp elt [⟨tg, iter, ifs, 0⟩] scope pos) spos) (LS c (sOwn i (eLc vs mi tgm cb me))) := by
  subst hvs
  exact s_ownLc hc hN hy hyl hsw hi ok hv tgo hg ht he hs
/-! ### statements -/
theorem x_set (i : Nat) {px : Pos} (hN : X.N.Nodup) (he : PE X e (LE c m)) (hi : X.N[i]? = some x := by rfl) (hx : Loc X.env.scope x := by first | exact Or.inl rfl | exact Or.inr rfl) (hf : X.fn x = true ∨ X.env.scope.names.lookup x = some .local := by first | exact .inl rfl | exact .inr rfl) (hs : swapsWith e (some (.Name x px)) pos.line X.env = pure false := by rfl) : PS X (.Assign [.Name x px] e pos) (LS c (sSet i m)) := s_set he hN hi hx hf hs
theorem x_own (i : Nat) {px : Pos} (hN : X.N.Nodup) (he : PE X e (LF c m)) (hi : X.N[i]? = some x := by rfl) (hx : Loc X.env.scope x := by first | exact Or.inl rfl | exact Or.inr rfl) (hf : X.fn x = true ∨ X.env.scope.names.lookup x = some .local := by first | exact .inl rfl | exact .inr rfl) (hs : swapsWith e (some (.Name x px)) pos.line X.env = pure false := by rfl) : PS X (.Assign [.Name x px] e pos) (LS c (sOwn i m)) := s_own he hN hi hx hf hs
theorem x_expr (he : PE X e (LE c m)) (hs : swapsWith e none pos.line X.env = pure false := by rfl) : PS X (.Expr e pos) (LS c (sExpr m)) := s_expr he hs
theorem x_unp {is : List Nat} {n : Nat} (hk : X.K = c.C.K) (he : PE X e (LE c m)) (hg : PGs X es (gNames is)) {kk : Nat} {tpos : Pos} (hn : is.length = n := by rfl) (hl : (assignEach es X.env).length = n := by rfl) (hst : (assignEach es X.env).findIdx? (·.1) = none := by rfl) (hc : X.calm = true := by rfl) (hs : swapsWithSole [.Tuple es kk tpos] e pos.line X.env = pure false := by rfl) (hw : swappedStores [.Tuple es kk tpos] e X.env = pure none := by rfl) (h1 : (assignEach [.Tuple es kk tpos] X.env).map (·.2) = [assign (.Tuple es kk tpos) X.env] := by rfl) : PS X (.Assign [.Tuple es kk tpos] e pos) (LS c (sUnp is m)) := s_unp hk he (pg_tup hc hg hl hst) hn hs hw h1
theorem x_for (hi : PI X tg iter (LI c mi)) (hg : PG X tg g) (tgo : TgOk c is g tgm) {b : SS} (hb : PSs X sts (LS c b)) (hp : PassesOwn (model X.prog X.w) X.A X.env X.xe := by exact PassesOwn.never) (hc : X.calm = true := by rfl) (hs : ∀ x, foldedSetIterable iter X.env x = pure x := by intro _; rfl) : PS X (.For tg iter sts [] pos) (LS c (sFor mi tgm b)) := s_for hp hc hi hg tgo hb hs
theorem x_wh {d : Expr} {n : Nat} {b : SS} (hc : PT X d (LB c cb)) (hb : PSs X sts (LS c b)) (hp : PassesOwn (model X.prog X.w) X.A X.env X.xe := by exact PassesOwn.never) : PS X (.While d sts [] pos) (LS c (sWh n cb b)) := s_wh hp hc hb
theorem x_par2 {j : Nat} {a b : Expr} {px pt : Pos} {kt k2 pt2} (hN : X.N.Nodup) (ha : PA X [a, b] (LH c mH)) (hi : X.N[i]? = some x := by rfl) (hj : X.N[j]? = some y := by rfl) (hij : i ≠ j := by decide)
    (hx : X.env.scope.names.lookup x = some .local := by rfl) (hy : X.env.scope.names.lookup y = some .local := by rfl) (hc : X.calm = true := by rfl)
    (hw : swappedStores [.Tuple [.Name x px, .Name y py] kt pt] (.Tuple [a, b] k2 pt2) X.env = pure (some [x, y]) := by rfl)
    (hs : swapsWithSole [.Tuple [.Name x px, .Name y py] kt pt] (.Tuple [a, b] k2 pt2) pos.line X.env = pure false := by rfl) :
    PS X (.Assign [.Tuple [.Name x px, .Name y py] kt pt] (.Tuple [a, b] k2 pt2) pos) (LS c (sPar [i, j] mH)) := s_par2 hc hN hi hj hij hx hy ha hw hs
theorem x_par3 {j l : Nat} {z : Str} {a b d : Expr} {px pz pt : Pos} {kt k2 pt2} (hN : X.N.Nodup) (ha : PA X [a, b, d] (LH c mH)) (hi : X.N[i]? = some x := by rfl) (hj : X.N[j]? = some y := by rfl) (hl : X.N[l]? = some z := by rfl) (hij : i ≠ j := by decide) (hil : i ≠ l := by decide) (hjl : j ≠ l := by decide)
    (hx : X.env.scope.names.lookup x = some .local := by rfl) (hy : X.env.scope.names.lookup y = some .local := by rfl) (hz : X.env.scope.names.lookup z = some .local := by rfl) (hc : X.calm = true := by rfl)
    (hw : swappedStores [.Tuple [.Name x px, .Name y py, .Name z pz] kt pt] (.Tuple [a, b, d] k2 pt2) X.env = pure (some [x, y, z]) := by rfl)
    (hs : swapsWithSole [.Tuple [.Name x px, .Name y py, .Name z pz] kt pt] (.Tuple [a, b, d] k2 pt2) pos.line X.env = pure false := by rfl) :
    PS X (.Assign [.Tuple [.Name x px, .Name y py, .Name z pz] kt pt] (.Tuple [a, b, d] k2 pt2) pos) (LS c (sPar [i, j, l] mH)) := s_par3 hc hN hi hj hl hij hil hjl hx hy hz ha hw hs
theorem x_app (i : Nat) {np ap cp : Pos} (he : PE X e (LE c m)) (hN : X.N[i]? = some x := by rfl) (hv : Vis X.env.scope x := by first | exact Or.inl rfl | exact Or.inr (Or.inl rfl) | exact Or.inr (Or.inr rfl)) (hd : (x == ("__debug__" : Str)) = false := by decide) (hcd : (x == ("__classdict__" : Str)) = false := by decide) (hs : swapsWith (.Call (.Attribute (.Name x np) "append" ap) [e] [] cp) none pos.line X.env = pure false := by rfl)
    (hbase : attributeBase (.Name x np) "append" X.env (eval (.Name x np) X.env) = eval (.Name x np) X.env := by rfl)
    (hfew : ((backTo cp (starEach [e] X.env)).all (fun x => !x.1) && (backToKw cp (keywordEach [] X.env)).all (fun x => x.1.isSome)
      && decide ([e].length + ([] : List Keyword).length + (if ([] : List Keyword).isEmpty then 0 else 1) < 30)) = true := by rfl)
    (hline : (ap.endLine == cp.line) = true := by rfl) (hst : starEach [e] X.env = (false, eval e X.env) :: starEach [] X.env := by rfl) (hplain : (backTo cp (starEach [] X.env)).any (·.1) = false := by rfl) :
    PS X (.Expr (.Call (.Attribute (.Name x np) "append" ap) [e] [] cp) pos) (LS c (sApp i m)) := s_app (pe_var hN hv hd hcd) he hs hbase hfew hline hst hplain
theorem x_ext (i : Nat) {np ap cp : Pos} (he : PE X e (LP c m)) (hN : X.N[i]? = some x := by rfl) (hv : Vis X.env.scope x := by first | exact Or.inl rfl | exact Or.inr (Or.inl rfl) | exact Or.inr (Or.inr rfl)) (hd : (x == ("__debug__" : Str)) = false := by decide) (hcd : (x == ("__classdict__" : Str)) = false := by decide) (hs : swapsWith (.Call (.Attribute (.Name x np) "extend" ap) [e] [] cp) none pos.line X.env = pure false := by rfl)
    (hbase : attributeBase (.Name x np) "extend" X.env (eval (.Name x np) X.env) = eval (.Name x np) X.env := by rfl)
    (hfew : ((backTo cp (starEach [e] X.env)).all (fun x => !x.1) && (backToKw cp (keywordEach [] X.env)).all (fun x => x.1.isSome)
      && decide ([e].length + ([] : List Keyword).length + (if ([] : List Keyword).isEmpty then 0 else 1) < 30)) = true := by rfl)
    (hline : (ap.endLine == cp.line) = true := by rfl) (hst : starEach [e] X.env = (false, eval e X.env) :: starEach [] X.env := by rfl) (hplain : (backTo cp (starEach [] X.env)).any (·.1) = false := by rfl) :
    PS X (.Expr (.Call (.Attribute (.Name x np) "extend" ap) [e] [] cp) pos) (LS c (sExt i m)) := s_ext (pe_var hN hv hd hcd) he hs hbase hfew hline hst hplain
theorem x_put {kr : Nat} (sx : SX X c) (hr : Room kr X.A) (i : Nat) {k : Expr} {np tp : Pos} {mk : SE} (hk : PE X k (LP c mk)) (he : PE X e (LE c m)) (hN : X.N[i]? = some x := by rfl) (hv : Vis X.env.scope x := by first | exact Or.inl rfl | exact Or.inr (Or.inl rfl) | exact Or.inr (Or.inr rfl)) (hd : (x == ("__debug__" : Str)) = false := by decide) (hcd : (x == ("__classdict__" : Str)) = false := by decide) (hs : swapsWithSole [.Subscript (.Name x np) k tp] e pos.line X.env = pure false := by rfl) (hw : swappedStores [.Subscript (.Name x np) k tp] e X.env = pure none := by rfl)
    (h1 : (assignEach [.Subscript (.Name x np) k tp] X.env).map (·.2) = [assign (.Subscript (.Name x np) k tp) X.env] := by rfl)
    (ha : ∀ v, assign (.Subscript (.Name x np) k tp) X.env v = (do
      let ov ← holding [v] (eval (.Name x np) X.env)
      let iv ← holding [v, ov] (eval k X.env)
      standAt tp
      holding [v, ov, iv] (setItem ov iv v)
      release [v, ov, iv] []) := by intro _; rfl) : PS X (.Assign [.Subscript (.Name x np) k tp] e pos) (LS c (sPut i mk m)) := s_put sx (Room.u9 hr) (pe_var hN hv hd hcd) hk he hs hw h1 ha
theorem x_putS {kr : Nat} (sx : SX X c) (hr : Room kr X.A) {o k : Expr} {ma mk : SE} {tp : Pos} (ho : PE X o (LP c ma)) (hk : PE X k (LP c mk)) (he : PE X e (LE c m)) (hs : swapsWithSole [.Subscript o k tp] e pos.line X.env = pure false := by rfl) (hw : swappedStores [.Subscript o k tp] e X.env = pure none := by rfl)
    (h1 : (assignEach [.Subscript o k tp] X.env).map (·.2) = [assign (.Subscript o k tp) X.env] := by rfl)
    (ha : ∀ v, assign (.Subscript o k tp) X.env v = (do
      let ov ← holding [v] (eval o X.env)
      let iv ← holding [v, ov] (eval k X.env)
      standAt tp
      holding [v, ov, iv] (setItem ov iv v)
      release [v, ov, iv] []) := by intro _; rfl) : PS X (.Assign [.Subscript o k tp] e pos) (LS c (sPutS ma mk m)) := s_putS sx (Room.u9 hr) ho hk he hs hw h1 ha
end
end
end Q
/-! Qs: the rules in short, the rest; defs of the text. -/
namespace Q
open PySem PySem.Spec PyProof.Rows L2
section
variable {X : Cx} {c : Cn} {e a b d : Expr} {ma mb md : SE} {pos : Pos} {k : Nat}
theorem Room.units1 (r : Room k X.A) : X.A.units + 65 < cLine := by have := r.un; omega
theorem xo_eq (r : Room k X.A) : OpR X (compareOp .Eq) (rEqD X.K) := op_eqD r.units
theorem xo_ne (r : Room k X.A) : OpR X (compareOp .NotEq) (rNeD X.K) := op_neD r.units
theorem xo_in (r : Room k X.A) : OpR X (compareOp .In) (rInA X.K X.prog X.w false) := op_inA (Room.units1 r)
theorem xo_nin (r : Room k X.A) : OpR X (compareOp .NotIn) (rInA X.K X.prog X.w true) := op_ninA (Room.units1 r)
theorem OpR.or2 {f : Value → Value → Sem Value} {r r' : R2} (h : OpR X f r) (h' : OpR X f r') : OpR X f (fun x y H Q => r x y H Q ∨ r' x y H Q) := h.or h'
theorem xo_lt (r : Room k X.A) : OpR X (compareOp .Lt) (rLt X.K) := op_lt.or (op_ltD (Room.units1 r))
theorem xo_le (r : Room k X.A) : OpR X (compareOp .LtE) (rLe X.K) := op_le.or (op_leD (Room.units1 r))
theorem xo_gt (r : Room k X.A) : OpR X (compareOp .Gt) (rGt X.K) := op_gt.or (op_gtD (Room.units1 r))
theorem xo_ge (r : Room k X.A) : OpR X (compareOp .GtE) (rGe X.K) := op_ge.or (op_geD (Room.units1 r))
theorem x_ech {op op' : CmpOp} {o o' : Cm} {r r' : R2} (ht : CmT c o r) (ht' : CmT c o' r') (hr : OpR X (compareOp op) r) (hr' : OpR X (compareOp op') r') (ha : PE X a (LP c ma)) (hb : PE X b (LP c mb)) (hd : PE X d (LP c md))
    (hm : lastMarks [op, op'] [b, d] = false := by with_unfolding_all rfl) : PE X (.Compare a [op, op'] [b, d] pos) (LE c (eB (bCh o o' ma mb md))) := be_ch ht ht' hr hr' ha hb hd hm
theorem x_bch {op op' : CmpOp} {o o' : Cm} {r r' : R2} (ht : CmT c o r) (ht' : CmT c o' r') (hr : OpR X (compareOp op) r) (hr' : OpR X (compareOp op') r') (ha : PE X a (LP c ma)) (hb : PE X b (LP c mb)) (hd : PE X d (LP c md))
    (hm : lastMarks [op, op'] [b, d] = false := by with_unfolding_all rfl) : PT X (.Compare a [op, op'] [b, d] pos) (LB c (bCh o o' ma mb md)) := bt_ch ht ht' hr hr' ha hb hd hm
theorem s_doc {x j pos pos'} : PS X (.Expr (.Constant (.str x) j pos) pos') (LS c sNil) := ps_doc.w fun D s H ⟨M, S, fr, rs, h⟩ => h M s H .refl rs
end
section
variable {X : Cx} {c : Cn} {M M' : Addr → Prop} {S S' : Sto} {Hs H H' : Hp} {s : L2.St} {fr : Fr} {D : Ends}
theorem SlFs.k : ∀ {as : List Sl} {vs : List V}, SlFs c M Hs H as vs → (∀ a ∈ c.r, c.B M a) → Kp c.r H H' → SlFs c M Hs H' as vs
  | [], _, h, _, _ => h
  | a :: as, _, ⟨v, vr, e, h1, h2, h3⟩, rb, k => ⟨v, vr, e, h1.k rb k (fun _ z => z) (fun _ z => .inl z), h2.k rb k, h3⟩
theorem gNames_of {Q : L2.St → Hp → Prop} : ∀ {is : List Nat} {vs : List V} {s : L2.St}, vs.length = is.length → Q (setV is vs s) H → gNames is vs s H Q
  | [], [], _, _, h => ⟨rfl, h⟩
  | [], v :: vs, _, e, _ => by simp at e
  | i :: is, [], _, e, _ => by simp at e
  | i :: is, v :: vs, s, e, h => ⟨v, vs, rfl, gNames_of (by simpa using e) h⟩
theorem parT_of {is : List Nat} {m : SH} (h : LS c (sPar is m) D s H) : LH c m s H fun vs H1 => vs.length = is.length ∧ ∀ p, H1 p = none → D.nx (setV is vs s) (upd H1 p (.tup vs)) := by
  obtain ⟨M, S, fr, rs, h⟩ := h
  refine ⟨M, S, fr, rs, ?_⟩
  simp only [sPar] at h
  cases e : m fr S with
  | ok as S1 =>
    rw [e] at h
    simp only [Re.thn_ok] at h
    cases e1 : setSl is as fr with
    | none => rw [e1] at h; exact h.elim
    | some fr1 =>
      rw [e1] at h
      intro vs H' M' k h0 h1 rs' fs
      refine ⟨by rw [fs.len, setSl_len e1], fun p n => ?_⟩
      have kn : Kp c.r H' (upd H' p (.tup vs)) := Kp.upd_new n
      have rs2 := rs'.step kn (rs'.st.k kn rs'.rb (upd_keeps n))
      have k2 := k.trans kn
      refine h M' _ _ ⟨(k2.kq rs.rm).keep, k2.tups, k2.frzs, k2.tbls, h1⟩ (rs2.sets (fs.k rs'.rb kn) (fun k j t u p e1 e2 e3 e4 => ?_) e1)
      obtain ⟨p', e5, n⟩ := fs.new e1
      rw [e2] at e5
      cases e5
      exact rs.far (fun z => rs.mt p z n) j u e3 e4
  | _ => rw [e] at h; exact h.elim
theorem x_parT {is : List Nat} {n : Nat} {es vs : List Expr} {kk k2 : Nat} {tpos p2 pos : Pos} {mH : SH} (hk : X.K = c.C.K) (ha : PA X vs (LH c mH)) (hg : PGs X es (gNames is)) (hn : is.length = n := by rfl) (hn2 : n ≤ 100 := by decide) (hl : (assignEach es X.env).length = n := by rfl) (hst : (assignEach es X.env).findIdx? (·.1) = none := by rfl) (hc : X.calm = true := by rfl)
    (hs : swapsWithSole [.Tuple es kk tpos] (.Tuple vs k2 p2) pos.line X.env = pure false := by rfl) (hw : swappedStores [.Tuple es kk tpos] (.Tuple vs k2 p2) X.env = pure none := by rfl) (h1 : (assignEach [.Tuple es kk tpos] X.env).map (·.2) = [assign (.Tuple es kk tpos) X.env] := by rfl) :
    PS X (.Assign [.Tuple es kk tpos] (.Tuple vs k2 p2) pos) (LS c (sPar is mH)) :=
  (ps_asg (pe_tup ha) (pg_tup hc hg hl hst) hs hw h1).w fun D s H h => by
    obtain ⟨M, S, fr, rs, h⟩ := parT_of h
    refine ⟨M, S, fr, rs, ?_⟩
    revert h
    cases mH fr S with
    | ok as S1 =>
      intro h vs H' M' k h0 h1 rs' fs
      obtain ⟨l, h⟩ := h vs H' M' k h0 h1 rs' fs
      exact ⟨by rw [l, sizeLine_eq]; omega, fun p n => ⟨p, vs, rfl, .of upd_same, by rw [l, hn], gNames_of l (h p n)⟩⟩
    | _ => exact fun h => h
end
/-- a def of the text under its name -/
def DefI (K : PySem.W.Frag) (mg : Str → Option Value) (x : Str) (st : Stmt) (ps : List Str) : Prop := ∃ f fd, Fun K x x st f fd ∧ mg x = some (.ref f) ∧ Binds K fd ps []
section
variable {P : Program} {w : World} {mg : Str → Option Value} {base : Heap} {C : RC}
theorem cl_okD {x : Str} {st : Stmt} {N ps : List Str} {k np ns : Nat} {b : SS} {F : FN} (eF : F = fn np ns b) (D : DefI C.K mg x st ps) (Sc : FnScope N ps (defScope st)) (hp : ps.length = np) (hns : N.length = ns)
    (body : ∀ {f : Addr} (cdv : Value) (A : Around) (outer : List Env) (s : Shared) (H : Hp) (E : XK) (U : Addr → Prop) (r : List Addr), Room k (A.deeper (envOfC x (defScope st) s.heap.objs.size f cdv)) → PSs (cxOf CX0 P w C.K mg base N x (defScope st) f cdv A outer s H E).nox (defBody st) (LS ⟨C, U, H, r⟩ b)) :
    Cl P w C.K mg base C (k + 1) x F := by
  obtain ⟨f, fd, G, hm, bi⟩ := D
  exact cl_ok eF G hm bi Sc hp hns fun cdv A outer s H E U r hr => body cdv A outer s H E U r hr
theorem cl_bad0 {x : Str} {st : Stmt} {ps : List Str} {k : Nat} (D : DefI C.K mg x st ps) : Cl P w C.K mg base C k x (fun _ _ => .bad) := by
  obtain ⟨f, fd, G, hm, bi⟩ := D
  exact cl_bad (N := []) G hm bi
end
end Q
/-! Qsb: dicts, the rules in short. -/
namespace Q
open PySem PySem.Spec PyProof.Rows L2
section
variable {X : Cx} {c : Cn} {e a b d f : Expr} {es rest : List Expr} {ma mb md m : SE} {mA : SA} {mH : SH} {mG : SG} {pos p : Pos} {x : Str} {k : Nat}
/-- a new thing as a value -/
theorem PE.ofF (h : PE X e (LF c m)) (hC : ∀ fr S t S', m fr S = .ok t S' → t.isC = true) : PE X e (LE c m) := h.w fun s H q ⟨M, S, fr, rs, h⟩ => ⟨M, S, fr, rs, by
  cases e1 : m fr S with
  | ok t S' =>
    rw [e1] at h
    refine ⟨hC _ _ _ _ e1, fun p H' k n n2 st cn => h (.ref p) H' k (St.down st fun _ z => .inl z) ?_⟩
    exact (cn.kb .refl (mono_down fun a z => z.imp id .inl) fun _ e _ => e).rep fun z => rs.bn p z n
  | _ => rw [e1] at h; exact h.elim⟩
theorem call_dictA (hk : SX X c) (hr : Room k X.A) (hc : X.calm = true) : CallR X (.type "dict") (rDict c.C.K c.C.P c.C.w) := by
  have h : CallR X (.type "dict") (rDict X.K X.prog X.w) := CallR.or (call_dictP hc) (call_dictNe hc (by have := hr.un; omega))
  rw [hk.1, hk.2.1, hk.2.2] at h
  exact h
theorem xf_dict (hr : Room k X.A) (hm : X.mg "dict" = none) (hk : SX X c) (ha : PA X (e :: es) (LAp c mA)) (hc : X.calm = true := by rfl) (hg : Gl X "dict" := by rfl) (he : starEach (e :: es) X.env = (false, eval e X.env) :: starEach es X.env := by rfl) (hpl : (backTo pos (starEach es X.env)).any (·.1) = false := by rfl) : PE X (.Call (.Name "dict" p) (e :: es) [] pos) (LF c (eBi bDict mA)) := f_dict (by decide +kernel) (call_dictA hk hr hc) hg hm ha (by decide) (by decide) he hpl
theorem x_dict (hr : Room k X.A) (hm : X.mg "dict" = none) (hk : SX X c) (ha : PA X (e :: es) (LAp c mA)) (hc : X.calm = true := by rfl) (hg : Gl X "dict" := by rfl) (he : starEach (e :: es) X.env = (false, eval e X.env) :: starEach es X.env := by rfl) (hpl : (backTo pos (starEach es X.env)).any (·.1) = false := by rfl) : PE X (.Call (.Name "dict" p) (e :: es) [] pos) (LE c (eBi bDict mA)) := x_ty bi_dict (call_dictA hk hr hc) hm (by decide +kernel) ha hg (by decide) (by decide) he hpl
theorem x_dnew : PE X (.Dict [] [] pos) (LE c eDNew) := PE.ofF f_dnew fun _ _ _ _ h => by cases h; rfl
theorem disp_isC {r : SD} : ∀ fr S t S', eDisp r fr S = .ok t S' → t.isC = true := fun fr S t S' h => by
  simp only [eDisp] at h
  cases e : r fr S with
  | ok ps S1 =>
    rw [e] at h
    simp only [Re.bind_ok] at h
    cases ed : dMk ps with
    | none => rw [ed] at h; exact nomatch h
    | some z =>
      rw [ed] at h
      cases h
      rw [(dMk_some ed).2]; rfl
  | _ => rw [e] at h; exact nomatch h
theorem xf_disp {ks : List (Option Expr)} {vs : List Expr} {r : SD} (ls : List (SE × SE)) (er : r = sdOf ls) (sx : SX X c) (hr : Room k X.A) (h : PPs X pos ks vs (trsOf c ls)) (h15' : ls.length ≤ 15 := by decide) (hall : ks.all (·.isSome) = true := by rfl) (hl : ks.length = vs.length := by rfl) (h0 : ks ≠ [] := by intro z; cases z) (h15 : ks.length ≤ 15 := by decide) : PE X (.Dict ks vs pos) (LF c (eDisp r)) := by
  subst er; exact f_disp sx (Room.u9 hr) h h15' hall hl h0 h15
theorem x_disp {ks : List (Option Expr)} {vs : List Expr} {r : SD} (ls : List (SE × SE)) (er : r = sdOf ls) (sx : SX X c) (hr : Room k X.A) (h : PPs X pos ks vs (trsOf c ls)) (h15' : ls.length ≤ 15 := by decide) (hall : ks.all (·.isSome) = true := by rfl) (hl : ks.length = vs.length := by rfl) (h0 : ks ≠ [] := by intro z; cases z) (h15 : ks.length ≤ 15 := by decide) : PE X (.Dict ks vs pos) (LE c (eDisp r)) := PE.ofF (xf_disp ls er sx hr h h15' hall hl h0 h15) disp_isC
end
/-! ### d.get -/
def IsDN (P : Program) (w : World) (H : Hp) (a : Addr) : Prop := ∃ kw vw, DcV P w H a kw vw
section
variable {X : Cx} {o e f : Expr} {apos cpos : Pos} {td ty tx : TE}
theorem isDN_at {pins : List (Addr × Obj)} {σ : L2.St} {H : Hp} {s : Shared} {a : Addr} (I : Inv X pins σ H s) (d : IsDN X.prog X.w H a) : s.TypeIs (.ref a) "dict" ∧ (∀ b, Value.ref a = .ref b → ∃ ob, s.heap.get? b = some ob ∧ ob.dict = none) := by
  obtain ⟨kw, vw, d⟩ := d
  obtain ⟨_, _, es, ep, hm, _⟩ := raw_of I d
  obtain ⟨ob, h1, h2, h3⟩ := id hm
  exact ⟨hm.typeIs, fun b e => by cases e; exact ⟨ob, h1, h2.2.1⟩⟩
def tDG1 (K : PySem.W.Frag) (P : Program) (w : World) (td ty : TE) : TE := fun σ H Q => td σ H fun x H1 => ∃ a, x = .ref a ∧ IsDN P w H1 a ∧ ty σ H1 fun y H2 => ∃ o, DLv K P w H2 a y o ∧ Q (o.getD .non) H2
def tDG2 (K : PySem.W.Frag) (P : Program) (w : World) (td ty tx : TE) : TE := fun σ H Q => td σ H fun x H1 => ∃ a, x = .ref a ∧ IsDN P w H1 a ∧ ty σ H1 fun y H2 => tx σ H2 fun z H3 => ∃ o, DLv K P w H3 a y o ∧ Q (o.getD z) H3
theorem pe_dg1 (hu : X.A.units + 9 < cLine) (ho : PE X o td) (he : PE X e ty) (m : M1 X o "get" apos e cpos) : PE X (.Call (.Attribute o "get" apos) [e] [] cpos) (tDG1 X.K X.prog X.w td ty) := by
  refine ⟨fun pins s σ H Q I h => ?_⟩
  refine wpAny_Call_method m.base m.few m.line PySem.F.plainAttrs_dict PySem.F.slot_dict_get PySem.F.type_dict_get (thn (ho.run pins s σ H _ I h) fun u s1 ⟨x, H1, I1, rx, a, ex, d, q1⟩ => ?_)
  subst ex
  obtain rfl : u = Value.ref a := rx
  obtain ⟨t1, t2⟩ := isDN_at I1 d
  refine ⟨t1, t2, ?_⟩
  rw [m.trees]
  refine Calls.callWith_builtin rfl (Calls.evalArgs_plain (Calls.spliced_cons (thn (he.run pins s1 σ H1 _ I1 q1) fun iv s2 ⟨y, H2, I2, ry, ov, g, q2⟩ => Calls.spliced_nil ?_)))
  exact dl_get1 hu I2 g ry fun w' s3 I3 rw' => ⟨_, H2, I3, rw', q2⟩
theorem pe_dg2 (hu : X.A.units + 9 < cLine) (ho : PE X o td) (he : PE X e ty) (hf : PE X f tx) (m : M2 X o "get" apos e f cpos) : PE X (.Call (.Attribute o "get" apos) [e, f] [] cpos) (tDG2 X.K X.prog X.w td ty tx) := by
  refine ⟨fun pins s σ H Q I h => ?_⟩
  refine wpAny_Call_method m.base m.few m.line PySem.F.plainAttrs_dict PySem.F.slot_dict_get PySem.F.type_dict_get (thn (ho.run pins s σ H _ I h) fun u s1 ⟨x, H1, I1, rx, a, ex, d, q1⟩ => ?_)
  subst ex
  obtain rfl : u = Value.ref a := rx
  obtain ⟨t1, t2⟩ := isDN_at I1 d
  refine ⟨t1, t2, ?_⟩
  rw [m.trees]
  refine Calls.callWith_builtin rfl (Calls.evalArgs_plain (Calls.spliced_cons (thn (he.run pins s1 σ H1 _ I1 q1) fun iv s2 ⟨y, H2, I2, ry, q2⟩ =>
    Calls.spliced_cons (thn (hf.run pins s2 σ H2 _ I2 q2) fun fv s3 ⟨z, H3, I3, rz, ov, g, q3⟩ => Calls.spliced_nil ?_))))
  exact dl_get2 hu I3 g ry rz fun w' s4 I4 rw' => ⟨_, H3, I4, rw', q3⟩
end
section
variable {X : Cx} {c : Cn} {o e f : Expr} {mo me mf : SE} {apos cpos : Pos} {k : Nat}
theorem x_get1 (hr : Room k X.A) (sx : SX X c) (ho : PE X o (LP c mo)) (he : PE X e (LP c me)) (base : attributeBase o "get" X.env (eval o X.env) = eval o X.env := by rfl)
    (few : ((backTo cpos (starEach [e] X.env)).all (fun x => !x.1) && (backToKw cpos (keywordEach [] X.env)).all (fun x => x.1.isSome) && decide (([e] : List Expr).length + ([] : List Keyword).length + (if ([] : List Keyword).isEmpty then 0 else 1) < 30)) = true := by rfl)
    (line : (apos.endLine == cpos.line) = true := by rfl) (trees : backTo cpos (starEach [e] X.env) = [(false, eval e X.env)] := by rfl) : PE X (.Call (.Attribute o "get" apos) [e] [] cpos) (LE c (eGet1 mo me)) :=
  (pe_dg1 (Room.u9 hr) ho he ⟨base, few, line, trees⟩).w fun s H q ⟨M, S, fr, rs, h⟩ => ⟨M, S, fr, rs, PoE.bind h fun x S1 v H1 k1 st1 r1 h1 => by
    have hd : ∃ ks vs, x = .dct ks vs := by
      cases x with
      | dct ks vs => exact ⟨ks, vs, rfl⟩
      | _ =>
        exfalso
        revert h1
        cases me fr S1 with
        | ok y S2 => exact fun h => h.elim
        | _ => exact fun h => h.elim
    obtain ⟨ks, vs, rfl⟩ := hd
    obtain ⟨a, kw, vw, rfl, nr, d, q1, q2⟩ := rp_dct r1
    refine ⟨a, rfl, ⟨kw, vw, by rw [sx.2.1, sx.2.2]; exact dcv_of d q1⟩, M, S1, fr, rs.step k1 st1, PoE.bind h1 fun y S2 w H2 k2 st2 r2 h2 => ?_⟩
    obtain ⟨z, e, h3⟩ := h2.of
    simp only [getO] at e
    obtain ⟨ok, rfl⟩ := if_some e
    obtain ⟨a', kw', vw', ea, _, d', q1', q2'⟩ := rp_dct (RepP.k k2 rs.rb r1)
    cases ea
    obtain ⟨u, g, fd⟩ := dct_look d' q1' q2' ok (rp_key ok r2)
    refine ⟨u, by rw [sx.1, sx.2.1, sx.2.2]; exact g, h3 _ _ .refl st2 ?_⟩
    revert fd
    cases dAt ks vs y with
    | none => exact fun fd => by rw [show u = none from fd]; exact .flat rfl
    | some t => exact fun ⟨v, e, r⟩ => by rw [e]; exact r⟩
theorem x_get2 (hr : Room k X.A) (sx : SX X c) (ho : PE X o (LP c mo)) (he : PE X e (LP c me)) (hf : PE X f (LE c mf)) (base : attributeBase o "get" X.env (eval o X.env) = eval o X.env := by rfl)
    (few : ((backTo cpos (starEach [e, f] X.env)).all (fun x => !x.1) && (backToKw cpos (keywordEach [] X.env)).all (fun x => x.1.isSome) && decide (([e, f] : List Expr).length + ([] : List Keyword).length + (if ([] : List Keyword).isEmpty then 0 else 1) < 30)) = true := by rfl)
    (line : (apos.endLine == cpos.line) = true := by rfl) (trees : backTo cpos (starEach [e, f] X.env) = [(false, eval e X.env), (false, eval f X.env)] := by rfl) : PE X (.Call (.Attribute o "get" apos) [e, f] [] cpos) (LE c (eGet2 mo me mf)) :=
  (pe_dg2 (Room.u9 hr) ho he hf ⟨base, few, line, trees⟩).w fun s H q ⟨M, S, fr, rs, h⟩ => ⟨M, S, fr, rs, PoE.bind h fun x S1 v H1 k1 st1 r1 h1 => by
    have hd : ∃ ks vs, x = .dct ks vs := by
      cases x with
      | dct ks vs => exact ⟨ks, vs, rfl⟩
      | _ =>
        exfalso
        revert h1
        cases me fr S1 with
        | ok y S2 =>
          simp only [Re.bind_ok]
          cases mf fr S2 with
          | ok z S3 => exact fun h => h.elim
          | _ => exact fun h => h.elim
        | _ => exact fun h => h.elim
    obtain ⟨ks, vs, rfl⟩ := hd
    obtain ⟨a, kw, vw, rfl, nr, d, q1, q2⟩ := rp_dct r1
    refine ⟨a, rfl, ⟨kw, vw, by rw [sx.2.1, sx.2.2]; exact dcv_of d q1⟩, M, S1, fr, rs.step k1 st1, PoE.bind h1 fun y S2 w H2 k2 st2 r2 h2 => ⟨M, S2, fr, (rs.step k1 st1).step k2 st2, PoE.bind h2 fun x2 S3 w3 H3 k3 st3 r3 h3 => ?_⟩⟩
    obtain ⟨z, e, h4⟩ := h3.of
    simp only [getO] at e
    obtain ⟨ok, rfl⟩ := if_some e
    obtain ⟨a', kw', vw', ea, _, d', q1', q2'⟩ := rp_dct (RepP.k k3 rs.rb (RepP.k k2 rs.rb r1))
    cases ea
    obtain ⟨u, g, fd⟩ := dct_look d' q1' q2' ok (rp_key ok (RepP.k k3 rs.rb r2))
    refine ⟨u, by rw [sx.1, sx.2.1, sx.2.2]; exact g, h4 _ _ .refl st3 ?_⟩
    revert fd
    cases dAt ks vs y with
    | none => exact fun fd => by rw [show u = none from fd]; exact r3
    | some t => exact fun ⟨v, e, r⟩ => by rw [e]; exact r⟩
end
end Q
/-! Qrg: list(range(..)), tuple(range(..)). -/
namespace Q
open PySem PySem.Spec PyProof.Rows L2
def eLstI (i : SI) : SE := fun fr S => (i fr S).bind fun xs S1 => .ok (.lst xs) S1
def eTupI (i : SI) : SE := fun fr S => (i fr S).bind fun xs S1 => .ok (.tup xs) S1
section
variable {X : Cx} {c : Cn} {e a b d l tg : Expr} {ma mb md : SE} {pos p p2 q : Pos} {x : Str} {M : Addr → Prop} {H : Hp}
theorem reps_ints {l : List Nat} {f : Nat → Int} : c.Rs M H (l.map fun i => .int (f i)) (l.map fun i => V.int (f i)) := by
  induction l with
  | nil => simp [Cn.Rs, Reps]
  | cons y l ih =>
    simp only [List.map_cons, Cn.Rs, Reps]
    exact ⟨_, _, rfl, .flat rfl, ih⟩
theorem reps_rg {i j : Int} : c.Rs M H (rangeV i (j - i).toNat) (rgV i j) := by
  unfold rangeV rgV
  exact reps_ints (f := fun k => i + (k : Nat))
theorem rg1_ok {x : PV} {xs : List PV} (e : rng1 x = some xs) : ∃ j, x = .int j ∧ xs = rangeV 0 (j - 0).toNat ∧ RgOk 0 j := by
  unfold rng1 at e
  split at e
  · obtain ⟨z, rfl⟩ := if_some e
    simp only [Bool.and_eq_true, decide_eq_true_eq] at z
    refine ⟨_, rfl, by rw [Int.sub_zero], ?_⟩
    unfold RgOk
    omega
  · exact nomatch e
theorem rg2_ok {x y : PV} {xs : List PV} (e : rng2 x y = some xs) : ∃ i j, x = .int i ∧ y = .int j ∧ xs = rangeV i (j - i).toNat ∧ RgOk i j := by
  unfold rng2 at e
  split at e
  · obtain ⟨z, rfl⟩ := if_some e
    simp only [Bool.and_eq_true, decide_eq_true_eq] at z
    refine ⟨_, _, rfl, rfl, rfl, ?_⟩
    unfold RgOk
    omega
  · exact nomatch e
variable {te : L2.St → Hp → (Int → Int → Hp → Prop) → Prop} {mi : SI}
/-- a range that an expression makes -/
def LR (c : Cn) (m : SI) : L2.St → Hp → (Int → Int → Hp → Prop) → Prop := fun s H q => ∃ M S fr, c.RS M S H s fr ∧ PoE c M H (m fr S) (fun _ xs (ij : Int × Int) => xs = rangeV ij.1 (ij.2 - ij.1).toNat ∧ RgOk ij.1 ij.2) fun ij H' => q ij.1 ij.2 H'
theorem PRg.w {e : Expr} {t t' : L2.St → Hp → (Int → Int → Hp → Prop) → Prop} (h : PRg X e t) (f : ∀ s H q, t' s H q → t s H q) : PRg X e t' := fun pins s σ H Q I z => h pins s σ H Q I (f _ _ _ z)
theorem xr_rng1 (hm : X.mg "range" = none) (ha : PE X a (LP c ma)) (hg : Gl X "range" := by rfl) (na : starEach [a] X.env = (false, eval a X.env) :: starEach [] X.env := by rfl) : PRg X (.Call (.Name "range" p) [a] [] pos) (LR c (iRng1 ma)) :=
  PRg.w (prg_1 hg hm ha na) fun s H q ⟨M, S, fr, rs, h⟩ => ⟨M, S, fr, rs, PoE.bind h fun x S1 v H1 k1 st1 r1 h1 => by
    obtain ⟨xs, e, h2⟩ := h1.of
    obtain ⟨j, rfl, rfl, ok⟩ := rg1_ok e
    exact ⟨j, rp_int r1, h2 (0, j) H1 .refl st1 ⟨rfl, ok⟩⟩⟩
theorem xr_rng2 (hm : X.mg "range" = none) (ha : PE X a (LP c ma)) (hb : PE X b (LP c mb)) (hg : Gl X "range" := by rfl) (na : starEach [a, b] X.env = (false, eval a X.env) :: starEach [b] X.env := by rfl) (nb : starEach [b] X.env = (false, eval b X.env) :: starEach [] X.env := by rfl) (hp : (backTo pos (starEach [b] X.env)).any (·.1) = false := by rfl) : PRg X (.Call (.Name "range" p) [a, b] [] pos) (LR c (iRng2 ma mb)) :=
  PRg.w (prg_2 hg hm ha hb na nb hp) fun s H q ⟨M, S, fr, rs, h⟩ => ⟨M, S, fr, rs, PoE.bind h fun x S1 v H1 k1 st1 r1 h1 => ⟨M, S1, fr, rs.step k1 st1, PoE.bind h1 fun y S2 w H2 k2 st2 r2 h2 => by
    obtain ⟨xs, e, h3⟩ := h2.of
    obtain ⟨i, j, rfl, rfl, rfl, ok⟩ := rg2_ok e
    exact ⟨i, j, rp_int r1, rp_int r2, h3 (i, j) H2 .refl st2 ⟨rfl, ok⟩⟩⟩⟩
theorem x_lstRg (hm : X.mg "list" = none) (he : PRg X e (LR c mi)) (hc : X.calm = true := by rfl) (hg : Gl X "list" := by rfl) (na : starEach [e] X.env = (false, eval e X.env) :: starEach [] X.env := by rfl) : PE X (.Call (.Name "list" p) [e] [] pos) (LE c (eLstI mi)) :=
  (pe_listRg hc hg hm he na).w fun s H q ⟨M, S, fr, rs, h⟩ => ⟨M, S, fr, rs, PoE.bind h fun xs S1 ij H1 k1 st1 r1 h1 => ⟨r1.2, fun p n => h1 _ _ (Kp.upd_new n) (st1.k (Kp.upd_new n) rs.rb (upd_keeps n)) (by rw [r1.1]; exact R.lst_new rs.rb (rs.step k1 st1).bn n reps_rg)⟩⟩
theorem x_tupRg (hm : X.mg "tuple" = none) (he : PRg X e (LR c mi)) (hc : X.calm = true := by rfl) (hg : Gl X "tuple" := by rfl) (na : starEach [e] X.env = (false, eval e X.env) :: starEach [] X.env := by rfl) : PE X (.Call (.Name "tuple" p) [e] [] pos) (LE c (eTupI mi)) :=
  (pe_tupRg hc hg hm he na).w fun s H q ⟨M, S, fr, rs, h⟩ => ⟨M, S, fr, rs, PoE.bind h fun xs S1 ij H1 k1 st1 r1 h1 => ⟨r1.2, fun p n => h1 _ _ (Kp.upd_new n) (st1.k (Kp.upd_new n) rs.rb (upd_keeps n)) (by rw [r1.1]; exact R.tup_new rs.rb n reps_rg)⟩⟩
theorem xf_lstRg (hm : X.mg "list" = none) (he : PRg X e (LR c mi)) (hc : X.calm = true := by rfl) (hg : Gl X "list" := by rfl) (na : starEach [e] X.env = (false, eval e X.env) :: starEach [] X.env := by rfl) : PE X (.Call (.Name "list" p) [e] [] pos) (LF c (eLstI mi)) :=
  (pe_listRg hc hg hm he na).w fun s H q ⟨M, S, fr, rs, h⟩ => ⟨M, S, fr, rs, PoF.bind h fun xs S1 ij H1 k1 st1 r1 h1 => ⟨r1.2, fun p n => h1.new rs.rb st1 (by rw [r1.1]; exact reps_rg) p n⟩⟩
end
end Q
/-! Qt: the law's hand; the law's end. -/
namespace Q
open PySem PySem.Spec PyProof.Rows L2
def absI (n : Int) : Int := if n < 0 then -n else n
/-- what _law_hand makes -/
def hand0 (n4 : Nat → Int) (ns : List Int) : PV := .lst [.lst (ns.map fun n => .int (absI n)), .int 0, .int 0, .int (n4 ns.length), .int 0]
def spHand (K : PySem.W.Frag) (n4 : Nat → Int) : Sp := fun vs H Q _ => ∃ (a : Addr) (ns : List Int), vs = [.ref a] ∧ SqL K H a (ns.map V.int) ∧ ns.length ≤ 63 ∧ ∀ H' p c, (∀ b o, H b = some o → H' b = some o) → H p = none → H c = none → p ≠ c →
  H' c = some (.lst (ns.map fun n => .int (absI n))) → H' p = some (.lst [.ref c, .int 0, .int 0, .int (n4 ns.length), .int 0]) → Q (.ref p) H'
abbrev rAbs : List V → Hp → VK → Prop := fun xs H Q => ∃ i, xs = [.int i] ∧ Q (.int (if i < 0 then -i else i)) H
abbrev rInt1 : List V → Hp → VK → Prop := fun xs H Q => (∃ i, xs = [.int i] ∧ Q (.int i) H) ∨ ∃ k, xs = [.bl k] ∧ Q (.int (if k then 1 else 0)) H
abbrev rLenS (K : PySem.W.Frag) : List V → Hp → VK → Prop := fun xs H Q => ∃ p ys, xs = [.ref p] ∧ (SqL K H p ys ∨ SqT K H p ys) ∧ Q (.int ys.length) H
abbrev tLen1 (K : PySem.W.Frag) : TE := tCB (rLenS K) (tCons (tVar 1) tNil)
/-- the reading of _law_hand's body; t4 its fourth item's -/
abbrev tHand (K : PySem.W.Frag) (t4 : TE) : TS := tSeq (tAsg (tLc (iList K (tSl (rSlL K) (tVar 0) tNoPart (tPart (tC (.int 63))))) (gName 2) tYes (tCB rAbs (tCons (tCB rInt1 (tCons (tVar 2) tNil)) tNil)) [2]) (gName 1))
  (tSeq (tRet (tLst (tCons (tVar 1) (tCons (tC (.int 0)) (tCons (tC (.int 0)) (tCons t4 (tCons (tC (.int 0)) tNil))))))) tNext)
theorem cut63 {xs : List V} (h : xs.length ≤ 63) : cutV xs none (some 63) = xs := by
  apply cutV_whole
  refine ⟨rfl, ?_⟩
  show min (63 : Int).toNat xs.length = xs.length
  omega
theorem hand_read {K : PySem.W.Frag} {t4 : TE} {n4 : Nat → Int} {a : Addr} {ns : List Int} {H : Hp} {Q : VK} (hS : SqL K H a (ns.map V.int)) (hl : ns.length ≤ 63)
    (h4 : ∀ (σ : L2.St) (H : Hp) (q : VK) (c : Addr) (ys : List V), σ[1]? = some (some (.ref c)) → SqL K H c ys → q (.int (n4 ys.length)) H → t4 σ H q)
    (h : ∀ H' p c, (∀ b o, H b = some o → H' b = some o) → H p = none → H c = none → p ≠ c → H' c = some (.lst (ns.map fun n => .int (absI n))) → H' p = some (.lst [.ref c, .int 0, .int 0, .int (n4 ns.length), .int 0]) → Q (.ref p) H') :
    tHand K t4 { nx := fun _ H' => Q .non H', rt := Q } (L2.start ["script", "cells", "cell"] [.ref a]) H := by
  have hlen : (ns.map V.int).length ≤ 63 := by rw [List.length_map]; exact hl
  refine ⟨.ref a, rfl, 63, rfl, a, ns.map V.int, rfl, hS, fun b nb => ?_⟩
  rw [cut63 hlen]
  refine ⟨b, rfl, ⟨_, .of upd_same⟩, fun D nD => ?_⟩
  have nbD : D ≠ b := fun e => by rw [e, upd_same] at nD; exact nomatch nD
  have nD' : H D = none := by rw [upd_ne nbD] at nD; exact nD
  refine lc_list (xs := ns.map V.int) (fun i H3 => (∀ b o, H b = some o → H3 b = some o) ∧ H3 b = some (.lst (ns.map V.int)) ∧ H3 D = some (.lst ((ns.take i).map fun n => .int (absI n)))) ⟨fun c o e => ?_, ?_, ?_⟩ (fun i H3 _ p => .of p.2.1) (fun i x H3 ex p => ?_) (fun H3 p => ?_)
  · rw [upd_ne (ne_of_none e nD'), upd_ne (ne_of_none e nb)]; exact e
  · rw [upd_ne nbD.symm, upd_same]
  · rw [upd_same]; rfl
  · rw [List.getElem?_map, Option.map_eq_some_iff] at ex
    obtain ⟨n, en, rfl⟩ := ex
    refine ⟨rfl, ?_⟩
    unfold tYes
    dsimp only
    simp only [if_true]
    refine ⟨.int n, rfl, .inl ⟨n, rfl, n, rfl, _, p.2.2, ?_, fun c o e => ?_, ?_, ?_⟩⟩
    · rw [List.length_map, List.length_take]
      exact Nat.lt_of_le_of_lt (Nat.min_le_right _ _) (Nat.lt_of_le_of_lt hl (by decide))
    · rw [upd_ne (ne_of_none e nD')]; exact p.1 c o e
    · rw [upd_ne nbD.symm]; exact p.2.1
    · rw [upd_same, List.take_add_one, en, List.map_append]
      rfl
  · obtain ⟨p1, p2, p3⟩ := p
    rw [List.length_map, List.take_length] at p3
    refine ⟨.ref D, rfl, h4 _ _ _ D _ rfl (.of p3) ⟨by show 5 ≤ sizeLine; decide, fun p np => ?_⟩⟩
    have npD : p ≠ D := fun e => by rw [e, p3] at np; exact nomatch np
    refine h _ p D (fun c o e => ?_) ?_ nD' npD ?_ ?_
    · rw [upd_ne (ne_of_none (p1 c o e) np)]; exact p1 c o e
    · cases e : H p with
      | none => rfl
      | some o => rw [p1 p o e] at np; exact nomatch np
    · rw [upd_ne npD.symm]; exact p3
    · rw [upd_same, List.length_map]
theorem ints_reps {C : RC} {B : Addr → Prop} {r : List Addr} {H : Hp} {f : Int → Int} : ∀ {ns : List Int}, Reps C B r H (ns.map fun n => .int (f n)) (ns.map fun n => .int (f n))
  | [] => .nil
  | n :: ns => .cons (by simp only [Rep]) ints_reps
section
variable {P : Program} {w : World} {mg : Str → Option Value} {base : Heap} {C : RC} {K : PySem.W.Frag}
/-- _law_hand -/
structure ClH (P : Program) (w : World) (K : PySem.W.Frag) (mg : Str → Option Value) (base : Heap) (n4 : Nat → Int) : Prop where
  ex : ∃ (f : Addr) (fd : FuncData) (ps : List Str), FnOk P w K mg base CX0 1 f fd ps (spHand K n4) ∧ mg "_law_hand" = some (.ref f) ∧ PySem.W.keepIn K (.ref f) = true ∧ Binds K fd ps []
theorem hand_ok {st : Stmt} {t4 : TE} {n4 : Nat → Int} (Df : DefI K mg "_law_hand" st ["script"]) (Sc : FnScope ["script", "cells", "cell"] ["script"] (defScope st))
    (h4 : ∀ (σ : L2.St) (H : Hp) (q : VK) (c : Addr) (ys : List V), σ[1]? = some (some (.ref c)) → SqL K H c ys → q (.int (n4 ys.length)) H → t4 σ H q)
    (body : ∀ {f : Addr} (cdv : Value) (A : Around) (outer : List Env) (s : Shared) (H : Hp) (E : XK), PSs (cxOf CX0 P w K mg base ["script", "cells", "cell"] "_law_hand" (defScope st) f cdv A outer s H E).nox (defBody st) (tHand K t4)) : ClH P w K mg base n4 := by
  obtain ⟨f, fd, G, hm, bi⟩ := Df
  refine ⟨f, fd, _, Fun.ok G Sc (fun vs H Q E h => ?_) (fun cdv A outer s H vs Q E hr h => ?_), hm, G.kp, bi⟩
  · obtain ⟨a, ns, rfl, _⟩ := h
    rfl
  · obtain ⟨a, ns, rfl, hS, hl, q⟩ := h
    exact ⟨_, body cdv A outer s H E, hand_read hS hl h4 q⟩
def LSx (C : RC) (m : SS) : TS := fun D s H => ∃ c : Cn, c.C = C ∧ LS c m D s H
theorem pss_x {X : Cx} {sts : List Stmt} {m : SS} (h : ∀ c : Cn, c.C = C → PSs X sts (LS c m)) : PSs X sts (LSx C m) := ⟨fun pins s σ H D I ⟨c, e, q⟩ => (h c e).run pins s σ H D I q⟩
def spLaw (K : PySem.W.Frag) : Sp := fun vs H Q _ => ∃ (a : Addr) (ns : List Int), vs = [.ref a] ∧ SqL K H a (ns.map V.int) ∧ ns.length ≤ 63 ∧ ∀ H', Q (.bl true) H'
/-- behind hand = _law_hand(script) -/
def fr0 (n i : Nat) : Fr := (List.replicate n .no).set i (.va (.ref 0))
theorem law_ok {st : Stmt} {m : SS} {N : List Str} {i n : Nat} {n4 : Nat → Int} {k : Nat} {f : Addr} {fd : FuncData} (G : Fun C.K "law" "law" st f fd) (Sc : FnScope N ["script"] (defScope st)) (hn : N.length = n) (hi : i < n) (ch : ClH P w C.K mg base n4)
    (body : ∀ {g : Addr} (cdv : Value) (A : Around) (outer : List Env) (s : Shared) (H : Hp) (E : XK), Room k (A.deeper (envOfC "law" (defScope st) s.heap.objs.size f cdv)) → PSs (cxOf CX0 P w C.K mg base N "law" (defScope st) f cdv A outer s H E).nox (defBody st) (tSeq (tAsg (tCall (spHand C.K n4) [] E0 (tCons (tVar 0) tNil)) (gName i)) (LSx C m)))
    (plain : ∀ ns : List Int, ns.length ≤ 63 → ∃ S', m (fr0 n i) [hand0 n4 ns] = .rt (.bl true) S') : FnOk P w C.K mg base CX0 (k + 1) f fd ["script"] (spLaw C.K) := by
  refine Fun.ok G Sc (fun vs H Q E h => ?_) (fun cdv A outer s H vs Q E hr h => ?_)
  · obtain ⟨a, ns, rfl, _⟩ := h
    rfl
  · obtain ⟨a, ns, rfl, hS, hl, q⟩ := h
    refine ⟨_, body (g := f) cdv A outer s H E hr, ?_⟩
    have e0 : (L2.start N [.ref a])[0]? = some (some (.ref a)) := rfl
    refine ⟨.ref a, e0, a, ns, rfl, hS, hl, fun H' p c kp np nc npc ec ep => ?_⟩
    refine ⟨⟨C, fun b => b = p, H', [p]⟩, rfl, fun b => b = p, [hand0 n4 ns], fr0 n i, ?_, ?_⟩
    · have hlen : (L2.start N [.ref a]).length = n := by
        unfold L2.start
        simp only [List.length_append, List.length_map, List.length_replicate, List.length_cons, List.length_nil]
        omega
      refine ⟨.refl, fun b z => (by rw [show b = p from z]; show H' p ≠ none; rw [ep]; exact (fun z => nomatch z)), fun b z => (by rw [show b = p from z, ep]; exact (fun z => nomatch z)), fun b z nz => absurd (by rw [z]; simp) nz, fun b z => by simpa using z, fun b z => by simpa using z, ⟨rfl, by simp, fun j b t e1 e2 => ?_⟩, ?_, fun j b e o e' => ?_, fun j k t u b e _ _ _ => ?_⟩
      · match j, e1, e2 with
        | 0, e1, e2 =>
          cases e1
          cases e2
          refine ⟨_, ep, .cons ?_ (.cons (by simp only [Rep]) (.cons (by simp only [Rep]) (.cons (by simp only [Rep]) (.cons (by simp only [Rep]) .nil))))⟩
          simp only [Rep]
          refine ⟨c, _, rfl, ⟨ec, fun z => z.elim (fun e => npc e.symm) fun e => npc e.symm⟩, ?_⟩
          exact ints_reps
      · unfold fr0
        rw [List.length_set, List.length_replicate, List.length_set, hlen]
      · unfold fr0 at e
        by_cases ij : i = j
        · subst ij
          rw [List.getElem?_set_self (by rw [List.length_replicate]; exact hi)] at e
          rw [List.getElem?_set_self (by rw [hlen]; exact hi)] at e'
          cases e
          cases e'
          show Rep _ _ _ _ _ _
          simp only [Rep]
          exact ⟨p, rfl, rfl⟩
        · rw [List.getElem?_set_ne ij, List.getElem?_replicate] at e
          split at e
          · cases e; exact True.intro
          · exact nomatch e
      · unfold fr0 at e
        by_cases ij : i = j
        · subst ij
          rw [List.getElem?_set_self (by rw [List.length_replicate]; exact hi)] at e
          exact nomatch e
        · rw [List.getElem?_set_ne ij, List.getElem?_replicate] at e
          split at e <;> exact nomatch e
    · obtain ⟨S', e⟩ := plain ns hl
      rw [e]
      intro v H2 _ _ rv
      simp only [Rep] at rv
      subst rv
      exact q H2
end

/-! ### the head's facts -/
theorem relV_of : ∀ {v : V} {u : Value}, absV u = some v → RelV v u
  | v, .none, h => by cases h; rfl
  | v, .bool _, h => by cases h; rfl
  | v, .int i t, h => by cases h; exact ⟨t, rfl⟩
  | v, .str x t, h => by cases h; exact ⟨t, rfl⟩
  | v, .bytes x t, h => by cases h; exact ⟨t, rfl⟩
  | v, .float x t, h => by cases h; exact ⟨t, rfl⟩
  | v, .ref _, h => by cases h; rfl
  | v, .type _, h => by cases h; rfl
theorem vals_abs : ∀ {vs : List V} {us : List Value}, us.map absV = vs.map some → Vals vs us
  | [], [], _ => .nil
  | [], _ :: _, h => by simp at h
  | _ :: _, [], h => by simp at h
  | v :: vs, u :: us, h => by
    simp only [List.map_cons, List.cons.injEq] at h
    exact .cons (relV_of h.1) (vals_abs h.2)
theorem kt_flat {K : PySem.W.Frag} {a : Addr} {od : Option Addr} {its : Array Value} {n : Nat} {sl : Array (Option Value)} {vs : List V} {ts : List PV} (l : K.lookup a = some ⟨.type "tuple", od, .seq its n, sl⟩) (e : its.toList.map absV = vs.map some) (hz : vs.length ≤ 1000) (h : KReps K ts vs) : KRep K (.tup ts) (.ref a) := by
  simp only [KRep]
  refine ⟨a, vs, rfl, ⟨_, its, n, l, rfl, rfl, ?_, vals_abs e⟩, h⟩
  have := congrArg List.length e
  simp only [List.length_map, Array.length_toList] at this
  rw [this, sizeLine_eq]
  omega
theorem gd_cons {s k : Str} {t x : PV} {r : List (Str × PV)} {p : Str → PV → Prop} (e : List.lookup s ((k, x) :: r) = some t) (h : p k x) (n : List.lookup s r = some t → p s t) : p s t := by
  rw [List.lookup_cons] at e
  split at e
  · rename_i z
    cases e
    rw [show s = k from eq_of_beq z]
    exact h
  · exact n e
/-- nothing but what is written -/
def RC0 (K : PySem.W.Frag) (P : Program) (w : World) : RC := ⟨K, P, w, fun _ => 0, fun _ _ _ _ => False, fun h _ => h, fun h _ _ => h⟩
end Q
/-! Qu: what the combinators give, as rows for simp; loops and comprehensions by lemma. -/
namespace Q
open PySem
def Sl.val : Sl → Option PV
  | .va t => some t
  | _ => none
def Sl.peek : Sl → Option PV
  | .va t => some t
  | .ow t => some t
  | .bo t => some t
  | _ => none
def PV.bool : PV → Option Bool
  | .bl b => some b
  | _ => none
def PV.intv : PV → Option Int
  | .int b => some b
  | _ => none
def Sl.app : Sl → PV → Option Sl
  | .ow (.lst xs), y => if fits (xs.length + 1) then some (.ow (.lst (xs ++ [y]))) else none
  | _, _ => none
def Sl.ext : Sl → PV → Option Sl
  | .ow (.lst xs), .lst ys => if fits (xs.length + ys.length) then some (.ow (.lst (xs ++ ys))) else none
  | _, _ => none
def stPut (S : Sto) : PV → PV → PV → Option Sto
  | .ref r, z, y => (S[r]?).bind fun t => (putO t z y).map fun t' => S.set r t'
  | _, _, _ => none
def Ou.ret : Ou → Re PV
  | .nx _ S => .ok .non S
  | .rt t S => .ok t S
  | .ex c as S => .ex c as S
  | _ => .bad
def Ou.turn : Ou → SS → Ou
  | .nx fr S, k => k fr S
  | .ct fr S, k => k fr S
  | .bk fr S, _ => .nx fr S
  | .rt t S, _ => .rt t S
  | .ex c as S, _ => .ex c as S
  | .bad, _ => .bad
def Re.nox {α : Type} : Re α → Re α
  | .ok a S => .ok a S
  | _ => .bad
section
variable {α : Type} {x y t : PV} {b : Bool} {i j : Nat} {n : Int} {s : Str} {xs ys : List PV} {fr : Fr} {S S' : Sto} {a c : SE} {k : SS} {F : List PV → Sto → Re PV} {tg : TgS} {cb : SB} {m : SE} {ex : Nat} {as : List PV} {sl : Sl}
@[simp] theorem val_va : (Sl.va t).val = some t := rfl
@[simp] theorem val_no : Sl.no.val = none := rfl
@[simp] theorem val_ow : (Sl.ow t).val = none := rfl
@[simp] theorem val_bo : (Sl.bo t).val = none := rfl
@[simp] theorem peek_va : (Sl.va t).peek = some t := rfl
@[simp] theorem peek_ow : (Sl.ow t).peek = some t := rfl
@[simp] theorem peek_bo : (Sl.bo t).peek = some t := rfl
@[simp] theorem peek_no : Sl.no.peek = none := rfl
@[simp] theorem froz_va : (Sl.va t).froz = .va t := rfl
@[simp] theorem froz_ow : (Sl.ow t).froz = .va t := rfl
@[simp] theorem froz_bo : (Sl.bo t).froz = .bo t := rfl
@[simp] theorem froz_no : Sl.no.froz = .no := rfl
@[simp] theorem bool_bl : (PV.bl b).bool = some b := rfl
@[simp] theorem intv_int : (PV.int n).intv = some n := rfl
@[simp] theorem app_ow : (Sl.ow (.lst xs)).app y = if fits (xs.length + 1) then some (.ow (.lst (xs ++ [y]))) else none := rfl
@[simp] theorem ext_ow : (Sl.ow (.lst xs)).ext (.lst ys) = if fits (xs.length + ys.length) then some (.ow (.lst (xs ++ ys))) else none := rfl
@[simp] theorem own_ow : (Sl.ow t).own = some t := rfl
@[simp] theorem putO_lst : putO (.lst xs) (.int n) y = (ixN xs.length n).map fun j => .lst (xs.set j y) := rfl
@[simp] theorem putO_dct : putO (.dct xs ys) x y = if dOk xs x && decide (xs.length < 16777216) then some (.dct (dSet xs ys x y).1 (dSet xs ys x y).2) else none := rfl
@[simp] theorem stPut_ref {r : Nat} : stPut S (.ref r) x y = (S[r]?).bind fun t => (putO t x y).map fun t' => S.set r t' := rfl
@[simp] theorem isC_tup : (PV.tup xs).isC = false := rfl
@[simp] theorem isC_int : (PV.int n).isC = false := rfl
@[simp] theorem stAt_ref {r : Nat} : stAt S (.ref r) y = (S[r]?).bind fun t => t.at_ y := by
  show (match S[r]? with | some t => t.at_ y | none => none) = _
  cases S[r]? <;> rfl
@[simp] theorem at_tup : (PV.tup xs).at_ (.int n) = ixV xs n := rfl
@[simp] theorem at_lst : (PV.lst xs).at_ (.int n) = ixV xs n := rfl
@[simp] theorem at_dct : (PV.dct xs ys).at_ x = if dOk xs x then dAt xs ys x else none := by
  cases x <;> rfl
@[simp] theorem cut_tup {lo hi : Option Int} : (PV.tup xs).cut_ lo hi = some (.tup (cut xs lo hi)) := rfl
@[simp] theorem cut_lst {lo hi : Option Int} : (PV.lst xs).cut_ lo hi = some (.lst (cut xs lo hi)) := rfl
@[simp] theorem allBl_nil : allBl [] = some [] := rfl
@[simp] theorem allBl_cons : allBl (.bl b :: xs) = (allBl xs).map (b :: ·) := rfl
@[simp] theorem allInt_nil : allInt [] = some [] := rfl
@[simp] theorem allInt_cons : allInt (.int n :: xs) = (allInt xs).map (n :: ·) := rfl
@[simp] theorem ret_nx : (Ou.nx fr S).ret = .ok .non S := rfl
@[simp] theorem ret_rt : (Ou.rt t S).ret = .ok t S := rfl
@[simp] theorem ret_bad : Ou.bad.ret = .bad := rfl
@[simp] theorem ret_ex : (Ou.ex ex as S).ret = .ex ex as S := rfl
@[simp] theorem turn_nx : (Ou.nx fr S).turn k = k fr S := rfl
@[simp] theorem turn_ct : (Ou.ct fr S).turn k = k fr S := rfl
@[simp] theorem turn_bk : (Ou.bk fr S).turn k = .nx fr S := rfl
@[simp] theorem turn_rt : (Ou.rt t S).turn k = .rt t S := rfl
@[simp] theorem turn_bad : Ou.bad.turn k = .bad := rfl
@[simp] theorem turn_ex : (Ou.ex ex as S).turn k = .ex ex as S := rfl
@[simp] theorem nox_ok {v : α} : (Re.ok v S).nox = .ok v S := rfl
@[simp] theorem nox_bad : (Re.bad : Re α).nox = .bad := rfl
@[simp] theorem eV_ap : eV i fr S = .of ((fr[i]?).bind Sl.val) S := by
  unfold eV; cases e : fr[i]? with
  | none => rfl
  | some a => cases a <;> rfl
@[simp] theorem eP_ap : eP i fr S = .of ((fr[i]?).bind Sl.peek) S := by
  unfold eP; cases e : fr[i]? with
  | none => rfl
  | some a => cases a <;> rfl
@[simp] theorem bE_ap : bE a fr S = (a fr S).bind fun x S1 => .of x.bool S1 := by
  unfold bE; congr; funext x S1; cases x <;> rfl
@[simp] theorem eNeg_ap : eNeg a fr S = (a fr S).bind fun x S1 => .of (x.intv.map fun i => .int (-i)) S1 := by
  unfold eNeg; congr; funext x S1; cases x <;> rfl
@[simp] theorem oS_ap : oS a fr S = (a fr S).bind fun x S1 => .of (x.intv.map some) S1 := by
  unfold oS; congr; funext x S1; cases x <;> rfl
@[simp] theorem tT_tup {is : List Nat} : tT is (.tup xs) fr = setAll is xs fr := rfl
@[simp] theorem setAll_nil : setAll [] [] fr = some fr := rfl
@[simp] theorem setAll_cons {is : List Nat} : setAll (i :: is) (x :: xs) fr = setAll is xs (fr.set i (.va x)) := rfl
@[simp] theorem sUnp_ap {is : List Nat} : sUnp is a fr S = (a fr S).thn fun x S1 => .nxO (tT is x fr) S1 := by
  unfold sUnp; congr; funext x S1; cases tT is x fr <;> rfl
@[simp] theorem sFrz_ap : sFrz i k fr S = (fr[i]?).elim .bad fun a => k (fr.set i a.froz) S := by
  unfold sFrz; cases fr[i]? <;> rfl
@[simp] theorem sApp_ap : sApp i a fr S = (a fr S).thn fun y S1 => .nxO ((fr[i]?).bind fun z => (z.app y).map fun w => fr.set i w) S1 := by
  unfold sApp; congr; funext y S1; cases e : fr[i]? with
  | none => rfl
  | some z =>
    cases z with
    | ow t =>
      cases t with
      | lst xs =>
        simp only [Option.bind_some, app_ow]
        split <;> rfl
      | _ => rfl
    | _ => rfl
@[simp] theorem sExt_ap : sExt i a fr S = (a fr S).thn fun y S1 => .nxO ((fr[i]?).bind fun z => (z.ext y).map fun w => fr.set i w) S1 := by
  unfold sExt; congr; funext y S1; cases e : fr[i]? with
  | none => rfl
  | some z =>
    cases z with
    | ow t =>
      cases t with
      | lst xs =>
        cases y with
        | lst ys =>
          simp only [Option.bind_some, ext_ow]
          split <;> rfl
        | _ => rfl
      | _ => rfl
    | _ => rfl
@[simp] theorem sPut_ap : sPut i c a fr S = (a fr S).thn fun y S1 => (c fr S1).thn fun z S2 => .nxO (((fr[i]?).bind Sl.own).bind fun t => (putO t z y).map fun t' => fr.set i (.ow t')) S2 := by
  unfold sPut; congr; funext y S1; congr; funext z S2; cases e : (fr[i]?).bind Sl.own with
  | none => rfl
  | some t =>
    simp only [Option.bind_some]
    cases putO t z y <;> rfl
def Ou.nxS : Option Sto → Fr → Ou
  | some S, fr => .nx fr S
  | none, _ => .bad
@[simp] theorem nxS_some : Ou.nxS (some S) fr = .nx fr S := rfl
@[simp] theorem nxS_none : Ou.nxS none fr = .bad := rfl
@[simp] theorem sPutS_ap {d : SE} : sPutS d c a fr S = (a fr S).thn fun y S1 => (d fr S1).thn fun x S2 => (c fr S2).thn fun z S3 => .nxS (stPut S3 x z y) fr := by
  unfold sPutS; congr; funext y S1; congr; funext x S2; congr; funext z S3
  cases x with
  | ref r =>
    simp only [stPut_ref]
    cases e : S3[r]? with
    | none => rfl
    | some t =>
      simp only [Option.bind_some]
      cases putO t z y <;> rfl
  | _ => rfl
@[simp] theorem sOwn_ap : sOwn i a fr S = (a fr S).thn fun x S1 => if x.isC then .nx (fr.set i (.ow x)) S1 else .bad := rfl
@[simp] theorem hO_ap {r : SH} : hO a r fr S = (a fr S).bind fun x S1 => if x.isC then (r fr S1).bind fun xs S2 => .ok (.ow x :: xs) S2 else .bad := rfl
@[simp] theorem eTup_ap {r : SA} : eTup r fr S = (r fr S).bind fun xs S1 => if fits xs.length then .ok (.tup xs) S1 else .bad := rfl
@[simp] theorem eLst_ap {r : SA} : eLst r fr S = (r fr S).bind fun xs S1 => if fits xs.length then .ok (.lst xs) S1 else .bad := rfl
@[simp] theorem fn_ap {ps ns : Nat} {args : List Sl} : fn ps ns k args S = if args.length = ps then (k (pad ns args) S).ret else .bad := by
  unfold fn; split
  · cases k (pad ns args) S <;> rfl
  · rfl
@[simp] theorem forGo_nil : forGo tg k [] fr S = .nx fr S := rfl
@[simp] theorem forGo_con : forGo tg k (x :: xs) fr S = (tg x fr).elim .bad fun fr1 => (k fr1 S).turn (forGo tg k xs) := by
  show (match tg x fr with | none => Ou.bad | some fr1 => _) = _
  cases tg x fr with
  | none => rfl
  | some fr1 =>
    show (match k fr1 S with | .nx fr2 S2 => forGo tg k xs fr2 S2 | .ct fr2 S2 => forGo tg k xs fr2 S2 | .bk fr2 S2 => .nx fr2 S2 | .rt t S2 => .rt t S2 | .ex c as S2 => .ex c as S2 | .bad => .bad) = (k fr1 S).turn (forGo tg k xs)
    cases k fr1 S <;> rfl
@[simp] theorem lcGo_nil : lcGo tg cb m fr [] S = .ok [] S := rfl
@[simp] theorem lcGo_con : lcGo tg cb m fr (x :: xs) S = (tg x fr).elim .bad fun fr1 => (cb fr1 S).nox.bind fun b S1 => if b then (m fr1 S1).nox.bind fun y S2 => (lcGo tg cb m fr xs S2).bind fun ys S3 => .ok (y :: ys) S3 else lcGo tg cb m fr xs S1 := by
  show (match tg x fr with | none => Re.bad | some fr1 => _) = _
  cases tg x fr with
  | none => rfl
  | some fr1 =>
    show (match cb fr1 S with | .ok k S1 => if k then (match m fr1 S1 with | .ok y S2 => (lcGo tg cb m fr xs S2).bind fun ys S3 => .ok (y :: ys) S3 | _ => .bad) else lcGo tg cb m fr xs S1 | _ => .bad) = _
    simp only [Option.elim_some]
    cases cb fr1 S with
    | ok b S1 =>
      cases b with
      | true =>
        simp only [if_true, nox_ok, Re.bind_ok]
        cases m fr1 S1 <;> rfl
      | false => rfl
    | ex _ _ _ => rfl
    | bad => rfl
/-- a comprehension whose pieces leave the store as it is -/
theorem lc_map {f : PV → PV} (h : ∀ x ∈ xs, ∃ fr1, tg x fr = some fr1 ∧ m fr1 S = .ok (f x) S) : lcGo tg bT m fr xs S = .ok (xs.map f) S := by
  induction xs with
  | nil => rfl
  | cons x xs ih =>
    obtain ⟨fr1, e1, e2⟩ := h x (by simp)
    rw [lcGo_con, e1]
    simp [e2, ih fun y hy => h y (by simp [hy])]
theorem lc_filt {f : PV → PV} {p : PV → Bool} (h : ∀ x ∈ xs, ∃ fr1, tg x fr = some fr1 ∧ cb fr1 S = .ok (p x) S ∧ (p x = true → m fr1 S = .ok (f x) S)) : lcGo tg cb m fr xs S = .ok ((xs.filter p).map f) S := by
  induction xs with
  | nil => rfl
  | cons x xs ih =>
    obtain ⟨fr1, e1, e2, e3⟩ := h x (by simp)
    rw [lcGo_con, e1]
    have ih := ih fun y hy => h y (by simp [hy])
    cases hp : p x with
    | true => simp [e2, hp, e3 hp, ih]
    | false => simp [e2, hp, ih]
/-- .. over the images of a list -/
theorem lc_mapI {α : Type} {l : List α} {g : α → PV} {f : α → PV} (h : ∀ x ∈ l, ∃ fr1, tg (g x) fr = some fr1 ∧ m fr1 S = .ok (f x) S) : lcGo tg bT m fr (l.map g) S = .ok (l.map f) S := by
  induction l with
  | nil => rfl
  | cons x xs ih =>
    obtain ⟨fr1, e1, e2⟩ := h x (by simp)
    rw [List.map_cons, lcGo_con, e1]
    simp [e2, ih fun y hy => h y (by simp [hy])]
theorem lc_filtI {α : Type} {l : List α} {g : α → PV} {f : α → PV} {p : α → Bool} (h : ∀ x ∈ l, ∃ fr1, tg (g x) fr = some fr1 ∧ cb fr1 S = .ok (p x) S ∧ (p x = true → m fr1 S = .ok (f x) S)) : lcGo tg cb m fr (l.map g) S = .ok ((l.filter p).map f) S := by
  induction l with
  | nil => rfl
  | cons x xs ih =>
    obtain ⟨fr1, e1, e2, e3⟩ := h x (by simp)
    rw [List.map_cons, lcGo_con, e1]
    have ih := ih fun y hy => h y (by simp [hy])
    cases hp : p x with
    | true => simp [e2, hp, e3 hp, ih]
    | false => simp [e2, hp, ih]
theorem allBl_map {α : Type} {l : List α} {p : α → Bool} : allBl (l.map fun x => .bl (p x)) = some (l.map p) := by
  induction l with
  | nil => rfl
  | cons x l ih => simp [ih]
theorem allInt_map {α : Type} {l : List α} {p : α → Int} : allInt (l.map fun x => .int (p x)) = some (l.map p) := by
  induction l with
  | nil => rfl
  | cons x l ih => simp [ih]
@[simp] theorem ite_ok {α : Type} {S : Sto} {p : Prop} [Decidable p] {a b : α} : (if p then Re.ok a S else Re.ok b S) = Re.ok (if p then a else b) S := by split <;> rfl
@[simp] theorem ite_rt {S : Sto} {p : Prop} [Decidable p] {a b : PV} : (if p then Ou.rt a S else Ou.rt b S) = Ou.rt (if p then a else b) S := by split <;> rfl
@[simp] theorem ite_blT {b c : Bool} : (if b = true then PV.bl true else PV.bl c) = PV.bl (b || c) := by cases b <;> rfl
@[simp] theorem ite_blF {b c : Bool} : (if b = true then PV.bl c else PV.bl false) = PV.bl (b && c) := by cases b <;> rfl
end
/-! indices, slices -/
section
variable {xs : List PV} {i j k : Nat} {x : PV}
theorem ixN_nat {n : Nat} : ixN n (k : Int) = if k < n then some k else none := by
  unfold ixN
  rw [if_pos (by omega)]
  by_cases h : k < n
  · rw [if_pos (by omega), if_pos h]; simp
  · rw [if_neg (by omega), if_neg h]
@[simp] theorem ixV_nat : ixV xs (k : Int) = xs[k]? := by
  unfold ixV
  rw [ixN_nat]
  split
  · rfl
  · simp; omega
@[simp] theorem ixV_0 : ixV xs 0 = xs[0]? := ixV_nat (k := 0)
@[simp] theorem ixV_1 : ixV xs 1 = xs[1]? := ixV_nat (k := 1)
@[simp] theorem ixV_2 : ixV xs 2 = xs[2]? := ixV_nat (k := 2)
@[simp] theorem ixV_3 : ixV xs 3 = xs[3]? := ixV_nat (k := 3)
@[simp] theorem ixV_4 : ixV xs 4 = xs[4]? := ixV_nat (k := 4)
@[simp] theorem ixN_0 {n : Nat} : ixN n 0 = if 0 < n then some 0 else none := ixN_nat (k := 0)
@[simp] theorem ixN_1 {n : Nat} : ixN n 1 = if 1 < n then some 1 else none := ixN_nat (k := 1)
@[simp] theorem ixN_2 {n : Nat} : ixN n 2 = if 2 < n then some 2 else none := ixN_nat (k := 2)
@[simp] theorem ixN_3 {n : Nat} : ixN n 3 = if 3 < n then some 3 else none := ixN_nat (k := 3)
@[simp] theorem ixN_4 {n : Nat} : ixN n 4 = if 4 < n then some 4 else none := ixN_nat (k := 4)
theorem sIx_nat {n d : Nat} : sIx n d (some (k : Int)) = min k n := by
  unfold sIx
  simp only
  rw [if_neg (by omega)]
  simp
theorem sIx_none {n d : Nat} : sIx n d none = d := rfl
@[simp] theorem cut_from : cut xs (some (k : Int)) none = xs.drop k := by
  unfold cut
  rw [sIx_nat, sIx_none]
  by_cases h : k ≤ xs.length
  · rw [Nat.min_eq_left h]
    exact List.take_of_length_le (by simp)
  · rw [Nat.min_eq_right (by omega), List.drop_eq_nil_of_le (by omega), List.drop_eq_nil_of_le (by omega)]; simp
@[simp] theorem cut_to : cut xs none (some (k : Int)) = xs.take k := by
  unfold cut
  rw [sIx_nat, sIx_none]
  simp only [List.drop_zero, Nat.sub_zero]
  by_cases h : k ≤ xs.length
  · rw [Nat.min_eq_left h]
  · rw [Nat.min_eq_right (by omega), List.take_of_length_le (Nat.le_refl _), List.take_of_length_le (by omega)]
@[simp] theorem cut_1 : cut xs (some 1) none = xs.drop 1 := cut_from (k := 1)
@[simp] theorem cut_2 : cut xs (some 2) none = xs.drop 2 := cut_from (k := 2)
@[simp] theorem cut_3 : cut xs (some 3) none = xs.drop 3 := cut_from (k := 3)
@[simp] theorem cut_t1 : cut xs none (some 1) = xs.take 1 := cut_to (k := 1)
@[simp] theorem cut_t2 : cut xs none (some 2) = xs.take 2 := cut_to (k := 2)
@[simp] theorem cut_m1 : cut xs none (some (-1)) = xs.dropLast := by
  unfold cut
  rw [sIx_none]
  simp only [List.drop_zero, Nat.sub_zero]
  have : sIx xs.length xs.length (some (-1)) = xs.length - 1 := by
    unfold sIx
    simp only
    rw [if_pos (by omega)]
    omega
  rw [this, List.dropLast_eq_take]
@[simp] theorem cut_l1 : cut xs (some (-1)) none = xs.drop (xs.length - 1) := by
  unfold cut
  have : sIx xs.length 0 (some (-1)) = xs.length - 1 := by
    unfold sIx
    simp only
    rw [if_pos (by omega)]
    omega
  rw [this, sIx_none]
  exact List.take_of_length_le (by simp)
end
/-! runs told by what they end in -/
def Ou.wp (o : Ou) (N : Fr → Sto → Prop) (R : PV → Sto → Prop) : Prop := match o with
  | .nx fr S => N fr S
  | .rt t S => R t S
  | _ => False
section
variable {N N' : Fr → Sto → Prop} {R R' : PV → Sto → Prop} {fr : Fr} {S : Sto} {t x : PV} {a b : SS} {o : Ou} {xs : List PV} {tg : TgS}
@[simp] theorem wp_nx : (Ou.nx fr S).wp N R = N fr S := rfl
@[simp] theorem wp_rt : (Ou.rt t S).wp N R = R t S := rfl
@[simp] theorem wp_bad : Ou.bad.wp N R = False := rfl
theorem wp_mono (h : o.wp N R) (hN : ∀ fr S, N fr S → N' fr S) (hR : ∀ t S, R t S → R' t S) : o.wp N' R' := by
  cases o with
  | nx fr S => exact hN _ _ h
  | rt t S => exact hR _ _ h
  | _ => exact h
theorem wp_seq {o : Ou} {b : SS} (h : o.wp (fun fr S => (b fr S).wp N R) R) : (o.seq b).wp N R := by
  cases o with
  | nx fr S => exact h
  | rt t S => exact h
  | _ => exact h.elim
theorem wp_turn {o : Ou} {b : SS} (h : o.wp (fun fr S => (b fr S).wp N R) R) : (o.turn b).wp N R := by
  cases o with
  | nx fr S => exact h
  | rt t S => exact h
  | _ => exact h.elim
theorem wp_for (I : Nat → Fr → Sto → Prop) : ∀ {xs : List PV} {fr : Fr} {S : Sto} (k : Nat), I k fr S → (∀ j x fr S, I (k + j) fr S → xs[j]? = some x → ∃ fr1, tg x fr = some fr1 ∧ (b fr1 S).wp (I (k + j + 1)) R) → (forGo tg b xs fr S).wp (I (k + xs.length)) R
  | [], fr, S, k, h, _ => h
  | x :: xs, fr, S, k, h, st => by
    rw [forGo_con]
    obtain ⟨fr1, e, w⟩ := st 0 x fr S h rfl
    rw [e]
    simp only [Option.elim_some]
    cases e2 : b fr1 S with
    | nx fr2 S2 =>
      rw [e2] at w
      have := wp_for I (xs := xs) (k + 1) w fun j y fr S i ey => by
        have := st (j + 1) y fr S (by rw [show k + (j + 1) = k + 1 + j by omega]; exact i) (by simpa using ey)
        rw [show k + 1 + j + 1 = k + (j + 1) + 1 by omega]
        exact this
      rw [List.length_cons, show k + (xs.length + 1) = k + 1 + xs.length by omega]
      exact this
    | rt t S2 => rw [e2] at w; exact w
    | _ => rw [e2] at w; exact w.elim
theorem fn_wp {ps ns : Nat} {k : SS} {as : List Sl} (hl : as.length = ps) (h : (k (pad ns as) S).wp (fun _ S1 => R .non S1) R) : ∃ t S1, fn ps ns k as S = .ok t S1 ∧ R t S1 := by
  rw [fn_ap, if_pos hl]
  cases e : k (pad ns as) S with
  | nx fr S1 => rw [e] at h; exact ⟨_, _, rfl, h⟩
  | rt t S1 => rw [e] at h; exact ⟨_, _, rfl, h⟩
  | _ => rw [e] at h; exact h.elim
/-- the first that p holds of is given back -/
theorem for_find {i : Nat} {p : PV → Bool} {f : PV → PV} (h : ∀ x ∈ xs, b (fr.set i (.va x)) S = if p x then .rt (f x) S else .nx (fr.set i (.va x)) S) :
    ∃ fr', forGo (tN i) b xs fr S = match xs.find? p with | some x => .rt (f x) S | none => .nx fr' S := by
  have key : ∀ (xs : List PV) (fr0 : Fr), (∀ y, fr0.set i (.va y) = fr.set i (.va y)) → (∀ x ∈ xs, b (fr.set i (.va x)) S = if p x then .rt (f x) S else .nx (fr.set i (.va x)) S) → ∃ fr', forGo (tN i) b xs fr0 S = match xs.find? p with | some x => .rt (f x) S | none => .nx fr' S := by
    intro xs
    induction xs with
    | nil => exact fun fr0 _ _ => ⟨fr0, rfl⟩
    | cons x xs ih =>
      intro fr0 e h
      rw [forGo_con]
      simp only [tN, Option.elim_some, e x]
      rw [h x (by simp)]
      cases hp : p x with
      | true => exact ⟨fr, by simp [hp]⟩
      | false =>
        simp only [Bool.false_eq_true, if_false, turn_nx]
        obtain ⟨fr', e'⟩ := ih (fr.set i (.va x)) (fun y => by rw [List.set_set]) fun y hy => h y (by simp [hy])
        exact ⟨fr', by rw [e']; simp [hp]⟩
  exact key xs fr (fun _ => rfl) h
theorem for_findI {α : Type} {l : List α} {g : α → PV} {i : Nat} {p : α → Bool} {f : α → PV} (h : ∀ x ∈ l, b (fr.set i (.va (g x))) S = if p x then .rt (f x) S else .nx (fr.set i (.va (g x))) S) :
    ∃ fr', forGo (tN i) b (l.map g) fr S = match l.find? p with | some x => .rt (f x) S | none => .nx fr' S := by
  have key : ∀ (l : List α) (fr0 : Fr), (∀ y, fr0.set i (.va y) = fr.set i (.va y)) → (∀ x ∈ l, b (fr.set i (.va (g x))) S = if p x then .rt (f x) S else .nx (fr.set i (.va (g x))) S) → ∃ fr', forGo (tN i) b (l.map g) fr0 S = match l.find? p with | some x => .rt (f x) S | none => .nx fr' S := by
    intro l
    induction l with
    | nil => exact fun fr0 _ _ => ⟨fr0, rfl⟩
    | cons x xs ih =>
      intro fr0 e h
      rw [List.map_cons, forGo_con]
      simp only [tN, Option.elim_some, e (g x)]
      rw [h x (by simp)]
      cases hp : p x with
      | true => exact ⟨fr, by simp [hp]⟩
      | false =>
        simp only [Bool.false_eq_true, if_false, turn_nx]
        obtain ⟨fr', e'⟩ := ih (fr.set i (.va (g x))) (fun y => by rw [List.set_set]) fun y hy => h y (by simp [hy])
        exact ⟨fr', by rw [e']; simp [hp]⟩
  exact key l fr (fun _ => rfl) h
end
end Q
/-! Qv: the law's draws (the hand of 81..99). -/
namespace Q
open PySem
/-- the hand, whatever it holds -/
def HOk (S : Sto) : Prop := ∃ (cs : List Int) (i : Nat) (b h n : Int), S = [.lst [.lst (cs.map .int), .int (i : Int), .int b, .int h, .int n]] ∧ (∀ c ∈ cs, 0 ≤ c) ∧ 0 ≤ b
theorem small_mod {a m : Int} (h : 0 < m) (hm : m < 2 ^ 64) : small (a.fmod m) = true := by
  unfold small
  have h1 := Int.fmod_nonneg_of_pos a h
  have h2 := Int.fmod_lt_of_pos a h
  simp
  omega
theorem small_r {a b : Int} (h : small b = true) : (small a || small b) = true := by rw [h, Bool.or_true]
theorem small_l {a b : Int} (h : small a = true) : (small a || small b) = true := by rw [h, Bool.true_or]
def drawA : SS := (sIf (bAnd (bCm .eq (eIxS (eP 0) (eC (.int 2))) (eC (.int 0))) (bCm .lt (eIxS (eP 0) (eC (.int 1))) (eBi bLen (aC (eIxS (eP 0) (eC (.int 0))) aN)))) (sSeq (sSet 3 (eIx (eIxS (eP 0) (eC (.int 0))) (eIxS (eP 0) (eC (.int 1))))) (sSeq (sPutS (eP 0) (eC (.int 1)) (eOp .add (eIxS (eP 0) (eC (.int 1))) (eC (.int 1)))) (sSeq (sPutS (eP 0) (eC (.int 3)) (eOp .mod (eBi bInt (aC (eOp .add (eOp .add (eOp .mul (eIxS (eP 0) (eC (.int 3))) (eC (.int 69621))) (eOp .mul (eP 3) (eC (.int 16)))) (eC (.int 29))) aN)) (eC (.int 2147483629)))) (sSeq (sIf (bCm .ge (eP 3) (eOp .pow (eC (.int 10)) (eC (.int 18)))) (sSeq (sPutS (eP 0) (eC (.int 2)) (eV 3)) sNil) sNil) sNil)))) sNil)
def drawB : SS := (sSeq (sIf (bCm .gt (eIxS (eP 0) (eC (.int 2))) (eC (.int 0))) (sSeq (sSet 4 (eOp .mod (eBi bInt (aC (eIxS (eP 0) (eC (.int 2))) aN)) (eP 1))) (sSeq (sPutS (eP 0) (eC (.int 2)) (eOp .fdiv (eIxS (eP 0) (eC (.int 2))) (eP 1))) (sSeq (sRet (eV 4)) sNil))) sNil) (sSeq (sPutS (eP 0) (eC (.int 4)) (eOp .add (eIxS (eP 0) (eC (.int 4))) (eC (.int 1)))) (sSeq (sSet 2 (eOp .mod (eBi bInt (aC (eOp .mul (eBi bInt (aC (eOp .add (eIxS (eP 0) (eC (.int 3))) (eOp .mul (eC (.int 7919)) (eIxS (eP 0) (eC (.int 4))))) aN)) (eC (.int 48271))) aN)) (eC (.int 2147483647)))) (sSeq (sSet 2 (eOp .mod (eBi bInt (aC (eOp .mul (eP 2) (eOp .add (eOp .fdiv (eP 2) (eC (.int 1009))) (eC (.int 69621)))) aN)) (eC (.int 2147483647)))) (sSeq (sSet 2 (eOp .mod (eBi bInt (aC (eOp .mul (eP 2) (eOp .add (eOp .fdiv (eP 2) (eC (.int 2003))) (eC (.int 40692)))) aN)) (eC (.int 2147483399)))) (sSeq (sRet (eOp .mod (eBi bInt (aC (eOp .fdiv (eP 2) (eC (.int 16))) aN)) (eP 1))) sNil))))))
def F_draw : FN := fn 2 5 (sSeq drawA drawB)
def F_any : FN := fn 2 2 (sSeq (sRet (eIx (eP 1) (eCall F_draw (gV (eV 0) (gV (eBi bLen (aC (eP 1) aN)) gN))))) sNil)
@[simp] theorem sm1 : small 69621 = true := by decide
@[simp] theorem sm2 : small 16 = true := by decide
@[simp] theorem sm3 : small 7919 = true := by decide
@[simp] theorem sm4 : small 48271 = true := by decide
@[simp] theorem sm5 {a : Int} : small (a.fmod 2147483647) = true := small_mod (by decide) (by decide)
theorem drawA_ok {S : Sto} {m : Int} (h : HOk S) : ∃ x3 S1, drawA [.va (.ref 0), .va (.int m), .no, .no, .no] S = .nx [.va (.ref 0), .va (.int m), .no, x3, .no] S1 ∧ HOk S1 := by
  obtain ⟨cs, i, b, h, n, rfl, hc, hb⟩ := h
  by_cases c1 : b = 0
  · subst c1
    by_cases c2 : i < cs.length
    · have e : (cs.map PV.int)[i]? = some (.int cs[i]) := by simp [c2]
      by_cases c3 : 1000000000000000000 ≤ cs[i]
      · simp [drawA, PV.isD, peq, c2, small, c3]
        exact ⟨_, _, ⟨rfl, rfl⟩, cs, i + 1, _, _, n, rfl, hc, hc _ (List.getElem_mem c2)⟩
      · simp [drawA, PV.isD, peq, c2, small, c3]
        exact ⟨_, _, ⟨rfl, rfl⟩, cs, i + 1, _, _, n, rfl, hc, hb⟩
    · simp [drawA, PV.isD, peq, c2]
      exact ⟨_, _, ⟨rfl, rfl⟩, cs, i, _, _, n, rfl, hc, hb⟩
  · simp [drawA, PV.isD, peq, c1]
    exact ⟨_, _, ⟨rfl, rfl⟩, cs, i, b, h, n, rfl, hc, hb⟩
theorem drawB_ok {S : Sto} {m : Int} {x3 : Sl} (h : HOk S) (hm : 0 < m) (hm2 : m < 1073741824) : ∃ d S1, drawB [.va (.ref 0), .va (.int m), .no, x3, .no] S = .rt (.int d) S1 ∧ 0 ≤ d ∧ d < m ∧ HOk S1 := by
  obtain ⟨cs, i, b, h, n, rfl, hc, hb⟩ := h
  have m0 : m ≠ 0 := by omega
  have m1 : m.natAbs < 1073741824 := by omega
  by_cases c1 : 0 < b
  · simp [drawB, PV.isD, peq, c1, m0, m1]
    exact ⟨_, _, ⟨rfl, rfl⟩, Int.fmod_nonneg_of_pos _ hm, Int.fmod_lt_of_pos _ hm, cs, i, _, _, _, rfl, hc, Int.fdiv_nonneg hb (by omega)⟩
  · simp [drawB, PV.isD, peq, c1, m0, m1]
    exact ⟨_, _, ⟨rfl, rfl⟩, Int.fmod_nonneg_of_pos _ hm, Int.fmod_lt_of_pos _ hm, cs, i, _, _, _, rfl, hc, hb⟩
/-- a draw -/
theorem draw_ok {S : Sto} {m : Int} (h : HOk S) (hm : 0 < m) (hm2 : m < 1073741824) : ∃ d S', F_draw [.va (.ref 0), .va (.int m)] S = .ok (.int d) S' ∧ 0 ≤ d ∧ d < m ∧ HOk S' := by
  obtain ⟨x3, S1, e1, h1⟩ := drawA_ok (m := m) h
  obtain ⟨d, S2, e2, a, b, h2⟩ := drawB_ok (x3 := x3) h1 hm hm2
  refine ⟨d, S2, ?_, a, b, h2⟩
  simp [F_draw, pad, e1, e2]
theorem hand_ok0 (f : Nat → Int) (ns : List Int) : HOk [.lst [.lst ((ns.map fun n => if n < 0 then -n else n).map .int), .int 0, .int 0, .int (f ns.length), .int 0]] := by
  refine ⟨_, 0, 0, _, 0, rfl, fun c hc => ?_, by decide⟩
  obtain ⟨n, _, rfl⟩ := List.mem_map.mp hc
  split <;> omega
end Q
/-! Qx: typed data as trees: order, keys, sorting, dicts. -/
namespace Q
open PySem
/-! ### linear orders -/
structure Lin {α : Type} (lt : α → α → Bool) : Prop where
  ir : ∀ a, lt a a = false
  tr : ∀ a b c, lt a b = true → lt b c = true → lt a c = true
  tri : ∀ a b, a = b ∨ lt a b = true ∨ lt b a = true
section
variable {α β γ : Type} {lt : α → α → Bool}
theorem Lin.as (h : Lin lt) {a b : α} (e : lt a b = true) : lt b a = false := by
  cases x : lt b a with
  | false => rfl
  | true =>
    have := h.tr _ _ _ e x
    rw [h.ir] at this
    exact nomatch this
def sortL (lt : α → α → Bool) (l : List α) : List α := l.mergeSort fun a b => !lt b a
theorem sortL_perm {l : List α} : (sortL lt l).Perm l := List.mergeSort_perm ..
theorem mem_sortL {l : List α} {x : α} : x ∈ sortL lt l ↔ x ∈ l := sortL_perm.mem_iff
theorem sortL_le (h : Lin lt) {l : List α} : (sortL lt l).Pairwise fun a b => (!lt b a) = true :=
  List.pairwise_mergeSort (fun a b c h1 h2 => by
    cases e : lt c a with
    | false => rfl
    | true =>
      simp only [Bool.not_eq_true'] at h1 h2
      rcases h.tri a b with rfl | z | z
      · rw [e] at h2; exact nomatch h2
      · rw [h.tr _ _ _ e z] at h2; exact nomatch h2
      · rw [z] at h1; exact nomatch h1) (fun a b => by
    cases e : lt b a with
    | false => rfl
    | true => simp [h.as e]) l
theorem sorted_ext (h : Lin lt) : ∀ {l m : List α}, l.Pairwise (fun a b => lt a b = true) → m.Pairwise (fun a b => lt a b = true) → (∀ x, x ∈ l ↔ x ∈ m) → l = m
  | [], [], _, _, _ => rfl
  | [], b :: m, _, _, e => absurd ((e b).mpr (by simp)) (by simp)
  | a :: l, [], _, _, e => absurd ((e a).mp (by simp)) (by simp)
  | a :: l, b :: m, p, q, e => by
    rw [List.pairwise_cons] at p q
    have ab : a = b := by
      rcases h.tri a b with z | z | z
      · exact z
      · have := (e a).mp (by simp)
        rcases List.mem_cons.mp this with y | y
        · exact y
        · have := h.as (q.1 a y); rw [z] at this; exact nomatch this
      · have := (e b).mpr (by simp)
        rcases List.mem_cons.mp this with y | y
        · exact y.symm
        · have := h.as (p.1 b y); rw [z] at this; exact nomatch this
    subst ab
    rw [sorted_ext h p.2 q.2 fun x => ?_]
    have n1 : a ∉ l := fun z => by have := p.1 a z; rw [h.ir] at this; exact nomatch this
    have n2 : a ∉ m := fun z => by have := q.1 a z; rw [h.ir] at this; exact nomatch this
    constructor
    · intro hx
      rcases List.mem_cons.mp ((e x).mp (List.mem_cons_of_mem _ hx)) with y | y
      · subst y; exact absurd hx n1
      · exact y
    · intro hx
      rcases List.mem_cons.mp ((e x).mpr (List.mem_cons_of_mem _ hx)) with y | y
      · subst y; exact absurd hx n2
      · exact y
theorem sortL_lt (h : Lin lt) {l : List α} (n : l.Nodup) : (sortL lt l).Pairwise fun a b => lt a b = true := by
  have p := sortL_le h (l := l)
  have q : (sortL lt l).Nodup := sortL_perm.nodup_iff.mpr n
  exact List.Pairwise.imp₂ (fun a b x y => by
    rcases h.tri a b with z | z | z
    · exact absurd z y
    · exact z
    · rw [z] at x; exact nomatch x) p q
theorem sortL_eq (h : Lin lt) {l m : List α} (n : l.Nodup) (p : m.Pairwise fun a b => lt a b = true) (e : ∀ x, x ∈ l ↔ x ∈ m) : sortL lt l = m :=
  sorted_ext h (sortL_lt h n) p fun x => by rw [mem_sortL]; exact e x
theorem pw_nodup (h : Lin lt) {l : List α} (p : l.Pairwise fun a b => lt a b = true) : l.Nodup :=
  p.imp fun {a b} x y => by subst y; rw [h.ir] at x; exact nomatch x
theorem lin_int : Lin fun a b : Int => decide (a < b) := ⟨by simp, fun a b c => by simp; omega, fun a b => by simp; omega⟩
def ilt : List Int → List Int → Bool
  | _, [] => false
  | [], _ :: _ => true
  | x :: xs, y :: ys => if x = y then ilt xs ys else decide (x < y)
theorem ilt_ir : ∀ a, ilt a a = false
  | [] => rfl
  | x :: xs => by simp [ilt, ilt_ir xs]
theorem ilt_tr : ∀ a b c, ilt a b = true → ilt b c = true → ilt a c = true
  | _, [], _, h, _ => by cases ‹List Int› <;> simp [ilt] at h
  | a, b :: bs, [], _, h => by simp [ilt] at h
  | [], b :: bs, c :: cs, _, _ => rfl
  | a :: as, b :: bs, c :: cs, h1, h2 => by
    simp only [ilt] at h1 h2 ⊢
    by_cases ab : a = b
    · subst ab
      by_cases bc : a = c
      · subst bc
        simp only [if_true] at h1 h2 ⊢
        exact ilt_tr _ _ _ h1 h2
      · simp only [if_neg bc] at h2 ⊢
        exact h2
    · simp only [if_neg ab, decide_eq_true_eq] at h1
      by_cases bc : b = c
      · subst bc
        simp only [if_neg ab, decide_eq_true_eq]
        exact h1
      · simp only [if_neg bc, decide_eq_true_eq] at h2
        have : a ≠ c := by omega
        simp only [if_neg this, decide_eq_true_eq]
        omega
theorem ilt_tri : ∀ a b, a = b ∨ ilt a b = true ∨ ilt b a = true
  | [], [] => .inl rfl
  | [], _ :: _ => .inr (.inl rfl)
  | _ :: _, [] => .inr (.inr rfl)
  | a :: as, b :: bs => by
    simp only [ilt]
    by_cases ab : a = b
    · subst ab
      simp only [if_true, List.cons.injEq, true_and]
      exact ilt_tri as bs
    · have : b ≠ a := fun e => ab e.symm
      simp only [if_neg ab, if_neg this, decide_eq_true_eq]
      omega
theorem lin_ilt : Lin ilt := ⟨ilt_ir, ilt_tr, ilt_tri⟩
/-! ### typed data -/
structure Em [DecidableEq α] (f : α → PV) (lt : α → α → Bool) : Prop where
  eq : ∀ a b, peq (f a) (f b) = decide (a = b)
  lt : ∀ a b, plt (f a) (f b) = lt a b
  pal : ∀ a b, pal (f a) (f b) = true
  d : ∀ a, (f a).isD 60 = true
theorem em_int : Em PV.int fun a b => decide (a < b) := ⟨fun a b => by rw [peq]; by_cases h : a = b <;> simp [h], fun a b => rfl, fun a b => rfl, fun a => rfl⟩
def ti (l : List Int) : PV := .tup (l.map .int)
theorem areD_ints {n : Nat} : ∀ {l : List Int}, areD n (l.map .int) = true
  | [] => by simp [areD]
  | x :: l => by simp [areD, PV.isD, areD_ints]
@[simp] theorem isD_ti {n : Nat} {l : List Int} : (ti l).isD (n + 1) = true := by simp [ti, PV.isD, areD_ints]
theorem peqs_ints : ∀ {a b : List Int}, peqs (a.map .int) (b.map .int) = decide (a = b)
  | [], [] => by simp [peqs]
  | [], _ :: _ => by simp [peqs]
  | _ :: _, [] => by simp [peqs]
  | x :: a, y :: b => by
    simp only [List.map_cons, peqs, peq, peqs_ints, List.cons.injEq]
    by_cases h : x = y <;> simp [h]
@[simp] theorem peq_ti {a b : List Int} : peq (ti a) (ti b) = decide (a = b) := by simp [ti, peq, peqs_ints]
theorem pals_ints : ∀ {a b : List Int}, pals (a.map .int) (b.map .int) = true
  | [], _ => by simp [pals]
  | _ :: _, [] => by simp [pals]
  | x :: a, y :: b => by simp [pals, pal, pals_ints]
theorem plts_ints : ∀ {a b : List Int}, plts (a.map .int) (b.map .int) = ilt a b
  | [], [] => by simp [plts, ilt]
  | [], _ :: _ => by simp [plts, ilt]
  | _ :: _, [] => by simp [plts, ilt]
  | x :: a, y :: b => by
    simp only [List.map_cons, plts, ilt, peq, plt, plts_ints]
    by_cases h : x = y <;> simp [h]
@[simp] theorem pal_ti {a b : List Int} : pal (ti a) (ti b) = true := by simp [ti, pal, pals_ints]
@[simp] theorem plt_ti {a b : List Int} : plt (ti a) (ti b) = ilt a b := by simp [ti, plt, plts_ints]
theorem em_ti : Em ti ilt := ⟨fun _ _ => peq_ti, fun _ _ => plt_ti, fun _ _ => pal_ti, fun _ => isD_ti⟩
variable [DecidableEq α] {f : α → PV} {g : β → PV}
theorem Em.are (h : Em f lt) : ∀ {l : List α}, areD 60 (l.map f) = true
  | [] => by simp [areD]
  | x :: l => by simp [areD, h.d, Em.are h]
theorem Em.any (h : Em f lt) {x : α} {l : List α} : (l.map f).any (fun y => peq y (f x)) = decide (x ∈ l) := by
  induction l with
  | nil => rfl
  | cons y l ih =>
    simp only [List.map_cons, List.any_cons, h.eq, ih, List.mem_cons]
    by_cases e : y = x
    · simp [e]
    · have e' : ¬x = y := fun z => e z.symm
      simp [e, e']
theorem Em.inT (h : Em f lt) {x : α} {l : List α} : inV (f x) (.tup (l.map f)) = some (decide (x ∈ l)) := by
  rw [inV_tup, h.any, show deep = 60 from rfl, h.d, h.are]; rfl
theorem Em.inL (h : Em f lt) {x : α} {l : List α} : inV (f x) (.lst (l.map f)) = some (decide (x ∈ l)) := by
  rw [inV_lst, h.any, show deep = 60 from rfl, h.d, h.are]; rfl
theorem Em.sort (h : Em f lt) (ht : (∀ a, (f a).isTup = true) ∨ ∀ a, (f a).isNon' = false ∧ (f a).isTup = false) {l : List α} : sortV (l.map f) = some ((sortL lt l).map f) := by
  have ok : sortOk (l.map f) = true := by
    unfold sortOk
    rw [h.are]
    simp only [List.all_map, Function.comp_def, Bool.true_and, Bool.and_eq_true, Bool.or_eq_true, List.all_eq_true, Bool.not_eq_true']
    refine ⟨fun a _ b _ => h.pal a b, ?_⟩
    rcases ht with t | t
    · exact .inl fun a _ => t a
    · exact .inr fun a _ => t a
  unfold sortV sortL
  rw [ok, List.map_mergeSort (s := fun a b => !plt b a) fun a _ b _ => by rw [h.lt]]
  rfl
theorem sort_ti {l : List (List Int)} : sortV (l.map ti) = some ((sortL ilt l).map ti) := em_ti.sort (.inl fun _ => rfl)
theorem sort_int {l : List Int} : sortV (l.map .int) = some ((sortL (fun a b => decide (a < b)) l).map .int) := em_int.sort (.inr fun _ => ⟨rfl, rfl⟩)
/-! ### dicts -/
def aput (d : List (α × β)) (x : α) (y : β) : List (α × β) := if d.any (fun p => decide (p.1 = x)) then d.map fun p => if p.1 = x then (p.1, y) else p else d ++ [(x, y)]
def alk : List (α × β) → α → Option β
  | [], _ => none
  | (k, v) :: d, x => if k = x then some v else alk d x
def dc (f : α → PV) (g : β → PV) (d : List (α × β)) : PV := .dct (d.map fun p => f p.1) (d.map fun p => g p.2)
theorem Em.at (h : Em f lt) {x : α} : ∀ {d : List (α × β)}, dAt (d.map fun p => f p.1) (d.map fun p => g p.2) (f x) = (alk d x).map g
  | [] => rfl
  | (k, v) :: d => by
    simp only [List.map_cons, dAt, h.eq, alk, Em.at h]
    by_cases e : k = x <;> simp [e]
theorem Em.set (h : Em f lt) {d : List (α × β)} {x : α} {y : β} : dSet (d.map fun p => f p.1) (d.map fun p => g p.2) (f x) (g y) = ((aput d x y).map fun p => f p.1, (aput d x y).map fun p => g p.2) := by
  unfold dSet aput
  simp only [List.any_map, Function.comp_def, h.eq]
  by_cases e : (d.any fun p => decide (p.1 = x)) = true
  · simp only [e, if_true, List.map_map, Function.comp_def, Prod.mk.injEq]
    constructor
    · apply List.map_congr_left
      intro p _
      by_cases z : p.1 = x <;> simp [z]
    · clear e
      induction d with
      | nil => rfl
      | cons p d ih =>
        simp only [List.map_cons, List.zipWith_cons_cons, h.eq, ih, List.cons.injEq, and_true]
        by_cases z : p.1 = x <;> simp [z]
  · simp [e]
theorem tkeys_map (h : ∀ a, (f a).tkey.isSome = true) : ∀ {l : List α}, (tkeys (l.map f)).isSome = true
  | [] => rfl
  | x :: l => by
    have e := h x
    have e2 := tkeys_map h (l := l)
    rw [Option.isSome_iff_exists] at e e2 ⊢
    obtain ⟨k, e⟩ := e
    obtain ⟨ks, e2⟩ := e2
    exact ⟨k :: ks, by simp [tkeys, e, e2]⟩
theorem fkeys_map (h : ∀ a, (f a).fkey.isSome = true) : ∀ {l : List α}, (fkeys (l.map f)).isSome = true
  | [] => rfl
  | x :: l => by
    have e := h x
    have e2 := fkeys_map h (l := l)
    rw [Option.isSome_iff_exists] at e e2 ⊢
    obtain ⟨k, e⟩ := e
    obtain ⟨ks, e2⟩ := e2
    exact ⟨k :: ks, by simp [fkeys, e, e2]⟩
theorem nkeys_ints : ∀ {l : List Int}, nkeys (l.map .int) = some (l.map .num)
  | [] => rfl
  | x :: l => by simp [nkeys, PV.nkey, nkeys_ints]
theorem depths_num : ∀ {l : List Int}, NestedKey.depthAll (l.map .num) ≤ 1
  | [] => by simp [NestedKey.depthAll]
  | x :: l => by have := depths_num (l := l); simp [NestedKey.depthAll, NestedKey.depth]; omega
theorem tkey_ti (l : List Int) : (ti l).tkey.isSome = true := by
  have := depths_num (l := l)
  have d : (NestedKey.tup (l.map .num)).depth ≤ 8 := by show NestedKey.depthAll _ + 1 ≤ 8; omega
  simp only [ti, PV.tkey, PV.nkey, nkeys_ints, Option.map_some, Option.bind_some]
  rw [if_pos d]; rfl
/-- what may be a key -/
def Keyed (f : α → PV) : Prop := (∀ a, (f a).tkey.isSome = true) ∨ ∀ a, (f a).fkey.isSome = true
theorem keyed_ti : Keyed ti := .inl tkey_ti
theorem keyed_int : Keyed PV.int := .inr fun _ => rfl
theorem Keyed.ok (h : Keyed f) {l : List α} {x : α} : dOk (l.map f) (f x) = true := by
  unfold dOk
  rcases h with h | h
  · rw [tkeys_map h, h x]; simp
  · rw [fkeys_map h, h x]; simp
theorem Keyed.oks (h : Keyed f) {l : List α} : keysOk (l.map f) = true := by
  unfold keysOk
  rcases h with h | h
  · rw [tkeys_map h]; simp
  · rw [fkeys_map h]; simp
theorem Em.get (h : Em f lt) (k : Keyed f) {d : List (α × β)} {x : α} : (dc f g d).at_ (f x) = (alk d x).map g := by
  show (if dOk (d.map fun p => f p.1) (f x) then dAt _ _ _ else none) = _
  have := k.ok (l := d.map (·.1)) (x := x)
  simp only [List.map_map, Function.comp_def] at this
  rw [if_pos this, h.at]
theorem Em.inD (h : Em f lt) (k : Keyed f) {d : List (α × β)} {x : α} : inV (f x) (dc f g d) = some (alk d x).isSome := by
  show (if dOk (d.map fun p => f p.1) (f x) then some _ else none) = _
  have := k.ok (l := d.map (·.1)) (x := x)
  simp only [List.map_map, Function.comp_def] at this
  rw [if_pos this, h.at, Option.isSome_map]
theorem Em.put (h : Em f lt) (k : Keyed f) {d : List (α × β)} {x : α} {y : β} (z : d.length < 16777216) : putO (dc f g d) (f x) (g y) = some (dc f g (aput d x y)) := by
  show putO (.dct _ _) _ _ = _
  have := k.ok (l := d.map (·.1)) (x := x)
  simp only [List.map_map, Function.comp_def] at this
  rw [putO_dct, List.length_map, h.set]
  simp [this, z, dc]
def aputs (d : List (α × β)) (l : List (α × β)) : List (α × β) := l.foldl (fun d p => aput d p.1 p.2) d
theorem Em.puts (h : Em f lt) : ∀ {l d : List (α × β)}, dPuts (d.map fun p => f p.1, d.map fun p => g p.2) (l.map fun p => (f p.1, g p.2)) = ((aputs d l).map fun p => f p.1, (aputs d l).map fun p => g p.2)
  | [], d => rfl
  | p :: l, d => by
    have e := Em.puts h (l := l) (d := aput d p.1 p.2)
    unfold dPuts aputs at e ⊢
    simp only [List.map_cons, List.foldl_cons, h.set]
    exact e
theorem allPr_map {l : List (α × β)} : allPr (l.map fun p => .tup [f p.1, g p.2]) = some (l.map fun p => (f p.1, g p.2)) := by
  induction l with
  | nil => rfl
  | cons p l ih => simp [allPr, ih]
theorem Em.dict (h : Em f lt) (k : Keyed f) {l : List (α × β)} : (allPr (l.map fun p => .tup [f p.1, g p.2])).bind dMk = some (dc f g (aputs [] l)) := by
  rw [allPr_map, Option.bind_some]
  unfold dMk
  have e := h.puts (g := g) (l := l) (d := [])
  have := k.oks (l := l.map (·.1))
  simp only [List.map_map, Function.comp_def] at this ⊢
  rw [if_pos this]
  simp only [List.map_nil] at e
  rw [e]; rfl
theorem mem_aput {d : List (α × β)} {x a : α} {y : β} : a ∈ (aput d x y).map (·.1) ↔ a = x ∨ a ∈ d.map (·.1) := by
  unfold aput
  by_cases e : (d.any fun p => decide (p.1 = x)) = true
  · have ek : (d.map fun p => if p.1 = x then (p.1, y) else p).map (·.1) = d.map (·.1) := by
      rw [List.map_map]
      apply List.map_congr_left
      intro p _
      simp only [Function.comp_def]
      split <;> rfl
    rw [if_pos e, ek]
    simp only [List.any_eq_true, decide_eq_true_eq] at e
    obtain ⟨p, hp, rfl⟩ := e
    constructor
    · exact .inr
    · rintro (rfl | h)
      · exact List.mem_map_of_mem hp
      · exact h
  · rw [if_neg e]
    simp [or_comm]
theorem nodup_aput {d : List (α × β)} {x : α} {y : β} (n : (d.map (·.1)).Nodup) : ((aput d x y).map (·.1)).Nodup := by
  unfold aput
  by_cases e : (d.any fun p => decide (p.1 = x)) = true
  · have ek : (d.map fun p => if p.1 = x then (p.1, y) else p).map (·.1) = d.map (·.1) := by
      rw [List.map_map]
      apply List.map_congr_left
      intro p _
      simp only [Function.comp_def]
      split <;> rfl
    rw [if_pos e, ek]; exact n
  · rw [if_neg e, List.map_append, List.nodup_append]
    refine ⟨n, by simp, fun a ha b hb => ?_⟩
    simp only [List.map_cons, List.map_nil, List.mem_singleton] at hb
    subst hb
    rintro rfl
    apply e
    simp only [List.any_eq_true, decide_eq_true_eq]
    obtain ⟨p, hp, z⟩ := List.mem_map.mp ha
    exact ⟨p, hp, z⟩
theorem aput_len {d : List (α × β)} {x : α} {y : β} : (aput d x y).length ≤ d.length + 1 := by
  unfold aput
  split <;> simp
theorem aput_new {d : List (α × β)} {x : α} {y : β} (n : x ∉ d.map (·.1)) : aput d x y = d ++ [(x, y)] := by
  unfold aput
  rw [if_neg]
  simp only [List.any_eq_true, decide_eq_true_eq]
  rintro ⟨p, hp, rfl⟩
  exact n (List.mem_map_of_mem hp)
theorem nodup_len {α : Type} [DecidableEq α] : ∀ {l m : List α}, l.Nodup → (∀ x ∈ l, x ∈ m) → l.length ≤ m.length
  | [], _, _, _ => Nat.zero_le _
  | x :: l, m, n, h => by
    rw [List.nodup_cons] at n
    have := nodup_len (l := l) (m := m.erase x) n.2 fun y hy => by
      have : y ≠ x := fun e => n.1 (e ▸ hy)
      exact (List.mem_erase_of_ne this).mpr (h y (List.mem_cons_of_mem _ hy))
    have hx := h x (by simp)
    rw [List.length_erase_of_mem hx] at this
    have := List.length_pos_of_mem hx
    simp only [List.length_cons]
    omega
end
end Q
/-! Qy: rows of bits, lots, sums of bits. -/
namespace Q
open PySem
def bi (b : Bool) : Int := if b then 1 else 0
theorem bi_inj {a b : Bool} (h : bi a = bi b) : a = b := by cases a <;> cases b <;> first | rfl | exact absurd h (by decide)
theorem map_bi_inj : ∀ {a b : List Bool}, a.map bi = b.map bi → a = b
  | [], [], _ => rfl
  | [], _ :: _, h => by simp at h
  | _ :: _, [], h => by simp at h
  | x :: a, y :: b, h => by
    simp only [List.map_cons, List.cons.injEq] at h
    rw [bi_inj h.1, map_bi_inj h.2]
def rb (r : List Bool) : PV := ti (r.map bi)
def blt (a b : List Bool) : Bool := ilt (a.map bi) (b.map bi)
theorem lin_blt : Lin blt := ⟨fun a => ilt_ir _, fun a b c => ilt_tr _ _ _, fun a b => by
  rcases ilt_tri (a.map bi) (b.map bi) with h | h
  · exact .inl (map_bi_inj h)
  · exact .inr h⟩
theorem em_rb : Em rb blt := ⟨fun a b => by
  rw [rb, rb, peq_ti]
  by_cases h : a = b
  · simp [h]
  · simp only [h, decide_false, decide_eq_false_iff_not]
    exact fun z => h (map_bi_inj z), fun _ _ => plt_ti, fun _ _ => pal_ti, fun _ => isD_ti⟩
theorem keyed_rb : Keyed rb := .inl fun r => tkey_ti _
theorem sort_rb {l : List (List Bool)} : sortV (l.map rb) = some ((sortL blt l).map rb) := em_rb.sort (.inl fun _ => rfl)
/-! ### all rows -/
def bits : Nat → List (List Bool)
  | 0 => [[]]
  | n + 1 => (bits n).flatMap fun r => [r ++ [false], r ++ [true]]
theorem bits_len : ∀ (n : Nat) (b : List Bool), b ∈ bits n → b.length = n
  | 0, b, h => by simp [bits] at h; simp [h]
  | n + 1, b, h => by
    simp only [bits, List.mem_flatMap] at h
    obtain ⟨r, hr, h⟩ := h
    have := bits_len n r hr
    simp only [List.mem_cons, List.not_mem_nil, or_false] at h
    rcases h with h | h <;> simp [h, this]
theorem bits_all : ∀ (n : Nat) (b : List Bool), b.length = n → b ∈ bits n
  | 0, b, h => by
    have : b = [] := List.length_eq_zero_iff.mp h
    simp [bits, this]
  | n + 1, b, h => by
    obtain ⟨r, x, rfl⟩ : ∃ r x, b = r ++ [x] := by
      have hne : b ≠ [] := by intro z; simp [z] at h
      exact ⟨b.dropLast, b.getLast hne, (List.dropLast_concat_getLast hne).symm⟩
    have hr : r.length = n := by simpa using h
    simp only [bits, List.mem_flatMap]
    exact ⟨r, bits_all n r hr, by cases x <;> simp⟩
theorem mem_bits {n : Nat} {b : List Bool} : b ∈ bits n ↔ b.length = n := ⟨bits_len n b, bits_all n b⟩
theorem ilt_app : ∀ {a b c d : List Int}, a.length = b.length → ilt a b = true → ilt (a ++ c) (b ++ d) = true
  | [], [], _, _, _, h => by simp [ilt] at h
  | x :: a, y :: b, c, d, e, h => by
    simp only [List.length_cons, Nat.add_right_cancel_iff] at e
    simp only [ilt, List.cons_append] at h ⊢
    by_cases z : x = y
    · simp only [z, if_true] at h ⊢; exact ilt_app e h
    · simp only [if_neg z] at h ⊢; exact h
theorem ilt_pre : ∀ {a c d : List Int}, ilt (a ++ c) (a ++ d) = ilt c d
  | [], _, _ => rfl
  | x :: a, c, d => by simp [ilt, ilt_pre]
theorem bits_sorted : ∀ n, (bits n).Pairwise fun a b => blt a b = true
  | 0 => by simp [bits]
  | n + 1 => by
    have ih := bits_sorted n
    have hl : ∀ b ∈ bits n, b.length = n := fun b h => bits_len n b h
    unfold bits
    revert ih hl
    generalize bits n = l
    intro ih hl
    induction l with
    | nil => simp
    | cons r l hi =>
      rw [List.pairwise_cons] at ih
      simp only [List.flatMap_cons, List.cons_append, List.nil_append, List.pairwise_cons, List.mem_cons, List.mem_flatMap, List.not_mem_nil, or_false]
      have lr : r.length = n := hl r (by simp)
      have far : ∀ x b, (∃ a ∈ l, b = a ++ [false] ∨ b = a ++ [true]) → blt (r ++ [x]) b = true := by
        rintro x b ⟨a, ha, hb⟩
        have := ih.1 a ha
        have la : a.length = n := hl a (by simp [ha])
        unfold blt at this ⊢
        rcases hb with rfl | rfl <;> (rw [List.map_append, List.map_append]; exact ilt_app (by simp [lr, la]) this)
      refine ⟨?_, fun b hb => far _ b hb, hi ih.2 fun b hb => hl b (by simp [hb])⟩
      rintro b (rfl | hb)
      · unfold blt; rw [List.map_append, List.map_append, ilt_pre]; decide
      · exact far _ b hb
theorem bits_nodup (n : Nat) : (bits n).Nodup := pw_nodup lin_blt (bits_sorted n)
/-- sorted rows of one length are the rows with what holds of them -/
theorem rows_sorted {n : Nat} {l : List (List Bool)} (p : l.Pairwise fun a b => blt a b = true) (hl : ∀ r ∈ l, r.length = n) : l = (bits n).filter fun r => decide (r ∈ l) :=
  sorted_ext lin_blt p ((bits_sorted n).filter _) fun x => by
    simp only [List.mem_filter, mem_bits, decide_eq_true_eq]
    exact ⟨fun h => ⟨hl x h, h⟩, fun h => h.2⟩
theorem sort_rows {n : Nat} {l : List (List Bool)} (nd : l.Nodup) (hl : ∀ r ∈ l, r.length = n) : sortL blt l = (bits n).filter fun r => decide (r ∈ l) :=
  sortL_eq lin_blt nd ((bits_sorted n).filter _) fun x => by
    simp only [List.mem_filter, mem_bits, decide_eq_true_eq]
    exact ⟨fun h => ⟨hl x h, h⟩, fun h => h.2⟩
theorem bits_length : ∀ n, (bits n).length = 2 ^ n
  | 0 => rfl
  | n + 1 => by
    unfold bits
    have : ∀ l : List (List Bool), (l.flatMap fun r => [r ++ [false], r ++ [true]]).length = 2 * l.length := by
      intro l; induction l with
      | nil => rfl
      | cons r l ih => simp only [List.flatMap_cons, List.length_append, ih, List.length_cons, List.length_nil]; omega
    rw [this, bits_length n]; omega
/-! ### lots: the places of a mask -/
def ixF : Nat → List Bool → List Int
  | _, [] => []
  | k, b :: m => if b then (k : Int) :: ixF (k + 1) m else ixF (k + 1) m
def ix (m : List Bool) : List Int := ixF 0 m
theorem mem_ixF : ∀ {m : List Bool} {k : Nat} {i : Int}, i ∈ ixF k m ↔ ∃ j : Nat, i = ((k + j : Nat) : Int) ∧ m[j]? = some true
  | [], k, i => by simp [ixF]
  | b :: m, k, i => by
    have ih := mem_ixF (m := m) (k := k + 1) (i := i)
    have st : (∃ j : Nat, i = ((k + j : Nat) : Int) ∧ (b :: m)[j]? = some true) ↔ (b = true ∧ i = k) ∨ i ∈ ixF (k + 1) m := by
      rw [ih]
      constructor
      · rintro ⟨j, e, h⟩
        cases j with
        | zero => exact .inl ⟨by simpa using h, by simpa using e⟩
        | succ j => exact .inr ⟨j, by rw [e]; congr 1; omega, by simpa using h⟩
      · rintro (⟨rfl, e⟩ | ⟨j, e, h⟩)
        · exact ⟨0, by simpa using e, rfl⟩
        · exact ⟨j + 1, by rw [e]; congr 1; omega, by simpa using h⟩
    rw [st]
    cases b with
    | false => simp [ixF]
    | true => simp [ixF]
theorem mem_ix {m : List Bool} {i : Int} : i ∈ ix m ↔ ∃ j : Nat, i = (j : Int) ∧ m[j]? = some true := by
  unfold ix; rw [mem_ixF]; simp
theorem ixF_sorted : ∀ (m : List Bool) (k : Nat), (ixF k m).Pairwise fun a b => decide (a < b) = true
  | [], _ => by simp [ixF]
  | b :: m, k => by
    have ih := ixF_sorted m (k + 1)
    cases b with
    | false => simpa [ixF] using ih
    | true =>
      simp only [ixF, if_true, List.pairwise_cons]
      refine ⟨fun i hi => ?_, ih⟩
      obtain ⟨j, e, _⟩ := mem_ixF.mp hi
      simp only [decide_eq_true_eq]; omega
theorem ix_sorted (m : List Bool) : (ix m).Pairwise fun a b => decide (a < b) = true := ixF_sorted m 0
theorem ix_nodup (m : List Bool) : (ix m).Nodup := pw_nodup lin_int (ix_sorted m)
theorem ixF_len : ∀ (m : List Bool) (k : Nat), (ixF k m).length ≤ m.length
  | [], _ => by simp [ixF]
  | b :: m, k => by
    have := ixF_len m (k + 1)
    cases b <;> simp [ixF] <;> omega
theorem ix_len (m : List Bool) : (ix m).length ≤ m.length := ixF_len m 0
theorem ix_inj {a b : List Bool} (e : a.length = b.length) (h : ix a = ix b) : a = b := by
  apply List.ext_getElem e
  intro j h1 h2
  have m1 : ((j : Int) ∈ ix a) ↔ ((j : Int) ∈ ix b) := by rw [h]
  rw [mem_ix, mem_ix] at m1
  have f : ∀ {l : List Bool} (hl : j < l.length), (∃ i : Nat, (j : Int) = (i : Int) ∧ l[i]? = some true) ↔ l[j] = true := by
    intro l hl
    constructor
    · rintro ⟨i, e, h⟩
      have : i = j := by omega
      subst this
      rw [List.getElem?_eq_getElem hl] at h
      exact Option.some.inj h
    · intro h; exact ⟨j, rfl, by rw [List.getElem?_eq_getElem hl, h]⟩
  rw [f h1, f h2] at m1
  cases x : a[j] <;> cases y : b[j] <;> simp_all
/-- sums of masks -/
def vx (a b : List Bool) : List Bool := List.zipWith xor a b
theorem vx_len {a b : List Bool} (e : a.length = b.length) : (vx a b).length = a.length := by simp [vx, e]
theorem vx_at {a b : List Bool} {j : Nat} (h1 : j < a.length) (h2 : j < b.length) : (vx a b)[j]? = some (xor a[j] b[j]) := by
  simp [vx, List.getElem?_zipWith, List.getElem?_eq_getElem h1, List.getElem?_eq_getElem h2]
/-- what one of two lots has alone, sorted -/
theorem ix_vx {a b : List Bool} (e : a.length = b.length) :
    sortL (fun x y => decide (x < y)) ((ix a).filter (fun i => decide (i ∉ ix b)) ++ (ix b).filter fun i => decide (i ∉ ix a)) = ix (vx a b) := by
  refine sortL_eq lin_int ?_ (ix_sorted _) fun i => ?_
  · rw [List.nodup_append]
    refine ⟨(ix_nodup a).filter _, (ix_nodup b).filter _, fun x hx y hy => ?_⟩
    simp only [List.mem_filter, decide_eq_true_eq] at hx hy
    rintro rfl
    exact hx.2 hy.1
  · simp only [List.mem_append, List.mem_filter, decide_eq_true_eq, mem_ix]
    have key : ∀ j : Nat, (vx a b)[j]? = some true ↔ (a[j]? = some true ∧ ¬ b[j]? = some true) ∨ (b[j]? = some true ∧ ¬ a[j]? = some true) := by
      intro j
      by_cases h1 : j < a.length
      · have h2 : j < b.length := e ▸ h1
        rw [vx_at h1 h2, List.getElem?_eq_getElem h1, List.getElem?_eq_getElem h2]
        cases a[j] <;> cases b[j] <;> simp
      · have h2 : ¬ j < b.length := e ▸ h1
        have h3 : ¬ j < (vx a b).length := by rw [vx_len e]; exact h1
        simp only [Nat.not_lt] at h1 h2 h3
        rw [List.getElem?_eq_none h1, List.getElem?_eq_none h2, List.getElem?_eq_none h3]; simp
    constructor
    · rintro (⟨⟨j, rfl, h⟩, n⟩ | ⟨⟨j, rfl, h⟩, n⟩)
      · exact ⟨j, rfl, (key j).mpr (.inl ⟨h, fun z => n ⟨j, rfl, z⟩⟩)⟩
      · exact ⟨j, rfl, (key j).mpr (.inr ⟨h, fun z => n ⟨j, rfl, z⟩⟩)⟩
    · rintro ⟨j, rfl, h⟩
      rcases (key j).mp h with ⟨h1, h2⟩ | ⟨h1, h2⟩
      · exact .inl ⟨⟨j, rfl, h1⟩, fun ⟨i, e, z⟩ => h2 (by have : i = j := by omega
                                                          rw [← this]; exact z)⟩
      · exact .inr ⟨⟨j, rfl, h1⟩, fun ⟨i, e, z⟩ => h2 (by have : i = j := by omega
                                                          rw [← this]; exact z)⟩
/-! ### sums -/
def par : List Bool → List Bool → Bool
  | b :: m, x :: r => xor (b && x) (par m r)
  | _, _ => false
theorem par_vx : ∀ {a b r : List Bool}, a.length = b.length → par (vx a b) r = xor (par a r) (par b r)
  | [], [], r, _ => by simp [vx, par]
  | x :: a, y :: b, [], _ => by simp [vx, par]
  | x :: a, y :: b, z :: r, e => by
    have ih := par_vx (a := a) (b := b) (r := r) (by simpa using e)
    simp only [vx] at ih
    simp only [vx, List.zipWith_cons_cons, par, ih]
    cases x <;> cases y <;> cases z <;> cases par a r <;> cases par b r <;> rfl
theorem par_rx : ∀ {m a b : List Bool}, a.length = b.length → par m (vx a b) = xor (par m a) (par m b)
  | [], a, b, _ => by simp [par]
  | y :: m, [], [], e => by simp [vx, par]
  | y :: m, x :: a, z :: b, e => by
    have ih := par_rx (m := m) (a := a) (b := b) (by simpa using e)
    simp only [vx] at ih
    simp only [vx, List.zipWith_cons_cons, par, ih]
    cases x <;> cases y <;> cases z <;> cases par m a <;> cases par m b <;> rfl
theorem sum_ixF {g : Int → Int} : ∀ {m r : List Bool} {k : Nat}, m.length ≤ r.length → (∀ j x, r[j]? = some x → g ((k + j : Nat) : Int) = bi x) → ((ixF k m).map g).sum.fmod 2 = bi (par m r)
  | [], r, k, _, _ => by simp [ixF, par]; rfl
  | b :: m, [], k, h, _ => by simp at h
  | b :: m, x :: r, k, h, hg => by
    have ih := sum_ixF (g := g) (m := m) (r := r) (k := k + 1) (by simpa using h) fun j y e => by
      rw [← hg (j + 1) y (by simpa using e)]; congr 2; omega
    have h0 := hg 0 x rfl
    simp only [Nat.add_zero] at h0
    cases b with
    | false => simpa [ixF, par] using ih
    | true =>
      simp only [ixF, if_true, List.map_cons, List.sum_cons, h0, par, Bool.true_and]
      rw [Int.fmod_eq_emod_of_nonneg _ (by decide)] at ih ⊢
      cases x <;> cases z : par m r <;> simp [bi, z] at ih ⊢ <;> omega
theorem sum_ix {g : Int → Int} {m r : List Bool} (h : m.length ≤ r.length) (hg : ∀ (j : Nat) x, r[j]? = some x → g (j : Int) = bi x) : ((ix m).map g).sum.fmod 2 = bi (par m r) :=
  sum_ixF h fun j x e => by rw [Nat.zero_add]; exact hg j x e
end Q
/-! Qz: equations over bits: sums, leads, spans, solutions. -/
namespace Q
open PySem
theorem vx_comm : ∀ a b : List Bool, vx a b = vx b a
  | [], [] => rfl
  | [], _ :: _ => rfl
  | _ :: _, [] => rfl
  | x :: a, y :: b => by
    have ih := vx_comm a b
    simp only [vx] at ih
    simp only [vx, List.zipWith_cons_cons, ih, List.cons.injEq, and_true]
    cases x <;> cases y <;> rfl
theorem vx_assoc : ∀ a b c : List Bool, vx (vx a b) c = vx a (vx b c)
  | [], _, _ => by simp [vx]
  | _ :: _, [], _ => by simp [vx]
  | _ :: _, _ :: _, [] => by simp [vx]
  | x :: a, y :: b, z :: c => by
    have ih := vx_assoc a b c
    simp only [vx] at ih
    simp only [vx, List.zipWith_cons_cons, ih, List.cons.injEq, and_true]
    cases x <;> cases y <;> cases z <;> rfl
def zr (n : Nat) : List Bool := List.replicate n false
@[simp] theorem zr_len {n : Nat} : (zr n).length = n := by simp [zr]
theorem vx_self : ∀ a : List Bool, vx a a = zr a.length
  | [] => rfl
  | x :: a => by
    have ih := vx_self a
    simp only [vx, zr] at ih
    simp only [vx, zr, List.zipWith_cons_cons, ih, List.length_cons, List.replicate_succ, List.cons.injEq, and_true]
    cases x <;> rfl
theorem vx_zr : ∀ {a : List Bool} {n : Nat}, a.length = n → vx a (zr n) = a
  | [], _, _ => by simp [vx]
  | x :: a, 0, h => by simp at h
  | x :: a, n + 1, h => by
    have ih := vx_zr (a := a) (n := n) (by simpa using h)
    simp only [vx, zr] at ih
    simp only [vx, zr, List.replicate_succ, List.zipWith_cons_cons, ih, Bool.xor_false]
theorem zr_vx {a : List Bool} {n : Nat} (h : a.length = n) : vx (zr n) a = a := by rw [vx_comm, vx_zr h]
theorem vx_cancel {a b : List Bool} (e : a.length = b.length) : vx (vx a b) b = a := by rw [vx_assoc, vx_self, vx_zr e]
theorem vx_app : ∀ {a b : List Bool} {x y : Bool}, a.length = b.length → vx (a ++ [x]) (b ++ [y]) = vx a b ++ [xor x y]
  | [], [], x, y, _ => rfl
  | p :: a, q :: b, x, y, e => by
    have ih := vx_app (a := a) (b := b) (x := x) (y := y) (by simpa using e)
    simp only [vx] at ih
    simp only [vx, List.cons_append, List.zipWith_cons_cons, ih]
theorem par_zr : ∀ {n : Nat} {r : List Bool}, par (zr n) r = false
  | 0, _ => by simp [zr, par]
  | n + 1, [] => by simp [zr, List.replicate_succ, par]
  | n + 1, x :: r => by
    have ih := par_zr (n := n) (r := r)
    simp only [zr] at ih
    simp [zr, List.replicate_succ, par, ih]
/-! ### leads -/
def ld : List Bool → Nat
  | [] => 0
  | true :: _ => 0
  | false :: m => ld m + 1
theorem ld_le : ∀ m : List Bool, ld m ≤ m.length
  | [] => Nat.zero_le _
  | true :: m => Nat.zero_le _
  | false :: m => by have := ld_le m; simp [ld]; exact this
theorem ld_zr {m : List Bool} (h : ld m = m.length) : m = zr m.length := by
  induction m with
  | nil => rfl
  | cons b m ih =>
    cases b with
    | true => simp [ld] at h
    | false =>
      simp only [ld, List.length_cons, Nat.add_right_cancel_iff] at h
      have := ih h
      simp only [zr] at this
      simp only [zr, List.length_cons, List.replicate_succ]
      rw [← this]
theorem ld_zr' {n : Nat} : ld (zr n) = n := by
  induction n with
  | zero => rfl
  | succ n ih => simp only [zr] at ih; simp [zr, List.replicate_succ, ld, ih]
theorem ld_vx : ∀ {a b : List Bool}, a.length = b.length → ld a ≠ ld b → ld (vx a b) = min (ld a) (ld b)
  | [], [], _, h => absurd rfl h
  | x :: a, y :: b, e, h => by
    cases x <;> cases y
    · have ih := ld_vx (a := a) (b := b) (by simpa using e) fun z => h (by simp [ld, z])
      simp only [vx] at ih
      simp only [vx, List.zipWith_cons_cons, Bool.xor_false, ld, ih]; omega
    · simp [vx, ld]
    · simp [vx, ld]
    · simp [ld] at h
theorem ld_lt : ∀ {a b : List Bool}, a.length = b.length → ld a = ld b → ld a < a.length → ld a < ld (vx a b)
  | [], [], _, _, h => by simp at h
  | x :: a, y :: b, e, h, l => by
    cases x <;> cases y
    · simp only [ld, Nat.add_right_cancel_iff, List.length_cons, Nat.add_lt_add_iff_right] at h l
      have ih := ld_lt (a := a) (b := b) (by simpa using e) h l
      simp only [vx] at ih
      simp only [vx, List.zipWith_cons_cons, Bool.xor_false, ld]; omega
    · simp [ld] at h
    · simp [ld] at h
    · simp [vx, ld]
theorem ixF_head : ∀ {m : List Bool} {k : Nat}, ld m < m.length → ∃ t, ixF k m = ((k + ld m : Nat) : Int) :: t
  | [], _, h => by simp at h
  | true :: m, k, _ => ⟨ixF (k + 1) m, by simp [ixF, ld]⟩
  | false :: m, k, h => by
    obtain ⟨t, e⟩ := ixF_head (m := m) (k := k + 1) (by simpa [ld] using h)
    exact ⟨t, by simp only [ixF, Bool.false_eq_true, if_false, e, ld]; congr 2; omega⟩
theorem ix_head {m : List Bool} (h : ld m < m.length) : ∃ t, ix m = (ld m : Int) :: t := by
  obtain ⟨t, e⟩ := ixF_head (m := m) (k := 0) h
  exact ⟨t, by rw [ix, e]; simp⟩
theorem ix_zr {n : Nat} : ix (zr n) = [] := by
  have : ∀ k, ixF k (zr n) = [] := by
    induction n with
    | zero => intro k; rfl
    | succ n ih => intro k; have := ih (k + 1); simp only [zr] at this; simp [zr, List.replicate_succ, ixF, this]
  exact this 0
theorem ix_nil {m : List Bool} : ix m = [] ↔ ld m = m.length := by
  constructor
  · intro h
    have := ld_le m
    by_cases l : ld m < m.length
    · obtain ⟨t, e⟩ := ix_head l; rw [e] at h; exact nomatch h
    · omega
  · intro h; rw [ld_zr h, ix_zr]
/-! ### spans -/
inductive Sp (n : Nat) (V : List (List Bool)) : List Bool → Prop
  | zero : Sp n V (zr n)
  | add {x v : List Bool} : Sp n V x → v ∈ V → Sp n V (vx x v)
section
variable {n : Nat} {U V : List (List Bool)} {x y v : List Bool}
theorem Sp.mono (h : Sp n U x) (f : ∀ v ∈ U, v ∈ V) : Sp n V x := by
  induction h with
  | zero => exact .zero
  | add _ hv ih => exact ih.add (f _ hv)
theorem Sp.len (h : Sp n V x) (hV : ∀ v ∈ V, v.length = n) : x.length = n := by
  induction h with
  | zero => simp
  | add _ hv ih => rw [vx_len (by rw [ih, hV _ hv])]; exact ih
theorem Sp.mem (hV : ∀ v ∈ V, v.length = n) (hv : v ∈ V) : Sp n V v := by
  have := (Sp.zero (n := n) (V := V)).add hv
  rwa [zr_vx (hV v hv)] at this
theorem Sp.vx (hV : ∀ v ∈ V, v.length = n) (hx : Sp n V x) (hy : Sp n V y) : Sp n V (vx x y) := by
  induction hy with
  | zero => rw [vx_zr (hx.len hV)]; exact hx
  | add _ hv ih => rw [← vx_assoc]; exact ih.add hv
theorem Sp.trans (hV : ∀ v ∈ V, v.length = n) (h : Sp n U x) (f : ∀ v ∈ U, Sp n V v) : Sp n V x := by
  induction h with
  | zero => exact .zero
  | add _ hv ih => exact Sp.vx hV ih (f _ hv)
theorem Sp.snoc (hU : ∀ v ∈ U, v.length = n) (hv : v.length = n) (hx : x.length = n) : Sp n (U ++ [v]) x ↔ Sp n U x ∨ Sp n U (Q.vx x v) := by
  have hV : ∀ u ∈ U ++ [v], u.length = n := fun u h => by
    rcases List.mem_append.mp h with h | h
    · exact hU u h
    · rw [List.mem_singleton.mp h]; exact hv
  constructor
  · intro h
    clear hx
    induction h with
    | zero => exact .inl .zero
    | add h1 hw ih =>
      rename_i x w
      have lx := h1.len hV
      rcases List.mem_append.mp hw with hw | hw
      · rcases ih with h | h
        · exact .inl (h.add hw)
        · refine .inr ?_
          rw [vx_assoc, vx_comm w v, ← vx_assoc]
          exact h.add hw
      · obtain rfl := List.mem_singleton.mp hw
        rcases ih with h | h
        · refine .inr ?_
          rw [vx_cancel (by rw [lx, hv])]
          exact h
        · exact .inl h
  · rintro (h | h)
    · exact h.mono fun u hu => by simp [hu]
    · have := (h.mono (V := U ++ [v]) fun u hu => by simp [hu]).add (v := v) (by simp)
      rwa [vx_cancel (by rw [hx, hv])] at this
/-- combinations of what has different leads -/
theorem Sp.lead : ∀ {H : List (List Bool)}, (∀ v ∈ H, v.length = n) → (H.map ld).Nodup → ∀ {x : List Bool}, Sp n H x → x = zr n ∨ ∃ h ∈ H, ld x = ld h := by
  intro H
  induction H with
  | nil =>
    intro _ _ x h
    cases h with
    | zero => exact .inl rfl
    | add _ hv => exact absurd hv (by simp)
  | cons h H ih =>
    intro hl nd x hx
    rw [List.map_cons, List.nodup_cons] at nd
    have hH : ∀ v ∈ H, v.length = n := fun v z => hl v (by simp [z])
    have lh := hl h (by simp)
    have lx := hx.len hl
    have sw : Sp n (H ++ [h]) x := hx.mono fun v hv => by simp at hv ⊢; exact hv.symm
    rw [Sp.snoc hH lh lx] at sw
    rcases sw with s | s
    · rcases ih hH nd.2 s with e | ⟨k, hk, e⟩
      · exact .inl e
      · exact .inr ⟨k, by simp [hk], e⟩
    · have lv : (Q.vx x h).length = h.length := by rw [vx_len (by rw [lx, lh]), lx, lh]
      have ex : x = Q.vx (Q.vx x h) h := (vx_cancel (by rw [lx, lh])).symm
      rcases ih hH nd.2 s with e | ⟨k, hk, e⟩
      · right
        refine ⟨h, by simp, ?_⟩
        rw [ex, e, zr_vx lh]
      · right
        have ne : ld (Q.vx x h) ≠ ld h := fun z => nd.1 (by rw [← z, e]; exact List.mem_map_of_mem hk)
        rw [ex, ld_vx lv ne]
        rcases Nat.le_total (ld (Q.vx x h)) (ld h) with z | z
        · exact ⟨k, by simp [hk], by rw [Nat.min_eq_left z, e]⟩
        · exact ⟨h, by simp, by rw [Nat.min_eq_right z]⟩
end
/-! ### equations -/
abbrev Eqn := List Bool × Bool
def Eqn.ve (e : Eqn) : List Bool := e.1 ++ [e.2]
def Eqn.add (e f : Eqn) : Eqn := (vx e.1 f.1, xor e.2 f.2)
def Eqn.ok (e : Eqn) (r : List Bool) : Bool := par e.1 r == e.2
theorem Eqn.ve_add {e f : Eqn} (h : e.1.length = f.1.length) : (e.add f).ve = vx e.ve f.ve := by
  unfold Eqn.ve Eqn.add
  rw [vx_app h]
theorem Eqn.ok_add {e f : Eqn} {r : List Bool} (h : e.1.length = f.1.length) (hf : f.ok r = true) : (e.add f).ok r = e.ok r := by
  unfold Eqn.ok Eqn.add at *
  simp only [beq_iff_eq] at hf
  simp only [par_vx h, hf]
  cases par e.1 r <;> cases e.2 <;> cases f.2 <;> rfl
theorem ld_ve : ∀ {m : List Bool} {b : Bool}, ld m < m.length → ld (m ++ [b]) = ld m
  | [], _, h => by simp at h
  | true :: m, _, _ => rfl
  | false :: m, b, h => by
    have := ld_ve (m := m) (b := b) (by simpa [ld] using h)
    simp [ld, this]
/-- a system whose leads differ has a solution -/
theorem solve : ∀ (n : Nat) (H : List Eqn), (∀ e ∈ H, e.1.length = n ∧ ld e.1 < n) → (H.map fun e => ld e.1).Nodup → ∃ r : List Bool, r.length = n ∧ ∀ e ∈ H, e.ok r = true
  | 0, H, h, _ => by
    refine ⟨[], rfl, fun e he => ?_⟩
    have := (h e he).2
    omega
  | n + 1, H, h, nd => by
    let T : List Eqn := (H.filter fun e => decide (ld e.1 ≠ 0)).map fun e => (e.1.tail, e.2)
    have hd : ∀ e ∈ H, ld e.1 ≠ 0 → ∃ m, e.1 = false :: m ∧ ld m + 1 = ld e.1 := fun e he z => by
      have := (h e he).1
      cases em : e.1 with
      | nil => rw [em] at this; simp at this
      | cons b m =>
        cases b with
        | true => rw [em] at z; simp [ld] at z
        | false => exact ⟨m, rfl, rfl⟩
    have nodT : (T.map fun e => ld e.1).Nodup := by
      have q : ((H.filter fun e => decide (ld e.1 ≠ 0)).map fun e => ld e.1).Nodup := nd.sublist (List.Sublist.map _ (List.filter_sublist))
      have e2 : ((H.filter fun e => decide (ld e.1 ≠ 0)).map fun e => ld e.1) = (T.map fun e => ld e.1).map (· + 1) := by
        simp only [T, List.map_map]
        apply List.map_congr_left
        intro e he
        simp only [List.mem_filter, decide_eq_true_eq] at he
        obtain ⟨m, em, l⟩ := hd e he.1 he.2
        simp [em, ld]
      rw [e2] at q
      exact q.of_map _ fun x y hxy z => hxy (by omega)
    obtain ⟨r, lr, hr⟩ := solve n T (fun e he => by
      simp only [T, List.mem_map, List.mem_filter, decide_eq_true_eq] at he
      obtain ⟨f, ⟨hf, z⟩, rfl⟩ := he
      obtain ⟨m, em, l⟩ := hd f hf z
      have := h f hf
      rw [em] at this
      simp only [List.length_cons, ld] at this
      simp only [em, List.tail_cons]
      omega) nodT
    have other : ∀ (x : Bool) (e : Eqn), e ∈ H → ld e.1 ≠ 0 → e.ok (x :: r) = true := fun x e he z => by
      obtain ⟨m, em, l⟩ := hd e he z
      have := hr (e.1.tail, e.2) (by simp only [T, List.mem_map, List.mem_filter, decide_eq_true_eq]; exact ⟨e, ⟨he, z⟩, rfl⟩)
      simp only [em, List.tail_cons, Eqn.ok] at this
      simp only [Eqn.ok, em, par, Bool.false_and, Bool.false_xor]
      exact this
    by_cases z : ∃ e ∈ H, ld e.1 = 0
    · obtain ⟨e, he, z⟩ := z
      obtain ⟨m, em⟩ : ∃ m, e.1 = true :: m := by
        have := (h e he).1
        cases em : e.1 with
        | nil => rw [em] at this; simp at this
        | cons b m =>
          cases b with
          | true => exact ⟨m, rfl⟩
          | false => rw [em] at z; simp [ld] at z
      refine ⟨xor e.2 (par m r) :: r, by simp [lr], fun f hf => ?_⟩
      by_cases y : ld f.1 = 0
      · have : f = e := by
          have inj := nd
          rw [List.Nodup, List.pairwise_map] at inj
          apply Classical.byContradiction
          intro ne
          rcases List.mem_iff_getElem.mp hf with ⟨i, hi, ei⟩
          rcases List.mem_iff_getElem.mp he with ⟨j, hj, ej⟩
          rw [List.pairwise_iff_getElem] at inj
          rcases Nat.lt_trichotomy i j with q | q | q
          · exact inj i j hi hj q (by rw [ei, ej, y, z])
          · subst q; exact ne (by rw [← ei, ← ej])
          · exact inj j i hj hi q (by rw [ei, ej, y, z])
        subst this
        simp only [Eqn.ok, em, par, Bool.true_and]
        cases f.2 <;> cases par m r <;> rfl
      · exact other _ f hf y
    · refine ⟨false :: r, by simp [lr], fun f hf => other _ f hf fun y => z ⟨f, hf, y⟩⟩
/-! ### what is closed by sums of three is told by equations -/
def t3 (a b c : List Bool) : List Bool := vx (vx a b) c
/-- a sum of three in its first place, and behind it -/
theorem t3_cons {a b c : Bool} {x y z : List Bool} : t3 (a :: x) (b :: y) (c :: z) = xor (xor a b) c :: t3 x y z := by simp [t3, vx]
theorem aff : ∀ (n : Nat) (R : List Bool → Prop) (f : List Bool → Bool → Prop), (∃ x, R x) → (∀ x, R x → x.length = n) → (∀ x y z, R x → R y → R z → R (t3 x y z)) →
    (∀ x, R x → ∃ u, f x u) → (∀ x u v, R x → f x u → f x v → u = v) → (∀ x y z u v w, R x → R y → R z → f x u → f y v → f z w → f (t3 x y z) (xor (xor u v) w)) →
    ∃ m b, m.length = n ∧ ∀ x u, R x → f x u → u = xor b (par m x)
  | 0, R, f, ⟨x, hx⟩, hl, _, he, hu, _ => by
    obtain ⟨b, hb⟩ := he x hx
    refine ⟨[], b, rfl, fun y u hy fy => ?_⟩
    have e1 : x = [] := List.length_eq_zero_iff.mp (hl x hx)
    have e2 : y = [] := List.length_eq_zero_iff.mp (hl y hy)
    subst e1 e2
    rw [hu _ _ _ hy fy hb]; simp [par]
  | n + 1, R, f, ⟨x0, hx0⟩, hl, hc, he, hu, ha => by
    have sp : ∀ x, R x → ∃ a t, x = a :: t := fun x hx => by
      have := hl x hx
      cases x with
      | nil => simp at this
      | cons a t => exact ⟨a, t, rfl⟩
    let R' : List Bool → Prop := fun t => ∃ a, R (a :: t)
    have R'l : ∀ t, R' t → t.length = n := fun t ⟨a, h⟩ => by have := hl _ h; simpa using this
    have R'c : ∀ x y z, R' x → R' y → R' z → R' (t3 x y z) := fun x y z ⟨a, h1⟩ ⟨b, h2⟩ ⟨c, h3⟩ => ⟨_, by have := hc _ _ _ h1 h2 h3; rw [t3_cons] at this; exact this⟩
    have R'n : ∃ t, R' t := by obtain ⟨a, t, rfl⟩ := sp x0 hx0; exact ⟨t, a, hx0⟩
    by_cases both : ∃ t, R (false :: t) ∧ R (true :: t)
    · obtain ⟨t0, h0, h1⟩ := both
      obtain ⟨u0, f0⟩ := he _ h0
      obtain ⟨u1, f1⟩ := he _ h1
      let c := xor u0 u1
      -- the value with the first place taken out
      let g : List Bool → Bool → Prop := fun t u => ∃ a, R (a :: t) ∧ f (a :: t) (xor u (c && a))
      have gu : ∀ t u v, R' t → g t u → g t v → u = v := by
        rintro t u v _ ⟨a, r1, f1'⟩ ⟨b, r2, f2'⟩
        by_cases ab : a = b
        · subst ab
          have := hu _ _ _ r1 f1' f2'
          revert this
          cases u <;> cases v <;> cases c <;> cases a <;> simp
        · have key : ∀ (a b : Bool) (u v : Bool), a = false → b = true → R (a :: t) → R (b :: t) → f (a :: t) (xor u (c && a)) → f (b :: t) (xor v (c && b)) → u = v := by
            rintro a b u v rfl rfl ra rb fa fb
            have fs := ha _ _ _ _ _ _ ra rb h0 fa fb f0
            have et : t3 (false :: t) (true :: t) (false :: t0) = true :: t0 := by
              rw [t3_cons]
              have l1 := hl _ ra
              have l2 := hl _ h0
              simp only [List.length_cons, Nat.add_right_cancel_iff] at l1 l2
              simp [t3, vx_self, l1, zr_vx l2]
            rw [et] at fs
            have := hu _ _ _ h1 fs f1
            simp only [c] at this
            revert this
            cases u <;> cases v <;> cases u0 <;> cases u1 <;> simp
          cases a <;> cases b
          · exact absurd rfl ab
          · exact key _ _ u v rfl rfl r1 r2 f1' f2'
          · exact (key _ _ v u rfl rfl r2 r1 f2' f1').symm
          · exact absurd rfl ab
      obtain ⟨m, b, lm, hm⟩ := aff n R' g R'n R'l R'c (fun t ⟨a, h⟩ => by
          obtain ⟨u, hu'⟩ := he _ h
          exact ⟨xor u (c && a), a, h, by have : xor (xor u (c && a)) (c && a) = u := by cases u <;> cases c <;> cases a <;> rfl
                                          rw [this]; exact hu'⟩) gu
        (fun x y z u v w _ _ _ ⟨a, r1, q1⟩ ⟨b, r2, q2⟩ ⟨d, r3, q3⟩ => ⟨xor (xor a b) d, by have := hc _ _ _ r1 r2 r3; rw [t3_cons] at this; exact this, by
          have := ha _ _ _ _ _ _ r1 r2 r3 q1 q2 q3
          rw [t3_cons] at this
          have e : xor (xor (xor u (c && a)) (xor v (c && b))) (xor w (c && d)) = xor (xor (xor u v) w) (c && xor (xor a b) d) := by
            cases u <;> cases v <;> cases w <;> cases c <;> cases a <;> cases b <;> cases d <;> rfl
          rw [e] at this; exact this⟩)
      refine ⟨c :: m, b, by simp [lm], fun x u hx fx => ?_⟩
      obtain ⟨a, t, rfl⟩ := sp x hx
      have := hm t (xor u (c && a)) ⟨a, hx⟩ ⟨a, hx, by have : xor (xor u (c && a)) (c && a) = u := by cases u <;> cases c <;> cases a <;> rfl
                                                       rw [this]; exact fx⟩
      simp only [par]
      revert this
      cases u <;> cases c <;> cases a <;> cases b <;> cases par m t <;> simp
    · have uq : ∀ a b t, R (a :: t) → R (b :: t) → a = b := fun a b t h1 h2 => by
        cases a <;> cases b
        · rfl
        · exact absurd ⟨t, h1, h2⟩ both
        · exact absurd ⟨t, h2, h1⟩ both
        · rfl
      let g : List Bool → Bool → Prop := fun t u => ∃ a, R (a :: t) ∧ f (a :: t) u
      obtain ⟨m, b, lm, hm⟩ := aff n R' g R'n R'l R'c (fun t ⟨a, h⟩ => by obtain ⟨u, hu'⟩ := he _ h; exact ⟨u, a, h, hu'⟩)
        (fun t u v _ ⟨a, r1, q1⟩ ⟨b, r2, q2⟩ => by obtain rfl := uq a b t r1 r2; exact hu _ _ _ r1 q1 q2)
        (fun x y z u v w _ _ _ ⟨a, r1, q1⟩ ⟨b, r2, q2⟩ ⟨d, r3, q3⟩ => ⟨xor (xor a b) d, by have := hc _ _ _ r1 r2 r3; rw [t3_cons] at this; exact this, by
          have := ha _ _ _ _ _ _ r1 r2 r3 q1 q2 q3
          rw [t3_cons] at this; exact this⟩)
      refine ⟨false :: m, b, by simp [lm], fun x u hx fx => ?_⟩
      obtain ⟨a, t, rfl⟩ := sp x hx
      have := hm t u ⟨a, hx⟩ ⟨a, hx, fx⟩
      simp only [par, Bool.false_and, Bool.false_xor]
      exact this
/-- a row outside is told apart by an equation -/
theorem apart : ∀ (n : Nat) (R : List Bool → Prop), (∃ x, R x) → (∀ x, R x → x.length = n) → (∀ x y z, R x → R y → R z → R (t3 x y z)) → ∀ r : List Bool, r.length = n → ¬ R r →
    ∃ m b, m.length = n ∧ (∀ x, R x → par m x = b) ∧ par m r ≠ b
  | 0, R, ⟨x, hx⟩, hl, _, r, lr, nr => by
    have e1 : x = [] := List.length_eq_zero_iff.mp (hl x hx)
    have e2 : r = [] := List.length_eq_zero_iff.mp lr
    subst e1 e2
    exact absurd hx nr
  | n + 1, R, ⟨x0, hx0⟩, hl, hc, r, lr, nr => by
    have sp : ∀ x, R x → ∃ a t, x = a :: t := fun x hx => by
      have := hl x hx
      cases x with
      | nil => simp at this
      | cons a t => exact ⟨a, t, rfl⟩
    let R' : List Bool → Prop := fun t => ∃ a, R (a :: t)
    have R'l : ∀ t, R' t → t.length = n := fun t ⟨a, h⟩ => by have := hl _ h; simpa using this
    have R'c : ∀ x y z, R' x → R' y → R' z → R' (t3 x y z) := fun x y z ⟨a, h1⟩ ⟨b, h2⟩ ⟨c, h3⟩ => ⟨_, by have := hc _ _ _ h1 h2 h3; rw [t3_cons] at this; exact this⟩
    have R'n : ∃ t, R' t := by obtain ⟨a, t, rfl⟩ := sp x0 hx0; exact ⟨t, a, hx0⟩
    cases r with
    | nil => simp at lr
    | cons a t =>
      have lt : t.length = n := by simpa using lr
      by_cases ht : R' t
      · obtain ⟨b, hb⟩ := ht
        have ab : a ≠ b := fun z => nr (z ▸ hb)
        -- the first place is told by the rest
        have uq : ∀ a' b' t', R (a' :: t') → R (b' :: t') → a' = b' := fun a' b' t' h1 h2 => by
          apply Classical.byContradiction
          intro ne
          have := hc _ _ _ h1 h2 hb
          rw [t3_cons] at this
          have l1 := hl _ h1
          simp only [List.length_cons, Nat.add_right_cancel_iff] at l1
          rw [t3, vx_self, l1, zr_vx lt] at this
          have e : xor (xor a' b') b = a := by revert ne ab; cases a <;> cases b <;> cases a' <;> cases b' <;> simp
          rw [e] at this
          exact nr this
        obtain ⟨m, c, lm, hm⟩ := aff n R' (fun t' u => R (u :: t')) ⟨t, b, hb⟩ R'l R'c (fun _ h => h) (fun t' u v _ h1 h2 => uq u v t' h1 h2) (fun x y z u v w _ _ _ h1 h2 h3 => by have := hc _ _ _ h1 h2 h3; rw [t3_cons] at this; exact this)
        refine ⟨true :: m, c, by simp [lm], fun x hx => ?_, ?_⟩
        · obtain ⟨a', t', rfl⟩ := sp x hx
          have := hm t' a' ⟨a', hx⟩ hx
          simp only [par, Bool.true_and, this]
          cases c <;> cases par m t' <;> rfl
        · have := hm t b ⟨b, hb⟩ hb
          simp only [par, Bool.true_and]
          revert ab this
          cases a <;> cases b <;> cases c <;> cases par m t <;> simp
      · obtain ⟨m, b, lm, h1, h2⟩ := apart n R' R'n R'l R'c t lt ht
        refine ⟨false :: m, b, by simp [lm], fun x hx => ?_, ?_⟩
        · obtain ⟨a', t', rfl⟩ := sp x hx
          simp only [par, Bool.false_and, Bool.false_xor]
          exact h1 t' ⟨a', hx⟩
        · simpa [par] using h2
end Q
/-! Qza: loops as folds, comprehensions without a store. -/
namespace Q
open PySem
section
variable {α σ : Type} {l : List α} {g : α → PV} {tg : TgS} {b : SS} {S : Sto} {fr : Fr}
/-- a loop that goes through, told by a fold -/
theorem for_fold (I : σ → Fr → Prop) (step : σ → α → σ) : ∀ {l : List α}, (∀ a x fr, x ∈ l → I a fr → ∃ fr1 fr2, tg (g x) fr = some fr1 ∧ (b fr1 S = .nx fr2 S ∨ b fr1 S = .ct fr2 S) ∧ I (step a x) fr2) → ∀ (a : σ) {fr : Fr}, I a fr → ∃ fr', forGo tg b (l.map g) fr S = .nx fr' S ∧ I (l.foldl step a) fr'
  | [], _, a, fr, h => ⟨fr, rfl, h⟩
  | x :: l, st, a, fr, h => by
    obtain ⟨fr1, fr2, e1, e2, h2⟩ := st a x fr (by simp) h
    obtain ⟨fr3, e3, h3⟩ := for_fold I step (l := l) (fun a y fr hy => st a y fr (by simp [hy])) (step a x) h2
    refine ⟨fr3, ?_, h3⟩
    rw [List.map_cons, forGo_con, e1]
    simp only [Option.elim_some]
    rcases e2 with e2 | e2 <;> (rw [e2]; exact e3)
/-- .. with what holds on the way -/
theorem for_inv (I : List α → Fr → Prop) : ∀ (done l : List α), (∀ d x r fr, done ++ l = d ++ x :: r → I d fr → ∃ fr1 fr2, tg (g x) fr = some fr1 ∧ (b fr1 S = .nx fr2 S ∨ b fr1 S = .ct fr2 S) ∧ I (d ++ [x]) fr2) → ∀ {fr : Fr}, I done fr → ∃ fr', forGo tg b (l.map g) fr S = .nx fr' S ∧ I (done ++ l) fr'
  | done, [], _, fr, h => ⟨fr, rfl, by simpa using h⟩
  | done, x :: l, st, fr, h => by
    obtain ⟨fr1, fr2, e1, e2, h2⟩ := st done x l fr rfl h
    obtain ⟨fr3, e3, h3⟩ := for_inv I (done ++ [x]) l (fun d y r fr e => st d y r fr (by rw [← e]; simp)) h2
    refine ⟨fr3, ?_, by simpa using h3⟩
    rw [List.map_cons, forGo_con, e1]
    simp only [Option.elim_some]
    rcases e2 with e2 | e2 <;> (rw [e2]; exact e3)
end
/-- a while loop with a measure -/
theorem wh_inv {c : SB} {b : SS} {S : Sto} (I : Nat → Fr → Prop) (Post : Fr → Prop) (st : ∀ k fr, I k fr → (c fr S = .ok false S ∧ Post fr) ∨ ∃ fr2 k', k' < k ∧ c fr S = .ok true S ∧ (b fr S = .nx fr2 S ∨ b fr S = .ct fr2 S) ∧ I k' fr2) :
    ∀ (n k : Nat) (fr : Fr), k < n → I k fr → ∃ fr', whGo c b n fr S = .nx fr' S ∧ Post fr'
  | 0, k, fr, h, _ => by omega
  | n + 1, k, fr, h, i => by
    rcases st k fr i with ⟨e, p⟩ | ⟨fr2, k', hk, e, e2, i2⟩
    · exact ⟨fr, by unfold whGo; rw [e]; rfl, p⟩
    · obtain ⟨fr', e3, p⟩ := wh_inv I Post st n k' fr2 (by omega) i2
      refine ⟨fr', ?_, p⟩
      unfold whGo
      rw [e]
      rcases e2 with e2 | e2 <;> (simp only [if_true, e2]; exact e3)
theorem seq_ap {a b : SS} {fr : Fr} {S : Sto} : sSeq a b fr S = (a fr S).seq b := rfl
theorem for_ap {it : SI} {tg : TgS} {b : SS} {fr : Fr} {S : Sto} : sFor it tg b fr S = (it fr S).thn fun xs S1 => forGo tg b xs fr S1 := rfl
@[simp] theorem eLstI_ap {i : SI} {fr : Fr} {S : Sto} : (eLstI i) fr S = (i fr S).bind fun xs S1 => .ok (.lst xs) S1 := rfl
@[simp] theorem eTupI_ap {i : SI} {fr : Fr} {S : Sto} : (eTupI i) fr S = (i fr S).bind fun xs S1 => .ok (.tup xs) S1 := rfl
theorem rangeV_map {n : Nat} : rangeV 0 n = (List.range n).map fun (i : Nat) => PV.int (i : Int) := by unfold rangeV; simp
def rw_ (R : List (List Bool)) : PV := .tup (R.map rb)
theorem zip_map2 {α : Type} {f : α → PV} : ∀ {l m : List α}, zipV (l.map f) (m.map f) = (l.zip m).map fun p => .tup [f p.1, f p.2]
  | [], _ => by simp [zipV]
  | _ :: _, [] => by simp [zipV]
  | x :: l, y :: m => by have := zip_map2 (f := f) (l := l) (m := m); simp only [zipV] at this; simp [zipV, this]
theorem pw_zip {α : Type} {lt : α → α → Bool} : ∀ {l : List α}, l.Pairwise (fun a b => lt a b = true) → ∀ p ∈ l.zip (l.drop 1), lt p.1 p.2 = true
  | [], _, p, h => by simp at h
  | [x], _, p, h => by simp at h
  | x :: y :: l, w, p, h => by
    rw [List.pairwise_cons] at w
    simp only [List.drop_succ_cons, List.drop_zero, List.zip_cons_cons, List.mem_cons] at h
    rcases h with rfl | h
    · exact w.1 y (by simp)
    · exact pw_zip w.2 p (by simpa using h)
theorem zip_tail {α : Type} {f : α → PV} {l : List α} : zipV (l.map f) (l.map f).tail = (l.zip l.tail).map fun p => .tup [f p.1, f p.2] := by rw [← List.map_tail, zip_map2]
theorem pw_tail {α : Type} {lt : α → α → Bool} {l : List α} (h : l.Pairwise fun a b => lt a b = true) : ∀ p ∈ l.zip l.tail, lt p.1 p.2 = true := by
  have := pw_zip h
  rwa [List.drop_one] at this
section
variable {a b : List Bool} {l : List (List Bool)} {u v : List Int} {w : List (List Int)} {g : Int → Int → Bool} {f : PV → PV → Bool} {i : Int} {n : Nat}
@[simp] theorem isD_int {i : Int} : (PV.int i).isD n = true := by cases n <;> rfl
@[simp] theorem isD_int' {i : Int} : (PV.int i).isD deep = true := rfl
@[simp] theorem isD_bl {b : Bool} : (PV.bl b).isD deep = true := rfl
@[simp] theorem peq_int {i j : Int} : peq (.int i) (.int j) = decide (i = j) := em_int.eq i j
theorem bi_eq {a b : Bool} : (bi a = bi b) ↔ a = b := ⟨bi_inj, fun h => h ▸ rfl⟩
@[simp] theorem cmI_rb : cmI g (rb a) (rb b) = none := rfl
@[simp] theorem cmI_ti : cmI g (ti u) (ti v) = none := rfl
@[simp] theorem isD_rb : (rb a).isD (n + 1) = true := isD_ti
@[simp] theorem isD_rb' : (rb a).isD deep = true := isD_ti
@[simp] theorem isD_ti' : (ti u).isD deep = true := isD_ti
@[simp] theorem peq_rb : peq (rb a) (rb b) = decide (a = b) := em_rb.eq a b
@[simp] theorem plt_rb : plt (rb a) (rb b) = blt a b := em_rb.lt a b
@[simp] theorem ltO_rb : ltO f (rb a) (rb b) = some (f (rb a) (rb b)) := by
  unfold ltO
  rw [show (rb a).isD 60 = true from isD_ti, show (rb b).isD 60 = true from isD_ti, em_rb.pal]; rfl
@[simp] theorem ltO_ti : ltO f (ti u) (ti v) = some (f (ti u) (ti v)) := by
  unfold ltO
  rw [show (ti u).isD 60 = true from isD_ti, show (ti v).isD 60 = true from isD_ti, pal_ti]; rfl
@[simp high] theorem inT_rb : inV (rb a) (.tup (l.map rb)) = some (decide (a ∈ l)) := (em_rb.inT).trans (by congr)
@[simp high] theorem inL_rb : inV (rb a) (.lst (l.map rb)) = some (decide (a ∈ l)) := (em_rb.inL).trans (by congr)
@[simp high] theorem inT_ti : inV (ti u) (.tup (w.map ti)) = some (decide (u ∈ w)) := (em_ti.inT).trans (by congr)
@[simp high] theorem inL_ti : inV (ti u) (.lst (w.map ti)) = some (decide (u ∈ w)) := (em_ti.inL).trans (by congr)
@[simp high] theorem inT_int : inV (.int i) (.tup (u.map .int)) = some (decide (i ∈ u)) := (em_int.inT).trans (by congr)
@[simp high] theorem inL_int : inV (.int i) (.lst (u.map .int)) = some (decide (i ∈ u)) := (em_int.inL).trans (by congr)
end
structure Rel (n : Nat) (R : List (List Bool)) : Prop where
  s : R.Pairwise fun a b => blt a b = true
  l : ∀ r ∈ R, r.length = n
/-! tuples of ints for simp -/
section
variable {l : List Int} {x : Int} {a : List Bool} {n : Nat}
theorem items_ti : (ti l).items = some (l.map .int) := rfl
theorem at_ti : (ti l).at_ (.int x) = ixV (l.map .int) x := rfl
@[simp] theorem at_ti0 : (ti (x :: l)).at_ (.int 0) = some (.int x) := by simp [ti]
@[simp] theorem bLen_ti : bLen [ti l] = some (.int l.length) := by simp [ti]
@[simp] theorem items_rb : (rb a).items = some (a.map fun b => .int (bi b)) := by unfold rb ti; rw [List.map_map]; rfl
@[simp] theorem bLen_rb : bLen [rb a] = some (.int a.length) := by simp [rb]
end
/-! dicts for simp -/
section
variable {α β : Type} [DecidableEq α] {f : α → PV} {g : β → PV} {d : List (α × β)} {b : List Bool} {i : Int} {u : List Int}
@[simp] theorem isC_dc : (dc f g d).isC = true := rfl
@[simp] theorem inD_int {d : List (Int × β)} : inV (.int i) (dc PV.int g d) = some (alk d i).isSome := (em_int.inD keyed_int).trans (by congr)
@[simp] theorem inD_rb {d : List (List Bool × β)} : inV (rb b) (dc rb g d) = some (alk d b).isSome := (em_rb.inD keyed_rb).trans (by congr)
@[simp] theorem inD_ti {d : List (List Int × β)} : inV (ti u) (dc ti g d) = some (alk d u).isSome := (em_ti.inD keyed_ti).trans (by congr)
@[simp] theorem at_int {d : List (Int × β)} : (dc PV.int g d).at_ (.int i) = (alk d i).map g := (em_int.get keyed_int).trans (by congr)
@[simp] theorem at_rb {d : List (List Bool × β)} : (dc rb g d).at_ (rb b) = (alk d b).map g := (em_rb.get keyed_rb).trans (by congr)
theorem lookup_isSome {x : α} : ∀ {d : List (α × β)}, (alk d x).isSome = decide (x ∈ d.map (·.1))
  | [] => rfl
  | (k, v) :: d => by
    simp only [alk, List.map_cons, List.mem_cons]
    by_cases h : k = x
    · simp [h]
    · have h' : ¬ x = k := fun z => h z.symm
      rw [if_neg h, lookup_isSome (d := d)]
      simp [h']
theorem lookup_mem {x : α} {y : β} : ∀ {d : List (α × β)}, alk d x = some y → (x, y) ∈ d
  | [], h => by simp [alk] at h
  | (k, v) :: d, h => by
    simp only [alk] at h
    by_cases e : k = x
    · subst e; simp at h; simp [h]
    · rw [if_neg e] at h
      exact List.mem_cons_of_mem _ (lookup_mem h)
end
section
variable {R R' : List (List Bool)} {a : List Bool} {n : Nat}
@[simp] theorem bLen_rw : bLen [rw_ R] = some (.int R.length) := by simp [rw_]
@[simp] theorem items_rw : (rw_ R).items = some (R.map rb) := rfl
@[simp] theorem inV_rw : inV (rb a) (rw_ R) = some (decide (a ∈ R)) := inT_rb
theorem peqs_map {α : Type} [DecidableEq α] {f : α → PV} {lt : α → α → Bool} (h : Em f lt) : ∀ {l m : List α}, peqs (l.map f) (m.map f) = decide (l = m)
  | [], [] => by simp [peqs]
  | [], _ :: _ => by simp [peqs]
  | _ :: _, [] => by simp [peqs]
  | x :: a, y :: b => by
    simp only [List.map_cons, peqs, h.eq, peqs_map h, List.cons.injEq]
    by_cases e : x = y <;> simp [e]
@[simp] theorem peq_rw : peq (rw_ R) (rw_ R') = decide (R = R') := by
  show peqs _ _ = _
  rw [peqs_map em_rb]
theorem are_rb {n : Nat} : ∀ {R : List (List Bool)}, areD (n + 1) (R.map rb) = true
  | [] => rfl
  | x :: R => by simp [areD, are_rb]
@[simp] theorem isD_rw : (rw_ R).isD (n + 2) = true := are_rb
@[simp] theorem isD_rw' : (rw_ R).isD deep = true := are_rb (n := 58)
end
theorem snoc_ind {α : Type} {P : List α → Prop} (h0 : P []) (h1 : ∀ l a, P l → P (l ++ [a])) (l : List α) : P l := by
  rw [← List.reverse_reverse l]
  induction l.reverse with
  | nil => exact h0
  | cons a l ih => rw [List.reverse_cons]; exact h1 _ a ih
/-- sorting any tuples that can be compared -/
theorem sort_gen {α : Type} {f : α → PV} {l : List α} (hp : ∀ a ∈ l, ∀ b ∈ l, pal (f a) (f b) = true) (hd : ∀ a ∈ l, (f a).isD 60 = true) (ht : ∀ a ∈ l, (f a).isTup = true) : sortV (l.map f) = some ((sortL (fun a b => plt (f a) (f b)) l).map f) := by
  have ha : ∀ {l : List α}, (∀ a ∈ l, (f a).isD 60 = true) → areD 60 (l.map f) = true := by
    intro l
    induction l with
    | nil => intro _; rfl
    | cons x l ih => intro h; simp only [List.map_cons, areD, h x (by simp), ih fun a z => h a (by simp [z]), Bool.and_self]
  have ok : sortOk (l.map f) = true := by
    unfold sortOk
    rw [ha hd]
    simp only [List.all_map, Function.comp_def, Bool.true_and, Bool.and_eq_true, Bool.or_eq_true, List.all_eq_true, Bool.not_eq_true']
    exact ⟨hp, .inl ht⟩
  unfold sortV sortL
  rw [ok, List.map_mergeSort (s := fun a b => !plt b a) fun a _ b _ => rfl]
  rfl
theorem enumV_at : ∀ {xs : List PV} {k j : Nat} {y : PV}, (enumV k xs)[j]? = some y → ∃ x, xs[j]? = some x ∧ y = .tup [.int ((k + j : Nat) : Int), x]
  | [], _, _, _, h => by simp [enumV] at h
  | x :: xs, k, 0, y, h => ⟨x, rfl, by simp [enumV] at h; simp [← h]⟩
  | x :: xs, k, j + 1, y, h => by
    obtain ⟨z, e, rfl⟩ := enumV_at (xs := xs) (k := k + 1) (j := j) (by simpa [enumV] using h)
    exact ⟨z, by simpa using e, by rw [show k + 1 + j = k + (j + 1) by omega]⟩
section
variable {a : List Bool} {u : List Int} {y : PV} {g : Int → Int → Option Int}
@[simp] theorem isNon_rb : (rb a).isNon = false := rfl
@[simp] theorem isNon_ti : (ti u).isNon = false := rfl
@[simp] theorem isNon_rw {R : List (List Bool)} : (rw_ R).isNon = false := rfl
@[simp] theorem intsOf_rb : intsOf g (rb a) y = none := rfl
@[simp] theorem intsOf_ti : intsOf g (ti u) y = none := rfl
@[simp] theorem catT_rb1 : catT (rb a) (.tup [.int 1]) = if fits (a.length + 1) then some (rb (a ++ [true])) else none := by simp [rb, ti, bi]
@[simp] theorem catT_rb0 : catT (rb a) (.tup [.int 0]) = if fits (a.length + 1) then some (rb (a ++ [false])) else none := by simp [rb, ti, bi]
end
end Q
/-! Qstr: texts compared for simp. -/
namespace Q
open PySem
theorem toNat_inj {a b : Char} (h : a.toNat = b.toNat) : a = b := Char.ext (UInt32.toNat_inj.mp h)
theorem map_toNat_inj : ∀ {a b : List Char}, a.map Char.toNat = b.map Char.toNat → a = b
  | [], [], _ => rfl
  | [], _ :: _, h => by simp at h
  | _ :: _, [], h => by simp at h
  | x :: a, y :: b, h => by
    simp only [List.map_cons, List.cons.injEq] at h
    rw [toNat_inj h.1, map_toNat_inj h.2]
theorem ofString_inj {a b : String} (h : Str.ofString a = Str.ofString b) : a = b := by
  rw [Str.ofString_eq_toList, Str.ofString_eq_toList] at h
  have h := congrArg (fun s => s.cps.toList) h
  simp only at h
  exact String.toList_inj.mp (map_toNat_inj h)
@[simp] theorem ofString_eq {a b : String} : (Str.ofString a = Str.ofString b) = (a = b) := propext ⟨ofString_inj, fun h => h ▸ rfl⟩
@[simp] theorem ofString_beq {a b : String} : (Str.ofString a == Str.ofString b) = decide (a = b) := by
  by_cases h : a = b
  · simp [h]
  · simp [h]
@[simp] theorem peq_str {a b : String} : peq (.str (Str.ofString a)) (.str (Str.ofString b)) = decide (a = b) := by
  show (Str.ofString a == Str.ofString b) = _
  simp
theorem strOk_of {s : String} : PyData.canLay0 (.str (Str.ofString s)) = true := by
  show (Str.ofString s).cps.all (· < 0x110000) = true
  rw [Str.ofString_eq_toList]
  simp only [List.all_toArray, List.all_map, List.all_eq_true, Function.comp_def, decide_eq_true_eq]
  intro c _
  have := c.valid
  unfold Char.toNat
  rcases this with h | h
  · have : c.val.toNat < 55296 := h
    omega
  · exact h.2
@[simp] theorem isD_str {s : String} {n : Nat} : (PV.str (Str.ofString s)).isD n = true := by
  cases n <;> exact strOk_of
@[simp] theorem isD_tupd {xs : List PV} : (PV.tup xs).isD deep = areD 59 xs := rfl
@[simp] theorem isD_tupn {xs : List PV} {n : Nat} : (PV.tup xs).isD (n + 1) = areD n xs := rfl
@[simp] theorem areD_nil {n : Nat} : areD n [] = true := by cases n <;> rfl
@[simp] theorem areD_cons {n : Nat} {x : PV} {xs : List PV} : areD n (x :: xs) = (x.isD n && areD n xs) := by cases n <;> rfl
@[simp] theorem peq_tup {xs ys : List PV} : peq (.tup xs) (.tup ys) = peqs xs ys := rfl
@[simp] theorem peqs_nil : peqs [] [] = true := rfl
@[simp] theorem peqs_cons {x y : PV} {xs ys : List PV} : peqs (x :: xs) (y :: ys) = (peq x y && peqs xs ys) := rfl
@[simp] theorem peq_bl {a b : Bool} : peq (.bl a) (.bl b) = (a == b) := rfl
example : peq (.str "and") (.str "one") = false := by simp
end Q
namespace Law84
open PySem PySem.Spec PyProof.Rows L2 Q
/-! the defs as functions on trees -/
def k_MOST_DEMANDS : PV := (.int 12)
def k_MOST_EQUATIONS : PV := (.int 20)
def k_MOST_LETTERS : PV := (.int 5)
def k_MOST_PLACES : PV := (.int 4)
def k_MOST_PUZZLED : PV := (.int 6)
def k_MOST_RELATIONS : PV := (.int 6)
def k_NAMES : PV := (.tup [(.str "nought"), (.str "one"), (.str "and"), (.str "or"), (.str "most"), (.str "sum")])
def d_OPERATIONS : List (Str × PV) := [("nought", (.int 0)), ("one", (.int 0)), ("and", (.int 2)), ("or", (.int 2)), ("most", (.int 3)), ("sum", (.int 3))]
def m_is_tuple : SS := (sSeq (sRet (eAnd (bE (eB (bIs (eP 0) [.tuple]))) (eB (bCh .le .le (eP 1) (eBi bLen (aC (eP 0) aN)) (eP 2))))) sNil)
def F_is_tuple : FN := fn 3 3 m_is_tuple
def m_is_integer : SS := (sSeq (sRet (eAnd (bE (eB (bIs (eP 0) [.int]))) (eB (bNot (bE (eB (bIs (eP 0) [.bool]))))))) sNil)
def F_is_integer : FN := fn 1 1 m_is_integer
def m_is_within : SS := (sSeq (sRet (eAnd (bE (eCall F_is_integer (gV (eV 0) gN))) (eB (bCh .le .le (eP 1) (eP 0) (eP 2))))) sNil)
def F_is_within : FN := fn 3 3 m_is_within
def m_is_lot : SS := (sSeq (sIf (bOr (bNot (bE (eB (bIs (eP 0) [.tuple])))) (bNot (bE (eBi bAll (aC (eLc [2] (iSeq (eV 0)) (tN 2) bT (eCall F_is_within (gV (eV 2) (gV (eC (.int 0)) (gV (eOp .sub (eP 1) (eC (.int 1))) gN))))) aN))))) (sSeq (sRet (eC (.bl false))) sNil) sNil) (sSeq (sRet (eBi bAll (aC (eLc [2, 3] (iZip (eV 0) (eSl (eP 0) (oS (eC (.int 1))) oN)) (tT [2, 3]) bT (eB (bCm .lt (eP 2) (eP 3)))) aN))) sNil))
def F_is_lot : FN := fn 2 4 m_is_lot
def m_is_lot_of : SS := (sSeq (sRet (eCall F_is_lot (gV (eV 1) (gV (eV 0) gN)))) sNil)
def F_is_lot_of : FN := fn 2 2 m_is_lot_of
def m_is_bit : SS := (sSeq (sRet (eCall F_is_within (gV (eV 0) (gV (eC (.int 0)) (gV (eC (.int 1)) gN))))) sNil)
def F_is_bit : FN := fn 1 1 m_is_bit
def m_is_equation : SS := (sSeq (sRet (eAnd (bE (eCall F_is_tuple (gV (eV 1) (gV (eC (.int 2)) (gV (eC (.int 2)) gN))))) (eAnd (bE (eCall F_is_lot_of (gV (eV 0) (gV (eIx (eP 1) (eC (.int 0))) gN)))) (eCall F_is_bit (gV (eIx (eP 1) (eC (.int 1))) gN))))) sNil)
def F_is_equation : FN := fn 2 2 m_is_equation
def m_check_equations : SS := (sSeq (sIf (bOr (bNot (bE (eCall F_is_tuple (gV (eV 1) (gV (eC (.int 0)) (gV (eC k_MOST_EQUATIONS) gN)))))) (bNot (bE (eBi bAll (aC (eLc [2] (iSeq (eV 1)) (tN 2) bT (eCall F_is_equation (gV (eV 0) (gV (eV 2) gN)))) aN))))) (sSeq sBad sNil) sNil) sNil)
def F_check_equations : FN := fn 2 3 m_check_equations
def m_is_count : SS := (sSeq (sRet (eCall F_is_within (gV (eV 0) (gV (eC (.int 1)) (gV (eC k_MOST_LETTERS) gN))))) sNil)
def F_is_count : FN := fn 1 1 m_is_count
def m_letters_six : SS := (sSeq (sRet (eAnd (bE (eB (bIs (eP 0) [.int]))) (eAnd (bE (eB (bNot (bE (eB (bIs (eP 0) [.bool])))))) (eB (bCm .eq (eP 0) (eC k_MOST_PUZZLED)))))) sNil)
def F_letters_six : FN := fn 1 1 m_letters_six
def m_check_summed : SS := (sSeq (sIf (bAnd (bNot (bE (eCall F_is_count (gV (eV 0) gN)))) (bNot (bE (eCall F_letters_six (gV (eV 0) gN))))) (sSeq sBad sNil) sNil) (sSeq (sExpr (eCall F_check_equations (gV (eV 0) (gV (eV 1) gN)))) sNil))
def F_check_summed : FN := fn 2 2 m_check_summed
def m_added : SS := (sSeq (sSet 2 (eOp .add (eLc [3] (iSeq (eIx (eP 0) (eC (.int 0)))) (tN 3) (bCm .notin (eP 3) (eIx (eP 1) (eC (.int 0)))) (eV 3)) (eLc [3] (iSeq (eIx (eP 1) (eC (.int 0)))) (tN 3) (bCm .notin (eP 3) (eIx (eP 0) (eC (.int 0)))) (eV 3)))) (sSeq (sRet (eTup (aC (eBi bTuple (aC (eBi bSorted (aC (eP 2) aN)) aN)) (aC (eOp .mod (eOp .add (eIx (eP 0) (eC (.int 1))) (eIx (eP 1) (eC (.int 1)))) (eC (.int 2))) aN)))) sNil))
def F_added : FN := fn 2 4 m_added
def m_odd_ones : SS := (sSeq (sRet (eBi bTuple (aC (eBi bSorted (aC (eOp .add (eLc [2] (iSeq (eV 0)) (tN 2) (bCm .notin (eP 2) (eP 1)) (eV 2)) (eLc [2] (iSeq (eV 1)) (tN 2) (bCm .notin (eP 2) (eP 0)) (eV 2))) aN)) aN))) sNil)
def F_odd_ones : FN := fn 2 3 m_odd_ones
def wc_reduced_1 : SB := (bAnd (bCm .gt (eBi bLen (aC (eIx (eP 1) (eC (.int 0))) aN)) (eC (.int 0))) (bCm .isin (eIx (eIx (eP 1) (eC (.int 0))) (eC (.int 0))) (eP 0)))
def wb_reduced_2 : SS := (sSeq (sUnp [3, 4] (eIx (eP 0) (eIx (eIx (eP 1) (eC (.int 0))) (eC (.int 0))))) (sSeq (sPar [1, 2] (hV (eCall F_added (gV (eV 1) (gV (eV 3) gN))) (hV (eCall F_odd_ones (gV (eV 2) (gV (eV 4) gN))) hN))) sNil))
def m_reduced : SS := (sSeq (sWh 1000 wc_reduced_1 wb_reduced_2) (sSeq (sRet (eTup (aC (eV 1) (aC (eV 2) aN)))) sNil))
def F_reduced : FN := fn 3 5 m_reduced
def fb_rows_1 : SS := (sSeq (sExt 3 (eLst (aC (eOp .add (eP 4) (eTup (aC (eC (.int 0)) aN))) (aC (eOp .add (eP 4) (eTup (aC (eC (.int 1)) aN))) aN)))) sNil)
def fb_rows_2 : SS := (sSeq (sOwn 3 (eLst aN)) (sSeq (sFor (iSeq (eV 1)) (tN 4) fb_rows_1) (sSeq (sFrz 3 (sSet 1 (eV 3))) sNil)))
def m_rows : SS := (sSeq (sSet 1 (eLst (aC (eTup aN) aN))) (sSeq (sFor (iRng1 (eP 0)) (tN 2) fb_rows_2) (sSeq (sRet (eV 1)) sNil)))
def F_rows : FN := fn 1 5 m_rows
def m_is_kept : SS := (sSeq (sRet (eB (bCm .eq (eOp .mod (eBi bSum (aC (eLc [2] (iSeq (eIx (eP 0) (eC (.int 0)))) (tN 2) bT (eIx (eP 1) (eP 2))) aN)) (eC (.int 2))) (eIx (eP 0) (eC (.int 1)))))) sNil)
def F_is_kept : FN := fn 2 3 m_is_kept
def fb_solved_by_sums_1 : SS := (sSeq (sUnp [6, 7] (eCall F_reduced (gL (eP 2) (gV (eV 5) (gV (eTup (aC (eV 4) aN)) gN))))) (sSeq (sIf (bCm .gt (eBi bLen (aC (eIx (eP 6) (eC (.int 0))) aN)) (eC (.int 0))) (sSeq (sPut 2 (eIx (eIx (eP 6) (eC (.int 0))) (eC (.int 0))) (eTup (aC (eV 6) (aC (eV 7) aN)))) sNil) (sSeq (sIf (bCm .eq (eIx (eP 6) (eC (.int 1))) (eC (.int 1))) (sSeq (sRet (eTup (aC (eC (.str "numbers")) (aC (eV 7) aN)))) sNil) sNil) sNil)) sNil))
def m_solved_by_sums : SS := (sSeq (sOwn 2 eDNew) (sSeq (sFor (iEnum (eV 1)) (tT [4, 5]) fb_solved_by_sums_1) (sSeq (sSet 3 (eLc [8] (iSeq (eCall F_rows (gV (eV 0) gN))) (tN 8) (bE (eBi bAll (aC (eLc [9] (iSeq (eV 1)) (tN 9) bT (eCall F_is_kept (gV (eV 9) (gV (eV 8) gN)))) aN))) (eV 8))) (sSeq (sRet (eTup (aC (eC (.str "row")) (aC (eIx (eP 3) (eC (.int 0))) aN)))) sNil))))
def F_solved_by_sums : FN := fn 2 10 m_solved_by_sums
def m_summed : SS := (sSeq (sExpr (eCall F_check_summed (gV (eV 0) (gV (eV 1) gN)))) (sSeq (sRet (eCall F_solved_by_sums (gV (eV 0) (gV (eV 1) gN)))) sNil))
def F_summed : FN := fn 2 2 m_summed
def m__law_draw : SS := (sSeq (sIf (bAnd (bCm .eq (eIxS (eP 0) (eC (.int 2))) (eC (.int 0))) (bCm .lt (eIxS (eP 0) (eC (.int 1))) (eBi bLen (aC (eIxS (eP 0) (eC (.int 0))) aN)))) (sSeq (sSet 3 (eIx (eIxS (eP 0) (eC (.int 0))) (eIxS (eP 0) (eC (.int 1))))) (sSeq (sPutS (eP 0) (eC (.int 1)) (eOp .add (eIxS (eP 0) (eC (.int 1))) (eC (.int 1)))) (sSeq (sPutS (eP 0) (eC (.int 3)) (eOp .mod (eBi bInt (aC (eOp .add (eOp .add (eOp .mul (eIxS (eP 0) (eC (.int 3))) (eC (.int 69621))) (eOp .mul (eP 3) (eC (.int 16)))) (eC (.int 29))) aN)) (eC (.int 2147483629)))) (sSeq (sIf (bCm .ge (eP 3) (eOp .pow (eC (.int 10)) (eC (.int 18)))) (sSeq (sPutS (eP 0) (eC (.int 2)) (eV 3)) sNil) sNil) sNil)))) sNil) (sSeq (sIf (bCm .gt (eIxS (eP 0) (eC (.int 2))) (eC (.int 0))) (sSeq (sSet 4 (eOp .mod (eBi bInt (aC (eIxS (eP 0) (eC (.int 2))) aN)) (eP 1))) (sSeq (sPutS (eP 0) (eC (.int 2)) (eOp .fdiv (eIxS (eP 0) (eC (.int 2))) (eP 1))) (sSeq (sRet (eV 4)) sNil))) sNil) (sSeq (sPutS (eP 0) (eC (.int 4)) (eOp .add (eIxS (eP 0) (eC (.int 4))) (eC (.int 1)))) (sSeq (sSet 2 (eOp .mod (eBi bInt (aC (eOp .mul (eBi bInt (aC (eOp .add (eIxS (eP 0) (eC (.int 3))) (eOp .mul (eC (.int 7919)) (eIxS (eP 0) (eC (.int 4))))) aN)) (eC (.int 48271))) aN)) (eC (.int 2147483647)))) (sSeq (sSet 2 (eOp .mod (eBi bInt (aC (eOp .mul (eP 2) (eOp .add (eOp .fdiv (eP 2) (eC (.int 1009))) (eC (.int 69621)))) aN)) (eC (.int 2147483647)))) (sSeq (sSet 2 (eOp .mod (eBi bInt (aC (eOp .mul (eP 2) (eOp .add (eOp .fdiv (eP 2) (eC (.int 2003))) (eC (.int 40692)))) aN)) (eC (.int 2147483399)))) (sSeq (sRet (eOp .mod (eBi bInt (aC (eOp .fdiv (eP 2) (eC (.int 16))) aN)) (eP 1))) sNil)))))))
def F__law_draw : FN := fn 2 5 m__law_draw
def m_is_places : SS := (sSeq (sRet (eCall F_is_within (gV (eV 0) (gV (eC (.int 1)) (gV (eC k_MOST_PLACES) gN))))) sNil)
def F_is_places : FN := fn 1 1 m_is_places
def m_check_places : SS := (sSeq (sIf (bNot (bE (eCall F_is_places (gV (eV 0) gN)))) (sSeq sBad sNil) sNil) sNil)
def F_check_places : FN := fn 1 1 m_check_places
def m_are_bits : SS := (sSeq (sRet (eAnd (bE (eCall F_is_tuple (gV (eV 0) (gV (eV 1) (gV (eV 1) gN))))) (eBi bAll (aC (eLc [2] (iSeq (eV 0)) (tN 2) bT (eCall F_is_bit (gV (eV 2) gN))) aN)))) sNil)
def F_are_bits : FN := fn 2 3 m_are_bits
def m_is_row : SS := (sSeq (sRet (eCall F_are_bits (gV (eV 1) (gV (eV 0) gN)))) sNil)
def F_is_row : FN := fn 2 2 m_is_row
def m_are_rows : SS := (sSeq (sIf (bOr (bNot (bE (eB (bIs (eP 1) [.tuple])))) (bNot (bE (eBi bAll (aC (eLc [4] (iSeq (eV 1)) (tN 4) bT (eCall F_is_row (gV (eV 0) (gV (eV 4) gN)))) aN))))) (sSeq (sRet (eC (.bl false))) sNil) sNil) (sSeq (sRet (eBi bAll (aC (eLc [2, 3] (iZip (eV 1) (eSl (eP 1) (oS (eC (.int 1))) oN)) (tT [2, 3]) bT (eB (bCm .lt (eP 2) (eP 3)))) aN))) sNil))
def F_are_rows : FN := fn 2 5 m_are_rows
def m_check_relation : SS := (sSeq (sExpr (eCall F_check_places (gV (eV 0) gN))) (sSeq (sIf (bNot (bE (eCall F_are_rows (gV (eV 0) (gV (eV 1) gN))))) (sSeq sBad sNil) sNil) sNil))
def F_check_relation : FN := fn 2 2 m_check_relation
def m_check_words : SS := (sSeq (sIf (bOr (bNot (bE (eB (bIs (eP 0) [.list, .tuple])))) (bNot (bE (eBi bAll (aC (eLc [1] (iSeq (eV 0)) (tN 1) bT (eB (bIs (eP 1) [.str]))) aN))))) (sSeq sBad sNil) sNil) (sSeq (sIf (bNot (bE (eBi bAll (aC (eLc [1] (iSeq (eV 0)) (tN 1) bT (eB (bInKd true d_OPERATIONS (eP 1)))) aN)))) (sSeq sBad sNil) sNil) sNil))
def F_check_words : FN := fn 1 2 m_check_words
def fb_tuples_of_1 : SS := (sSeq (sExt 4 (eLc [6] (iSeq (eV 0)) (tN 6) bT (eOp .add (eP 5) (eTup (aC (eV 6) aN))))) sNil)
def fb_tuples_of_2 : SS := (sSeq (sOwn 4 (eLst aN)) (sSeq (sFor (iSeq (eV 2)) (tN 5) fb_tuples_of_1) (sSeq (sFrz 4 (sSet 2 (eV 4))) sNil)))
def m_tuples_of : SS := (sSeq (sSet 2 (eLst (aC (eTup aN) aN))) (sSeq (sFor (iRng1 (eP 1)) (tN 3) fb_tuples_of_2) (sSeq (sRet (eV 2)) sNil)))
def F_tuples_of : FN := fn 2 7 m_tuples_of
def m_told_by : SS := (sSeq (sIf (bCm .isin (eP 1) (eTup (aC (eC (.str "nought")) (aC (eC (.str "one")) aN)))) (sSeq (sRet (eOp .mul (eTup (aC (eBi bInt (aC (eB (bCm .eq (eP 1) (eC (.str "one")))) aN)) aN)) (eP 0))) sNil) sNil) (sSeq (sIf (bCm .eq (eP 1) (eC (.str "and"))) (sSeq (sRet (eBi bTuple (aC (eLc [8] (iZip (eIx (eP 2) (eC (.int 0))) (eIx (eP 2) (eC (.int 1)))) (tN 8) bT (eBi bMin (aC (eP 8) aN))) aN))) sNil) sNil) (sSeq (sIf (bCm .eq (eP 1) (eC (.str "or"))) (sSeq (sRet (eBi bTuple (aC (eLc [8] (iZip (eIx (eP 2) (eC (.int 0))) (eIx (eP 2) (eC (.int 1)))) (tN 8) bT (eBi bMax (aC (eP 8) aN))) aN))) sNil) sNil) (sSeq (sSet 3 (eLc [4, 5, 6] (iZip3 (eIx (eP 2) (eC (.int 0))) (eIx (eP 2) (eC (.int 1))) (eIx (eP 2) (eC (.int 2)))) (tT [4, 5, 6]) bT (eOp .add (eOp .add (eP 4) (eP 5)) (eP 6)))) (sSeq (sRet (eBi bTuple (aC (eLc [7] (iSeq (eV 3)) (tN 7) bT (eIf (bCm .eq (eP 1) (eC (.str "most"))) (eBi bInt (aC (eB (bCm .gt (eP 7) (eC (.int 1)))) aN)) (eOp .mod (eP 7) (eC (.int 2))))) aN))) sNil)))))
def F_told_by : FN := fn 3 9 m_told_by
def fb_with_told_1 : SS := (sSeq (sPut 3 (eCall F_told_by (gV (eV 0) (gV (eV 4) (gV (eV 5) gN)))) (eC (.bl true))) sNil)
def fb_with_told_2 : SS := (sSeq (sFor (iSeq (eCall F_tuples_of (gV (eV 1) (gV (eDk d_OPERATIONS (eP 4)) gN)))) (tN 5) fb_with_told_1) sNil)
def m_with_told : SS := (sSeq (sOwn 3 (eBi bDict (aC (eLc [6] (iSeq (eV 1)) (tN 6) bT (eTup (aC (eV 6) (aC (eC (.bl true)) aN)))) aN))) (sSeq (sFor (iSeq (eV 2)) (tN 4) fb_with_told_2) (sSeq (sRet (eBi bTuple (aC (eBi bSorted (aC (eP 3) aN)) aN))) sNil)))
def F_with_told : FN := fn 3 7 m_with_told
def wc_closed_1 : SB := (bCm .ne (eP 4) (eP 3))
def wb_closed_2 : SS := (sSeq (sPar [3, 4] (hV (eV 4) (hV (eCall F_with_told (gV (eV 0) (gV (eV 4) (gV (eV 2) gN)))) hN))) sNil)
def m_closed : SS := (sSeq (sExpr (eCall F_check_relation (gV (eV 0) (gV (eV 1) gN)))) (sSeq (sExpr (eCall F_check_words (gV (eV 2) gN))) (sSeq (sPar [3, 4] (hV (eV 1) (hV (eCall F_with_told (gV (eV 0) (gV (eV 1) (gV (eV 2) gN)))) hN))) (sSeq (sWh 1000 wc_closed_1 wb_closed_2) (sSeq (sRet (eV 3)) sNil)))))
def F_closed : FN := fn 3 5 m_closed
def fb__law_rows_1 : SS := (sSeq (sExt 3 (eLst (aC (eOp .add (eP 4) (eTup (aC (eC (.int 0)) aN))) (aC (eOp .add (eP 4) (eTup (aC (eC (.int 1)) aN))) aN)))) sNil)
def fb__law_rows_2 : SS := (sSeq (sOwn 3 (eLst aN)) (sSeq (sFor (iSeq (eV 1)) (tN 4) fb__law_rows_1) (sSeq (sFrz 3 (sSet 1 (eV 3))) sNil)))
def m__law_rows : SS := (sSeq (sSet 1 (eLst (aC (eTup aN) aN))) (sSeq (sFor (iRng1 (eP 0)) (tN 2) fb__law_rows_2) (sSeq (sRet (eV 1)) sNil)))
def F__law_rows : FN := fn 1 5 m__law_rows
def m__law_relation : SS := (sSeq (sSet 2 (eOp .add (eC (.int 2)) (eCall F__law_draw (gV (eV 0) (gV (eC (.int 3)) gN))))) (sSeq (sSet 3 (eBi bTuple (aC (eLc [4] (iSeq (eCall F__law_rows (gV (eV 1) gN))) (tN 4) (bCm .eq (eCall F__law_draw (gV (eV 0) (gV (eV 2) gN))) (eC (.int 0))) (eV 4)) aN))) (sSeq (sRet (eIf (bCm .eq (eCall F__law_draw (gV (eV 0) (gV (eC (.int 3)) gN))) (eC (.int 0))) (eV 3) (eCall F_closed (gV (eV 1) (gV (eV 3) (gV (eLst (aC (eC (.str "sum")) aN)) gN)))))) sNil)))
def F__law_relation : FN := fn 2 5 m__law_relation
def fb_sets_within_1 : SS := (sSeq (sSet 1 (eOp .add (eP 1) (eLc [3] (iSeq (eV 1)) (tN 3) bT (eOp .add (eP 3) (eTup (aC (eV 2) aN)))))) sNil)
def m_sets_within : SS := (sSeq (sSet 1 (eLst (aC (eTup aN) aN))) (sSeq (sFor (iSeq (eV 0)) (tN 2) fb_sets_within_1) (sSeq (sRet (eV 1)) sNil)))
def F_sets_within : FN := fn 1 4 m_sets_within
def fb_kept_equations_1 : SS := (sSeq (sExt 2 (eLc [4] (iSeq (eTup (aC (eC (.int 0)) (aC (eC (.int 1)) aN)))) (tN 4) (bE (eBi bAll (aC (eLc [5] (iSeq (eV 1)) (tN 5) bT (eCall F_is_kept (gV (eTup (aC (eV 3) (aC (eV 4) aN))) (gV (eV 5) gN)))) aN))) (eTup (aC (eV 3) (aC (eV 4) aN))))) sNil)
def m_kept_equations : SS := (sSeq (sOwn 2 (eLst aN)) (sSeq (sFor (iSeq (eBi bSorted (aC (eCall F_sets_within (gV (eTupI (iRng1 (eP 0))) gN)) aN))) (tN 3) fb_kept_equations_1) (sSeq (sRet (eV 2)) sNil)))
def F_kept_equations : FN := fn 2 6 m_kept_equations
def fb_equations_of_1 : SS := (sSeq (sUnp [5, 6] (eCall F_reduced (gL (eP 3) (gV (eV 2) (gV (eTup aN) gN))))) (sSeq (sIf (bCm .gt (eBi bLen (aC (eIx (eP 5) (eC (.int 0))) aN)) (eC (.int 0))) (sSeq (sPut 3 (eIx (eIx (eP 5) (eC (.int 0))) (eC (.int 0))) (eTup (aC (eV 5) (aC (eTup aN) aN)))) (sSeq (sApp 4 (eV 2)) sNil)) sNil) sNil))
def m_equations_of : SS := (sSeq (sIf (bCm .eq (eBi bLen (aC (eP 1) aN)) (eC (.int 0))) (sSeq (sRet (eTup (aC (eTup (aC (eTup aN) (aC (eC (.int 1)) aN))) aN))) sNil) sNil) (sSeq (sPar [3, 4] (hO eDNew (hO (eLst aN) hN))) (sSeq (sFor (iSeq (eCall F_kept_equations (gV (eV 0) (gV (eV 1) gN)))) (tN 2) fb_equations_of_1) (sSeq (sRet (eBi bTuple (aC (eP 4) aN))) sNil))))
def F_equations_of : FN := fn 2 7 m_equations_of
def m_equations : SS := (sSeq (sExpr (eCall F_check_relation (gV (eV 0) (gV (eV 1) gN)))) (sSeq (sRet (eCall F_equations_of (gV (eV 0) (gV (eV 1) gN)))) sNil))
def F_equations : FN := fn 2 2 m_equations
def m__law_any : SS := (sSeq (sRet (eIx (eP 1) (eCall F__law_draw (gV (eV 0) (gV (eBi bLen (aC (eP 1) aN)) gN))))) sNil)
def F__law_any : FN := fn 2 2 m__law_any
def m_is_demand : SS := (sSeq (sIf (bOr (bNot (bE (eCall F_is_tuple (gV (eV 2) (gV (eC (.int 2)) (gV (eC (.int 2)) gN)))))) (bNot (bE (eCall F_is_within (gV (eIx (eP 2) (eC (.int 0))) (gV (eC (.int 0)) (gV (eOp .sub (eBi bLen (aC (eP 1) aN)) (eC (.int 1))) gN))))))) (sSeq (sRet (eC (.bl false))) sNil) sNil) (sSeq (sSet 3 (eIx (eIx (eP 1) (eIx (eP 2) (eC (.int 0)))) (eC (.int 0)))) (sSeq (sRet (eAnd (bE (eCall F_is_tuple (gV (eIx (eP 2) (eC (.int 1))) (gV (eV 3) (gV (eV 3) gN))))) (eBi bAll (aC (eLc [4] (iSeq (eIx (eP 2) (eC (.int 1)))) (tN 4) bT (eCall F_is_within (gV (eV 4) (gV (eC (.int 0)) (gV (eOp .sub (eP 0) (eC (.int 1))) gN))))) aN)))) sNil)))
def F_is_demand : FN := fn 3 5 m_is_demand
def m_is_told : SS := (sSeq (sRet (eAnd (bE (eCall F_is_tuple (gV (eV 0) (gV (eC (.int 2)) (gV (eC (.int 2)) gN))))) (eAnd (bE (eCall F_is_places (gV (eIx (eP 0) (eC (.int 0))) gN))) (eCall F_are_rows (gV (eIx (eP 0) (eC (.int 0))) (gV (eIx (eP 0) (eC (.int 1))) gN)))))) sNil)
def F_is_told : FN := fn 1 1 m_is_told
def m_is_puzzle : SS := (sSeq (sIf (bOr (bNot (bE (eCall F_is_tuple (gV (eV 0) (gV (eC (.int 3)) (gV (eC (.int 3)) gN)))))) (bNot (bE (eCall F_is_within (gV (eIx (eP 0) (eC (.int 0))) (gV (eC (.int 1)) (gV (eC k_MOST_PUZZLED) gN))))))) (sSeq (sRet (eC (.bl false))) sNil) sNil) (sSeq (sUnp [1, 2, 3] (eV 0)) (sSeq (sIf (bOr (bNot (bE (eCall F_is_tuple (gV (eV 2) (gV (eC (.int 0)) (gV (eC k_MOST_RELATIONS) gN)))))) (bNot (bE (eBi bAll (aC (eLc [4] (iSeq (eV 2)) (tN 4) bT (eCall F_is_told (gV (eV 4) gN))) aN))))) (sSeq (sRet (eC (.bl false))) sNil) sNil) (sSeq (sRet (eAnd (bE (eCall F_is_tuple (gV (eV 3) (gV (eC (.int 0)) (gV (eC k_MOST_DEMANDS) gN))))) (eBi bAll (aC (eLc [4] (iSeq (eV 3)) (tN 4) bT (eCall F_is_demand (gV (eV 1) (gV (eV 2) (gV (eV 4) gN))))) aN)))) sNil))))
def F_is_puzzle : FN := fn 1 5 m_is_puzzle
def m_check_puzzle : SS := (sSeq (sIf (bNot (bE (eCall F_is_puzzle (gV (eV 0) gN)))) (sSeq sBad sNil) sNil) sNil)
def F_check_puzzle : FN := fn 1 1 m_check_puzzle
def m_is_met : SS := (sSeq (sUnp [3, 4] (eV 1)) (sSeq (sRet (eB (bCm .isin (eBi bTuple (aC (eLc [5] (iSeq (eV 4)) (tN 5) bT (eIx (eP 2) (eP 5))) aN)) (eIx (eIx (eIx (eP 0) (eC (.int 1))) (eP 3)) (eC (.int 1)))))) sNil))
def F_is_met : FN := fn 3 6 m_is_met
def m_answers_it : SS := (sSeq (sRet (eBi bAll (aC (eLc [2] (iSeq (eIx (eP 0) (eC (.int 2)))) (tN 2) bT (eCall F_is_met (gV (eV 0) (gV (eV 2) (gV (eV 1) gN))))) aN))) sNil)
def F_answers_it : FN := fn 2 3 m_answers_it
def m_all_answers : SS := (sSeq (sRet (eLc [1] (iSeq (eCall F_rows (gV (eIx (eP 0) (eC (.int 0))) gN))) (tN 1) (bE (eCall F_answers_it (gV (eV 0) (gV (eV 1) gN)))) (eV 1))) sNil)
def F_all_answers : FN := fn 1 2 m_all_answers
def m_answers : SS := (sSeq (sExpr (eCall F_check_puzzle (gV (eV 0) gN))) (sSeq (sRet (eBi bTuple (aC (eCall F_all_answers (gV (eV 0) gN)) aN))) sNil))
def F_answers : FN := fn 1 1 m_answers
def fb_losing_1 : SS := (sSeq (sIf (bCm .notin (eCall F_told_by (gV (eV 0) (gV (eV 2) (gV (eV 3) gN)))) (eP 1)) (sSeq (sRet (eV 3)) sNil) sNil) sNil)
def m_losing : SS := (sSeq (sFor (iSeq (eCall F_tuples_of (gV (eV 1) (gV (eDk d_OPERATIONS (eP 2)) gN)))) (tN 3) fb_losing_1) (sSeq (sRet (eC .non)) sNil))
def F_losing : FN := fn 3 4 m_losing
def m_easy_words : SS := (sSeq (sRet (eBi bTuple (aC (eLc [1] (iSeq (eC k_NAMES)) (tN 1) (bE (eBi bAll (aC (eLc [2] (iSeq (eIx (eP 0) (eC (.int 1)))) (tN 2) bT (eB (bCm .isN (eCall F_losing (gV (eIx (eP 2) (eC (.int 0))) (gV (eIx (eP 2) (eC (.int 1))) (gV (eV 1) gN)))) (eC .non)))) aN))) (eV 1)) aN))) sNil)
def F_easy_words : FN := fn 1 3 m_easy_words
def fb_put_at_1 : SS := (sSeq (sSet 2 (eCall F_added (gV (eV 2) (gV (eTup (aC (eTup (aC (eIx (eP 1) (eP 3)) aN)) (aC (eC (.int 0)) aN))) gN)))) sNil)
def m_put_at : SS := (sSeq (sSet 2 (eTup (aC (eTup aN) (aC (eIx (eP 0) (eC (.int 1))) aN)))) (sSeq (sFor (iSeq (eIx (eP 0) (eC (.int 0)))) (tN 3) fb_put_at_1) (sSeq (sRet (eV 2)) sNil)))
def F_put_at : FN := fn 2 4 m_put_at
def fb_by_sums_1 : SS := (sSeq (sUnp [4, 5] (eIx (eIx (eP 0) (eC (.int 1))) (eP 2))) (sSeq (sExt 1 (eLc [6] (iSeq (eCall F_equations_of (gV (eV 4) (gV (eV 5) gN)))) (tN 6) bT (eCall F_put_at (gV (eV 6) (gV (eV 3) gN))))) sNil))
def m_by_sums : SS := (sSeq (sExpr (eCall F_check_puzzle (gV (eV 0) gN))) (sSeq (sIf (bCm .notin (eC (.str "sum")) (eCall F_easy_words (gV (eV 0) gN))) (sSeq sBad sNil) sNil) (sSeq (sOwn 1 (eLst aN)) (sSeq (sFor (iSeq (eIx (eP 0) (eC (.int 2)))) (tT [2, 3]) fb_by_sums_1) (sSeq (sRet (eCall F_solved_by_sums (gV (eIx (eP 0) (eC (.int 0))) (gV (eV 1) gN)))) sNil)))))
def F_by_sums : FN := fn 1 7 m_by_sums
def fb__law_sets_1 : SS := (sSeq (sSet 1 (eOp .add (eP 1) (eLc [4] (iSeq (eV 1)) (tN 4) bT (eOp .add (eP 4) (eTup (aC (eV 2) aN)))))) sNil)
def m__law_sets : SS := (sSeq (sSet 1 (eLst (aC (eTup aN) aN))) (sSeq (sFor (iSeq (eV 0)) (tN 2) fb__law_sets_1) (sSeq (sRet (eLc [3, 4] (iSeq (eBi bSorted (aC (eLc [4] (iSeq (eV 1)) (tN 4) bT (eTup (aC (eBi bLen (aC (eP 4) aN)) (aC (eV 4) aN)))) aN))) (tT [3, 4]) bT (eV 4))) sNil)))
def F__law_sets : FN := fn 1 5 m__law_sets
def m__law_is : SS := (sSeq (sIf (bOr (bCm .ne (eB (bIs (eP 0) [.bool])) (eB (bIs (eP 1) [.bool]))) (bCm .ne (eB (bIs (eP 0) [.int])) (eB (bIs (eP 1) [.int])))) (sSeq (sRet (eC (.bl false))) sNil) sNil) (sSeq (sRet (eB (bCm .eq (eP 0) (eP 1)))) sNil))
def F__law_is : FN := fn 2 2 m__law_is
def m__law_keeps : SS := (sSeq (sRet (eB (bCm .eq (eOp .mod (eBi bSum (aC (eLc [2] (iSeq (eIx (eP 1) (eC (.int 0)))) (tN 2) bT (eIx (eP 0) (eP 2))) aN)) (eC (.int 2))) (eIx (eP 1) (eC (.int 1)))))) sNil)
def F__law_keeps : FN := fn 2 3 m__law_keeps
def m__law_vector : SS := (sSeq (sRet (eBi bTuple (aC (eOp .add (eLc [2] (iRng1 (eP 1)) (tN 2) bT (eBi bInt (aC (eB (bCm .isin (eP 2) (eIx (eP 0) (eC (.int 0))))) aN))) (eLst (aC (eIx (eP 0) (eC (.int 1))) aN))) aN))) sNil)
def F__law_vector : FN := fn 2 3 m__law_vector
def m__law_added : SS := (sSeq (sRet (eBi bTuple (aC (eLc [2, 3] (iZip (eV 0) (eV 1)) (tT [2, 3]) bT (eOp .mod (eOp .add (eP 2) (eP 3)) (eC (.int 2)))) aN))) sNil)
def F__law_added : FN := fn 2 4 m__law_added
def fb__law_spanned_1 : SS := (sSeq (sPut 2 (eCall F__law_added (gV (eV 4) (gV (eV 3) gN))) (eC (.bl true))) sNil)
def fb__law_spanned_2 : SS := (sSeq (sFor (iSeq (eBi bList (aC (eP 2) aN))) (tN 4) fb__law_spanned_1) sNil)
def m__law_spanned : SS := (sSeq (sOwn 2 (eDisp (dC (eOp .mul (eTup (aC (eC (.int 0)) aN)) (eOp .add (eP 1) (eC (.int 1)))) (eC (.bl true)) dN))) (sSeq (sFor (iSeq (eV 0)) (tN 3) fb__law_spanned_2) (sSeq (sRet (eV 2)) sNil)))
def F__law_spanned : FN := fn 2 5 m__law_spanned
def fb__law_equations_1 : SS := (sSeq (sIf (bE (eBi bAll (aC (eLc [6] (iSeq (eV 1)) (tN 6) bT (eCall F__law_keeps (gV (eV 6) (gV (eTup (aC (eV 3) (aC (eV 4) aN))) gN)))) aN))) (sSeq (sSet 5 (eLc [7] (iSeq (eP 2)) (tN 7) bT (eCall F__law_vector (gV (eV 7) (gV (eV 0) gN))))) (sSeq (sIf (bCm .notin (eCall F__law_vector (gV (eTup (aC (eV 3) (aC (eV 4) aN))) (gV (eV 0) gN))) (eCall F__law_spanned (gV (eV 5) (gV (eV 0) gN)))) (sSeq (sApp 2 (eTup (aC (eV 3) (aC (eV 4) aN)))) sNil) sNil) sNil)) sNil) sNil)
def fb__law_equations_2 : SS := (sSeq (sFor (iSeq (eTup (aC (eC (.int 0)) (aC (eC (.int 1)) aN)))) (tN 4) fb__law_equations_1) sNil)
def m__law_equations : SS := (sSeq (sIf (bCm .eq (eBi bLen (aC (eP 1) aN)) (eC (.int 0))) (sSeq (sRet (eTup (aC (eTup (aC (eTup aN) (aC (eC (.int 1)) aN))) aN))) sNil) sNil) (sSeq (sOwn 2 (eLst aN)) (sSeq (sFor (iSeq (eBi bSorted (aC (eCall F__law_sets (gV (eLstI (iRng1 (eP 0))) gN)) aN))) (tN 3) fb__law_equations_2) (sSeq (sRet (eBi bTuple (aC (eP 2) aN))) sNil))))
def F__law_equations : FN := fn 2 8 m__law_equations
def m_rows_keeping : SS := (sSeq (sExpr (eCall F_check_places (gV (eV 0) gN))) (sSeq (sExpr (eCall F_check_equations (gV (eV 0) (gV (eV 1) gN)))) (sSeq (sRet (eBi bTuple (aC (eLc [2] (iSeq (eCall F_rows (gV (eV 0) gN))) (tN 2) (bE (eBi bAll (aC (eLc [3] (iSeq (eV 1)) (tN 3) bT (eCall F_is_kept (gV (eV 3) (gV (eV 2) gN)))) aN))) (eV 2)) aN))) sNil)))
def F_rows_keeping : FN := fn 2 4 m_rows_keeping
def m_check_operation : SS := (sSeq (sIf (bOr (bNot (bE (eB (bIs (eP 0) [.str])))) (bInKd false d_OPERATIONS (eP 0))) (sSeq sBad sNil) sNil) sNil)
def F_check_operation : FN := fn 1 1 m_check_operation
def m_kept_by : SS := (sSeq (sExpr (eCall F_check_relation (gV (eV 0) (gV (eV 1) gN)))) (sSeq (sExpr (eCall F_check_operation (gV (eV 2) gN))) (sSeq (sRet (eB (bCm .isN (eCall F_losing (gV (eV 0) (gV (eV 1) (gV (eV 2) gN)))) (eC .non)))) sNil)))
def F_kept_by : FN := fn 3 3 m_kept_by
def fb_come_to_none_1 : SS := (sSeq (sSet 2 (eCall F_added (gV (eV 2) (gV (eIx (eP 0) (eP 3)) gN)))) sNil)
def m_come_to_none : SS := (sSeq (sSet 2 (eTup (aC (eTup aN) (aC (eC (.int 0)) aN)))) (sSeq (sFor (iSeq (eV 1)) (tN 3) fb_come_to_none_1) (sSeq (sRet (eB (bCm .eq (eP 2) (eTup (aC (eTup aN) (aC (eC (.int 1)) aN)))))) sNil)))
def F_come_to_none : FN := fn 2 4 m_come_to_none
def m_is_summed : SS := (sSeq (sExpr (eCall F_check_summed (gV (eV 0) (gV (eV 1) gN)))) (sSeq (sIf (bOr (bNot (bE (eCall F_is_tuple (gV (eV 2) (gV (eC (.int 2)) (gV (eC (.int 2)) gN)))))) (bNot (bE (eB (bIs (eIx (eP 2) (eC (.int 0))) [.str]))))) (sSeq (sRet (eC (.bl false))) sNil) sNil) (sSeq (sIf (bCm .eq (eIx (eP 2) (eC (.int 0))) (eC (.str "row"))) (sSeq (sRet (eAnd (bE (eCall F_is_row (gV (eV 0) (gV (eIx (eP 2) (eC (.int 1))) gN)))) (eBi bAll (aC (eLc [3] (iSeq (eV 1)) (tN 3) bT (eCall F_is_kept (gV (eV 3) (gV (eIx (eP 2) (eC (.int 1))) gN)))) aN)))) sNil) sNil) (sSeq (sRet (eAnd (bE (eB (bCm .eq (eIx (eP 2) (eC (.int 0))) (eC (.str "numbers"))))) (eAnd (bE (eCall F_is_lot_of (gV (eBi bLen (aC (eP 1) aN)) (gV (eIx (eP 2) (eC (.int 1))) gN)))) (eCall F_come_to_none (gV (eV 1) (gV (eIx (eP 2) (eC (.int 1))) gN)))))) sNil))))
def F_is_summed : FN := fn 3 4 m_is_summed
def fb__law_none_1 : SS := (sSeq (sSet 3 (eCall F__law_added (gV (eV 3) (gV (eCall F__law_vector (gV (eIx (eP 0) (eP 4)) (gV (eV 2) gN))) gN)))) sNil)
def m__law_none : SS := (sSeq (sSet 3 (eOp .mul (eTup (aC (eC (.int 0)) aN)) (eOp .add (eP 2) (eC (.int 1))))) (sSeq (sFor (iSeq (eV 1)) (tN 4) fb__law_none_1) (sSeq (sRet (eB (bCm .eq (eP 3) (eOp .add (eOp .mul (eTup (aC (eC (.int 0)) aN)) (eP 2)) (eTup (aC (eC (.int 1)) aN)))))) sNil)))
def F__law_none : FN := fn 3 5 m__law_none
def m_law_1 : SS := (sIf (bOr (bCm .ne (eCall F_equations (gV (eC (.int 2)) (gV (eTup (aC (eTup (aC (eC (.int 0)) (aC (eC (.int 1)) aN))) (aC (eTup (aC (eC (.int 1)) (aC (eC (.int 0)) aN))) aN))) gN))) (eTup (aC (eTup (aC (eTup (aC (eC (.int 0)) (aC (eC (.int 1)) aN))) (aC (eC (.int 1)) aN))) aN))) (bCm .ne (eCall F_equations (gV (eC (.int 1)) (gV (eTup aN) gN))) (eTup (aC (eTup (aC (eTup aN) (aC (eC (.int 1)) aN))) aN)))) (sSeq (sRet (eC (.bl false))) sNil) sNil)
def m_law_2 : SS := (sIf (bCm .ne (eCall F_summed (gV (eC (.int 2)) (gV (eTup (aC (eTup (aC (eTup (aC (eC (.int 0)) aN)) (aC (eC (.int 0)) aN))) (aC (eTup (aC (eTup (aC (eC (.int 0)) (aC (eC (.int 1)) aN))) (aC (eC (.int 1)) aN))) (aC (eTup (aC (eTup (aC (eC (.int 1)) aN)) (aC (eC (.int 0)) aN))) aN)))) gN))) (eTup (aC (eC (.str "numbers")) (aC (eTup (aC (eC (.int 0)) (aC (eC (.int 1)) (aC (eC (.int 2)) aN)))) aN)))) (sSeq (sRet (eC (.bl false))) sNil) sNil)
def m_law_3 : SS := (sSet 6 (eOp .add (eC (.int 1)) (eCall F__law_draw (gV (eV 1) (gV (eC (.int 4)) gN)))))
def m_law_4 : SS := (sSet 9 (eBi bTuple (aC (eLc [14] (iSeq (eCall F__law_rows (gV (eV 6) gN))) (tN 14) (bE (eBi bAll (aC (eLc [21] (iSeq (eV 8)) (tN 21) bT (eCall F__law_keeps (gV (eV 14) (gV (eV 21) gN)))) aN))) (eV 14)) aN)))
def m_law_5 : SS := (sIf (bOr (bCm .ne (eP 8) (eCall F__law_equations (gV (eV 6) (gV (eV 7) gN)))) (bCm .ne (eCall F_rows_keeping (gV (eV 6) (gV (eV 8) gN))) (eP 9))) (sSeq (sRet (eC (.bl false))) sNil) sNil)
def m_law_6 : SS := (sIf (bAnd (bCm .gt (eBi bLen (aC (eP 7) aN)) (eC (.int 0))) (bCm .ne (eB (bCm .eq (eP 9) (eP 7))) (eCall F_kept_by (gV (eV 6) (gV (eV 7) (gV (eC (.str "sum")) gN)))))) (sSeq (sRet (eC (.bl false))) sNil) sNil)
def m_law_7 : SS := (sSet 10 (eOp .add (eC (.int 1)) (eCall F__law_draw (gV (eV 1) (gV (eC (.int 6)) gN)))))
def m_law_8 : SS := (sPar [19, 20] (hV (eCall F__law_sets (gV (eLstI (iRng1 (eP 10))) gN)) (hO (eLst aN) hN)))
def m_law_9 : SS := (sApp 20 (eTup (aC (eCall F__law_any (gV (eV 1) (gV (eV 19) gN))) (aC (eCall F__law_draw (gV (eV 1) (gV (eC (.int 2)) gN))) aN))))
def fb_law_1 : SS := (sSeq m_law_9 sNil)
def m_law_10 : SS := (sFor (iRng1 (eCall F__law_draw (gV (eV 1) (gV (eC (.int 7)) gN)))) (tN 3) fb_law_1)
def m_law_11 : SS := (sSet 11 (eLc [14] (iSeq (eCall F__law_rows (gV (eV 10) gN))) (tN 14) (bE (eBi bAll (aC (eLc [21] (iSeq (eP 20)) (tN 21) bT (eCall F__law_keeps (gV (eV 14) (gV (eV 21) gN)))) aN))) (eV 14)))
def m_law_12 : SS := (sSet 12 (eCall F_summed (gV (eV 10) (gV (eBi bTuple (aC (eP 20) aN)) gN))))
def m_law_13 : SS := (sIf (bAnd (bCm .gt (eBi bLen (aC (eP 11) aN)) (eC (.int 0))) (bCm .ne (eP 12) (eTup (aC (eC (.str "row")) (aC (eIx (eP 11) (eC (.int 0))) aN))))) (sSeq (sRet (eC (.bl false))) sNil) sNil)
def m_law_14 : SS := (sIf (bAnd (bCm .eq (eBi bLen (aC (eP 11) aN)) (eC (.int 0))) (bOr (bCm .ne (eIx (eP 12) (eC (.int 0))) (eC (.str "numbers"))) (bNot (bE (eCall F__law_none (gL (eP 20) (gV (eIx (eP 12) (eC (.int 1))) (gV (eV 10) gN)))))))) (sSeq (sRet (eC (.bl false))) sNil) sNil)
def m_law_15 : SS := (sSet 13 (eCall F__law_any (gV (eV 1) (gV (eCall F__law_sets (gV (eLstI (iRng1 (eBi bLen (aC (eP 20) aN)))) gN)) gN))))
def m_law_16 : SS := (sIf (bNot (bE (eCall F__law_is (gV (eCall F_is_summed (gV (eV 10) (gV (eBi bTuple (aC (eP 20) aN)) (gV (eTup (aC (eC (.str "numbers")) (aC (eV 13) aN))) gN)))) (gV (eCall F__law_none (gL (eP 20) (gV (eV 13) (gV (eV 10) gN)))) gN))))) (sSeq (sRet (eC (.bl false))) sNil) sNil)
def m_law_17 : SS := (sSet 14 (eCall F__law_any (gV (eV 1) (gV (eCall F__law_rows (gV (eV 10) gN)) gN))))
def m_law_18 : SS := (sIf (bNot (bE (eCall F__law_is (gV (eCall F_is_summed (gV (eV 10) (gV (eBi bTuple (aC (eP 20) aN)) (gV (eTup (aC (eC (.str "row")) (aC (eV 14) aN))) gN)))) (gV (eB (bCm .isin (eP 14) (eP 11))) gN))))) (sSeq (sRet (eC (.bl false))) sNil) sNil)
def fb_law_2 : SS := (sSeq m_law_3 (sSeq (sSet 7 (eCall F__law_relation (gV (eV 1) (gV (eV 6) gN)))) (sSeq (sSet 8 (eCall F_equations (gV (eV 6) (gV (eV 7) gN)))) (sSeq m_law_4 (sSeq m_law_5 (sSeq m_law_6 (sSeq m_law_7 (sSeq m_law_8 (sSeq m_law_10 (sSeq m_law_11 (sSeq m_law_12 (sSeq m_law_13 (sSeq m_law_14 (sSeq m_law_15 (sSeq m_law_16 (sSeq m_law_17 (sSeq m_law_18 sNil)))))))))))))))))
def m_law_19 : SS := (sPar [15, 16] (hV (eOp .add (eC (.int 2)) (eCall F__law_draw (gV (eV 1) (gV (eC (.int 3)) gN)))) (hO (eLst aN) hN)))
def m_law_20 : SS := (sSet 17 (eOp .add (eC (.int 1)) (eCall F__law_draw (gV (eV 1) (gV (eC (.int 3)) gN)))))
def m_law_21 : SS := (sApp 16 (eTup (aC (eV 17) (aC (eCall F_closed (gV (eV 17) (gV (eCall F__law_relation (gV (eV 1) (gV (eV 17) gN))) (gV (eLst (aC (eC (.str "sum")) aN)) gN)))) aN))))
def fb_law_3 : SS := (sSeq m_law_20 (sSeq m_law_21 sNil))
def m_law_22 : SS := (sSet 18 (eCall F__law_draw (gV (eV 1) (gV (eC (.int 2)) gN))))
def m_law_23 : SS := (sApp 4 (eTup (aC (eV 18) (aC (eBi bTuple (aC (eLc [22] (iRng1 (eIx (eIx (eP 16) (eP 18)) (eC (.int 0)))) (tN 22) bT (eCall F__law_draw (gV (eV 1) (gV (eV 15) gN)))) aN)) aN))))
def fb_law_4 : SS := (sSeq m_law_22 (sSeq m_law_23 sNil))
def m_law_24 : SS := (sFor (iRng1 (eOp .add (eC (.int 1)) (eCall F__law_draw (gV (eV 1) (gV (eC (.int 4)) gN))))) (tN 3) fb_law_4)
def m_law_25 : SS := (sSet 5 (eTup (aC (eV 15) (aC (eBi bTuple (aC (eP 16) aN)) (aC (eBi bTuple (aC (eP 4) aN)) aN)))))
def m_law_26 : SS := (sPar [11, 8] (hV (eCall F_answers (gV (eV 5) gN)) (hV (eCall F_by_sums (gV (eV 5) gN)) hN)))
def m_law_27 : SS := (sRet (eIf (bCm .gt (eBi bLen (aC (eP 11) aN)) (eC (.int 0))) (eB (bCm .eq (eP 8) (eTup (aC (eC (.str "row")) (aC (eIx (eP 11) (eC (.int 0))) aN))))) (eB (bCm .eq (eIx (eP 8) (eC (.int 0))) (eC (.str "numbers"))))))
def m_law : SS := (sSeq m_law_1 (sSeq m_law_2 (sSeq (sFor (iRng1 (eC (.int 2))) (tN 2) fb_law_2) (sSeq m_law_19 (sSeq (sFor (iRng1 (eC (.int 2))) (tN 3) fb_law_3) (sSeq (sOwn 4 (eLst aN)) (sSeq m_law_24 (sSeq m_law_25 (sSeq m_law_26 (sSeq m_law_27 sNil))))))))))
end Law84
namespace Law84
open PySem Q
section
variable {S : Sto}
theorem e_integer {i : Int} : F_is_integer [.va (.int i)] S = .ok (.bl true) S := by
  simp [F_is_integer, m_is_integer, pad]
theorem e_within {i a b : Int} : F_is_within [.va (.int i), .va (.int a), .va (.int b)] S = .ok (.bl (decide (a ≤ i ∧ i ≤ b))) S := by
  simp [F_is_within, m_is_within, pad, e_integer]
theorem e_is_tuple {xs : List PV} {a b : Int} : F_is_tuple [.va (.tup xs), .va (.int a), .va (.int b)] S = .ok (.bl (decide (a ≤ xs.length ∧ (xs.length : Int) ≤ b))) S := by
  simp [F_is_tuple, m_is_tuple, pad]
theorem e_bit {b : Bool} : F_is_bit [.va (.int (bi b))] S = .ok (.bl true) S := by
  simp [F_is_bit, m_is_bit, pad, e_within]
  cases b <;> decide
theorem e_are_bits {r : List Bool} {n : Nat} (h : r.length = n) : F_are_bits [.va (rb r), .va (.int n)] S = .ok (.bl true) S := by
  simp [F_are_bits, m_are_bits, pad, e_is_tuple, rb, ti, h]
  rw [lc_mapI (f := fun _ => .bl true) fun x hx => ⟨_, rfl, by simp [e_bit]⟩]
  simp [allBl_map]
theorem e_is_row {r : List Bool} {n : Nat} (h : r.length = n) : F_is_row [.va (.int n), .va (rb r)] S = .ok (.bl true) S := by
  simp [F_is_row, m_is_row, pad, e_are_bits h]
theorem e_are_rows {n : Nat} {R : List (List Bool)} (h : Rel n R) : F_are_rows [.va (.int n), .va (rw_ R)] S = .ok (.bl true) S := by
  simp [F_are_rows, m_are_rows, pad, rw_]
  rw [lc_mapI (f := fun _ => .bl true) fun x hx => ⟨_, rfl, by simp [e_is_row (h.l x hx)]⟩]
  simp [allBl_map]
  rw [zip_tail, lc_mapI (f := fun _ => .bl true) fun x hx => ⟨_, rfl, by simp [pw_tail h.s x hx]⟩]
  simp [allBl_map]
theorem e_places {n : Nat} (h : 1 ≤ n) (h4 : n ≤ 4) : F_is_places [.va (.int n)] S = .ok (.bl true) S := by
  simp [F_is_places, m_is_places, pad, e_within, k_MOST_PLACES]; omega
theorem e_check_places {n : Nat} (h : 1 ≤ n) (h4 : n ≤ 4) : F_check_places [.va (.int n)] S = .ok .non S := by
  simp [F_check_places, m_check_places, pad, e_places h h4]
theorem e_check_relation {n : Nat} {R : List (List Bool)} (h : 1 ≤ n) (h4 : n ≤ 4) (r : Rel n R) : F_check_relation [.va (.int n), .va (rw_ R)] S = .ok .non S := by
  simp [F_check_relation, m_check_relation, pad, e_check_places h h4, e_are_rows r]
theorem e_rows : ∀ {n : Nat}, n ≤ 6 → F_rows [.va (.int n)] S = .ok (.lst ((bits n).map rb)) S
  | 0, _ | 1, _ | 2, _ | 3, _ | 4, _ | 5, _ | 6, _ => by kernel_rfl
  | n + 7, h => by omega
theorem e_lrows : ∀ {n : Nat}, n ≤ 6 → F__law_rows [.va (.int n)] S = .ok (.lst ((bits n).map rb)) S
  | 0, _ | 1, _ | 2, _ | 3, _ | 4, _ | 5, _ | 6, _ => by kernel_rfl
  | n + 7, h => by omega
/-! lots -/
theorem e_lot {m : List Bool} {n : Nat} (h : m.length ≤ n) : F_is_lot [.va (ti (ix m)), .va (.int n)] S = .ok (.bl true) S := by
  simp [F_is_lot, m_is_lot, pad, ti]
  rw [lc_mapI (f := fun _ => .bl true) fun x hx => ⟨_, rfl, ?_⟩]
  · simp [allBl_map]
    rw [zip_tail, lc_mapI (f := fun _ => .bl true) fun x hx => ⟨_, rfl, ?_⟩]
    · simp [allBl_map]
    · have := pw_tail (ix_sorted m) x hx
      simpa using this
  · obtain ⟨j, rfl, hj⟩ := mem_ix.mp hx
    have := (List.getElem?_eq_some_iff.mp hj).1
    simp [e_within]; omega
/-! equations -/
def eqv (e : Eqn) : PV := .tup [ti (ix e.1), .int (bi e.2)]
@[simp] theorem at_eqv0 {e : Eqn} : (eqv e).at_ (.int 0) = some (ti (ix e.1)) := rfl
@[simp] theorem at_eqv1 {e : Eqn} : (eqv e).at_ (.int 1) = some (.int (bi e.2)) := rfl
theorem e_lot_of {m : List Bool} {n : Nat} (h : m.length ≤ n) : F_is_lot_of [.va (.int n), .va (ti (ix m))] S = .ok (.bl true) S := by
  simp [F_is_lot_of, m_is_lot_of, pad, e_lot h]
theorem e_equation {e : Eqn} {n : Nat} (h : e.1.length ≤ n) : F_is_equation [.va (.int n), .va (eqv e)] S = .ok (.bl true) S := by
  simp [F_is_equation, m_is_equation, pad, eqv, e_is_tuple, e_lot_of h, e_bit]
theorem e_check_equations {E : List Eqn} {n : Nat} (h : ∀ e ∈ E, e.1.length ≤ n) (h2 : E.length ≤ 20) : F_check_equations [.va (.int n), .va (.tup (E.map eqv))] S = .ok .non S := by
  simp [F_check_equations, m_check_equations, pad, e_is_tuple, k_MOST_EQUATIONS]
  rw [lc_mapI (f := fun _ => .bl true) fun x hx => ⟨_, rfl, by simp [e_equation (h x hx)]⟩]
  have : ¬ (20 : Int) < E.length := by omega
  simp [allBl_map, this]
theorem e_kept {e : Eqn} {r : List Bool} (h : e.1.length ≤ r.length) : F_is_kept [.va (eqv e), .va (rb r)] S = .ok (.bl (e.ok r)) S := by
  simp [F_is_kept, m_is_kept, pad, eqv, ti, rb]
  rw [lc_mapI (f := fun i => .int ((r.map bi).getD i.toNat 0)) fun x hx => ⟨_, rfl, ?_⟩]
  · simp [allInt_map]
    rw [sum_ix h fun j x e => by simp [e]]
    simp [bi_eq, Eqn.ok]
    cases par e.1 r <;> cases e.2 <;> rfl
  · obtain ⟨j, rfl, hj⟩ := mem_ix.mp hx
    have hj' := (List.getElem?_eq_some_iff.mp hj).1
    have : j < r.length := by omega
    simp [this]
theorem bi_xor {a b : Bool} : (bi a + bi b).fmod 2 = bi (xor a b) := by cases a <;> cases b <;> decide
theorem small_bi {a : Bool} : small (bi a) = true := by cases a <;> decide
theorem not_mem_dec {i : Int} {l : List Int} : (!decide (i ∈ l)) = decide (i ∉ l) := by by_cases h : i ∈ l <;> simp [h]
theorem sym_cat {u w : List Bool} (h : u.length = w.length) : sortV (((ix u).filter (fun i => decide (i ∉ ix w)) ++ (ix w).filter fun i => decide (i ∉ ix u)).map PV.int) = some ((ix (vx u w)).map PV.int) := by
  rw [sort_int, ix_vx h]
theorem e_added {e f : Eqn} (h : e.1.length = f.1.length) (hn : e.1.length ≤ 1000) : F_added [.va (eqv e), .va (eqv f)] S = .ok (eqv (e.add f)) S := by
  have l1 := ix_len e.1
  have l2 := ix_len f.1
  have l3 := List.length_filter_le (fun i => !decide (i ∈ ix f.1)) (ix e.1)
  have l4 := List.length_filter_le (fun i => !decide (i ∈ ix e.1)) (ix f.1)
  have l5 : (List.filter (fun i => !decide (i ∈ ix f.1)) (ix e.1)).length + (List.filter (fun i => !decide (i ∈ ix e.1)) (ix f.1)).length ≤ 16777216 := by omega
  have sc := sym_cat h
  simp only [← not_mem_dec, List.map_append] at sc
  simp [F_added, m_added, pad, eqv, ti]
  rw [lc_filtI (f := PV.int) (p := fun i => decide (i ∉ ix f.1)) fun x hx => ⟨_, rfl, by simp, fun _ => by simp⟩]
  simp
  rw [lc_filtI (f := PV.int) (p := fun i => decide (i ∉ ix e.1)) fun x hx => ⟨_, rfl, by simp, fun _ => by simp⟩]
  simp [l5, sc, small_bi, bi_xor, Eqn.add]
theorem e_odd {u w : List Bool} (h : u.length = w.length) (hn : u.length ≤ 1000) : F_odd_ones [.va (ti (ix u)), .va (ti (ix w))] S = .ok (ti (ix (vx u w))) S := by
  have l1 := ix_len u
  have l2 := ix_len w
  have l3 := List.length_filter_le (fun i => !decide (i ∈ ix w)) (ix u)
  have l4 := List.length_filter_le (fun i => !decide (i ∈ ix u)) (ix w)
  have l5 : (List.filter (fun i => !decide (i ∈ ix w)) (ix u)).length + (List.filter (fun i => !decide (i ∈ ix u)) (ix w)).length ≤ 16777216 := by omega
  have sc := sym_cat h
  simp only [← not_mem_dec, List.map_append] at sc
  simp [F_odd_ones, m_odd_ones, pad, ti]
  rw [lc_filtI (f := PV.int) (p := fun i => decide (i ∉ ix w)) fun x hx => ⟨_, rfl, by simp, fun _ => by simp⟩]
  simp
  rw [lc_filtI (f := PV.int) (p := fun i => decide (i ∉ ix u)) fun x hx => ⟨_, rfl, by simp, fun _ => by simp⟩]
  simp [l5, sc]
/-! elimination -/
abbrev Hd := Eqn × List Bool
def hv (p : Hd) : PV := .tup [eqv p.1, ti (ix p.2)]
def hd (H : List Hd) : PV := dc PV.int hv (H.map fun p => ((ld p.1.1 : Int), p))
structure HdOk (n N : Nat) (H : List Hd) : Prop where
  l : ∀ p ∈ H, p.1.1.length = n ∧ ld p.1.1 < n ∧ p.2.length = N
  d : (H.map fun p => ld p.1.1).Nodup
theorem e_reduced {n N : Nat} {H : List Hd} (h : HdOk n N H) (bn : n ≤ 100) (bN : N ≤ 1000) {e : Eqn} {u : List Bool} (he : e.1.length = n) (hu : u.length = N) :
    ∃ e' u', F_reduced [.bo (hd H), .va (eqv e), .va (ti (ix u))] S = .ok (.tup [eqv e', ti (ix u')]) S ∧ e'.1.length = n ∧ u'.length = N ∧ (ld e'.1 < n → ∀ p ∈ H, ld p.1.1 ≠ ld e'.1) ∧
      ∀ P : Eqn → List Bool → Prop, P e u → (∀ (e : Eqn) u, ∀ p ∈ H, e.1.length = n → u.length = N → P e u → P (e.add p.1) (vx u p.2)) → P e' u' := by
  obtain ⟨fr', ew, e', u', x3, x4, efr, le, lu, st, hp⟩ := wh_inv (S := S)
    (c := wc_reduced_1) (b := wb_reduced_2)
    (fun k fr => ∃ e' u' x3 x4, fr = [.bo (hd H), .va (eqv e'), .va (ti (ix u')), x3, x4] ∧ k = n - ld e'.1 ∧ e'.1.length = n ∧ u'.length = N ∧
      ∀ P : Eqn → List Bool → Prop, P e u → (∀ (e : Eqn) u, ∀ p ∈ H, e.1.length = n → u.length = N → P e u → P (e.add p.1) (vx u p.2)) → P e' u')
    (fun fr => ∃ e' u' x3 x4, fr = [.bo (hd H), .va (eqv e'), .va (ti (ix u')), x3, x4] ∧ e'.1.length = n ∧ u'.length = N ∧ (ld e'.1 < n → ∀ p ∈ H, ld p.1.1 ≠ ld e'.1) ∧
      ∀ P : Eqn → List Bool → Prop, P e u → (∀ (e : Eqn) u, ∀ p ∈ H, e.1.length = n → u.length = N → P e u → P (e.add p.1) (vx u p.2)) → P e' u')
    (fun k fr hI => by
      obtain ⟨e', u', x3, x4, rfl, rfl, le, lu, hp⟩ := hI
      by_cases z : ld e'.1 < e'.1.length
      · obtain ⟨t, et⟩ := ix_head z
        by_cases y : ((ld e'.1 : Nat) : Int) ∈ (H.map fun p => ((ld p.1.1 : Int), p)).map (·.1)
        · right
          have y' := lookup_isSome (x := ((ld e'.1 : Nat) : Int)) (d := H.map fun p => ((ld p.1.1 : Int), p))
          rw [decide_eq_true y, Option.isSome_iff_exists] at y'
          obtain ⟨p, ep⟩ := y'
          have mp := lookup_mem ep
          simp only [List.mem_map, Prod.mk.injEq] at mp
          obtain ⟨p', hp', k1, rfl⟩ := mp
          have k1 : ld p'.1.1 = ld e'.1 := by omega
          obtain ⟨q1, q2, q3⟩ := h.l p' hp'
          have ea := e_added (S := S) (e := e') (f := p'.1) (by rw [le, q1]) (by omega)
          have eo := e_odd (S := S) (u := u') (w := p'.2) (by rw [lu, q3]) (by omega)
          refine ⟨_, n - ld (e'.add p'.1).1, ?_, ?_, .inl ?_, e'.add p'.1, vx u' p'.2, .va (eqv p'.1), .va (ti (ix p'.2)), rfl, rfl, ?_, ?_, fun P h0 h1 => h1 _ _ p' hp' le lu (hp P h0 h1)⟩
          · have := ld_lt (a := e'.1) (b := p'.1.1) (by rw [le, q1]) k1.symm z
            simp only [Eqn.add]
            omega
          · simp [wc_reduced_1, hd, et, ep]
          · simp [wb_reduced_2, hd, et, ep, hv, ea, eo]
          · simp only [Eqn.add]; rw [vx_len (by rw [le, q1]), le]
          · rw [vx_len (by rw [lu, q3]), lu]
        · left
          refine ⟨?_, e', u', x3, x4, rfl, le, lu, fun _ p hp' e => y ?_, hp⟩
          · have := lookup_isSome (x := ((ld e'.1 : Nat) : Int)) (d := H.map fun p => ((ld p.1.1 : Int), p))
            rw [decide_eq_false y] at this
            simp [wc_reduced_1, hd, et, this]
          · rw [List.map_map, List.mem_map]
            exact ⟨p, hp', by simp [e]⟩
      · left
        have z' : ix e'.1 = [] := ix_nil.mpr (by have := ld_le e'.1; omega)
        refine ⟨?_, e', u', x3, x4, rfl, le, lu, fun q => by omega, hp⟩
        simp [wc_reduced_1, hd, z']) 1000 (n - ld e.1) [.bo (hd H), .va (eqv e), .va (ti (ix u)), .no, .no] (by omega) ⟨e, u, _, _, rfl, rfl, he, hu, fun P h0 _ => h0⟩
  subst efr
  refine ⟨e', u', ?_, le, lu, st, hp⟩
  simp [F_reduced, m_reduced, pad, ew]
end
end Law84
namespace Law84
open PySem Q
/-- all lots of places below n, in the order of sets_within -/
def swm : Nat → List (List Bool)
  | 0 => [[]]
  | n + 1 => (swm n).map (· ++ [false]) ++ (swm n).map (· ++ [true])
/-- .. in ascending order -/
def lotm : Nat → List (List Bool)
  | 0 => [[]]
  | n + 1 => zr (n + 1) :: (lotm n).map (true :: ·) ++ (lotm n).tail.map (false :: ·)
def lv (m : List Bool) : PV := ti (ix m)
theorem mem_swm : ∀ {n : Nat} {m : List Bool}, m ∈ swm n ↔ m.length = n
  | 0, m => by simp [swm]
  | n + 1, m => by
    simp only [swm, List.mem_append, List.mem_map]
    constructor
    · rintro (⟨a, h, rfl⟩ | ⟨a, h, rfl⟩) <;> simp [mem_swm.mp h]
    · intro h
      have hne : m ≠ [] := by intro z; simp [z] at h
      have e := List.dropLast_concat_getLast hne
      have hl : m.dropLast ∈ swm n := mem_swm.mpr (by simp [h])
      cases z : m.getLast hne with
      | false => exact .inl ⟨_, hl, by rw [← z]; exact e⟩
      | true => exact .inr ⟨_, hl, by rw [← z]; exact e⟩
section
variable {S : Sto}
theorem e_sets : ∀ {n : Nat}, n ≤ 6 → F_sets_within [.va (.tup (rangeV 0 n))] S = .ok (.lst ((swm n).map lv)) S
  | 0, _ | 1, _ | 2, _ | 3, _ | 4, _ | 5, _ | 6, _ => by kernel_rfl
  | n + 7, h => by omega
theorem lotm_s : ∀ {n : Nat}, n ≤ 4 → ((lotm n).map ix).Pairwise fun a b => ilt a b = true
  | 0, _ | 1, _ | 2, _ | 3, _ | 4, _ => by decide
  | n + 5, h => by omega
theorem lotm_m : ∀ {n : Nat}, n ≤ 4 → (∀ m ∈ lotm n, m ∈ swm n) ∧ ∀ m ∈ swm n, m ∈ lotm n
  | 0, _ | 1, _ | 2, _ | 3, _ | 4, _ => by decide
  | n + 5, h => by omega
theorem swm_nd : ∀ {n : Nat}, n ≤ 4 → ((swm n).map ix).Nodup
  | 0, _ | 1, _ | 2, _ | 3, _ | 4, _ => by decide
  | n + 5, h => by omega
theorem sort_swm {n : Nat} (h : n ≤ 4) : sortV ((swm n).map lv) = some ((lotm n).map lv) := by
  have e1 : (swm n).map lv = ((swm n).map ix).map ti := by rw [List.map_map]; rfl
  have e2 : (lotm n).map lv = ((lotm n).map ix).map ti := by rw [List.map_map]; rfl
  rw [e1, e2, sort_ti, sortL_eq lin_ilt (swm_nd h) (lotm_s h) fun x => ?_]
  simp only [List.mem_map]
  exact ⟨fun ⟨m, hm, e⟩ => ⟨m, (lotm_m h).2 m hm, e⟩, fun ⟨m, hm, e⟩ => ⟨m, (lotm_m h).1 m hm, e⟩⟩
theorem lotm_len {n : Nat} (h : n ≤ 4) {m : List Bool} (hm : m ∈ lotm n) : m.length = n := mem_swm.mp ((lotm_m h).1 m hm)
/-- the equations that all rows keep -/
def kept1 (R : List (List Bool)) (m : List Bool) : List Eqn := ([false, true].filter fun b => R.all fun r => Eqn.ok (m, b) r).map fun b => (m, b)
def keptOf (R : List (List Bool)) (L : List (List Bool)) : List Eqn := L.flatMap (kept1 R)
theorem kept1_len (R : List (List Bool)) (m : List Bool) : (kept1 R m).length ≤ 2 := by
  unfold kept1
  rw [List.length_map]
  exact List.length_filter_le _ _
theorem lotm_cnt : ∀ {n : Nat}, n ≤ 4 → (lotm n).length ≤ 16
  | 0, _ | 1, _ | 2, _ | 3, _ | 4, _ => by decide
  | n + 5, h => by omega
theorem keptOf_len (R L : List (List Bool)) : (keptOf R L).length ≤ 2 * L.length := by
  induction L with
  | nil => simp [keptOf]
  | cons m L ih =>
    have := kept1_len R m
    simp only [keptOf, List.flatMap_cons, List.length_append, List.length_cons] at ih ⊢
    omega
theorem keptOf_app (R L M : List (List Bool)) : keptOf R (L ++ M) = keptOf R L ++ keptOf R M := by simp [keptOf]
theorem bits01 : [PV.int 0, PV.int 1] = [false, true].map fun b => PV.int (bi b) := rfl
theorem e_kept_equations {n : Nat} (h : n ≤ 4) {R : List (List Bool)} (hR : ∀ r ∈ R, r.length = n) : F_kept_equations [.va (.int n), .va (rw_ R)] S = .ok (.lst ((keptOf R (lotm n)).map eqv)) S := by
  obtain ⟨fr', e, x3, x4, x5, rfl⟩ := for_inv (S := S) (g := lv) (tg := tN 3) (b := fb_kept_equations_1)
    (fun done fr => ∃ x3 x4 x5, fr = [.va (.int n), .va (rw_ R), .ow (.lst ((keptOf R done).map eqv)), x3, x4, x5]) [] (lotm n)
    (fun d m r fr hd hI => by
      obtain ⟨x3, x4, x5, rfl⟩ := hI
      refine ⟨_, _, rfl, .inl ?_, .va (lv m), x4, x5, rfl⟩
      have lm : m.length = n := lotm_len h (by rw [← List.nil_append (lotm n), hd]; simp)
      have c1 := lotm_cnt h
      have c2 := keptOf_len R d
      have c3 : d.length + (1 + r.length) ≤ 16 := by
        have := congrArg List.length hd
        simp only [List.nil_append, List.length_append, List.length_cons] at this
        omega
      have c4 := kept1_len R m
      simp only [kept1, List.length_map] at c4
      have c5 : (keptOf R d).length + (([false, true].filter fun b => R.all fun r => Eqn.ok (m, b) r)).length ≤ 16777216 := by omega
      simp [fb_kept_equations_1, -lcGo_con]
      rw [bits01, lc_filtI (f := fun b => eqv (m, b)) (p := fun b => R.all fun r => Eqn.ok (m, b) r) fun b hb => ⟨_, rfl, ?_, fun _ => ?_⟩]
      · simp [c5, keptOf_app]
        simp [keptOf, kept1]
      · simp [rw_]
        rw [lc_mapI (f := fun r => .bl (Eqn.ok (m, b) r)) fun r hr => ⟨_, rfl, by
          have := e_kept (S := S) (e := (m, b)) (r := r) (by simp [hR r hr, lm])
          simp only [eqv] at this
          simp [lv, this]⟩]
        simp [allBl_map, Function.comp_def, -List.all_eq_true, List.all_map]
      · simp [lv, eqv]) (fr := [.va (.int n), .va (rw_ R), .ow (.lst []), .no, .no, .no]) ⟨_, _, _, rfl⟩
  have bn : (n : Int) ≤ 16777216 := by omega
  have er := e_sets (S := S) (n := n) (by omega)
  simp [F_kept_equations, m_kept_equations, pad, bn, er, sort_swm h, e]
/-! the equations found -/
open Classical in
/-- what is no sum of those ahead -/
noncomputable def gstep (n : Nat) (F : List Eqn) (e : Eqn) : List Eqn := if Sp (n + 1) (F.map Eqn.ve) e.ve then F else F ++ [e]
noncomputable def greedy (n : Nat) (L : List Eqn) : List Eqn := L.foldl (gstep n) []
theorem greedy_app (n : Nat) (L : List Eqn) (e : Eqn) : greedy n (L ++ [e]) = gstep n (greedy n L) e := by
  simp [greedy, List.foldl_append]
theorem gstep_in {n : Nat} {F : List Eqn} {e : Eqn} (h : Sp (n + 1) (F.map Eqn.ve) e.ve) : gstep n F e = F := if_pos h
theorem gstep_out {n : Nat} {F : List Eqn} {e : Eqn} (h : ¬ Sp (n + 1) (F.map Eqn.ve) e.ve) : gstep n F e = F ++ [e] := if_neg h
structure Fnd (n : Nat) (R : List (List Bool)) (H : List Hd) (F : List Eqn) : Prop where
  h : HdOk n 0 H
  c : F.length = H.length
  f : ∀ e ∈ F, e.1.length = n
  s : ∀ x, x.length = n + 1 → (Sp (n + 1) (H.map fun p => p.1.ve) x ↔ Sp (n + 1) (F.map Eqn.ve) x)
  k : ∀ p ∈ H, ∀ r ∈ R, p.1.ok r = true
theorem Fnd.len {n : Nat} {R : List (List Bool)} {H : List Hd} {F : List Eqn} (h : Fnd n R H F) : F.length ≤ n := by
  have := nodup_len (m := List.range n) h.h.d fun x hx => by
    obtain ⟨p, hp, rfl⟩ := List.mem_map.mp hx
    exact List.mem_range.mpr (h.h.l p hp).2.1
  rw [List.length_map, List.length_range] at this
  rw [h.c]; exact this
theorem Eqn.ve_len {e : Eqn} : e.ve.length = e.1.length + 1 := by simp [Eqn.ve]
/-- one equation more: its rest tells whether it is a sum -/
theorem Fnd.step {n : Nat} {R : List (List Bool)} {H : List Hd} {F : List Eqn} (h : Fnd n R H F) {r0 : List Bool} (h0 : r0 ∈ R) {e e' : Eqn} {u' : List Bool} (he : e.1.length = n) (hk : ∀ r ∈ R, e.ok r = true)
    (le : e'.1.length = n) (st : ld e'.1 < n → ∀ p ∈ H, ld p.1.1 ≠ ld e'.1) (lu : u'.length = 0)
    (hp : ∀ P : Eqn → List Bool → Prop, P e [] → (∀ (e : Eqn) u, ∀ p ∈ H, e.1.length = n → u.length = 0 → P e u → P (e.add p.1) (vx u p.2)) → P e' u') :
    if ld e'.1 < n then ¬ Sp (n + 1) (F.map Eqn.ve) e.ve ∧ Fnd n R (H ++ [(e', [])]) (F ++ [e]) else Sp (n + 1) (F.map Eqn.ve) e.ve := by
  have hH : ∀ v ∈ H.map fun p => p.1.ve, v.length = n + 1 := fun v hv => by
    obtain ⟨p, hp, rfl⟩ := List.mem_map.mp hv
    rw [Eqn.ve_len, (h.h.l p hp).1]
  have hF : ∀ v ∈ F.map Eqn.ve, v.length = n + 1 := fun v hv => by
    obtain ⟨p, hp, rfl⟩ := List.mem_map.mp hv
    rw [Eqn.ve_len, h.f p hp]
  have l0 : e.ve.length = n + 1 := by rw [Eqn.ve_len, he]
  have l1 : e'.ve.length = n + 1 := by rw [Eqn.ve_len, le]
  obtain ⟨-, dif, ok'⟩ := hp (fun f _ => f.1.length = n ∧ Sp (n + 1) (H.map fun p => p.1.ve) (vx f.ve e.ve) ∧ ∀ r ∈ R, f.ok r = true)
    ⟨he, by rw [vx_self, l0]; exact .zero, hk⟩ fun f u p hp lf _ ⟨_, q1, q2⟩ => by
      have lp := (h.h.l p hp).1
      refine ⟨by simp only [Eqn.add]; rw [vx_len (by rw [lf, lp]), lf], ?_, fun r hr => by rw [Eqn.ok_add (by rw [lf, lp]) (h.k p hp r hr)]; exact q2 r hr⟩
      rw [Eqn.ve_add (by rw [lf, lp]), vx_assoc, vx_comm p.1.ve, ← vx_assoc]
      exact q1.add (List.mem_map_of_mem hp)
  have back : Sp (n + 1) (H.map fun p => p.1.ve) e.ve ↔ Sp (n + 1) (H.map fun p => p.1.ve) e'.ve := by
    constructor
    · intro q
      have := Sp.vx hH q dif
      rw [vx_comm e'.ve, ← vx_assoc, vx_self, l0, zr_vx l1] at this
      exact this
    · intro q
      have := Sp.vx hH q dif
      rw [← vx_assoc, vx_self, l1, zr_vx l0] at this
      exact this
  have nd : ((H.map fun p => p.1.ve).map ld).Nodup := by
    have : (H.map fun p => p.1.ve).map ld = H.map fun p => ld p.1.1 := by
      rw [List.map_map]
      apply List.map_congr_left
      intro p hp
      have := h.h.l p hp
      exact ld_ve (by omega)
    rw [this]; exact h.h.d
  split
  · rename_i z
    have hn : ¬ Sp (n + 1) (F.map Eqn.ve) e.ve := by
      rw [← h.s _ l0, back]
      intro q
      have ldv : ld e'.ve = ld e'.1 := ld_ve (by omega)
      rcases Sp.lead hH nd q with q | ⟨v, hv, q⟩
      · rw [q, ld_zr'] at ldv
        omega
      · obtain ⟨p, hp, rfl⟩ := List.mem_map.mp hv
        have := h.h.l p hp
        rw [ldv, show ld p.1.ve = ld p.1.1 from ld_ve (by omega)] at q
        exact st z p hp q.symm
    refine ⟨hn, ⟨⟨fun p hp => ?_, ?_⟩, by simp [h.c], fun f hf => ?_, fun x lx => ?_, fun p hp r hr => ?_⟩⟩
    · rcases List.mem_append.mp hp with hp | hp
      · exact h.h.l p hp
      · rw [List.mem_singleton.mp hp]; exact ⟨le, z, rfl⟩
    · rw [List.map_append, List.nodup_append]
      refine ⟨h.h.d, by simp, fun a ha b hb => ?_⟩
      obtain ⟨p, hp, rfl⟩ := List.mem_map.mp ha
      simp only [List.map_cons, List.map_nil, List.mem_singleton] at hb
      subst hb
      exact st z p hp
    · rcases List.mem_append.mp hf with hf | hf
      · exact h.f f hf
      · rw [List.mem_singleton.mp hf]; exact he
    · rw [List.map_append, List.map_append]
      simp only [List.map_cons, List.map_nil]
      rw [Sp.snoc hH l1 lx, Sp.snoc hF l0 lx, h.s x lx]
      have lx1 : (vx x e.ve).length = n + 1 := by rw [vx_len (by rw [lx, l0]), lx]
      have lx2 : (vx x e'.ve).length = n + 1 := by rw [vx_len (by rw [lx, l1]), lx]
      rw [← h.s _ lx1]
      have : Sp (n + 1) (H.map fun p => p.1.ve) (vx x e'.ve) ↔ Sp (n + 1) (H.map fun p => p.1.ve) (vx x e.ve) := by
        constructor
        · intro q
          have := Sp.vx hH q dif
          rw [vx_assoc, ← vx_assoc e'.ve, vx_self, l1, zr_vx l0] at this
          exact this
        · intro q
          have := Sp.vx hH q dif
          rw [vx_comm e'.ve, vx_assoc, ← vx_assoc e.ve, vx_self, l0, zr_vx l1] at this
          exact this
      rw [this]
    · rcases List.mem_append.mp hp with hp | hp
      · exact h.k p hp r hr
      · rw [List.mem_singleton.mp hp]; exact ok' r hr
  · rename_i z
    have ez : ld e'.1 = e'.1.length := by have := ld_le e'.1; omega
    have e1 := ld_zr ez
    have e2 : e'.2 = false := by
      have := ok' r0 h0
      unfold Eqn.ok at this
      rw [e1, par_zr] at this
      simpa using this.symm
    have ev : e'.ve = zr (n + 1) := by
      unfold Eqn.ve
      rw [e1, e2, le]
      simp [zr, List.replicate_succ']
    rw [← h.s _ l0, back, ev]
    exact .zero
end
end Law84
namespace Law84
open PySem Q
section
variable {S : Sto}
theorem hd_put {H : List Hd} {e : Eqn} {u : List Bool} (h : ∀ p ∈ H, ld p.1.1 ≠ ld e.1) (z : H.length < 1000) : putO (hd H) (.int (ld e.1 : Nat)) (.tup [eqv e, ti (ix u)]) = some (hd (H ++ [(e, u)])) := by
  have e1 := em_int.put keyed_int (g := hv) (d := H.map fun p => ((ld p.1.1 : Int), p)) (x := ((ld e.1 : Nat) : Int)) (y := (e, u)) (by rw [List.length_map]; omega)
  unfold hd
  rw [show (PV.tup [eqv e, ti (ix u)]) = hv (e, u) from rfl, e1, aput_new]
  · simp
  · rw [List.map_map, List.mem_map]
    rintro ⟨p, hp, e⟩
    exact h p hp (by simp at e; omega)
theorem e_equations_of {n : Nat} (h : n ≤ 4) {R : List (List Bool)} (hR : ∀ r ∈ R, r.length = n) (hne : R ≠ []) :
    F_equations_of [.va (.int n), .va (rw_ R)] S = .ok (.tup ((greedy n (keptOf R (lotm n))).map eqv)) S ∧ ∃ H, Fnd n R H (greedy n (keptOf R (lotm n))) := by
  obtain ⟨r0, h0⟩ := List.exists_mem_of_ne_nil R hne
  have kok : ∀ e ∈ keptOf R (lotm n), e.1.length = n ∧ ∀ r ∈ R, e.ok r = true := fun e he => by
    simp only [keptOf, kept1, List.mem_flatMap, List.mem_map, List.mem_filter] at he
    obtain ⟨m, hm, b, ⟨_, hb⟩, rfl⟩ := he
    exact ⟨lotm_len h hm, fun r hr => by simpa using List.all_eq_true.mp hb r hr⟩
  obtain ⟨fr', e, x2, x5, x6, H, rfl, fnd⟩ := for_inv (S := S) (g := eqv) (tg := tN 2) (b := fb_equations_of_1)
    (fun done fr => ∃ x2 x5 x6 H, fr = [.va (.int n), .va (rw_ R), x2, .ow (hd H), .ow (.lst ((greedy n done).map eqv)), x5, x6] ∧ Fnd n R H (greedy n done)) [] (keptOf R (lotm n))
    (fun d e r fr hdd hI => by
      obtain ⟨x2, x5, x6, H, rfl, fnd⟩ := hI
      obtain ⟨le, ke⟩ := kok e (by rw [← List.nil_append (keptOf R (lotm n)), hdd]; simp)
      obtain ⟨e', u', er, le', lu', st, hp⟩ := e_reduced (S := S) fnd.h (by omega) (by omega) (e := e) (u := []) le rfl
      have stp := fnd.step h0 le ke le' st lu' hp
      have eu : u' = [] := List.length_eq_zero_iff.mp lu'
      subst eu
      replace er : F_reduced [.bo (hd H), .va (eqv e), .va (.tup [])] S = .ok (.tup [eqv e', .tup []]) S := er
      have fl := fnd.len
      by_cases z : ld e'.1 < n
      · rw [if_pos z] at stp
        obtain ⟨t, et⟩ := ix_head (m := e'.1) (by omega)
        have hpt := hd_put (u := []) (st z) (by rw [← fnd.c]; omega)
        replace hpt : putO (hd H) (.int (ld e'.1 : Nat)) (.tup [eqv e', .tup []]) = some (hd (H ++ [(e', [])])) := hpt
        refine ⟨_, _, rfl, .inl ?_, .va (eqv e), .va (eqv e'), .va (.tup []), H ++ [(e', [])], rfl, ?_⟩
        · rw [greedy_app, gstep_out stp.1]
          have gl : (greedy n d).length ≤ 16777215 := by omega
          simp [fb_equations_of_1, er, et, hpt, gl]
        · rw [greedy_app, gstep_out stp.1]; exact stp.2
      · rw [if_neg z] at stp
        have en : ix e'.1 = [] := ix_nil.mpr (by have := ld_le e'.1; omega)
        refine ⟨_, _, rfl, .inl ?_, .va (eqv e), .va (eqv e'), .va (.tup []), H, rfl, ?_⟩
        · rw [greedy_app, gstep_in stp]
          simp [fb_equations_of_1, er, en]
        · rw [greedy_app, gstep_in stp]; exact fnd) (fr := [.va (.int n), .va (rw_ R), .no, .ow (hd []), .ow (.lst []), .no, .no]) ⟨_, _, _, [], rfl, ⟨⟨by simp, by simp⟩, rfl, by simp [greedy], fun x lx => by simp [greedy], by simp⟩⟩
  refine ⟨?_, H, fnd⟩
  have ek := e_kept_equations (S := S) h hR
  have hl : R.length ≠ 0 := fun z => hne (List.length_eq_zero_iff.mp z)
  replace e : forGo (tN 2) fb_equations_of_1 (List.map eqv (keptOf R (lotm n))) [.va (.int n), .va (rw_ R), .no, .ow (.dct [] []), .ow (.lst []), .no, .no] S = _ := e
  simp [F_equations_of, m_equations_of, pad, ek, hne, e]
end
end Law84
namespace Law84
open PySem Q
section
variable {S : Sto}
theorem e_lkeeps {e : Eqn} {r : List Bool} (h : e.1.length ≤ r.length) : F__law_keeps [.va (rb r), .va (eqv e)] S = .ok (.bl (e.ok r)) S := by
  simp [F__law_keeps, m__law_keeps, pad, eqv, ti, rb]
  rw [lc_mapI (f := fun i => .int ((r.map bi).getD i.toNat 0)) fun x hx => ⟨_, rfl, ?_⟩]
  · simp [allInt_map]
    rw [sum_ix h fun j x e => by simp [e]]
    simp [bi_eq, Eqn.ok]
    cases par e.1 r <;> cases e.2 <;> rfl
  · obtain ⟨j, rfl, hj⟩ := mem_ix.mp hx
    have hj' := (List.getElem?_eq_some_iff.mp hj).1
    have : j < r.length := by omega
    simp [this]
theorem rb_app {a : List Bool} {b : Bool} : rb (a ++ [b]) = .tup (a.map (fun x => .int (bi x)) ++ [.int (bi b)]) := by simp [rb, ti, Function.comp_def]
theorem range_bits {m : List Bool} : (List.range m.length).map (fun i => PV.int (bi (m.getD i false))) = m.map fun x => .int (bi x) := by
  apply List.ext_getElem
  · simp
  · intro i h1 h2
    simp at h1 h2
    simp [h1]
theorem e_vector {e : Eqn} {n : Nat} (h : e.1.length = n) (bn : n ≤ 100) : F__law_vector [.va (eqv e), .va (.int n)] S = .ok (rb e.ve) S := by
  have c1 : (n : Int) ≤ 16777216 := by omega
  have c2 : n + 1 ≤ 16777216 := by omega
  simp [F__law_vector, m__law_vector, pad, c1, rangeV_map]
  rw [lc_mapI (f := fun i => .int (bi (e.1.getD i false))) fun i hi => ⟨_, rfl, ?_⟩]
  · subst h
    simp only [range_bits]
    simp [Eqn.ve, rb_app, c2]
  · simp
    have : (inV (.int (i : Int)) (ti (ix e.1))) = some (decide ((i : Int) ∈ ix e.1)) := inT_int
    rw [this]
    have hi : i < n := List.mem_range.mp hi
    have hm : (i : Int) ∈ ix e.1 ↔ e.1.getD i false = true := by
      rw [mem_ix]
      constructor
      · rintro ⟨j, e1, e2⟩
        have : i = j := by omega
        subst this
        simp [e2]
      · intro z
        refine ⟨i, rfl, ?_⟩
        rw [List.getElem?_eq_getElem (by omega)]
        simpa [h ▸ hi] using z
    cases z : e.1.getD i false with
    | true =>
      rw [z] at hm
      simp only [List.getD_eq_getElem?_getD] at z
      simp [hm, z]; rfl
    | false =>
      rw [z] at hm
      simp only [List.getD_eq_getElem?_getD] at z
      simp [hm, z]; rfl
theorem vx_zip : ∀ {a b : List Bool}, vx a b = (a.zip b).map fun p => xor p.1 p.2
  | [], _ => by simp [vx]
  | _ :: _, [] => by simp [vx]
  | x :: a, y :: b => by have := vx_zip (a := a) (b := b); simp only [vx] at this; simp [vx, this]
theorem e_ladded {a b : List Bool} : F__law_added [.va (rb a), .va (rb b)] S = .ok (rb (vx a b)) S := by
  simp [F__law_added, m__law_added, pad, rb, ti, zip_map2]
  rw [lc_mapI (f := fun p => .int (bi (xor p.1 p.2))) fun p hp => ⟨_, rfl, by simp [small_bi, bi_xor]⟩]
  simp [vx_zip]
/-! the span -/
def tr (_ : Unit) : PV := .bl true
def spn (D : List (List Bool × Unit)) : PV := dc rb tr D
@[simp] theorem isC_spn {D : List (List Bool × Unit)} : (spn D).isC = true := rfl
theorem spn_put {D : List (List Bool × Unit)} {x : List Bool} (z : D.length < 16777216) : putO (spn D) (rb x) (.bl true) = some (spn (aput D x ())) := em_rb.put (g := tr) (y := ()) keyed_rb z
theorem keys_spn {D : List (List Bool × Unit)} : bList [spn D] = some (.lst ((D.map (·.1)).map rb)) := by
  show some (PV.lst _) = _
  rw [List.map_map]; rfl
def puts (D : List (List Bool × Unit)) (v : List Bool) (xs : List (List Bool)) : List (List Bool × Unit) := xs.foldl (fun D x => aput D (vx x v) ()) D
theorem puts_len (v : List Bool) : ∀ (xs : List (List Bool)) (D : List (List Bool × Unit)), (puts D v xs).length ≤ D.length + xs.length
  | [], D => Nat.le_refl _
  | x :: xs, D => by
    have := puts_len v xs (aput D (vx x v) ())
    have := aput_len (d := D) (x := vx x v) (y := ())
    simp only [puts, List.foldl_cons, List.length_cons] at *
    omega
theorem mem_puts (v : List Bool) (y : List Bool) : ∀ (xs : List (List Bool)) (D : List (List Bool × Unit)), y ∈ (puts D v xs).map (·.1) ↔ y ∈ D.map (·.1) ∨ ∃ x ∈ xs, y = vx x v
  | [], D => by simp [puts]
  | x :: xs, D => by
    have ih := mem_puts v y xs (aput D (vx x v) ())
    simp only [puts, List.foldl_cons] at ih ⊢
    rw [ih, mem_aput]
    simp only [List.mem_cons, exists_eq_or_imp]
    constructor
    · rintro ((h | h) | h)
      · exact .inr (.inl h)
      · exact .inl h
      · exact .inr (.inr h)
    · rintro (h | h | h)
      · exact .inl (.inr h)
      · exact .inl (.inl h)
      · exact .inr h
def spanD (n : Nat) (V : List (List Bool)) : List (List Bool × Unit) := V.foldl (fun D v => puts D v (D.map (·.1))) [(zr (n + 1), ())]
theorem spanD_app {n : Nat} {V : List (List Bool)} {v : List Bool} : spanD n (V ++ [v]) = puts (spanD n V) v ((spanD n V).map (·.1)) := by simp [spanD]
theorem spanD_len {n : Nat} (V : List (List Bool)) : (spanD n V).length ≤ 2 ^ V.length := by
  refine snoc_ind (P := fun V => (spanD n V).length ≤ 2 ^ V.length) (by simp [spanD]) (fun V v ih => ?_) V
  rw [spanD_app]
  have := puts_len v ((spanD n V).map (·.1)) (spanD n V)
  rw [List.length_map] at this
  simp only [List.length_append, List.length_cons, List.length_nil, Nat.pow_succ]
  omega
theorem spanD_l {n : Nat} (V : List (List Bool)) : (∀ v ∈ V, v.length = n + 1) → ∀ z ∈ (spanD n V).map (·.1), z.length = n + 1 := by
  refine snoc_ind (P := fun V => (∀ v ∈ V, v.length = n + 1) → ∀ z ∈ (spanD n V).map (·.1), z.length = n + 1) (fun _ z hz => ?_) (fun V v ih hV z hz => ?_) V
  · simp only [spanD, List.foldl_nil, List.map_cons, List.map_nil, List.mem_singleton] at hz
    rw [hz]; simp
  · have ih := ih fun u hu => hV u (by simp [hu])
    rw [spanD_app, mem_puts] at hz
    rcases hz with h | ⟨y, hy, rfl⟩
    · exact ih z h
    · rw [vx_len (by rw [ih y hy, hV v (by simp)]), ih y hy]
theorem mem_spanD {n : Nat} (V : List (List Bool)) : (∀ v ∈ V, v.length = n + 1) → ∀ x, x.length = n + 1 → (x ∈ (spanD n V).map (·.1) ↔ Sp (n + 1) V x) := by
  refine snoc_ind (P := fun V => (∀ v ∈ V, v.length = n + 1) → ∀ x, x.length = n + 1 → (x ∈ (spanD n V).map (·.1) ↔ Sp (n + 1) V x)) (fun _ x hx => ?_) (fun V v ih hV x hx => ?_) V
  · simp only [spanD, List.foldl_nil, List.map_cons, List.map_nil, List.mem_singleton]
    constructor
    · rintro rfl; exact .zero
    · intro h
      cases h with
      | zero => rfl
      | add _ hv => exact absurd hv (by simp)
  · have hV' : ∀ u ∈ V, u.length = n + 1 := fun u hu => hV u (by simp [hu])
    have lv : v.length = n + 1 := hV v (by simp)
    have ih := ih hV'
    rw [spanD_app, mem_puts, Sp.snoc hV' lv hx, ih x hx]
    have lxv : (vx x v).length = n + 1 := by rw [vx_len (by rw [hx, lv]), hx]
    constructor
    · rintro (h | ⟨y, hy, rfl⟩)
      · exact .inl h
      · have ly : y.length = n + 1 := spanD_l V hV' y hy
        refine .inr ?_
        rw [vx_cancel (by rw [ly, lv])]
        exact (ih y ly).mp hy
    · rintro (h | h)
      · exact .inl h
      · exact .inr ⟨vx x v, (ih _ lxv).mpr h, (vx_cancel (by rw [hx, lv])).symm⟩
theorem e_spanned {n : Nat} {V : List (List Bool)} (n1 : 1 ≤ n) (bn : n ≤ 100) (hV : V.length ≤ 20) : F__law_spanned [.va (.lst (V.map rb)), .va (.int n)] S = .ok (spn (spanD n V)) S := by
  obtain ⟨fr', e, x3, x4, rfl⟩ := for_inv (S := S) (g := rb) (tg := tN 3) (b := fb__law_spanned_2)
    (fun done fr => ∃ x3 x4, fr = [.va (.lst (V.map rb)), .va (.int n), .ow (spn (spanD n done)), x3, x4]) [] V
    (fun d v r fr hdd hI => by
      obtain ⟨x3, x4, rfl⟩ := hI
      have ld : d.length < 20 := by
        have := congrArg List.length hdd
        simp only [List.nil_append, List.length_append, List.length_cons] at this
        omega
      have bd : (spanD n d).length ≤ 2 ^ 20 := Nat.le_trans (spanD_len d) (Nat.pow_le_pow_right (by decide) (by omega))
      have bk : ((spanD n d).map (·.1)).length ≤ 2 ^ 20 := by rw [List.length_map]; exact bd
      obtain ⟨fr', e, x4', rfl⟩ := for_inv (S := S) (g := rb) (tg := tN 4) (b := fb__law_spanned_1)
        (fun done fr => ∃ x4, fr = [.va (.lst (V.map rb)), .va (.int n), .ow (spn (puts (spanD n d) v done)), .va (rb v), x4]) [] ((spanD n d).map (·.1))
        (fun d2 x r2 fr h2 hI => by
          obtain ⟨x4, rfl⟩ := hI
          have l2 : d2.length ≤ 2 ^ 20 := by
            have := congrArg List.length h2
            simp only [List.nil_append, List.length_append, List.length_cons] at this
            omega
          have := puts_len v d2 (spanD n d)
          have hp := spn_put (D := puts (spanD n d) v d2) (x := vx x v) (by omega)
          have ea : aput (puts (spanD n d) v d2) (vx x v) () = puts (spanD n d) v (d2 ++ [x]) := by simp [puts]
          rw [ea] at hp
          exact ⟨_, _, rfl, .inl (by simp [fb__law_spanned_1, e_ladded, hp]; rfl), _, rfl⟩) (fr := [.va (.lst (V.map rb)), .va (.int n), .ow (spn (spanD n d)), .va (rb v), x4]) ⟨_, rfl⟩
      rw [List.nil_append, List.map_map] at e
      refine ⟨_, _, rfl, .inl ?_, .va (rb v), x4', by rw [spanD_app]⟩
      simp [fb__law_spanned_2, keys_spn, e]) (fr := [.va (.lst (V.map rb)), .va (.int n), .ow (spn (spanD n [])), .no, .no]) ⟨_, _, rfl⟩
  rw [List.nil_append] at e
  have e0 : (PV.dct [PV.tup (List.replicate (n + 1) (PV.int 0))] [PV.bl true]) = spn (spanD n []) := by
    simp [spn, spanD, dc, rb, ti, zr, tr, bi]
  have c : 1 ≤ (n : Int) + 1 ∧ (n : Int) + 1 ≤ 1000 := by omega
  have e1 : dMk [(.tup (List.replicate (n + 1) (.int 0)), .bl true)] = some (spn (spanD n [])) := by
    rw [← e0]
    have : PV.tup (List.replicate (n + 1) (PV.int 0)) = ti (List.replicate (n + 1) 0) := by simp [ti]
    rw [this]
    exact if_pos (show keysOk ([ti (List.replicate (n + 1) 0)]) = true from keyed_ti.oks (l := [List.replicate (n + 1) 0]))
  simp [F__law_spanned, m__law_spanned, pad, c, e1, e]
end
end Law84
namespace Law84
open PySem Q
section
variable {S : Sto}
def lastI : Nat → Sl
  | 0 => .no
  | n + 1 => .va (.int (n : Nat))
theorem lsets_go : ∀ {n : Nat}, n ≤ 6 → forGo (tN 2) fb__law_sets_1 (rangeV 0 n) [.va (.lst (rangeV 0 n)), .va (.lst [.tup []]), .no, .no, .no] S = .nx [.va (.lst (rangeV 0 n)), .va (.lst ((swm n).map lv)), lastI n, .no, .no] S
  | 0, _ | 1, _ | 2, _ | 3, _ | 4, _ | 5, _ | 6, _ => by kernel_rfl
  | n + 7, h => by omega
def pe (m : List Bool) : PV := .tup [.int ((ix m).length : Nat), lv m]
def lsets (n : Nat) : List (List Bool) := sortL (fun a b => plt (pe a) (pe b)) (swm n)
theorem lsets_perm {n : Nat} : (lsets n).Perm (swm n) := sortL_perm
theorem swm_len : ∀ n, (swm n).length = 2 ^ n
  | 0 => rfl
  | n + 1 => by simp [swm, swm_len n, Nat.pow_succ]; omega
theorem e_lsets {n : Nat} (h : n ≤ 6) : F__law_sets [.va (.lst (rangeV 0 n))] S = .ok (.lst ((lsets n).map lv)) S := by
  have e := lsets_go (S := S) h
  have es : sortV ((swm n).map pe) = some ((lsets n).map pe) := sort_gen (fun a _ b _ => by
      simp [pe, pal, pals, lv]) (fun a _ => by simp [pe, PV.isD, areD, lv]) fun a _ => rfl
  simp [F__law_sets, m__law_sets, pad, e]
  rw [lc_mapI (f := pe) fun m hm => ⟨_, rfl, by simp [pe, lv]⟩]
  simp [es]
  rw [lc_mapI (f := lv) fun m hm => ⟨_, rfl, by simp [pe]⟩]
  simp
theorem sort_lsets {n : Nat} (h : n ≤ 4) : sortV ((lsets n).map lv) = some ((lotm n).map lv) := by
  have e1 : (lsets n).map lv = ((lsets n).map ix).map ti := by rw [List.map_map]; rfl
  have e2 : (lotm n).map lv = ((lotm n).map ix).map ti := by rw [List.map_map]; rfl
  have nd : ((lsets n).map ix).Nodup := ((lsets_perm.map ix).nodup_iff).mpr (swm_nd h)
  rw [e1, e2, sort_ti, sortL_eq lin_ilt nd (lotm_s h) fun x => ?_]
  rw [(lsets_perm.map ix).mem_iff]
  simp only [List.mem_map]
  exact ⟨fun ⟨m, hm, e⟩ => ⟨m, (lotm_m h).2 m hm, e⟩, fun ⟨m, hm, e⟩ => ⟨m, (lotm_m h).1 m hm, e⟩⟩
noncomputable def g1 (n : Nat) (R : List (List Bool)) (m : List Bool) (b : Bool) (F : List Eqn) : List Eqn := if R.all fun r => Eqn.ok (m, b) r then (open Classical in if Sp (n + 1) (F.map Eqn.ve) (Eqn.ve (m, b)) then F else F ++ [(m, b)]) else F
theorem greedy_two {n : Nat} {R : List (List Bool)} {m : List Bool} {A : List Eqn} : greedy n (A ++ kept1 R m) = g1 n R m true (g1 n R m false (greedy n A)) := by
  have gs : ∀ F e, gstep n F e = (open Classical in if Sp (n + 1) (F.map Eqn.ve) e.ve then F else F ++ [e]) := fun _ _ => rfl
  unfold kept1 g1
  by_cases c1 : (R.all fun r => Eqn.ok (m, false) r) = true <;> by_cases c2 : (R.all fun r => Eqn.ok (m, true) r) = true
  · rw [if_pos c1, if_pos c2, ← gs, ← gs, ← greedy_app, ← greedy_app]; simp only [List.filter_cons, c1, c2, if_true, List.filter_nil, List.map_cons, List.map_nil, List.append_assoc, List.cons_append, List.nil_append]
  · rw [if_pos c1, if_neg c2, ← gs, ← greedy_app]; simp only [List.filter_cons, c1, c2, if_true, List.filter_nil, List.map_cons, List.map_nil, Bool.false_eq_true, if_false]
  · rw [if_neg c1, if_pos c2, ← gs, ← greedy_app]; simp only [List.filter_cons, c1, c2, if_true, List.filter_nil, List.map_cons, List.map_nil, Bool.false_eq_true, if_false]
  · rw [if_neg c1, if_neg c2]; simp only [List.filter_cons, c1, c2, List.filter_nil, List.map_nil, Bool.false_eq_true, if_false, List.append_nil]
theorem stepb {n : Nat} (n1 : 1 ≤ n) (h : n ≤ 4) {R : List (List Bool)} (hR : ∀ r ∈ R, r.length = n) {m : List Bool} (lm : m.length = n) {b : Bool} {F : List Eqn} (hF : ∀ e ∈ F, e.1.length = n) (lF : F.length ≤ 19) {x5 x6 x7 : Sl} :
    ∃ x5', fb__law_equations_1 [.va (.int n), .va (rw_ R), .ow (.lst (F.map eqv)), .va (lv m), .va (.int (bi b)), x5, x6, x7] S = .nx [.va (.int n), .va (rw_ R), .ow (.lst ((g1 n R m b F).map eqv)), .va (lv m), .va (.int (bi b)), x5', x6, x7] S := by
  have e1 : ∀ r ∈ R, F__law_keeps [.va (rb r), .va (.tup [lv m, .int (bi b)])] S = .ok (.bl (Eqn.ok (m, b) r)) S := fun r hr => e_lkeeps (e := (m, b)) (by simp [hR r hr, lm])
  have e2 : F__law_vector [.va (.tup [lv m, .int (bi b)]), .va (.int n)] S = .ok (rb (Eqn.ve (m, b))) S := e_vector (e := (m, b)) lm (by omega)
  have e3 : ∀ e ∈ F, F__law_vector [.va (eqv e), .va (.int n)] S = .ok (rb e.ve) S := fun e he => e_vector (hF e he) (by omega)
  have e4 : F__law_spanned [.va (.lst ((F.map Eqn.ve).map rb)), .va (.int n)] S = .ok (spn (spanD n (F.map Eqn.ve))) S := e_spanned n1 (by omega) (by rw [List.length_map]; omega)
  have hV : ∀ v ∈ F.map Eqn.ve, v.length = n + 1 := fun v hv => by
    obtain ⟨e, he, rfl⟩ := List.mem_map.mp hv
    rw [Eqn.ve_len, hF e he]
  have e5 := mem_spanD (F.map Eqn.ve) hV (Eqn.ve (m, b)) (by rw [Eqn.ve_len]; simp [lm])
  have e6 : inV (rb (Eqn.ve (m, b))) (spn (spanD n (F.map Eqn.ve))) = some (decide (Eqn.ve (m, b) ∈ (spanD n (F.map Eqn.ve)).map (·.1))) := by
    show inV _ (dc _ _ _) = _
    rw [inD_rb, lookup_isSome]
    congr
  have lF' : F.length ≤ 16777215 := by omega
  simp [fb__law_equations_1]
  rw [lc_mapI (f := fun r => .bl (Eqn.ok (m, b) r)) fun r hr => ⟨_, rfl, by simp [e1 r hr]⟩]
  simp [allBl_map, -List.all_eq_true]
  by_cases c1 : R.all (Eqn.ok (m, b)) = true
  · rw [if_pos c1, lc_mapI (f := fun e => rb e.ve) fun e he => ⟨_, rfl, by simp [e3 e he]⟩]
    have el : F.map (fun e => rb e.ve) = (F.map Eqn.ve).map rb := by rw [List.map_map]; rfl
    rw [el]
    by_cases c2 : Sp (n + 1) (F.map Eqn.ve) (Eqn.ve (m, b))
    · have c3 : g1 n R m b F = F := by unfold g1; rw [if_pos c1, if_pos c2]
      rw [c3]
      rw [decide_eq_true (e5.mpr c2)] at e6
      exact ⟨_, by simp only [Re.bind_ok, Re.thn_ok, Ou.seq_nx]; simp [-List.map_map, e2, e4, e6]; rfl⟩
    · have c3 : g1 n R m b F = F ++ [(m, b)] := by unfold g1; rw [if_pos c1, if_neg c2]
      rw [c3]
      rw [decide_eq_false (fun z => c2 (e5.mp z))] at e6
      refine ⟨.va (.lst ((F.map Eqn.ve).map rb)), ?_⟩
      simp only [Re.bind_ok, Re.thn_ok, Ou.seq_nx]
      simp [-List.map_map, e2, e4, e6, lF']
      rfl
  · have c3 : g1 n R m b F = F := by unfold g1; rw [if_neg c1]
    rw [if_neg c1, c3]
    exact ⟨_, rfl⟩
/-- the law's own look for equations -/
theorem e_lequations {n : Nat} (n1 : 1 ≤ n) (h : n ≤ 4) {R : List (List Bool)} (hR : ∀ r ∈ R, r.length = n) (hne : R ≠ []) {H : List Hd} (fnd : Fnd n R H (greedy n (keptOf R (lotm n)))) :
    F__law_equations [.va (.int n), .va (rw_ R)] S = .ok (.tup ((greedy n (keptOf R (lotm n))).map eqv)) S := by
  -- what is found on the way is no more than what is found in the end
  have mono : ∀ (L M : List Eqn), (greedy n L).length ≤ (greedy n (L ++ M)).length := fun L M => by
    refine snoc_ind (P := fun M => (greedy n L).length ≤ (greedy n (L ++ M)).length) (by simp) (fun M e ih => ?_) M
    rw [← List.append_assoc, greedy_app]
    refine Nat.le_trans ih ?_
    by_cases z : Sp (n + 1) ((greedy n (L ++ M)).map Eqn.ve) e.ve
    · rw [gstep_in z]; exact Nat.le_refl _
    · rw [gstep_out z]; simp
  have gmem : ∀ (L : List Eqn), ∀ e ∈ greedy n L, e ∈ L := fun L => by
    refine snoc_ind (P := fun L => ∀ e ∈ greedy n L, e ∈ L) (by simp [greedy]) (fun M e ih f hf => ?_) L
    rw [greedy_app] at hf
    by_cases z : Sp (n + 1) ((greedy n M).map Eqn.ve) e.ve
    · rw [gstep_in z] at hf; simp [ih f hf]
    · rw [gstep_out z] at hf
      rcases List.mem_append.mp hf with hf | hf
      · simp [ih f hf]
      · simp at hf; simp [hf]
  have kl : ∀ (D : List (List Bool)), (∀ m ∈ D, m.length = n) → ∀ e ∈ keptOf R D, e.1.length = n := fun D hD e he => by
    simp only [keptOf, kept1, List.mem_flatMap, List.mem_map, List.mem_filter] at he
    obtain ⟨m, hm, b, _, rfl⟩ := he
    exact hD m hm
  obtain ⟨fr', e, x3, x4, x5, x6, x7, rfl⟩ := for_inv (S := S) (g := lv) (tg := tN 3) (b := fb__law_equations_2)
    (fun done fr => ∃ x3 x4 x5 x6 x7, fr = [.va (.int n), .va (rw_ R), .ow (.lst ((greedy n (keptOf R done)).map eqv)), x3, x4, x5, x6, x7]) [] (lotm n)
    (fun d m r fr hdd hI => by
      obtain ⟨x3, x4, x5, x6, x7, rfl⟩ := hI
      have eL : lotm n = d ++ m :: r := by simpa using hdd
      have lm : m.length = n := lotm_len h (by rw [eL]; simp)
      have hD : ∀ m ∈ d, m.length = n := fun m hm => lotm_len h (by rw [eL]; simp [hm])
      have gl : ∀ e ∈ greedy n (keptOf R d), e.1.length = n := fun e he => kl d hD e (gmem _ e he)
      have fin : (greedy n (keptOf R (lotm n))).length ≤ 4 := Nat.le_trans fnd.len h
      have gd : (greedy n (keptOf R d)).length ≤ 4 := by
        refine Nat.le_trans (mono (keptOf R d) (keptOf R (m :: r))) ?_
        rw [← keptOf_app, ← eL]; exact fin
      have gdm : (g1 n R m false (greedy n (keptOf R d))).length ≤ 5 ∧ ∀ e ∈ g1 n R m false (greedy n (keptOf R d)), e.1.length = n := by
        unfold g1
        split
        · split
          · exact ⟨by omega, gl⟩
          · refine ⟨by simp; omega, fun e he => ?_⟩
            rcases List.mem_append.mp he with he | he
            · exact gl e he
            · rw [List.mem_singleton.mp he]; exact lm
        · exact ⟨by omega, gl⟩
      obtain ⟨y5, b1⟩ := stepb (S := S) n1 h hR lm (b := false) gl (by omega) (x5 := x5) (x6 := x6) (x7 := x7)
      obtain ⟨y5', b2⟩ := stepb (S := S) n1 h hR lm (b := true) gdm.2 (by omega) (x5 := y5) (x6 := x6) (x7 := x7)
      have eg : greedy n (keptOf R (d ++ [m])) = g1 n R m true (g1 n R m false (greedy n (keptOf R d))) := by
        rw [keptOf_app, show keptOf R [m] = kept1 R m by simp [keptOf], greedy_two]
      refine ⟨_, _, rfl, .inl ?_, .va (lv m), .va (.int (bi true)), y5', x6, x7, by rw [eg]⟩
      simp only [bi] at b1 b2
      simp at b1 b2
      simp [fb__law_equations_2, b1, b2, bi]) (fr := [.va (.int n), .va (rw_ R), .ow (.lst ((greedy n (keptOf R [])).map eqv)), .no, .no, .no, .no, .no]) ⟨_, _, _, _, _, rfl⟩
  rw [List.nil_append] at e
  replace e : forGo (tN 3) fb__law_equations_2 (List.map lv (lotm n)) [.va (.int n), .va (rw_ R), .ow (.lst []), .no, .no, .no, .no, .no] S = _ := e
  have bn : (n : Int) ≤ 16777216 := by omega
  have el := e_lsets (S := S) (n := n) (by omega)
  simp [F__law_equations, m__law_equations, pad, bn, el, hne, sort_lsets h, e]
end
end Law84
namespace Law84
open PySem Q
/-! sums of chosen equations -/
def comb (n : Nat) : List Bool → List Eqn → Eqn
  | true :: u, e :: E => e.add (comb n u E)
  | false :: u, _ :: E => comb n u E
  | _, _ => (zr n, false)
theorem comb_len {n : Nat} : ∀ {u : List Bool} {E : List Eqn}, (∀ e ∈ E, e.1.length = n) → (comb n u E).1.length = n
  | [], _, _ => by simp [comb]
  | b :: u, [], _ => by cases b <;> simp [comb]
  | b :: u, e :: E, h => by
    have ih := comb_len (n := n) (u := u) (E := E) fun f hf => h f (by simp [hf])
    have le := h e (by simp)
    cases b with
    | false => exact ih
    | true => simp only [comb, Eqn.add]; rw [vx_len (by rw [le, ih]), le]
theorem comb_ok {n : Nat} {r : List Bool} : ∀ {u : List Bool} {E : List Eqn}, (∀ e ∈ E, e.1.length = n) → (∀ e ∈ E, e.ok r = true) → (comb n u E).ok r = true
  | [], _, _, _ => by simp [comb, Eqn.ok, par_zr]
  | b :: u, [], _, _ => by cases b <;> simp [comb, Eqn.ok, par_zr]
  | b :: u, e :: E, hl, h => by
    have hl' : ∀ f ∈ E, f.1.length = n := fun f hf => hl f (by simp [hf])
    have ih := comb_ok (n := n) (r := r) (u := u) (E := E) hl' fun f hf => h f (by simp [hf])
    have le := hl e (by simp)
    cases b with
    | false => exact ih
    | true =>
      simp only [comb]
      rw [Eqn.ok_add (by rw [le, comb_len hl']) ih]
      exact h e (by simp)
theorem Eqn.add_comm (e f : Eqn) : e.add f = f.add e := by simp only [Eqn.add, vx_comm e.1, Bool.xor_comm e.2]
theorem Eqn.add_assoc (e f g : Eqn) : (e.add f).add g = e.add (f.add g) := by simp only [Eqn.add, vx_assoc, Bool.xor_assoc]
theorem Eqn.add_self {n : Nat} {e : Eqn} (h : e.1.length = n) : e.add e = (zr n, false) := by simp only [Eqn.add, vx_self, h, Bool.xor_self]
theorem Eqn.add_zero {n : Nat} {e : Eqn} (h : e.1.length = n) : e.add (zr n, false) = e := by
  simp only [Eqn.add, vx_zr h, Bool.xor_false]
theorem Eqn.zero_add {n : Nat} {e : Eqn} (h : e.1.length = n) : Eqn.add (zr n, false) e = e := by rw [Eqn.add_comm, Eqn.add_zero h]
theorem comb_vx {n : Nat} : ∀ {E : List Eqn} {u w : List Bool}, (∀ e ∈ E, e.1.length = n) → u.length = E.length → w.length = E.length → comb n (vx u w) E = (comb n u E).add (comb n w E)
  | [], u, w, _, h1, h2 => by
    obtain rfl := List.length_eq_zero_iff.mp (show u.length = 0 from h1)
    obtain rfl := List.length_eq_zero_iff.mp (show w.length = 0 from h2)
    simp only [vx, List.zipWith_nil_left, comb, Eqn.add, Bool.xor_self]
    have := vx_self (zr n)
    simp only [vx, zr_len] at this
    rw [this]
  | e :: E, [], _, _, h1, _ => by simp at h1
  | e :: E, _ :: _, [], _, _, h2 => by simp at h2
  | e :: E, a :: u, b :: w, h, h1, h2 => by
    have hl : ∀ f ∈ E, f.1.length = n := fun f hf => h f (by simp [hf])
    have ih := comb_vx (n := n) (E := E) (u := u) (w := w) hl (by simpa using h1) (by simpa using h2)
    have le := h e (by simp)
    simp only [vx] at ih
    simp only [vx, List.zipWith_cons_cons]
    cases a <;> cases b
    · simpa [comb] using ih
    · simp only [Bool.false_xor, comb, ih]
      rw [← Eqn.add_assoc, Eqn.add_comm e, Eqn.add_assoc]
    · simp only [Bool.xor_false, comb, ih]
      rw [Eqn.add_assoc]
    · simp only [Bool.xor_self, comb, ih]
      have l3 : ((comb n u E).add (comb n w E)).1.length = n := by
        have l1 := comb_len (n := n) (u := u) hl
        have l2 := comb_len (n := n) (u := w) hl
        simp only [Eqn.add]; rw [vx_len (by rw [l1, l2]), l1]
      rw [Eqn.add_comm e (comb n u E), Eqn.add_assoc, ← Eqn.add_assoc e, Eqn.add_self le, Eqn.zero_add (comb_len hl)]
/-- one alone -/
def sg : Nat → Nat → List Bool
  | 0, _ => []
  | N + 1, 0 => true :: zr N
  | N + 1, k + 1 => false :: sg N k
theorem sg_len : ∀ {N k : Nat}, (sg N k).length = N
  | 0, _ => rfl
  | N + 1, 0 => by simp [sg]
  | N + 1, k + 1 => by simp [sg, sg_len]
theorem comb_zr {n : Nat} : ∀ {N : Nat} {E : List Eqn}, comb n (zr N) E = (zr n, false)
  | 0, _ => by simp [zr, comb]
  | N + 1, [] => by simp [zr, List.replicate_succ, comb]
  | N + 1, e :: E => by
    have := comb_zr (n := n) (N := N) (E := E)
    simp only [zr] at this
    simp [zr, List.replicate_succ, comb, this]
theorem comb_sg {n : Nat} : ∀ {E : List Eqn} {k : Nat} {e : Eqn}, (∀ e ∈ E, e.1.length = n) → E[k]? = some e → comb n (sg E.length k) E = e
  | [], k, e, _, h => by simp at h
  | f :: E, 0, e, hl, h => by
    simp at h
    subst h
    simp only [List.length_cons, sg, comb, comb_zr]
    exact Eqn.add_zero (hl _ (by simp))
  | f :: E, k + 1, e, hl, h => by
    simp only [List.length_cons, sg, comb]
    exact comb_sg (fun g hg => hl g (by simp [hg])) (by simpa using h)
theorem ixF_zr {n : Nat} : ∀ k, ixF k (zr n) = [] := by
  induction n with
  | zero => intro k; rfl
  | succ n ih => intro k; have := ih (k + 1); simp only [zr] at this; simp [zr, List.replicate_succ, ixF, this]
theorem ixF_sg : ∀ {N k j : Nat}, k < N → ixF j (sg N k) = [((j + k : Nat) : Int)]
  | 0, k, j, h => by omega
  | N + 1, 0, j, _ => by simp [sg, ixF, ixF_zr]
  | N + 1, k + 1, j, h => by
    simp only [sg, ixF, Bool.false_eq_true, if_false]
    rw [ixF_sg (by omega)]
    congr 2; omega
theorem ix_sg {N k : Nat} (h : k < N) : ix (sg N k) = [(k : Int)] := by rw [ix, ixF_sg h]; simp
section
variable {S : Sto}
structure SInv (n : Nat) (E : List Eqn) (H : List Hd) (D : List Eqn) : Prop where
  h : HdOk n E.length H
  c : ∀ p ∈ H, p.1 = comb n p.2 E
  s : ∀ r : List Bool, (∀ p ∈ H, p.1.ok r = true) → ∀ e ∈ D, e.ok r = true
  z : H.length ≤ D.length
def sgood (n : Nat) (E : List Eqn) : List (List Bool) := (bits n).filter fun r => E.all fun e => e.ok r
theorem e_solved {n : Nat} (bn : n ≤ 6) {t : PV} {E : List Eqn} (ht : t.items = some (E.map eqv)) (hE : ∀ e ∈ E, e.1.length = n) (lE : E.length ≤ 900) :
    ∃ x, F_solved_by_sums [.va (.int n), .va t] S = .ok x S ∧ ((∃ u, x = .tup [.str "numbers", ti (ix u)] ∧ u.length = E.length ∧ comb n u E = (zr n, true)) ∨ ∃ g gs, sgood n E = g :: gs ∧ x = .tup [.str "row", rb g]) := by
  let R : PV → Sto → Prop := fun x S1 => S1 = S ∧ ∃ u, x = .tup [.str "numbers", ti (ix u)] ∧ u.length = E.length ∧ comb n u E = (zr n, true)
  let I : Nat → Fr → Sto → Prop := fun k fr S1 => S1 = S ∧ ∃ x4 x5 x6 x7 H, fr = [.va (.int n), .va t, .ow (hd H), .no, x4, x5, x6, x7, .no, .no] ∧ SInv n E H (E.take k)
  have w := wp_for (tg := tT [4, 5]) (b := fb_solved_by_sums_1) I (R := R) (xs := enumV 0 (E.map eqv)) (fr := [.va (.int n), .va t, .ow (hd []), .no, .no, .no, .no, .no, .no, .no]) (S := S) 0
    ⟨rfl, _, _, _, _, [], rfl, ⟨⟨by simp, by simp⟩, by simp, by simp, by simp⟩⟩ (fun j x fr S1 hI hx => by
      obtain ⟨rfl, x4, x5, x6, x7, H, rfl, inv⟩ := hI
      rw [Nat.zero_add] at inv
      obtain ⟨y, ey, rfl⟩ := enumV_at hx
      rw [List.getElem?_map, Option.map_eq_some_iff] at ey
      obtain ⟨e, ee, rfl⟩ := ey
      rw [Nat.zero_add]
      have jl : j < E.length := (List.getElem?_eq_some_iff.mp ee).1
      have le : e.1.length = n := hE e (List.mem_of_getElem? ee)
      have tk : E.take (j + 1) = E.take j ++ [e] := by
        rw [List.take_add_one, ee]; rfl
      obtain ⟨e', u', er, le', lu', st, hp⟩ := e_reduced (S := S1) inv.h (by omega) (by omega) (e := e) (u := sg E.length j) le sg_len
      rw [ix_sg jl] at er
      obtain ⟨-, -, cmb, okk⟩ := hp (fun f u => f.1.length = n ∧ u.length = E.length ∧ f = comb n u E ∧ ∀ r, (∀ p ∈ H, p.1.ok r = true) → f.ok r = e.ok r)
        ⟨le, sg_len, (comb_sg hE ee).symm, fun _ _ => rfl⟩ fun f u p hp lf lu ⟨_, _, q1, q2⟩ => by
          have lp := (inv.h.l p hp).1
          have lp2 := (inv.h.l p hp).2.2
          refine ⟨by simp only [Eqn.add]; rw [vx_len (by rw [lf, lp]), lf], by rw [vx_len (by rw [lu, lp2]), lu], ?_, fun r hr => by rw [Eqn.ok_add (by rw [lf, lp]) (hr p hp)]; exact q2 r hr⟩
          rw [comb_vx hE lu lp2, ← q1, ← inv.c p hp]
      refine ⟨_, rfl, ?_⟩
      have hz : H.length ≤ j := by have := inv.z; rw [List.length_take] at this; omega
      by_cases z : ld e'.1 < n
      · obtain ⟨tl, et⟩ := ix_head (m := e'.1) (by omega)
        have hpt := hd_put (u := u') (st z) (by omega)
        have res : fb_solved_by_sums_1 [.va (.int n), .va t, .ow (hd H), .no, .va (.int j), .va (eqv e), x6, x7, .no, .no] S1 = .nx [.va (.int n), .va t, .ow (hd (H ++ [(e', u')])), .no, .va (.int j), .va (eqv e), .va (eqv e'), .va (ti (ix u')), .no, .no] S1 := by
          replace er : F_reduced [.bo (hd H), .va (eqv e), .va (.tup [.int j])] S1 = .ok (.tup [eqv e', ti (ix u')]) S1 := er
          simp [fb_solved_by_sums_1, er, et, hpt]
        show (fb_solved_by_sums_1 [.va (.int n), .va t, .ow (hd H), .no, .va (.int j), .va (eqv e), x6, x7, .no, .no] S1).wp _ _
        rw [res]
        refine ⟨rfl, _, _, _, _, H ++ [(e', u')], rfl, ⟨⟨fun p hp => ?_, ?_⟩, fun p hp => ?_, fun r hr f hf => ?_, ?_⟩⟩
        · rcases List.mem_append.mp hp with hp | hp
          · exact inv.h.l p hp
          · rw [List.mem_singleton.mp hp]; exact ⟨le', z, lu'⟩
        · rw [List.map_append, List.nodup_append]
          refine ⟨inv.h.d, by simp, fun a ha b hb => ?_⟩
          obtain ⟨p, hp, rfl⟩ := List.mem_map.mp ha
          simp only [List.map_cons, List.map_nil, List.mem_singleton] at hb
          subst hb
          exact st z p hp
        · rcases List.mem_append.mp hp with hp | hp
          · exact inv.c p hp
          · rw [List.mem_singleton.mp hp]; exact cmb
        · have hr' : ∀ p ∈ H, p.1.ok r = true := fun p hp => hr p (by simp [hp])
          rw [tk] at hf
          rcases List.mem_append.mp hf with hf | hf
          · exact inv.s r hr' f hf
          · rw [List.mem_singleton.mp hf, ← okk r hr']
            exact hr (e', u') (by simp)
        · rw [List.length_append, List.length_take]; simp; omega
      · have ez : ld e'.1 = e'.1.length := by have := ld_le e'.1; omega
        have en : ix e'.1 = [] := ix_nil.mpr ez
        have e1 : e'.1 = zr n := by rw [← le']; exact ld_zr ez
        replace er : F_reduced [.bo (hd H), .va (eqv e), .va (.tup [.int j])] S1 = .ok (.tup [eqv e', ti (ix u')]) S1 := er
        show (fb_solved_by_sums_1 [.va (.int n), .va t, .ow (hd H), .no, .va (.int j), .va (eqv e), x6, x7, .no, .no] S1).wp _ _
        cases e2 : e'.2 with
        | true =>
          have res : fb_solved_by_sums_1 [.va (.int n), .va t, .ow (hd H), .no, .va (.int j), .va (eqv e), x6, x7, .no, .no] S1 = .rt (.tup [.str "numbers", ti (ix u')]) S1 := by
            simp [fb_solved_by_sums_1, er, en, e2, bi]
          rw [res]
          exact ⟨rfl, u', rfl, lu', by rw [← cmb, ← e1, ← e2]⟩
        | false =>
          have res : fb_solved_by_sums_1 [.va (.int n), .va t, .ow (hd H), .no, .va (.int j), .va (eqv e), x6, x7, .no, .no] S1 = .nx [.va (.int n), .va t, .ow (hd H), .no, .va (.int j), .va (eqv e), .va (eqv e'), .va (ti (ix u')), .no, .no] S1 := by
            simp [fb_solved_by_sums_1, er, en, e2, bi]
          rw [res]
          refine ⟨rfl, _, _, _, _, H, rfl, ⟨inv.h, inv.c, fun r hr f hf => ?_, ?_⟩⟩
          · rw [tk] at hf
            rcases List.mem_append.mp hf with hf | hf
            · exact inv.s r hr f hf
            · rw [List.mem_singleton.mp hf, ← okk r hr]
              unfold Eqn.ok
              rw [e1, e2, par_zr]; rfl
          · rw [List.length_take]; omega)
  rw [Nat.zero_add, enumV_len, List.length_map] at w
  cases e : forGo (tT [4, 5]) fb_solved_by_sums_1 (enumV 0 (E.map eqv)) [.va (.int n), .va t, .ow (hd []), .no, .no, .no, .no, .no, .no, .no] S with
  | nx fr S1 =>
    rw [e] at w
    obtain ⟨rfl, x4, x5, x6, x7, H, rfl, inv⟩ := w
    rw [List.take_length] at inv
    obtain ⟨r, lr, hr⟩ := solve n (H.map (·.1)) (fun e he => by
      obtain ⟨p, hp, rfl⟩ := List.mem_map.mp he
      have := inv.h.l p hp
      exact ⟨this.1, this.2.1⟩) (by rw [List.map_map]; exact inv.h.d)
    have hs := inv.s r fun p hp => hr p.1 (List.mem_map_of_mem hp)
    have mr : r ∈ sgood n E := by
      simp only [sgood, List.mem_filter, mem_bits, List.all_eq_true]
      exact ⟨lr, hs⟩
    cases eg : sgood n E with
    | nil => rw [eg] at mr; exact nomatch mr
    | cons g gs =>
      refine ⟨_, ?_, .inr ⟨g, gs, rfl, rfl⟩⟩
      have ek : ∀ r ∈ bits n, ∀ f ∈ E, F_is_kept [.va (eqv f), .va (rb r)] S1 = .ok (.bl (f.ok r)) S1 := fun r hr f hf => e_kept (by rw [hE f hf, bits_len n r hr]; exact Nat.le_refl _)
      have et : enumO t = some (enumV 0 (E.map eqv)) := by unfold enumO; rw [ht]; rfl
      replace e : forGo (tT [4, 5]) fb_solved_by_sums_1 (enumV 0 (E.map eqv)) [.va (.int n), .va t, .ow (.dct [] []), .no, .no, .no, .no, .no, .no, .no] S1 = _ := e
      simp [F_solved_by_sums, m_solved_by_sums, pad, et, e, e_rows bn]
      rw [lc_filtI (f := rb) (p := fun r => E.all fun e => e.ok r) fun r hr => ⟨_, rfl, ?_, fun _ => by simp⟩]
      · simp [-List.all_eq_true]
        rw [show List.filter (fun r => E.all fun e => e.ok r) (bits n) = g :: gs from eg]
        simp
      · simp [ht]
        rw [lc_mapI (f := fun f => .bl (f.ok r)) fun f hf => ⟨_, rfl, by simp [ek r hr f hf]⟩]
        simp [allBl_map, Function.comp_def, -List.all_eq_true, List.all_map]
  | rt x S1 =>
    rw [e] at w
    obtain ⟨rfl, u, rfl, h1, h2⟩ := w
    refine ⟨_, ?_, .inl ⟨u, rfl, h1, h2⟩⟩
    have et : enumO t = some (enumV 0 (E.map eqv)) := by unfold enumO; rw [ht]; rfl
    replace e : forGo (tT [4, 5]) fb_solved_by_sums_1 (enumV 0 (E.map eqv)) [.va (.int n), .va t, .ow (.dct [] []), .no, .no, .no, .no, .no, .no, .no] S1 = _ := e
    simp [F_solved_by_sums, m_solved_by_sums, pad, et, e]
  | _ => rw [e] at w; exact w.elim
end
end Law84
namespace Law84
open PySem Q
section
variable {S : Sto}
theorem e_check_summed {n : Nat} (n1 : 1 ≤ n) (bn : n ≤ 6) {E : List Eqn} (hE : ∀ e ∈ E, e.1.length = n) (lE : E.length ≤ 20) : F_check_summed [.va (.int n), .va (.tup (E.map eqv))] S = .ok .non S := by
  obtain ⟨a, b, e1, e2, ab⟩ : ∃ a b, F_is_count [.va (.int n)] S = .ok (.bl a) S ∧ F_letters_six [.va (.int n)] S = .ok (.bl b) S ∧ (!a && !b) = false := by
    match n, n1, bn with
    | 1, _, _ | 2, _, _ | 3, _, _ | 4, _, _ | 5, _, _ => exact ⟨true, false, by kernel_rfl, by kernel_rfl, rfl⟩
    | 6, _, _ => exact ⟨false, true, by kernel_rfl, by kernel_rfl, rfl⟩
    | n + 7, _, h => omega
  have e3 := e_check_equations (S := S) (E := E) (n := n) (fun e he => by rw [hE e he]; exact Nat.le_refl _) lE
  cases a <;> cases b <;> first | exact absurd ab (by decide) | simp [F_check_summed, m_check_summed, pad, e1, e2, e3]
theorem e_summed {n : Nat} (n1 : 1 ≤ n) (bn : n ≤ 6) {E : List Eqn} (hE : ∀ e ∈ E, e.1.length = n) (lE : E.length ≤ 20) :
    ∃ x, F_summed [.va (.int n), .va (.tup (E.map eqv))] S = .ok x S ∧ ((∃ u, x = .tup [.str "numbers", ti (ix u)] ∧ u.length = E.length ∧ comb n u E = (zr n, true)) ∨ ∃ g gs, sgood n E = g :: gs ∧ x = .tup [.str "row", rb g]) := by
  obtain ⟨x, e, h⟩ := e_solved (S := S) bn (t := .tup (E.map eqv)) rfl hE (by omega)
  refine ⟨x, ?_, h⟩
  simp [F_summed, m_summed, pad, e_check_summed n1 bn hE lE, e]
/-- numbers that come together: the sum that the law makes -/
theorem numbers_at {E : List Eqn} {u : List Bool} (lu : u.length = E.length) {i : Int} (hi : i ∈ ix u) : ∃ (k : Nat) (e : Eqn), i = k ∧ E[k]? = some e := by
  obtain ⟨j, rfl, hj⟩ := mem_ix.mp hi
  have : j < E.length := by rw [← lu]; exact (List.getElem?_eq_some_iff.mp hj).1
  exact ⟨j, E[j], rfl, List.getElem?_eq_getElem this⟩
def sumAt (n : Nat) (E : List Eqn) (a : Eqn) (l : List Int) : Eqn := l.foldl (fun a i => a.add (E.getD i.toNat (zr n, false))) a
theorem sumAt_ixF {n : Nat} (E0 : List Eqn) : ∀ {E : List Eqn} {u : List Bool} {k : Nat} {a : Eqn}, (∀ e ∈ E, e.1.length = n) → u.length = E.length → a.1.length = n → (∀ j e, E[j]? = some e → E0[k + j]? = some e) → sumAt n E0 a (ixF k u) = a.add (comb n u E)
  | [], u, k, a, _, h1, la, _ => by
    obtain rfl := List.length_eq_zero_iff.mp (show u.length = 0 from h1)
    simp only [sumAt, ixF, List.foldl_nil, comb]
    rw [Eqn.add_zero la]
  | e :: E, [], _, _, _, h1, _, _ => by simp at h1
  | e :: E, b :: u, k, a, h, h1, la, hat => by
    have hl : ∀ f ∈ E, f.1.length = n := fun f hf => h f (by simp [hf])
    have le := h e (by simp)
    have nx : ∀ j f, E[j]? = some f → E0[k + 1 + j]? = some f := fun j f hj => by
      have := hat (j + 1) f (by simpa using hj)
      rwa [show k + (j + 1) = k + 1 + j by omega] at this
    have h0 := hat 0 e rfl
    rw [Nat.add_zero] at h0
    cases b with
    | false =>
      simp only [ixF, Bool.false_eq_true, if_false, comb]
      exact sumAt_ixF E0 hl (by simpa using h1) la nx
    | true =>
      simp only [ixF, if_true, comb]
      have st : sumAt n E0 a ((k : Int) :: ixF (k + 1) u) = sumAt n E0 (a.add e) (ixF (k + 1) u) := by
        simp [sumAt, h0]
      rw [st, sumAt_ixF E0 hl (by simpa using h1) (by simp only [Eqn.add]; rw [vx_len (by rw [la, le]), la]) nx, Eqn.add_assoc]
theorem sumAt_ix {n : Nat} {E : List Eqn} {u : List Bool} (h : ∀ e ∈ E, e.1.length = n) (h1 : u.length = E.length) : sumAt n E (zr n, false) (ix u) = comb n u E := by
  rw [ix, sumAt_ixF E h h1 (by simp) fun j e hj => by rw [Nat.zero_add]; exact hj]
  exact Eqn.zero_add (comb_len h)
theorem sumAt_len {n : Nat} {E : List Eqn} (h : ∀ e ∈ E, e.1.length = n) : ∀ {l : List Int} {a : Eqn}, a.1.length = n → (sumAt n E a l).1.length = n
  | [], a, la => la
  | i :: l, a, la => by
    refine sumAt_len (l := l) h ?_
    have : (E.getD i.toNat (zr n, false)).1.length = n := by
      rw [List.getD_eq_getElem?_getD]
      cases e : E[i.toNat]? with
      | none => simp
      | some f => exact h f (List.mem_of_getElem? e)
    simp only [Eqn.add]; rw [vx_len (by rw [la, this]), la]
theorem eqv_zero {n : Nat} : eqv (zr n, false) = .tup [.tup [], .int 0] := by simp [eqv, ix_zr, ti, bi]
theorem eqv_one {n : Nat} : eqv (zr n, true) = .tup [.tup [], .int 1] := by simp [eqv, ix_zr, ti, bi]
theorem eqv_inj {n : Nat} {e f : Eqn} (le : e.1.length = n) (lf : f.1.length = n) : peq (eqv e) (eqv f) = decide (e = f) := by
  have : peq (eqv e) (eqv f) = (decide (ix e.1 = ix f.1) && decide (bi e.2 = bi f.2)) := by simp only [eqv, peq, peqs, peq_ti, Bool.and_true]; congr
  rw [this]
  by_cases z : e = f
  · simp [z]
  · have : ¬ (ix e.1 = ix f.1 ∧ bi e.2 = bi f.2) := fun ⟨a, b⟩ => z (Prod.ext (ix_inj (by rw [le, lf]) a) (bi_inj b))
    simp only [z, decide_false, Bool.and_eq_false_imp, decide_eq_true_eq, decide_eq_false_iff_not]
    exact fun a b => this ⟨a, b⟩
@[simp] theorem isD_eqv {e : Eqn} : (eqv e).isD deep = true := by simp [eqv, PV.isD, areD, show deep = 60 from rfl]
theorem e_come {n : Nat} (bn : n ≤ 100) {E : List Eqn} (hE : ∀ e ∈ E, e.1.length = n) {u : List Bool} (lu : u.length = E.length) : F_come_to_none [.va (.tup (E.map eqv)), .va (ti (ix u))] S = .ok (.bl (decide (comb n u E = (zr n, true)))) S := by
  obtain ⟨fr', e, x3, rfl⟩ := for_inv (S := S) (g := PV.int) (tg := tN 3) (b := fb_come_to_none_1)
    (fun done fr => ∃ x3, fr = [.va (.tup (E.map eqv)), .va (ti (ix u)), .va (eqv (sumAt n E (zr n, false) done)), x3]) [] (ix u)
    (fun d i r fr hdd hI => by
      obtain ⟨x3, rfl⟩ := hI
      obtain ⟨k, f, rfl, ef⟩ := numbers_at (E := E) lu (i := i) (by rw [← List.nil_append (ix u), hdd]; simp)
      have lf := hE f (List.mem_of_getElem? ef)
      have ls := sumAt_len (n := n) hE (l := d) (a := (zr n, false)) (by simp)
      have ea := e_added (S := S) (e := sumAt n E (zr n, false) d) (f := f) (by rw [ls, lf]) (by omega)
      have st : (sumAt n E (zr n, false) d).add f = sumAt n E (zr n, false) (d ++ [(k : Int)]) := by simp [sumAt, List.foldl_append, ef]
      rw [st] at ea
      exact ⟨_, _, rfl, .inl (by simp [fb_come_to_none_1, ef, ea]; rfl), _, rfl⟩) (fr := [.va (.tup (E.map eqv)), .va (ti (ix u)), .va (eqv (zr n, false)), .no]) ⟨_, rfl⟩
  rw [List.nil_append, sumAt_ix hE lu] at e
  rw [eqv_zero] at e
  have := eqv_inj (comb_len (u := u) hE) (f := (zr n, true)) (by simp)
  rw [eqv_one] at this
  simp [F_come_to_none, m_come_to_none, pad, items_ti, e, this]
theorem rb_zeros {n : Nat} : PV.tup (List.replicate n (PV.int 0)) = rb (zr n) := by simp [rb, ti, zr, bi]
theorem e_lnone {n : Nat} (n1 : 1 ≤ n) (bn : n ≤ 100) {E : List Eqn} (hE : ∀ e ∈ E, e.1.length = n) {u : List Bool} (lu : u.length = E.length) : F__law_none [.bo (.lst (E.map eqv)), .va (ti (ix u)), .va (.int n)] S = .ok (.bl (decide (comb n u E = (zr n, true)))) S := by
  obtain ⟨fr', e, x4, rfl⟩ := for_inv (S := S) (g := PV.int) (tg := tN 4) (b := fb__law_none_1)
    (fun done fr => ∃ x4, fr = [.bo (.lst (E.map eqv)), .va (ti (ix u)), .va (.int n), .va (rb (sumAt n E (zr n, false) done).ve), x4]) [] (ix u)
    (fun d i r fr hdd hI => by
      obtain ⟨x3, rfl⟩ := hI
      obtain ⟨k, f, rfl, ef⟩ := numbers_at (E := E) lu (i := i) (by rw [← List.nil_append (ix u), hdd]; simp)
      have lf := hE f (List.mem_of_getElem? ef)
      have ls := sumAt_len (n := n) hE (l := d) (a := (zr n, false)) (by simp)
      have ev := e_vector (S := S) lf bn
      have st : vx (sumAt n E (zr n, false) d).ve f.ve = (sumAt n E (zr n, false) (d ++ [(k : Int)])).ve := by
        rw [← Eqn.ve_add (by rw [ls, lf])]
        simp [sumAt, List.foldl_append, ef]
      have ea := e_ladded (S := S) (a := (sumAt n E (zr n, false) d).ve) (b := f.ve)
      rw [st] at ea
      exact ⟨_, _, rfl, .inl (by simp [fb__law_none_1, ef, ev, ea]; rfl), _, rfl⟩) (fr := [.bo (.lst (E.map eqv)), .va (ti (ix u)), .va (.int n), .va (rb (zr (n + 1))), .no]) ⟨_, by
        have : zr (n + 1) = (sumAt n E (zr n, false) []).ve := by simp [sumAt, Eqn.ve, zr, List.replicate_succ']
        rw [this]⟩
  rw [List.nil_append, sumAt_ix hE lu] at e
  have c1 : 1 ≤ (n : Int) + 1 ∧ (n : Int) + 1 ≤ 1000 := by omega
  have c2 : (n : Int) ≤ 1000 := by omega
  have c4 : n + 1 ≤ 16777216 := by omega
  have c3 : 1 ≤ (n : Int) := by omega
  have fin : decide ((comb n u E).ve = zr n ++ [true]) = decide (comb n u E = (zr n, true)) := by
    have : (comb n u E).ve = zr n ++ [true] ↔ comb n u E = (zr n, true) := by
      constructor
      · intro z
        unfold Eqn.ve at z
        have := List.append_inj' z (by simp)
        exact Prod.ext this.1 (by simpa using this.2)
      · intro z; rw [z]; rfl
    by_cases z : comb n u E = (zr n, true)
    · rw [decide_eq_true z, decide_eq_true (this.mpr z)]
    · rw [decide_eq_false z, decide_eq_false (fun y => z (this.mp y))]
  simp [F__law_none, m__law_none, pad, items_ti, c1, c2, c3, n1, rb_zeros, e, c4, fin]
end
end Law84
namespace Law84
open PySem Q
inductive Wd | nought | one | and | or | most | sum
def Wd.s : Wd → Str
  | nought => "nought"
  | one => "one"
  | and => "and"
  | or => "or"
  | most => "most"
  | sum => "sum"
def Wd.ar : Wd → Nat
  | nought => 0
  | one => 0
  | and => 2
  | or => 2
  | most => 3
  | sum => 3
def z3 (f : Bool → Bool → Bool → Bool) : List Bool → List Bool → List Bool → List Bool
  | x :: a, y :: b, z :: c => f x y z :: z3 f a b c
  | _, _, _ => []
def maj (a b c : Bool) : Bool := (a && b) || (a && c) || (b && c)
def x3 (a b c : Bool) : Bool := xor (xor a b) c
def Wd.op (n : Nat) : Wd → List (List Bool) → List Bool
  | nought, _ => List.replicate n false
  | one, _ => List.replicate n true
  | and, a :: b :: _ => (a.zip b).map fun p => p.1 && p.2
  | or, a :: b :: _ => (a.zip b).map fun p => p.1 || p.2
  | most, a :: b :: c :: _ => z3 maj a b c
  | sum, a :: b :: c :: _ => z3 x3 a b c
  | _, _ => []
theorem z3_len {f : Bool → Bool → Bool → Bool} : ∀ {n : Nat} {a b c : List Bool}, a.length = n → b.length = n → c.length = n → (z3 f a b c).length = n
  | 0, [], [], [], _, _, _ => rfl
  | n + 1, x :: a, y :: b, z :: c, h1, h2, h3 => by
    simp only [z3, List.length_cons]
    rw [z3_len (n := n) (by simpa using h1) (by simpa using h2) (by simpa using h3)]
theorem z3_x3 : ∀ {a b c : List Bool}, z3 x3 a b c = t3 a b c
  | [], _, _ => by simp [z3, t3, vx]
  | _ :: _, [], _ => by simp [z3, t3, vx]
  | _ :: _, _ :: _, [] => by simp [z3, t3, vx]
  | x :: a, y :: b, z :: c => by
    have := z3_x3 (a := a) (b := b) (c := c)
    rw [t3_cons]; simp only [z3, x3, this]
theorem Wd.op_len {n : Nat} {w : Wd} {l : List (List Bool)} (h : l.length = w.ar) (hl : ∀ r ∈ l, r.length = n) : (w.op n l).length = n := by
  cases w with
  | nought => simp [Wd.op]
  | one => simp [Wd.op]
  | and | or =>
    match l, h with
    | [a, b], _ => simp [Wd.op, hl a (by simp), hl b (by simp)]
  | most | sum =>
    match l, h with
    | [a, b, c], _ => exact z3_len (hl a (by simp)) (hl b (by simp)) (hl c (by simp))
section
variable {S : Sto}
theorem z3_map {f : Bool → Bool → Bool → Bool} : ∀ {a b c : List Bool}, z3 f a b c = ((a.zip b).zip c).map fun p => f p.1.1 p.1.2 p.2
  | [], _, _ => by simp [z3]
  | _ :: _, [], _ => by simp [z3]
  | _ :: _, _ :: _, [] => by simp [z3]
  | x :: a, y :: b, z :: c => by simp [z3, z3_map]
theorem zip3_map {f : Bool → PV} : ∀ {a b c : List Bool}, zip3V (a.map f) (b.map f) (c.map f) = ((a.zip b).zip c).map fun p => .tup [f p.1.1, f p.1.2, f p.2]
  | [], _, _ => by simp [zip3V]
  | _ :: _, [], _ => by simp [zip3V]
  | _ :: _, _ :: _, [] => by simp [zip3V]
  | x :: a, y :: b, z :: c => by simp [zip3V, zip3_map]
theorem rb_map {α : Type} {l : List α} {f : α → Bool} : rb (l.map f) = .tup (l.map fun x => .int (bi (f x))) := by simp [rb, ti, Function.comp_def]
theorem zip_rb {a b : List Bool} : zipO (rb a) (rb b) = some ((a.zip b).map fun p => .tup [.int (bi p.1), .int (bi p.2)]) := by
  simp only [zipO, items_rb, Option.bind_some, Option.map_some, zip_map2]
theorem zip3_rb {a b c : List Bool} : zip3O (rb a) (rb b) (rb c) = some (((a.zip b).zip c).map fun p => .tup [.int (bi p.1.1), .int (bi p.1.2), .int (bi p.2)]) := by
  simp only [zip3O, items_rb, Option.bind_some, Option.map_some, zip3_map]
theorem e_told_by {n : Nat} (n1 : 1 ≤ n) (bn : n ≤ 4) {w : Wd} {l : List (List Bool)} (h : l.length = w.ar) : F_told_by [.va (.int n), .va (.str w.s), .va (rw_ l)] S = .ok (rb (w.op n l)) S := by
  have c1 : 1 ≤ (n : Int) ∧ (n : Int) ≤ 1000 := by omega
  have r0 : PV.tup (List.replicate n (PV.int 0)) = rb (List.replicate n false) := by simp [rb, ti, bi]
  have r1 : PV.tup (List.replicate n (PV.int 1)) = rb (List.replicate n true) := by simp [rb, ti, bi]
  cases w with
  | nought => simp [F_told_by, m_told_by, pad, Wd.s, inV_tup, areD, c1.1, c1.2, n1, r0, Wd.op]
  | one => simp [F_told_by, m_told_by, pad, Wd.s, inV_tup, areD, c1.1, c1.2, n1, r1, Wd.op]
  | and =>
    match l, h with
    | [a, b], _ =>
      simp [F_told_by, m_told_by, pad, Wd.s, inV_tup, areD, rw_, zip_rb]
      rw [lc_mapI (f := fun p => .int (bi (p.1 && p.2))) fun p hp => ⟨_, rfl, by obtain ⟨x, y⟩ := p; cases x <;> cases y <;> kernel_rfl⟩]
      simp [Wd.op, rb_map]
  | or =>
    match l, h with
    | [a, b], _ =>
      simp [F_told_by, m_told_by, pad, Wd.s, inV_tup, areD, rw_, zip_rb]
      rw [lc_mapI (f := fun p => .int (bi (p.1 || p.2))) fun p hp => ⟨_, rfl, by obtain ⟨x, y⟩ := p; cases x <;> cases y <;> kernel_rfl⟩]
      simp [Wd.op, rb_map]
  | most =>
    match l, h with
    | [a, b, c], _ =>
      simp [F_told_by, m_told_by, pad, Wd.s, inV_tup, areD, rw_, zip3_rb]
      rw [lc_mapI (f := fun p => .int (bi p.1.1 + bi p.1.2 + bi p.2)) fun p hp => ⟨_, rfl, by obtain ⟨⟨x, y⟩, z⟩ := p; cases x <;> cases y <;> cases z <;> kernel_rfl⟩]
      simp
      rw [lc_mapI (f := fun p => .int (bi (maj p.1.1 p.1.2 p.2))) fun p hp => ⟨_, rfl, by obtain ⟨⟨x, y⟩, z⟩ := p; cases x <;> cases y <;> cases z <;> kernel_rfl⟩]
      simp [Wd.op, z3_map, rb_map]
  | sum =>
    match l, h with
    | [a, b, c], _ =>
      simp [F_told_by, m_told_by, pad, Wd.s, inV_tup, areD, rw_, zip3_rb]
      rw [lc_mapI (f := fun p => .int (bi p.1.1 + bi p.1.2 + bi p.2)) fun p hp => ⟨_, rfl, by obtain ⟨⟨x, y⟩, z⟩ := p; cases x <;> cases y <;> cases z <;> kernel_rfl⟩]
      simp
      rw [lc_mapI (f := fun p => .int (bi (x3 p.1.1 p.1.2 p.2))) fun p hp => ⟨_, rfl, by obtain ⟨⟨x, y⟩, z⟩ := p; cases x <;> cases y <;> cases z <;> kernel_rfl⟩]
      simp [Wd.op, z3_map, rb_map]
/-! tuples of rows -/
def tups (R : List (List Bool)) : Nat → List (List (List Bool))
  | 0 => [[]]
  | k + 1 => (tups R k).flatMap fun s => R.map fun r => s ++ [r]
theorem mem_tups {R : List (List Bool)} : ∀ {k : Nat} {s : List (List Bool)}, s ∈ tups R k ↔ s.length = k ∧ ∀ r ∈ s, r ∈ R
  | 0, s => by
    simp only [tups, List.mem_singleton, List.length_eq_zero_iff]
    exact ⟨fun h => ⟨h, by simp [h]⟩, fun h => h.1⟩
  | k + 1, s => by
    simp only [tups, List.mem_flatMap, List.mem_map]
    constructor
    · rintro ⟨t, ht, r, hr, rfl⟩
      obtain ⟨h1, h2⟩ := mem_tups.mp ht
      refine ⟨by simp [h1], fun q hq => ?_⟩
      rcases List.mem_append.mp hq with hq | hq
      · exact h2 q hq
      · rw [List.mem_singleton.mp hq]; exact hr
    · rintro ⟨h1, h2⟩
      have hne : s ≠ [] := by intro z; simp [z] at h1
      have e := List.dropLast_concat_getLast hne
      refine ⟨s.dropLast, mem_tups.mpr ⟨by simp [h1], fun r hr => h2 r ((List.dropLast_sublist s).subset hr)⟩, s.getLast hne, h2 _ (List.getLast_mem hne), e⟩
theorem tups_len {R : List (List Bool)} : ∀ {k : Nat}, (tups R k).length = R.length ^ k
  | 0 => rfl
  | k + 1 => by
    have : ∀ l : List (List (List Bool)), (l.flatMap fun s => R.map fun r => s ++ [r]).length = l.length * R.length := by
      intro l
      induction l with
      | nil => simp
      | cons a l ih => simp only [List.flatMap_cons, List.length_append, List.length_map, ih, List.length_cons, Nat.add_mul]; omega
    simp only [tups]
    rw [this, tups_len, Nat.pow_succ]
def tl (k : Nat) : Sl := match k with
  | 0 => .no
  | k + 1 => .va (.int (k : Nat))
theorem e_tuples_of {R : List (List Bool)} (hR : R.length ≤ 16) {k : Nat} (hk : k ≤ 3) : F_tuples_of [.va (rw_ R), .va (.int k)] S = .ok (.lst ((tups R k).map rw_)) S := by
  have big : ∀ j, j ≤ 3 → (tups R j).length ≤ 4096 := fun j hj => by
    rw [tups_len]
    exact Nat.le_trans (Nat.pow_le_pow_left hR j) (Nat.le_trans (Nat.pow_le_pow_right (by decide) hj) (by decide))
  obtain ⟨fr', e, x3, x4, x5, x6, rfl⟩ := for_inv (S := S) (g := fun (i : Nat) => PV.int (i : Int)) (tg := tN 3) (b := fb_tuples_of_2)
    (fun done fr => ∃ x3 x4 x5 x6, fr = [.va (rw_ R), .va (.int k), .va (.lst ((tups R done.length).map rw_)), x3, x4, x5, x6]) [] (List.range k)
    (fun d i r fr hdd hI => by
      obtain ⟨x3, x4, x5, x6, rfl⟩ := hI
      have ld : d.length < k := by
        have := congrArg List.length hdd
        simp only [List.nil_append, List.length_range, List.length_append, List.length_cons] at this
        omega
      obtain ⟨fr', e, x5, x6, rfl⟩ := for_inv (S := S) (g := rw_) (tg := tN 5) (b := fb_tuples_of_1)
        (fun done fr => ∃ x5 x6, fr = [.va (rw_ R), .va (.int k), .va (.lst ((tups R d.length).map rw_)), .va (.int i), .ow (.lst ((done.flatMap fun s => R.map fun r => s ++ [r]).map rw_)), x5, x6]) [] (tups R d.length)
        (fun d2 s r2 fr h2 hI => by
          obtain ⟨x5, x6, rfl⟩ := hI
          have l2 : (d2 ++ s :: r2).length ≤ 4096 := by rw [← h2, List.nil_append]; exact big _ (by omega)
          have ls : s.length = d.length := (mem_tups.mp (show s ∈ tups R d.length by rw [← List.nil_append (tups R d.length), h2]; simp)).1
          have fl : ∀ l : List (List (List Bool)), (l.flatMap fun s => R.map fun r => s ++ [r]).length = l.length * R.length := by
            intro l
            induction l with
            | nil => simp
            | cons a l ih => simp only [List.flatMap_cons, List.length_append, List.length_map, ih, List.length_cons, Nat.add_mul]; omega
          have b1 : d2.length * R.length ≤ 4096 * 16 := Nat.mul_le_mul (by simp at l2; omega) hR
          have b2 : ((d2.flatMap fun s => R.map fun r => s ++ [r])).length + R.length ≤ 16777216 := by rw [fl]; omega
          have b3 : s.length ≤ 16777215 := by omega
          refine ⟨_, _, rfl, .inl ?_, .va (rw_ s), x6, rfl⟩
          simp only [List.length_flatMap, List.length_map] at b2
          simp [fb_tuples_of_1]
          rw [lc_mapI (f := fun r => rw_ (s ++ [r])) fun r hr => ⟨_, rfl, by simp [rw_, b3]⟩]
          simp [b2]) (fr := [.va (rw_ R), .va (.int k), .va (.lst ((tups R d.length).map rw_)), .va (.int i), .ow (.lst []), x5, x6]) ⟨_, _, rfl⟩
      rw [List.nil_append] at e
      refine ⟨_, [.va (rw_ R), .va (.int k), .va (.lst ((tups R (d.length + 1)).map rw_)), .va (.int i), .va (.lst ((tups R (d.length + 1)).map rw_)), x5, x6], rfl, .inl ?_, _, _, _, _, by rw [show (d ++ [i]).length = d.length + 1 by simp]⟩
      simp [fb_tuples_of_2, e, tups]) (fr := [.va (rw_ R), .va (.int k), .va (.lst [.tup []]), .no, .no, .no, .no]) ⟨_, _, _, _, rfl⟩
  rw [List.nil_append, List.length_range] at e
  have c1 : (k : Int) ≤ 16777216 := by omega
  simp [F_tuples_of, m_tuples_of, pad, c1, rangeV_map, e]
end
end Law84
namespace Law84
open PySem Q
section
variable {S : Sto}
theorem ops_at (w : Wd) : List.lookup w.s d_OPERATIONS = some (.int w.ar) := by cases w <;> simp [Wd.s, Wd.ar, d_OPERATIONS, List.lookup]
def lose (n : Nat) (R : List (List Bool)) (w : Wd) : Option (List (List Bool)) := (tups R w.ar).find? fun s => decide (w.op n s ∉ R)
def oRows : Option (List (List Bool)) → PV
  | some s => rw_ s
  | none => .non
theorem Wd.ar_le (w : Wd) : w.ar ≤ 3 := by cases w <;> decide
theorem e_losing {n : Nat} (n1 : 1 ≤ n) (bn : n ≤ 4) {R : List (List Bool)} (hR : R.length ≤ 16) (w : Wd) : F_losing [.va (.int n), .va (rw_ R), .va (.str w.s)] S = .ok (oRows (lose n R w)) S := by
  obtain ⟨fr', e⟩ := for_findI (l := tups R w.ar) (g := rw_) (i := 3) (p := fun s => decide (w.op n s ∉ R)) (f := rw_) (S := S) (fr := [.va (.int n), .va (rw_ R), .va (.str w.s), .no]) (b := fb_losing_1) fun s hs => by
    have e := e_told_by (S := S) n1 bn (w := w) (l := s) (mem_tups.mp hs).1
    by_cases z : w.op n s ∈ R
    · simp [fb_losing_1, e, z]
    · simp [fb_losing_1, e, z]
  have et := e_tuples_of (S := S) hR (w.ar_le)
  unfold lose
  cases f : (tups R w.ar).find? fun s => decide (w.op n s ∉ R) with
  | none =>
    rw [f] at e
    simp [F_losing, m_losing, pad, ops_at, et, e, oRows]
  | some s =>
    rw [f] at e
    simp [F_losing, m_losing, pad, ops_at, et, e, oRows]
def Clo (n : Nat) (R : List (List Bool)) (w : Wd) : Prop := ∀ s : List (List Bool), s.length = w.ar → (∀ r ∈ s, r ∈ R) → w.op n s ∈ R
theorem lose_none {n : Nat} {R : List (List Bool)} {w : Wd} : lose n R w = none ↔ Clo n R w := by
  unfold lose Clo
  rw [List.find?_eq_none]
  constructor
  · intro h s h1 h2
    have := h s (mem_tups.mpr ⟨h1, h2⟩)
    simpa using this
  · intro h s hs
    obtain ⟨h1, h2⟩ := mem_tups.mp hs
    simpa using h s h1 h2
theorem rel_le {n : Nat} {R : List (List Bool)} (h : Rel n R) (bn : n ≤ 4) : R.length ≤ 16 := by
  have := nodup_len (m := bits n) (pw_nodup lin_blt h.s) fun r hr => mem_bits.mpr (h.l r hr)
  rw [bits_length] at this
  exact Nat.le_trans this (Nat.pow_le_pow_right (by decide) bn)
theorem e_check_operation (w : Wd) : F_check_operation [.va (.str w.s)] S = .ok .non S := by
  cases w <;> kernel_rfl
theorem e_kept_by {n : Nat} (n1 : 1 ≤ n) (bn : n ≤ 4) {R : List (List Bool)} (hR : Rel n R) (w : Wd) : F_kept_by [.va (.int n), .va (rw_ R), .va (.str w.s)] S = .ok (.bl (lose n R w).isNone) S := by
  have e := e_losing (S := S) n1 bn (rel_le hR bn) w
  cases f : lose n R w with
  | none => rw [f] at e; simp [F_kept_by, m_kept_by, pad, e_check_relation n1 bn hR, e_check_operation, e, oRows]
  | some s => rw [f] at e; simp [F_kept_by, m_kept_by, pad, e_check_relation n1 bn hR, e_check_operation, e, oRows]
/-! what is told is taken in -/
def putW (n : Nat) (w : Wd) (L : List (List (List Bool))) (D : List (List Bool × Unit)) : List (List Bool × Unit) := L.foldl (fun D s => aput D (w.op n s) ()) D
theorem putW_len (n : Nat) (w : Wd) : ∀ (L : List (List (List Bool))) (D : List (List Bool × Unit)), (putW n w L D).length ≤ D.length + L.length
  | [], D => Nat.le_refl _
  | s :: L, D => by
    have := putW_len n w L (aput D (w.op n s) ())
    have := aput_len (d := D) (x := w.op n s) (y := ())
    simp only [putW, List.foldl_cons, List.length_cons] at *
    omega
theorem mem_putW (n : Nat) (w : Wd) (x : List Bool) : ∀ (L : List (List (List Bool))) (D : List (List Bool × Unit)), x ∈ (putW n w L D).map (·.1) ↔ x ∈ D.map (·.1) ∨ ∃ s ∈ L, x = w.op n s
  | [], D => by simp [putW]
  | s :: L, D => by
    have ih := mem_putW n w x L (aput D (w.op n s) ())
    simp only [putW, List.foldl_cons] at ih ⊢
    rw [ih, mem_aput]
    simp only [List.mem_cons, exists_eq_or_imp]
    constructor
    · rintro ((h | h) | h)
      · exact .inr (.inl h)
      · exact .inl h
      · exact .inr (.inr h)
    · rintro (h | h | h)
      · exact .inl (.inr h)
      · exact .inl (.inl h)
      · exact .inr h
theorem nd_putW (n : Nat) (w : Wd) : ∀ (L : List (List (List Bool))) (D : List (List Bool × Unit)), (D.map (·.1)).Nodup → ((putW n w L D).map (·.1)).Nodup
  | [], _, h => h
  | s :: L, D, h => nd_putW n w L _ (nodup_aput h)
def wl (ws : List Wd) : PV := .lst (ws.map fun w => .str w.s)
structure Wt (n : Nat) (R : List (List Bool)) (ws : List Wd) (R' : List (List Bool)) : Prop where
  r : Rel n R'
  m : ∀ x, x ∈ R' ↔ x ∈ R ∨ ∃ w ∈ ws, ∃ s ∈ tups R w.ar, x = w.op n s
theorem nd_aputs : ∀ (l : List (List Bool)) (D : List (List Bool × Unit)), (D.map (·.1)).Nodup → ((aputs D (l.map fun r => (r, ()))).map (·.1)).Nodup
  | [], D, h => h
  | r :: l, D, h => nd_aputs l _ (nodup_aput h)
theorem mem_aputs (x : List Bool) : ∀ (l : List (List Bool)) (D : List (List Bool × Unit)), x ∈ (aputs D (l.map fun r => (r, ()))).map (·.1) ↔ x ∈ D.map (·.1) ∨ x ∈ l
  | [], D => by simp [aputs]
  | r :: l, D => by
    have ih := mem_aputs x l (aput D r ())
    simp only [aputs, List.map_cons, List.foldl_cons] at ih ⊢
    rw [ih, mem_aput, List.mem_cons]
    constructor
    · rintro ((h | h) | h)
      · exact .inr (.inl h)
      · exact .inl h
      · exact .inr (.inr h)
    · rintro (h | h | h)
      · exact .inl (.inr h)
      · exact .inl (.inl h)
      · exact .inr h
theorem aputs_len : ∀ (l : List (List Bool)) (D : List (List Bool × Unit)), (aputs D (l.map fun r => (r, ()))).length ≤ D.length + l.length
  | [], D => Nat.le_refl _
  | r :: l, D => by
    have := aputs_len l (aput D r ())
    have := aput_len (d := D) (x := r) (y := ())
    simp only [aputs, List.map_cons, List.foldl_cons, List.length_cons] at *
    omega
theorem e_with_told {n : Nat} (n1 : 1 ≤ n) (bn : n ≤ 4) {R : List (List Bool)} (hR : Rel n R) {ws : List Wd} (hw : ws.length ≤ 6) :
    ∃ R', F_with_told [.va (.int n), .va (rw_ R), .va (wl ws)] S = .ok (rw_ R') S ∧ Wt n R ws R' := by
  have rl := rel_le hR bn
  have tb : ∀ w : Wd, (tups R w.ar).length ≤ 4096 := fun w => by
    rw [tups_len]
    exact Nat.le_trans (Nat.pow_le_pow_left rl _) (Nat.le_trans (Nat.pow_le_pow_right (by decide) w.ar_le) (by decide))
  let D0 := aputs [] (R.map fun r => (r, ()))
  have l0 : D0.length ≤ 16 := by have := aputs_len R []; simp only [List.length_nil] at this; simp only [D0]; omega
  obtain ⟨fr', e, x4, x5, D, rfl, nd, ln, mm⟩ := for_inv (S := S) (g := fun w : Wd => PV.str w.s) (tg := tN 4) (b := fb_with_told_2)
    (fun done fr => ∃ x4 x5 D, fr = [.va (.int n), .va (rw_ R), .va (wl ws), .ow (spn D), x4, x5, .no] ∧ (D.map (·.1)).Nodup ∧ D.length ≤ 16 + done.length * 4096 ∧ ∀ x, x ∈ D.map (·.1) ↔ x ∈ R ∨ ∃ w ∈ done, ∃ s ∈ tups R w.ar, x = w.op n s) [] ws
    (fun d w r fr hdd hI => by
      obtain ⟨x4, x5, D, rfl, nd, ln, mm⟩ := hI
      have ld : d.length < 6 := by
        have := congrArg List.length hdd
        simp only [List.nil_append, List.length_append, List.length_cons] at this
        omega
      have lD : D.length ≤ 25000 := by have : d.length * 4096 ≤ 5 * 4096 := Nat.mul_le_mul_right _ (by omega); omega
      obtain ⟨fr', e, x5', rfl⟩ := for_inv (S := S) (g := rw_) (tg := tN 5) (b := fb_with_told_1)
        (fun done fr => ∃ x5, fr = [.va (.int n), .va (rw_ R), .va (wl ws), .ow (spn (putW n w done D)), .va (.str w.s), x5, .no]) [] (tups R w.ar)
        (fun d2 s r2 fr h2 hI => by
          obtain ⟨x5, rfl⟩ := hI
          have l2 := congrArg List.length h2
          simp only [List.nil_append, List.length_append, List.length_cons] at l2
          have := tb w
          have pl := putW_len n w d2 D
          have ms : s ∈ tups R w.ar := by rw [← List.nil_append (tups R w.ar), h2]; simp
          have et := e_told_by (S := S) n1 bn (w := w) (l := s) (mem_tups.mp ms).1
          have hp := spn_put (D := putW n w d2 D) (x := w.op n s) (by omega)
          have ea : aput (putW n w d2 D) (w.op n s) () = putW n w (d2 ++ [s]) D := by simp [putW]
          rw [ea] at hp
          exact ⟨_, _, rfl, .inl (by simp [fb_with_told_1, et, hp]; rfl), _, rfl⟩) (fr := [.va (.int n), .va (rw_ R), .va (wl ws), .ow (spn D), .va (.str w.s), x5, .no]) ⟨_, rfl⟩
      rw [List.nil_append] at e
      have et := e_tuples_of (S := S) rl (w.ar_le)
      have pl := putW_len n w (tups R w.ar) D
      have := tb w
      refine ⟨_, [.va (.int n), .va (rw_ R), .va (wl ws), .ow (spn (putW n w (tups R w.ar) D)), .va (.str w.s), x5', .no], rfl, .inl ?_, _, _, putW n w (tups R w.ar) D, rfl, nd_putW _ _ _ _ nd, ?_, fun x => ?_⟩
      · simp [fb_with_told_2, ops_at, et, e]
      · simp only [List.length_append, List.length_cons, List.length_nil, Nat.add_mul]; omega
      · rw [mem_putW, mm]
        simp only [List.mem_append, List.mem_singleton]
        constructor
        · rintro ((h | ⟨v, hv, h⟩) | h)
          · exact .inl h
          · exact .inr ⟨v, .inl hv, h⟩
          · exact .inr ⟨w, .inr rfl, h⟩
        · rintro (h | ⟨v, hv | rfl, h⟩)
          · exact .inl (.inl h)
          · exact .inl (.inr ⟨v, hv, h⟩)
          · exact .inr h) (fr := [.va (.int n), .va (rw_ R), .va (wl ws), .ow (spn D0), .no, .no, .no]) ⟨_, _, D0, rfl, nd_aputs _ _ (by simp), by simp; exact l0, fun x => by
        have := mem_aputs x R []
        simp only [D0]
        rw [this]; simp⟩
  simp only [List.nil_append] at ln mm
  have hl : ∀ x ∈ D.map (·.1), x.length = n := fun x hx => by
    rcases (mm x).mp hx with h | ⟨w, _, s, hs, rfl⟩
    · exact hR.l x h
    · obtain ⟨h1, h2⟩ := mem_tups.mp hs
      exact Wd.op_len h1 fun r hr => hR.l r (h2 r hr)
  refine ⟨(bits n).filter fun r => decide (r ∈ D.map (·.1)), ?_, ⟨⟨(bits_sorted n).filter _, fun r hr => ?_⟩, fun x => ?_⟩⟩
  · have es : sortV ((D.map (·.1)).map rb) = some (((bits n).filter fun r => decide (r ∈ D.map (·.1))).map rb) := by rw [sort_rb, sort_rows nd hl]
    have eb : bSorted [spn D] = some (.lst (((bits n).filter fun r => decide (r ∈ D.map (·.1))).map rb)) := by
      show (sortV (D.map fun p => rb p.1)).map PV.lst = _
      rw [List.map_map] at es
      rw [show (D.map fun p => rb p.1) = D.map (rb ∘ fun x => x.1) from rfl, es]; rfl
    have ed : (allPr (R.map fun r => .tup [rb r, .bl true])).bind dMk = some (spn D0) := by
      have := em_rb.dict (g := tr) keyed_rb (l := R.map fun r => (r, ()))
      rw [List.map_map] at this
      exact this
    simp [F_with_told, m_with_told, pad]
    rw [lc_mapI (f := fun r => .tup [rb r, .bl true]) fun r hr => ⟨_, rfl, by simp⟩]
    simp [ed, wl]
    simp only [wl] at e
    simp [e, eb]
    rfl
  · exact hl r (by simpa using (List.mem_filter.mp hr).2)
  · rw [List.mem_filter, decide_eq_true_eq, mm, mem_bits]
    constructor
    · exact fun h => h.2
    · exact fun h => ⟨hl x ((mm x).mpr h), h⟩
theorem e_check_words {ws : List Wd} : F_check_words [.va (wl ws)] S = .ok .non S := by
  simp [F_check_words, m_check_words, pad, wl]
  rw [lc_mapI (f := fun _ => .bl true) fun w hw => ⟨_, rfl, by simp⟩]
  simp [allBl_map]
  rw [lc_mapI (f := fun _ => .bl true) fun w hw => ⟨_, rfl, by simp [ops_at]⟩]
  simp [allBl_map]
/-- the least closed lot -/
structure Lcl (n : Nat) (R : List (List Bool)) (ws : List Wd) (R' : List (List Bool)) : Prop where
  r : Rel n R'
  s : ∀ x ∈ R, x ∈ R'
  c : ∀ w ∈ ws, Clo n R' w
  m : ∀ P : List Bool → Prop, (∀ x ∈ R, P x) → (∀ w ∈ ws, ∀ s : List (List Bool), s.length = w.ar → (∀ r ∈ s, P r) → P (w.op n s)) → ∀ x ∈ R', P x
theorem sub_eq : ∀ {l m : List (List Bool)}, l.Nodup → (∀ x ∈ l, x ∈ m) → m.length ≤ l.length → ∀ x ∈ m, x ∈ l := fun {l m} nd sub len x hx => by
  apply Classical.byContradiction
  intro nx
  have := nodup_len (l := l) (m := m.erase x) nd fun y hy => by
    have : y ≠ x := fun e => nx (e ▸ hy)
    exact (List.mem_erase_of_ne this).mpr (sub y hy)
  rw [List.length_erase_of_mem hx] at this
  have := List.length_pos_of_mem hx
  omega
theorem rel_ext {n : Nat} {R R' : List (List Bool)} (h : Rel n R) (h' : Rel n R') (e : ∀ x, x ∈ R ↔ x ∈ R') : R = R' := sorted_ext lin_blt h.s h'.s e
theorem e_closed {n : Nat} (n1 : 1 ≤ n) (bn : n ≤ 4) {R : List (List Bool)} (hR : Rel n R) {ws : List Wd} (hw : ws.length ≤ 6) :
    ∃ R', F_closed [.va (.int n), .va (rw_ R), .va (wl ws)] S = .ok (rw_ R') S ∧ Lcl n R ws R' := by
  obtain ⟨R1, e1, w1⟩ := e_with_told (S := S) n1 bn hR hw
  let J : List (List Bool) → List (List Bool) → Prop := fun A B => Rel n A ∧ Wt n A ws B ∧ (∀ x ∈ R, x ∈ A) ∧ ∀ P : List Bool → Prop, (∀ x ∈ R, P x) → (∀ w ∈ ws, ∀ s : List (List Bool), s.length = w.ar → (∀ r ∈ s, P r) → P (w.op n s)) → ∀ x ∈ A, P x
  obtain ⟨fr', e, A, B, rfl, j, ab⟩ := wh_inv (S := S) (c := wc_closed_1) (b := wb_closed_2)
    (fun k fr => ∃ A B, fr = [.va (.int n), .va (rw_ R), .va (wl ws), .va (rw_ A), .va (rw_ B)] ∧ J A B ∧ k + A.length = 16)
    (fun fr => ∃ A B, fr = [.va (.int n), .va (rw_ R), .va (wl ws), .va (rw_ A), .va (rw_ B)] ∧ J A B ∧ A = B)
    (fun k fr hI => by
      obtain ⟨A, B, rfl, ⟨ra, wab, ja, jm⟩, hk⟩ := hI
      by_cases z : A = B
      · left
        exact ⟨by simp [wc_closed_1, z], A, B, rfl, ⟨ra, wab, ja, jm⟩, z⟩
      · right
        obtain ⟨C, e2, w2⟩ := e_with_told (S := S) n1 bn wab.r hw
        have sub : ∀ x ∈ A, x ∈ B := fun x hx => (wab.m x).mpr (.inl hx)
        have lt : A.length < B.length := by
          apply Nat.lt_of_not_le
          intro ge
          exact z (rel_ext ra wab.r fun x => ⟨sub x, sub_eq (pw_nodup lin_blt ra.s) sub ge x⟩)
        have lb := rel_le wab.r bn
        have z' : ¬ B = A := fun y => z y.symm
        refine ⟨[.va (.int n), .va (rw_ R), .va (wl ws), .va (rw_ B), .va (rw_ C)], 16 - B.length, by omega, by simp [wc_closed_1, z'], .inl (by simp [wb_closed_2, e2]), B, C, rfl, ⟨wab.r, w2, fun x hx => sub x (ja x hx), fun P h0 h1 x hx => ?_⟩, by omega⟩
        rcases (wab.m x).mp hx with h | ⟨w, hw, s, hs, rfl⟩
        · exact jm P h0 h1 x h
        · obtain ⟨q1, q2⟩ := mem_tups.mp hs
          exact h1 w hw s q1 fun r hr => jm P h0 h1 r (q2 r hr)) 1000 (16 - R.length) [.va (.int n), .va (rw_ R), .va (wl ws), .va (rw_ R), .va (rw_ R1)] (by omega) ⟨R, R1, rfl, ⟨hR, w1, fun _ h => h, fun P h0 _ => h0⟩, by have := rel_le hR bn; omega⟩
  obtain ⟨ra, wab, ja, jm⟩ := j
  subst ab
  refine ⟨A, ?_, ⟨ra, ja, fun w hw s h1 h2 => (wab.m _).mpr (.inr ⟨w, hw, s, mem_tups.mpr ⟨h1, h2⟩, rfl⟩), jm⟩⟩
  simp [F_closed, m_closed, pad, e_check_relation n1 bn hR, e_check_words, e1, e]
end
end Law84
namespace Law84
open PySem Q
/-! what equations tell -/
theorem par_app : ∀ {m r : List Bool} {b x : Bool}, m.length = r.length → par (m ++ [b]) (r ++ [x]) = xor (par m r) (b && x)
  | [], [], b, x, _ => by simp [par]
  | y :: m, z :: r, b, x, h => by
    have := par_app (m := m) (r := r) (b := b) (x := x) (by simpa using h)
    simp only [List.cons_append, par, this, Bool.xor_assoc]
theorem ok_ve {e : Eqn} {r : List Bool} (h : e.1.length = r.length) : e.ok r = !par e.ve (r ++ [true]) := by
  unfold Eqn.ok Eqn.ve
  rw [par_app h]
  cases par e.1 r <;> cases e.2 <;> rfl
theorem sp_ok {n : Nat} {V : List (List Bool)} {r x : List Bool} (hV : ∀ v ∈ V, v.length = n) (h : Sp n V x) (hr : ∀ v ∈ V, par v r = false) : par x r = false := by
  induction h with
  | zero => exact par_zr
  | add h1 hv ih => rw [par_vx (by rw [h1.len hV, hV _ hv]), ih, hr _ hv]; rfl
theorem greedy_span {n : Nat} (L : List Eqn) : (∀ e ∈ L, e.1.length = n) → ∀ e ∈ L, Sp (n + 1) ((greedy n L).map Eqn.ve) e.ve := by
  refine snoc_ind (P := fun L => (∀ e ∈ L, e.1.length = n) → ∀ e ∈ L, Sp (n + 1) ((greedy n L).map Eqn.ve) e.ve) (fun _ e he => absurd he (by simp)) (fun L f ih hl e he => ?_) L
  have ih := ih fun e he => hl e (by simp [he])
  rw [greedy_app]
  by_cases z : Sp (n + 1) ((greedy n L).map Eqn.ve) f.ve
  · rw [gstep_in z]
    rcases List.mem_append.mp he with he | he
    · exact ih e he
    · rw [List.mem_singleton.mp he]; exact z
  · rw [gstep_out z]
    rcases List.mem_append.mp he with he | he
    · exact (ih e he).mono fun v hv => by simp only [List.map_append, List.mem_append]; exact .inl hv
    · rw [List.mem_singleton.mp he]
      have := (Sp.zero (n := n + 1) (V := (greedy n L ++ [f]).map Eqn.ve)).add (v := f.ve) (by simp)
      rwa [zr_vx (by rw [Eqn.ve_len, hl f (by simp)])] at this
theorem greedy_mem {n : Nat} (L : List Eqn) : ∀ e ∈ greedy n L, e ∈ L := by
  refine snoc_ind (P := fun L => ∀ e ∈ greedy n L, e ∈ L) (by simp [greedy]) (fun M e ih f hf => ?_) L
  rw [greedy_app] at hf
  by_cases z : Sp (n + 1) ((greedy n M).map Eqn.ve) e.ve
  · rw [gstep_in z] at hf; simp [ih f hf]
  · rw [gstep_out z] at hf
    rcases List.mem_append.mp hf with hf | hf
    · simp [ih f hf]
    · simp at hf; simp [hf]
theorem greedy_ok {n : Nat} {L : List Eqn} (hl : ∀ e ∈ L, e.1.length = n) {r : List Bool} (lr : r.length = n) : (∀ e ∈ greedy n L, e.ok r = true) ↔ ∀ e ∈ L, e.ok r = true := by
  constructor
  · intro h e he
    have hg : ∀ f ∈ greedy n L, f.1.length = n := fun f hf => hl f (greedy_mem L f hf)
    rw [ok_ve (by rw [hl e he, lr]), sp_ok (fun v hv => by obtain ⟨f, hf, rfl⟩ := List.mem_map.mp hv; rw [Eqn.ve_len, hg f hf]) (greedy_span L hl e he) fun v hv => ?_]
    · rfl
    · obtain ⟨f, hf, rfl⟩ := List.mem_map.mp hv
      have := h f hf
      rw [ok_ve (by rw [hg f hf, lr])] at this
      simpa using this
  · intro h e he
    exact h e (greedy_mem L e he)
theorem mem_kept {R L : List (List Bool)} {e : Eqn} : e ∈ keptOf R L ↔ e.1 ∈ L ∧ ∀ r ∈ R, e.ok r = true := by
  simp only [keptOf, kept1, List.mem_flatMap, List.mem_map, List.mem_filter, List.all_eq_true]
  constructor
  · rintro ⟨m, hm, b, ⟨_, h⟩, rfl⟩; exact ⟨hm, h⟩
  · rintro ⟨hm, h⟩
    exact ⟨e.1, hm, e.2, ⟨by cases e.2 <;> simp, h⟩, rfl⟩
open Classical in
noncomputable def eqs (n : Nat) (R : List (List Bool)) : List Eqn := if R = [] then [(zr n, true)] else greedy n (keptOf R (lotm n))
theorem eqs_len {n : Nat} (bn : n ≤ 4) {R : List (List Bool)} : ∀ e ∈ eqs n R, e.1.length = n := fun e he => by
  unfold eqs at he
  split at he
  · rw [List.mem_singleton.mp he]; simp
  · exact lotm_len bn (mem_kept.mp (greedy_mem _ e he)).1
theorem eqs_ok {n : Nat} (bn : n ≤ 4) {R : List (List Bool)} (hR : ∀ r ∈ R, r.length = n) {r : List Bool} (lr : r.length = n) : (∀ e ∈ eqs n R, e.ok r = true) ↔ R ≠ [] ∧ ∀ e : Eqn, e.1.length = n → (∀ q ∈ R, e.ok q = true) → e.ok r = true := by
  unfold eqs
  split
  · rename_i z
    constructor
    · intro h
      have := h (zr n, true) (by simp)
      simp [Eqn.ok, par_zr] at this
    · exact fun h => absurd z h.1
  · rename_i z
    rw [greedy_ok (fun e he => lotm_len bn (mem_kept.mp he).1) lr]
    constructor
    · exact fun h => ⟨z, fun e le hq => h e (mem_kept.mpr ⟨(lotm_m bn).2 _ (mem_swm.mpr le), hq⟩)⟩
    · exact fun h e he => h.2 e (lotm_len bn (mem_kept.mp he).1) (mem_kept.mp he).2
/-- closed by sums: told by its equations -/
theorem eqs_rel {n : Nat} (bn : n ≤ 4) {R : List (List Bool)} (hR : Rel n R) (hc : Clo n R .sum) {r : List Bool} (lr : r.length = n) : (∀ e ∈ eqs n R, e.ok r = true) ↔ r ∈ R := by
  rw [eqs_ok bn hR.l lr]
  constructor
  · rintro ⟨ne, h⟩
    apply Classical.byContradiction
    intro nr
    obtain ⟨x, hx⟩ := List.exists_mem_of_ne_nil R ne
    obtain ⟨m, b, lm, h1, h2⟩ := apart n (· ∈ R) ⟨x, hx⟩ hR.l (fun x y z a b c => by
      have := hc [x, y, z] rfl (by simp [a, b, c])
      simp only [Wd.op] at this
      rwa [z3_x3] at this) r lr nr
    have := h (m, b) lm fun q hq => by simp [Eqn.ok, h1 q hq]
    simp only [Eqn.ok, beq_iff_eq] at this
    exact h2 this
  · intro hr
    exact ⟨fun z => by rw [z] at hr; exact (nomatch hr), fun e _ h => h r hr⟩
/-- .. and what equations tell is closed by sums -/
theorem eqs_clo {n : Nat} (bn : n ≤ 4) {R : List (List Bool)} (hR : Rel n R) (h : ∀ r, r.length = n → (∀ e ∈ eqs n R, e.ok r = true) → r ∈ R) : Clo n R .sum := fun s ls hs => by
  match s, ls with
  | [a, b, c], _ =>
    have ha := hs a (by simp)
    have hb := hs b (by simp)
    have hc := hs c (by simp)
    have la := hR.l a ha
    have lb := hR.l b hb
    have lc := hR.l c hc
    show z3 x3 a b c ∈ R
    rw [z3_x3]
    have lab : (vx a b).length = n := by rw [vx_len (by rw [la, lb]), la]
    have lt : (t3 a b c).length = n := by unfold t3; rw [vx_len (by rw [lab, lc]), lab]
    refine h _ lt ((eqs_ok bn hR.l lt).mpr ⟨fun z => by rw [z] at ha; exact (nomatch ha), fun e le hq => ?_⟩)
    have h1 := hq a ha
    have h2 := hq b hb
    have h3 := hq c hc
    unfold Eqn.ok at *
    simp only [beq_iff_eq] at h1 h2 h3 ⊢
    unfold t3
    rw [par_rx (by rw [lab, lc]), par_rx (by rw [la, lb]), h1, h2, h3]
    cases e.2 <;> rfl
section
variable {S : Sto}
theorem eqs_cnt {n : Nat} (n1 : 1 ≤ n) (bn : n ≤ 4) {R : List (List Bool)} (hR : ∀ r ∈ R, r.length = n) : (eqs n R).length ≤ 4 := by
  unfold eqs
  split
  · simp
  · rename_i z
    obtain ⟨_, H, fnd⟩ := e_equations_of (S := []) bn hR z
    exact Nat.le_trans fnd.len bn
theorem e_eqs {n : Nat} (n1 : 1 ≤ n) (bn : n ≤ 4) {R : List (List Bool)} (hR : ∀ r ∈ R, r.length = n) : F_equations_of [.va (.int n), .va (rw_ R)] S = .ok (.tup ((eqs n R).map eqv)) S := by
  unfold eqs
  split
  · rename_i z
    subst z
    simp [F_equations_of, m_equations_of, pad, eqv_one]
  · rename_i z
    exact (e_equations_of (S := S) bn hR z).1
theorem e_equations {n : Nat} (n1 : 1 ≤ n) (bn : n ≤ 4) {R : List (List Bool)} (hR : Rel n R) : F_equations [.va (.int n), .va (rw_ R)] S = .ok (.tup ((eqs n R).map eqv)) S := by
  simp [F_equations, m_equations, pad, e_check_relation n1 bn hR, e_eqs n1 bn hR.l]
theorem e_leqs {n : Nat} (n1 : 1 ≤ n) (bn : n ≤ 4) {R : List (List Bool)} (hR : Rel n R) : F__law_equations [.va (.int n), .va (rw_ R)] S = .ok (.tup ((eqs n R).map eqv)) S := by
  unfold eqs
  split
  · rename_i z
    subst z
    simp [F__law_equations, m__law_equations, pad, eqv_one]
  · rename_i z
    obtain ⟨_, H, fnd⟩ := e_equations_of (S := S) bn hR.l z
    exact e_lequations n1 bn hR.l z fnd
theorem e_rows_keeping {n : Nat} (n1 : 1 ≤ n) (bn : n ≤ 4) {E : List Eqn} (hE : ∀ e ∈ E, e.1.length = n) (lE : E.length ≤ 20) : F_rows_keeping [.va (.int n), .va (.tup (E.map eqv))] S = .ok (rw_ (sgood n E)) S := by
  simp [F_rows_keeping, m_rows_keeping, pad, e_check_places n1 bn, e_check_equations (fun e he => Nat.le_of_eq (hE e he)) lE, e_rows (show n ≤ 6 by omega)]
  rw [lc_filtI (f := rb) (p := fun r => E.all fun e => e.ok r) fun r hr => ⟨_, rfl, ?_, fun _ => by simp⟩]
  · simp [-List.all_eq_true]; rfl
  · simp
    rw [lc_mapI (f := fun f => .bl (f.ok r)) fun f hf => ⟨_, rfl, by simp [e_kept (S := S) (e := f) (r := r) (by rw [hE f hf, bits_len n r hr]; exact Nat.le_refl _)]⟩]
    simp [allBl_map, Function.comp_def, -List.all_eq_true, List.all_map]
end
end Law84
namespace Law84
open PySem Q
/-! equations put at letters -/
def ps_ (ps : List Nat) : List Int := ps.map fun (p : Nat) => (p : Int)
def putF (N : Nat) (ps : List Nat) (a : Eqn) (l : List Int) : Eqn := l.foldl (fun a i => a.add (sg N (ps.getD i.toNat 0), false)) a
def putE (N : Nat) (ps : List Nat) (e : Eqn) : Eqn := putF N ps (zr N, e.2) (ix e.1)
theorem putF_len {N : Nat} {ps : List Nat} : ∀ {l : List Int} {a : Eqn}, a.1.length = N → (putF N ps a l).1.length = N
  | [], a, h => h
  | i :: l, a, h => putF_len (l := l) (a := a.add (sg N (ps.getD i.toNat 0), false)) (by simp only [Eqn.add]; rw [vx_len (by rw [h, sg_len]), h])
theorem par_sg : ∀ {N p : Nat} {r : List Bool}, p < N → r.length = N → par (sg N p) r = r.getD p false
  | 0, _, _, h, _ => by omega
  | N + 1, 0, x :: r, _, _ => by simp [sg, par, par_zr]
  | N + 1, p + 1, x :: r, h, l => by
    simp only [sg, par, Bool.false_and, Bool.false_xor]
    rw [par_sg (by omega) (by simpa using l)]
    simp
def row_at (ps : List Nat) (r : List Bool) : List Bool := ps.map fun p => r.getD p false
theorem putF_ok {N : Nat} (ps0 : List Nat) {r : List Bool} (lr : r.length = N) : ∀ {m : List Bool} {k : Nat} {a : Eqn} {ps : List Nat}, m.length = ps.length → (∀ p ∈ ps, p < N) → (∀ j p, ps[j]? = some p → ps0[k + j]? = some p) → a.1.length = N →
    (putF N ps0 a (ixF k m)).2 = a.2 ∧ par (putF N ps0 a (ixF k m)).1 r = xor (par a.1 r) (par m (row_at ps r))
  | [], k, a, ps, h, _, _, _ => by simp [putF, ixF, par]
  | b :: m, k, a, [], h, _, _, _ => by simp at h
  | b :: m, k, a, p :: ps, h, hp, hat, la => by
    have nx : ∀ j q, ps[j]? = some q → ps0[k + 1 + j]? = some q := fun j q hj => by
      have := hat (j + 1) q (by simpa using hj)
      rwa [show k + (j + 1) = k + 1 + j by omega] at this
    have h0 := hat 0 p rfl
    rw [Nat.add_zero] at h0
    have hp' : ∀ q ∈ ps, q < N := fun q hq => hp q (by simp [hq])
    cases b with
    | false =>
      simp only [ixF, Bool.false_eq_true, if_false, row_at, List.map_cons, par, Bool.false_and, Bool.false_xor]
      exact putF_ok ps0 lr (by simpa using h) hp' nx la
    | true =>
      have st : putF N ps0 a ((k : Int) :: ixF (k + 1) m) = putF N ps0 (a.add (sg N p, false)) (ixF (k + 1) m) := by simp [putF, h0]
      simp only [ixF, if_true, row_at, List.map_cons, par, Bool.true_and]
      rw [st]
      obtain ⟨e1, e2⟩ := putF_ok ps0 lr (m := m) (k := k + 1) (a := a.add (sg N p, false)) (by simpa using h) hp' nx (by simp only [Eqn.add]; rw [vx_len (by rw [la, sg_len]), la])
      refine ⟨by rw [e1]; simp [Eqn.add], ?_⟩
      rw [e2]
      simp only [Eqn.add]
      rw [par_vx (by rw [la, sg_len]), par_sg (hp p (by simp)) lr]
      simp only [row_at, Bool.xor_assoc]
theorem putE_len {N : Nat} {ps : List Nat} {e : Eqn} : (putE N ps e).1.length = N := putF_len (by simp)
theorem putE_ok {N : Nat} {ps : List Nat} {e : Eqn} {r : List Bool} (lr : r.length = N) (h : e.1.length = ps.length) (hp : ∀ p ∈ ps, p < N) : (putE N ps e).ok r = e.ok (row_at ps r) := by
  obtain ⟨e1, e2⟩ := putF_ok (N := N) ps lr (m := e.1) (k := 0) (a := (zr N, e.2)) h hp (fun j p hj => by rw [Nat.zero_add]; exact hj) (by simp)
  unfold putE Eqn.ok
  rw [ix, e1, e2]
  simp [par_zr]
section
variable {S : Sto}
theorem e_put_at {N : Nat} (bN : N ≤ 100) {ps : List Nat} {e : Eqn} (h : e.1.length = ps.length) (hp : ∀ p ∈ ps, p < N) : F_put_at [.va (eqv e), .va (ti (ps_ ps))] S = .ok (eqv (putE N ps e)) S := by
  obtain ⟨fr', ef, x3, rfl⟩ := for_inv (S := S) (g := PV.int) (tg := tN 3) (b := fb_put_at_1)
    (fun done fr => ∃ x3, fr = [.va (eqv e), .va (ti (ps_ ps)), .va (eqv (putF N ps (zr N, e.2) done)), x3]) [] (ix e.1)
    (fun d i r fr hdd hI => by
      obtain ⟨x3, rfl⟩ := hI
      obtain ⟨k, rfl, hk⟩ := mem_ix.mp (show i ∈ ix e.1 by rw [← List.nil_append (ix e.1), hdd]; simp)
      have kl : k < ps.length := by rw [← h]; exact (List.getElem?_eq_some_iff.mp hk).1
      have ek : ps[k]? = some ps[k] := List.getElem?_eq_getElem kl
      have pk : ps[k] < N := hp _ (List.getElem_mem kl)
      have ls := putF_len (N := N) (ps := ps) (l := d) (a := (zr N, e.2)) (by simp)
      have ea := e_added (S := S) (e := putF N ps (zr N, e.2) d) (f := (sg N ps[k], false)) (by rw [ls, sg_len]) (by omega)
      have ev : eqv (sg N ps[k], false) = .tup [.tup [.int (ps[k] : Nat)], .int 0] := by simp [eqv, ix_sg pk, ti, bi]
      have st : (putF N ps (zr N, e.2) d).add (sg N ps[k], false) = putF N ps (zr N, e.2) (d ++ [(k : Int)]) := by simp [putF, List.foldl_append, ek]
      rw [st, ev] at ea
      have ep : (ti (ps_ ps)).at_ (.int (k : Nat)) = some (.int (ps[k] : Nat)) := by rw [at_ti, ixV_nat]; simp [ps_, ek]
      exact ⟨_, _, rfl, .inl (by simp [fb_put_at_1, ep, ea]; rfl), _, rfl⟩) (fr := [.va (eqv e), .va (ti (ps_ ps)), .va (eqv (zr N, e.2)), .no]) ⟨_, rfl⟩
  rw [List.nil_append] at ef
  have e0 : eqv (zr N, e.2) = .tup [.tup [], .int (bi e.2)] := by simp [eqv, ix_zr, ti]
  rw [e0] at ef
  simp [F_put_at, m_put_at, pad, items_ti, ef]
  rfl
/-! puzzles -/
abbrev Rl := Nat × List (List Bool)
abbrev Dm := Nat × List Nat
def rlv (k : Rl) : PV := .tup [.int (k.1 : Nat), rw_ k.2]
def dmv (d : Dm) : PV := .tup [.int (d.1 : Nat), ti (ps_ d.2)]
structure Pz where
  N : Nat
  rs : List Rl
  ds : List Dm
def Pz.v (p : Pz) : PV := .tup [.int (p.N : Nat), .tup (p.rs.map rlv), .tup (p.ds.map dmv)]
structure PzOk (p : Pz) : Prop where
  n1 : 1 ≤ p.N
  n6 : p.N ≤ 6
  r6 : p.rs.length ≤ 6
  r : ∀ k ∈ p.rs, 1 ≤ k.1 ∧ k.1 ≤ 4 ∧ Rel k.1 k.2
  d12 : p.ds.length ≤ 12
  d : ∀ d ∈ p.ds, ∃ k, p.rs[d.1]? = some k ∧ d.2.length = k.1 ∧ ∀ q ∈ d.2, q < p.N
theorem e_is_told {k : Rl} (h1 : 1 ≤ k.1) (h2 : k.1 ≤ 4) (h3 : Rel k.1 k.2) : F_is_told [.va (rlv k)] S = .ok (.bl true) S := by
  simp [F_is_told, m_is_told, pad, rlv, e_is_tuple, e_places h1 h2, e_are_rows h3]
theorem e_is_demand {p : Pz} (h : PzOk p) {d : Dm} (hd : d ∈ p.ds) : F_is_demand [.va (.int (p.N : Nat)), .va (.tup (p.rs.map rlv)), .va (dmv d)] S = .ok (.bl true) S := by
  obtain ⟨k, ek, e1, e2⟩ := h.d d hd
  have dl : d.1 < p.rs.length := (List.getElem?_eq_some_iff.mp ek).1
  have c1 : (d.1 : Int) ≤ (p.rs.length : Int) - 1 := by omega
  simp [F_is_demand, m_is_demand, pad, dmv, e_is_tuple, e_within, c1, ek, rlv, ti, ps_, e1]
  rw [lc_mapI (f := fun _ => .bl true) fun q hq => ⟨_, rfl, by have := e2 q hq; simp [e_within]; omega⟩]
  simp [allBl_map]
theorem e_is_puzzle {p : Pz} (h : PzOk p) : F_is_puzzle [.va p.v] S = .ok (.bl true) S := by
  have a1 := h.n1
  have a2 := h.n6
  have a3 := h.r6
  have a4 := h.d12
  have c1 : 1 ≤ (p.N : Int) := by omega
  have c2 : (p.N : Int) ≤ 6 := by omega
  have c3 : (p.rs.length : Int) ≤ 6 := by omega
  have c4 : (p.ds.length : Int) ≤ 12 := by omega
  simp [F_is_puzzle, m_is_puzzle, pad, Pz.v, e_is_tuple, e_within, c1, c2, c3, c4, k_MOST_PUZZLED, k_MOST_RELATIONS, k_MOST_DEMANDS, a1]
  rw [lc_mapI (f := fun _ => .bl true) fun k hk => ⟨_, rfl, by have := h.r k hk; simp [e_is_told this.1 this.2.1 this.2.2]⟩]
  simp [allBl_map, e_is_tuple, c4]
  rw [lc_mapI (f := fun _ => .bl true) fun d hd => ⟨_, rfl, by simp [e_is_demand h hd]⟩]
  simp [allBl_map]
theorem e_check_puzzle {p : Pz} (h : PzOk p) : F_check_puzzle [.va p.v] S = .ok .non S := by
  simp [F_check_puzzle, m_check_puzzle, pad, e_is_puzzle h]
def Pz.met (p : Pz) (r : List Bool) (d : Dm) : Bool := decide (row_at d.2 r ∈ (p.rs.getD d.1 (0, [])).2)
def Pz.ans (p : Pz) : List (List Bool) := (bits p.N).filter fun r => p.ds.all fun d => p.met r d
theorem e_is_met {p : Pz} (h : PzOk p) {d : Dm} (hd : d ∈ p.ds) {r : List Bool} (lr : r.length = p.N) : F_is_met [.va p.v, .va (dmv d), .va (rb r)] S = .ok (.bl (p.met r d)) S := by
  obtain ⟨k, ek, e1, e2⟩ := h.d d hd
  have er : rb (row_at d.2 r) = .tup (d.2.map fun q => .int (bi (r.getD q false))) := rb_map
  simp [F_is_met, m_is_met, pad, Pz.v, dmv, items_ti, ps_, ek, rlv]
  rw [lc_mapI (f := fun q => .int (bi (r.getD q false))) fun q hq => ⟨_, rfl, ?_⟩]
  · simp only [Re.bind_ok, bTuple_l, Re.of_some]
    rw [← er]
    simp [ek, Pz.met]
  · have := e2 q hq
    have hq' : q < r.length := by omega
    rw [rb]
    simp [at_ti, hq']
theorem e_answers_it {p : Pz} (h : PzOk p) {r : List Bool} (lr : r.length = p.N) : F_answers_it [.va p.v, .va (rb r)] S = .ok (.bl (p.ds.all fun d => p.met r d)) S := by
  have em : ∀ d ∈ p.ds, F_is_met [.va (.tup [.int (p.N : Nat), .tup (p.rs.map rlv), .tup (p.ds.map dmv)]), .va (dmv d), .va (rb r)] S = .ok (.bl (p.met r d)) S := fun d hd => e_is_met h hd lr
  simp [F_answers_it, m_answers_it, pad, Pz.v]
  rw [lc_mapI (f := fun d => .bl (p.met r d)) fun d hd => ⟨_, rfl, by simp [em d hd]⟩]
  simp [allBl_map, Function.comp_def, -List.all_eq_true, List.all_map]
theorem e_answers {p : Pz} (h : PzOk p) : F_answers [.va p.v] S = .ok (rw_ p.ans) S := by
  have ei : ∀ r ∈ bits p.N, F_answers_it [.va p.v, .va (rb r)] S = .ok (.bl (p.ds.all fun d => p.met r d)) S := fun r hr => e_answers_it h (bits_len _ _ hr)
  have ea : F_all_answers [.va p.v] S = .ok (.lst (p.ans.map rb)) S := by
    have e0 : p.v.at_ (.int 0) = some (.int (p.N : Nat)) := rfl
    simp [F_all_answers, m_all_answers, pad, e0, e_rows h.n6]
    rw [lc_filtI (f := rb) (p := fun r => p.ds.all fun d => p.met r d) fun r hr => ⟨_, rfl, by simp [ei r hr, -List.all_eq_true], fun _ => by simp⟩]
    simp [-List.all_eq_true]; rfl
  simp [F_answers, m_answers, pad, e_check_puzzle h, ea]
  rfl
def words : List Wd := [.nought, .one, .and, .or, .most, .sum]
open Classical in
theorem e_easy {p : Pz} (h : PzOk p) : F_easy_words [.va p.v] S = .ok (.tup ((words.filter fun w => p.rs.all fun k => (lose k.1 k.2 w).isNone).map fun w => .str w.s)) S := by
  have en : k_NAMES = .tup (words.map fun w => .str w.s) := rfl
  simp [F_easy_words, m_easy_words, pad, Pz.v, en, -List.map_cons, -List.map_nil]
  rw [lc_filtI (f := fun w => .str w.s) (p := fun w => p.rs.all fun k => (lose k.1 k.2 w).isNone) fun w hw => ⟨_, rfl, ?_, fun _ => by simp⟩]
  · simp
  · simp
    rw [lc_mapI (f := fun k => .bl (lose k.1 k.2 w).isNone) fun k hk => ⟨_, rfl, ?_⟩]
    · simp [allBl_map, Function.comp_def, -List.all_eq_true, List.all_map]
    · have := h.r k hk
      have e := e_losing (S := S) this.1 this.2.1 (rel_le this.2.2 this.2.1) w
      simp [rlv, e]
      cases lose k.1 k.2 w <;> simp [oRows]
noncomputable def Pz.eqs (p : Pz) : List Eqn := p.ds.flatMap fun d => (Law84.eqs (p.rs.getD d.1 (0, [])).1 (p.rs.getD d.1 (0, [])).2).map (putE p.N d.2)
theorem Pz.eqs_len {p : Pz} : ∀ e ∈ p.eqs, e.1.length = p.N := fun e he => by
  simp only [Pz.eqs, List.mem_flatMap, List.mem_map] at he
  obtain ⟨d, _, f, _, rfl⟩ := he
  exact putE_len
theorem Pz.eqs_good {p : Pz} (h : PzOk p) (hc : ∀ k ∈ p.rs, Clo k.1 k.2 .sum) : sgood p.N p.eqs = p.ans := by
  unfold sgood Pz.ans
  apply List.filter_congr
  intro r hr
  have lr := bits_len _ _ hr
  rw [Bool.eq_iff_iff, List.all_eq_true, List.all_eq_true]
  have key : ∀ d ∈ p.ds, (∀ e ∈ (Law84.eqs (p.rs.getD d.1 (0, [])).1 (p.rs.getD d.1 (0, [])).2).map (putE p.N d.2), e.ok r = true) ↔ p.met r d = true := fun d hd => by
    obtain ⟨k, ek, e1, e2⟩ := h.d d hd
    have hk := List.mem_of_getElem? ek
    obtain ⟨k1, k4, kr⟩ := h.r k hk
    have gd : p.rs.getD d.1 (0, []) = k := by simp [ek]
    unfold Pz.met
    rw [gd, decide_eq_true_eq, ← eqs_rel k4 kr (hc k hk) (r := row_at d.2 r) (by simp [row_at, e1])]
    simp only [List.mem_map, forall_exists_index, and_imp, forall_apply_eq_imp_iff₂]
    constructor
    · intro q e he
      have := q e he
      rwa [putE_ok lr (by rw [Law84.eqs_len k4 e he, e1]) e2] at this
    · intro q e he
      rw [putE_ok lr (by rw [Law84.eqs_len k4 e he, e1]) e2]
      exact q e he
  simp only [Pz.eqs, List.mem_flatMap, forall_exists_index, and_imp]
  constructor
  · intro q d hd
    exact (key d hd).mp fun e he => q e d hd he
  · intro q e d hd he
    exact (key d hd).mpr (q d hd) e he
theorem e_by_sums {p : Pz} (h : PzOk p) (hc : ∀ k ∈ p.rs, Clo k.1 k.2 .sum) :
    ∃ x, F_by_sums [.va p.v] S = .ok x S ∧ ((∃ u, x = .tup [.str "numbers", ti (ix u)] ∧ p.ans = []) ∨ ∃ g gs, p.ans = g :: gs ∧ x = .tup [.str "row", rb g]) := by
  let F : List Dm → List Eqn := fun D => D.flatMap fun d => (Law84.eqs (p.rs.getD d.1 (0, [])).1 (p.rs.getD d.1 (0, [])).2).map (putE p.N d.2)
  have cnt : ∀ d ∈ p.ds, (Law84.eqs (p.rs.getD d.1 (0, [])).1 (p.rs.getD d.1 (0, [])).2).length ≤ 4 := fun d hd => by
    obtain ⟨k, ek, e1, e2⟩ := h.d d hd
    obtain ⟨k1, k4, kr⟩ := h.r k (List.mem_of_getElem? ek)
    have gd : p.rs.getD d.1 (0, []) = k := by simp [ek]
    rw [gd]
    exact eqs_cnt k1 k4 kr.l
  have Fl : ∀ D : List Dm, (∀ d ∈ D, d ∈ p.ds) → (F D).length ≤ 4 * D.length := fun D => by
    induction D with
    | nil => intro _; simp [F]
    | cons d D ih =>
      intro hD
      have := ih fun d hd => hD d (by simp [hd])
      have := cnt d (hD d (by simp))
      simp only [F, List.flatMap_cons, List.length_append, List.length_map, List.length_cons] at *
      omega
  have d12 := h.d12
  obtain ⟨fr', e, x2, x3, x4, x5, x6, rfl⟩ := for_inv (S := S) (g := dmv) (tg := tT [2, 3]) (b := fb_by_sums_1)
    (fun done fr => ∃ x2 x3 x4 x5 x6, fr = [.va p.v, .ow (.lst ((F done).map eqv)), x2, x3, x4, x5, x6]) [] p.ds
    (fun D d r fr hdd hI => by
      obtain ⟨x2, x3, x4, x5, x6, rfl⟩ := hI
      have eD : p.ds = D ++ d :: r := by simpa using hdd
      have hd : d ∈ p.ds := by rw [eD]; simp
      obtain ⟨k, ek, e1, e2⟩ := h.d d hd
      obtain ⟨k1, k4, kr⟩ := h.r k (List.mem_of_getElem? ek)
      have gd : p.rs.getD d.1 (0, []) = k := by simp [ek]
      have lD : D.length ≤ 12 := by have := congrArg List.length eD; simp at this; omega
      have fl := Fl D fun q hq => by rw [eD]; simp [hq]
      have c4 := cnt d hd
      rw [gd] at c4
      have n6 := h.n6
      have ee := e_eqs (S := S) k1 k4 kr.l
      have b1 : (F D).length + (Law84.eqs k.1 k.2).length ≤ 16777216 := by omega
      refine ⟨_, [.va p.v, .ow (.lst ((F (D ++ [d])).map eqv)), .va (.int (d.1 : Nat)), .va (ti (ps_ d.2)), .va (.int (k.1 : Nat)), .va (rw_ k.2), x6], rfl, .inl ?_, _, _, _, _, _, rfl⟩
      have ea : p.v.at_ (.int 1) = some (.tup (p.rs.map rlv)) := rfl
      have ef : F (D ++ [d]) = F D ++ (Law84.eqs k.1 k.2).map (putE p.N d.2) := by simp only [F, List.flatMap_append, List.flatMap_cons, List.flatMap_nil, List.append_nil, gd]
      rw [ef]
      simp [fb_by_sums_1, ea, ek, rlv, ee]
      rw [lc_mapI (f := fun f => eqv (putE p.N d.2 f)) fun f hf => ⟨_, rfl, by simp [e_put_at (S := S) (N := p.N) (by omega) (show f.1.length = d.2.length by rw [Law84.eqs_len k4 f hf, e1]) e2]⟩]
      simp [b1]) (fr := [.va p.v, .ow (.lst []), .no, .no, .no, .no, .no]) ⟨_, _, _, _, _, rfl⟩
  rw [List.nil_append] at e
  have lE : p.eqs.length ≤ 900 := by have := Fl p.ds fun _ h => h; simp only [F] at this; unfold Pz.eqs; omega
  obtain ⟨x, ex, hx⟩ := e_solved (S := S) h.n6 (t := .lst (p.eqs.map eqv)) rfl Pz.eqs_len lE
  rw [Pz.eqs_good h hc] at hx
  have hs : inV (.str "sum") (.tup ((words.filter fun w => p.rs.all fun k => (lose k.1 k.2 w).isNone).map fun w => .str w.s)) = some true := by
    have ar : ∀ l : List Wd, areD deep (l.map fun w => PV.str w.s) = true := fun l => by
      induction l with
      | nil => rfl
      | cons w l ih => simp only [List.map_cons, areD, ih, Bool.and_true]; cases w <;> exact isD_str
    have ms : Wd.sum ∈ words.filter fun w => p.rs.all fun k => (lose k.1 k.2 w).isNone := by
      rw [List.mem_filter]
      refine ⟨by simp [words], List.all_eq_true.mpr fun k hk => ?_⟩
      rw [Option.isNone_iff_eq_none]
      exact lose_none.mpr (hc k hk)
    rw [inV_tup, ar]
    simp only [isD_str, Bool.and_true, if_true, Option.some.injEq, List.any_eq_true]
    exact ⟨.str "sum", List.mem_map.mpr ⟨_, ms, rfl⟩, by simp⟩
  have e0 : p.v.at_ (.int 0) = some (.int (p.N : Nat)) := rfl
  have e2 : p.v.at_ (.int 2) = some (.tup (p.ds.map dmv)) := rfl
  refine ⟨x, ?_, ?_⟩
  · simp [F_by_sums, m_by_sums, pad, e_check_puzzle h, e_easy h, hs, e2, e0, e]
    rw [show F p.ds = p.eqs from rfl, ex]
    rfl
  · rcases hx with ⟨u, hx, lu, hu⟩ | hx
    · refine .inl ⟨u, hx, ?_⟩
      rw [← Pz.eqs_good h hc]
      unfold sgood
      rw [List.filter_eq_nil_iff]
      intro r hr hall
      have lr := bits_len _ _ hr
      have := comb_ok (n := p.N) (r := r) (u := u) Pz.eqs_len fun f hf => List.all_eq_true.mp hall f hf
      rw [hu] at this
      simp [Eqn.ok, par_zr] at this
    · exact .inr hx
end
end Law84
namespace Law84
open PySem Q
section
variable {S : Sto}
/-! draws -/
theorem dr {m : Nat} (h : HOk S) (hm : 0 < m) (hm2 : m < 1000000) : ∃ (d : Nat) (S' : Sto), F__law_draw [.va (.ref 0), .va (.int (m : Int))] S = .ok (.int (d : Int)) S' ∧ d < m ∧ HOk S' := by
  obtain ⟨d, S', e, h0, h1, h2⟩ := draw_ok (m := (m : Int)) h (by omega) (by omega)
  exact ⟨d.toNat, S', by rw [Int.toNat_of_nonneg h0]; exact e, by omega, h2⟩
theorem any_ok {α : Type} {f : α → PV} {l : List α} (h : HOk S) (hl : l ≠ []) (hb : l.length < 1000000) : ∃ x S', F__law_any [.va (.ref 0), .va (.lst (l.map f))] S = .ok (f x) S' ∧ x ∈ l ∧ HOk S' := by
  obtain ⟨d, S', e, h1, h2⟩ := dr (m := l.length) h (List.length_pos_iff.mpr hl) hb
  refine ⟨l[d], S', ?_, List.getElem_mem h1, h2⟩
  simp [F__law_any, m__law_any, pad, e, h1]
/-- a comprehension that draws whether -/
theorem lc_draw {α : Type} {g f : α → PV} {tg : TgS} {cb : SB} {m : SE} {fr : Fr} : ∀ {l : List α} {S : Sto}, HOk S → (∀ x ∈ l, ∃ fr1, tg (g x) fr = some fr1 ∧ ∀ S, HOk S → ∃ b S', cb fr1 S = .ok b S' ∧ HOk S' ∧ m fr1 S' = .ok (f x) S') →
    ∃ (l' : List α) (S' : Sto), lcGo tg cb m fr (l.map g) S = .ok (l'.map f) S' ∧ l'.Sublist l ∧ HOk S'
  | [], S, h, _ => ⟨[], S, rfl, List.Sublist.refl _, h⟩
  | x :: l, S, h, st => by
    obtain ⟨fr1, e1, e2⟩ := st x (by simp)
    obtain ⟨b, S1, e3, h1, e4⟩ := e2 S h
    obtain ⟨l', S2, e5, h2, h3⟩ := lc_draw (l := l) h1 fun y hy => st y (by simp [hy])
    cases b with
    | true => exact ⟨x :: l', S2, by rw [List.map_cons, lcGo_con, e1]; simp [e3, e4, e5], h2.cons₂ x, h3⟩
    | false => exact ⟨l', S2, by rw [List.map_cons, lcGo_con, e1]; simp [e3, e5], h2.cons x, h3⟩
/-- .. and one that draws what -/
theorem lc_draws {α : Type} {g : α → PV} {tg : TgS} {m : SE} {fr : Fr} {B : Nat} : ∀ {l : List α} {S : Sto}, HOk S → (∀ x ∈ l, ∃ fr1, tg (g x) fr = some fr1 ∧ ∀ S, HOk S → ∃ (d : Nat) (S' : Sto), m fr1 S = .ok (.int (d : Int)) S' ∧ d < B ∧ HOk S') →
    ∃ (ds : List Nat) (S' : Sto), lcGo tg bT m fr (l.map g) S = .ok (ds.map fun (d : Nat) => PV.int (d : Int)) S' ∧ ds.length = l.length ∧ (∀ d ∈ ds, d < B) ∧ HOk S'
  | [], S, h, _ => ⟨[], S, rfl, rfl, by simp, h⟩
  | x :: l, S, h, st => by
    obtain ⟨fr1, e1, e2⟩ := st x (by simp)
    obtain ⟨d, S1, e3, hd, h1⟩ := e2 S h
    obtain ⟨ds, S2, e5, h2, h3, h4⟩ := lc_draws (l := l) h1 fun y hy => st y (by simp [hy])
    refine ⟨d :: ds, S2, by rw [List.map_cons, lcGo_con, e1]; simp [e3, e5], by simp [h2], fun q hq => ?_, h4⟩
    rcases List.mem_cons.mp hq with rfl | hq
    · exact hd
    · exact h3 q hq
theorem wl_sum : PV.lst [.str "sum"] = wl [.sum] := rfl
theorem e_lrelation {n : Nat} (h : HOk S) (n1 : 1 ≤ n) (bn : n ≤ 4) : ∃ R S', F__law_relation [.va (.ref 0), .va (.int n)] S = .ok (rw_ R) S' ∧ Rel n R ∧ HOk S' := by
  obtain ⟨d, S1, e1, d1, h1⟩ := dr (m := 3) h (by decide) (by decide)
  have er : ∀ S, F__law_rows [.va (.int n)] S = .ok (.lst ((bits n).map rb)) S := fun S => e_lrows (by omega)
  obtain ⟨R, S2, e2, sub, h2⟩ := lc_draw (g := rb) (f := rb) (tg := tN 4) (cb := bCm .eq (eCall F__law_draw (gV (eV 0) (gV (eV 2) gN))) (eC (.int 0))) (m := eV 4) (fr := [.va (.ref 0), .va (.int n), .va (.int (2 + (d : Int))), .no, .no]) (l := bits n) h1 fun x hx => ⟨_, rfl, fun S hS => by
    obtain ⟨q, S', e, _, hq⟩ := dr (m := 2 + d) hS (by omega) (by omega)
    simp only [Int.natCast_add, Int.cast_ofNat_Int] at e
    exact ⟨decide (q = 0), S', by simp [e], hq, by simp⟩⟩
  have rel : Rel n R := ⟨(bits_sorted n).sublist sub, fun r hr => bits_len n r (sub.subset hr)⟩
  obtain ⟨q, S3, e3, _, h3⟩ := dr (m := 3) h2 (by decide) (by decide)
  simp only [Int.cast_ofNat_Int] at e1 e3
  by_cases z : q = 0
  · subst z
    refine ⟨R, S3, ?_, rel, h3⟩
    simp [F__law_relation, m__law_relation, pad, e1, er, e2, e3]
    rfl
  · obtain ⟨R', e4, cl⟩ := e_closed (S := S3) n1 bn rel (ws := [.sum]) (by decide)
    refine ⟨R', S3, ?_, cl.r, h3⟩
    rw [← wl_sum] at e4
    simp only [rw_] at e4 ⊢
    simp [F__law_relation, m__law_relation, pad, e1, er, e2, e3, z, e4]
/-! known answers -/
theorem sp_nil {n : Nat} {x : List Bool} (h : Sp n [] x) : x = zr n := by
  cases h with
  | zero => rfl
  | add _ hv => exact absurd hv (by simp)
theorem known1 : F_equations [.va (.int 2), .va (.tup [.tup [.int 0, .int 1], .tup [.int 1, .int 0]])] S = .ok (.tup [.tup [.tup [.int 0, .int 1], .int 1]]) S := by
  have := e_equations (S := S) (n := 2) (by decide) (by decide) (R := [[false, true], [true, false]]) ⟨by decide, by decide⟩
  have ek : keptOf [[false, true], [true, false]] (lotm 2) = [([false, false], false), ([true, true], true)] := by decide
  have eg : eqs 2 [[false, true], [true, false]] = [([true, true], true)] := by
    unfold eqs
    rw [if_neg (by simp), ek]
    show gstep 2 (gstep 2 [] ([false, false], false)) ([true, true], true) = _
    have g1 : gstep 2 [] ([false, false], false) = [] := gstep_in (F := []) (show Sp 3 [] (zr 3) from .zero)
    rw [g1, gstep_out (fun h => by have := sp_nil h; revert this; decide)]
    rfl
  rw [eg] at this
  exact this
theorem known2 : F_equations [.va (.int 1), .va (.tup [])] S = .ok (.tup [.tup [.tup [], .int 1]]) S := by
  have := e_equations (S := S) (n := 1) (by decide) (by decide) (R := []) ⟨by simp, by simp⟩
  have e : (eqs 1 []).map eqv = [.tup [.tup [], .int 1]] := by unfold eqs; rw [if_pos rfl]; simp [eqv_one]
  rw [e] at this
  exact this
theorem known3 : F_summed [.va (.int 2), .va (.tup [.tup [.tup [.int 0], .int 0], .tup [.tup [.int 0, .int 1], .int 1], .tup [.tup [.int 1], .int 0]])] S = .ok (.tup [.str "numbers", .tup [.int 0, .int 1, .int 2]]) S := by
  let E : List Eqn := [([true, false], false), ([true, true], true), ([false, true], false)]
  obtain ⟨x, e, h⟩ := e_summed (S := S) (n := 2) (by decide) (by decide) (E := E) (by decide) (by decide)
  rcases h with ⟨u, rfl, lu, hu⟩ | ⟨g, gs, hg, _⟩
  · have : u = [true, true, true] := by
      match u, lu with
      | [a, b, c], _ =>
        have key : ∀ a b c : Bool, comb 2 [a, b, c] [([true, false], false), ([true, true], true), ([false, true], false)] = (zr 2, true) → [a, b, c] = [true, true, true] := by decide
        exact key a b c hu
    subst this
    exact e
  · have : sgood 2 E = [] := by decide
    rw [this] at hg
    exact nomatch hg
end
end Law84
namespace Law84
open PySem Q
section
variable {S : Sto}
theorem e_is_num {n : Nat} (n1 : 1 ≤ n) (bn : n ≤ 6) {E : List Eqn} (hE : ∀ e ∈ E, e.1.length = n) (lE : E.length ≤ 20) {u : List Bool} (lu : u.length = E.length) :
    F_is_summed [.va (.int n), .va (.tup (E.map eqv)), .va (.tup [.str "numbers", ti (ix u)])] S = .ok (.bl (decide (comb n u E = (zr n, true)))) S := by
  have e1 := e_lot_of (S := S) (m := u) (n := E.length) (by omega)
  have e2 := e_come (S := S) (n := n) (by omega) hE lu
  simp [F_is_summed, m_is_summed, pad, e_check_summed n1 bn hE lE, e_is_tuple, e1, e2]
theorem e_is_rw {n : Nat} (n1 : 1 ≤ n) (bn : n ≤ 6) {E : List Eqn} (hE : ∀ e ∈ E, e.1.length = n) (lE : E.length ≤ 20) {r : List Bool} (lr : r.length = n) :
    F_is_summed [.va (.int n), .va (.tup (E.map eqv)), .va (.tup [.str "row", rb r])] S = .ok (.bl (E.all fun e => e.ok r)) S := by
  have e1 := e_is_row (S := S) lr
  simp [F_is_summed, m_is_summed, pad, e_check_summed n1 bn hE lE, e_is_tuple, e1]
  rw [lc_mapI (f := fun f => .bl (f.ok r)) fun f hf => ⟨_, rfl, by simp [e_kept (S := S) (e := f) (r := r) (by rw [hE f hf, lr]; exact Nat.le_refl _)]⟩]
  simp [allBl_map, Function.comp_def, -List.all_eq_true, List.all_map]
theorem e_law_is {a b : Bool} : F__law_is [.va (.bl a), .va (.bl b)] S = .ok (.bl (a == b)) S := by
  cases a <;> cases b <;> kernel_rfl
structure Fk (fr : Fr) : Prop where
  l : fr.length = 23
  h : fr[1]? = some (.va (.ref 0))
theorem Fk.set {fr : Fr} (h : Fk fr) {i : Nat} (hi : i ≠ 1) {a : Sl} : Fk (fr.set i a) := ⟨by simp [h.l], by rw [List.getElem?_set_ne hi]; exact h.h⟩
theorem toI (n : Nat) : (1 + (n : Int)) = ((1 + n : Nat) : Int) := by simp
/-- the first half of a turn: relations and equations -/
theorem half1 {fr : Fr} (k : Fk fr) (h : HOk S) : ∃ fr' S', Fk fr' ∧ HOk S' ∧ ∀ K : SS, (sSeq m_law_3 (sSeq (sSet 7 (eCall F__law_relation (gV (eV 1) (gV (eV 6) gN)))) (sSeq (sSet 8 (eCall F_equations (gV (eV 6) (gV (eV 7) gN)))) (sSeq m_law_4 (sSeq m_law_5 (sSeq m_law_6 K)))))) fr S = K fr' S' := by
  obtain ⟨d, S1, ed, dl, h1⟩ := dr (m := 4) h (by decide) (by decide)
  simp only [Int.cast_ofNat_Int] at ed
  have e3 : m_law_3 fr S = .nx (fr.set 6 (.va (.int ((1 + d : Nat) : Int)))) S1 := by simp [m_law_3, k.h, ed]
  generalize hn : 1 + d = n at e3
  have n1 : 1 ≤ n := by omega
  have n4 : n ≤ 4 := by omega
  obtain ⟨R, S2, er, rel, h2⟩ := e_lrelation h1 n1 n4
  have kf := k.set (i := 6) (by decide) (a := .va (.int (n : Int)))
  have a6 : (fr.set 6 (.va (.int (n : Int))))[6]? = some (.va (.int (n : Int))) := by simp [k.l]
  generalize fr.set 6 (.va (.int (n : Int))) = fr1 at e3 kf a6
  have e7 : (sSet 7 (eCall F__law_relation (gV (eV 1) (gV (eV 6) gN)))) fr1 S1 = .nx (fr1.set 7 (.va (rw_ R))) S2 := by simp [kf.h, a6, er]
  have b6 : (fr1.set 7 (.va (rw_ R)))[6]? = some (.va (.int (n : Int))) := by simp [a6]
  have b7 : (fr1.set 7 (.va (rw_ R)))[7]? = some (.va (rw_ R)) := by simp [kf.l]
  have kg := kf.set (i := 7) (by decide) (a := .va (rw_ R))
  generalize fr1.set 7 (.va (rw_ R)) = fr2 at e7 b6 b7 kg
  have eq := e_equations (S := S2) n1 n4 rel
  have e8 : (sSet 8 (eCall F_equations (gV (eV 6) (gV (eV 7) gN)))) fr2 S2 = .nx (fr2.set 8 (.va (.tup ((eqs n R).map eqv)))) S2 := by simp [b6, b7, eq]
  have c6 : (fr2.set 8 (.va (.tup ((eqs n R).map eqv))))[6]? = some (.va (.int (n : Int))) := by simp [b6]
  have c7 : (fr2.set 8 (.va (.tup ((eqs n R).map eqv))))[7]? = some (.va (rw_ R)) := by simp [b7]
  have c8 : (fr2.set 8 (.va (.tup ((eqs n R).map eqv))))[8]? = some (.va (.tup ((eqs n R).map eqv))) := by simp [kg.l]
  have kh := kg.set (i := 8) (by decide) (a := .va (.tup ((eqs n R).map eqv)))
  generalize fr2.set 8 (.va (.tup ((eqs n R).map eqv))) = fr3 at e8 c6 c7 c8 kh
  have el := eqs_len n4 (R := R)
  have ec := eqs_cnt n1 n4 rel.l
  have e9 : m_law_4 fr3 S2 = .nx (fr3.set 9 (.va (rw_ (sgood n (eqs n R))))) S2 := by
    simp [m_law_4, c6, e_lrows (S := S2) (n := n) (by omega)]
    rw [lc_filtI (f := rb) (p := fun r => (eqs n R).all fun e => e.ok r) fun r hr => ⟨_, rfl, ?_, fun _ => by simp [kh.l]⟩]
    · simp [-List.all_eq_true]; rfl
    · simp [c8]
      rw [lc_mapI (f := fun f => .bl (f.ok r)) fun f hf => ⟨_, rfl, by simp [kh.l, e_lkeeps (S := S2) (e := f) (r := r) (by rw [el f hf, bits_len n r hr]; exact Nat.le_refl _)]⟩]
      simp [allBl_map, Function.comp_def, -List.all_eq_true, List.all_map]
  have d6 : (fr3.set 9 (.va (rw_ (sgood n (eqs n R)))))[6]? = some (.va (.int (n : Int))) := by simp [c6]
  have d7 : (fr3.set 9 (.va (rw_ (sgood n (eqs n R)))))[7]? = some (.va (rw_ R)) := by simp [c7]
  have d8 : (fr3.set 9 (.va (rw_ (sgood n (eqs n R)))))[8]? = some (.va (.tup ((eqs n R).map eqv))) := by simp [c8]
  have d9 : (fr3.set 9 (.va (rw_ (sgood n (eqs n R)))))[9]? = some (.va (rw_ (sgood n (eqs n R)))) := by simp [kh.l]
  have ki := kh.set (i := 9) (by decide) (a := .va (rw_ (sgood n (eqs n R))))
  generalize fr3.set 9 (.va (rw_ (sgood n (eqs n R)))) = fr4 at e9 d6 d7 d8 d9 ki
  have ele := e_leqs (S := S2) n1 n4 rel
  have erk := e_rows_keeping (S := S2) n1 n4 el (by omega)
  have dq : ∀ l : List Eqn, (PV.tup (l.map eqv)).isD deep = true := fun l => by
    show areD 59 (l.map eqv) = true
    induction l with
    | nil => rfl
    | cons e l ih => simp only [List.map_cons, areD, ih, Bool.and_true]; simp [eqv, PV.isD, areD]
  have pq : ∀ l : List Eqn, peq (PV.tup (l.map eqv)) (PV.tup (l.map eqv)) = true := fun l => by
    show peqs (l.map eqv) (l.map eqv) = true
    induction l with
    | nil => rfl
    | cons e l ih => simp only [List.map_cons, peqs, ih, Bool.and_true]; simp [eqv, peq, peqs]
  have e10 : m_law_5 fr4 S2 = .nx fr4 S2 := by
    simp [m_law_5, d6, d7, d8, d9, ele, erk, dq, pq]
  have ek := e_kept_by (S := S2) n1 n4 rel .sum
  have e11 : m_law_6 fr4 S2 = .nx fr4 S2 := by
    by_cases z : R = []
    · simp [m_law_6, d7, z]
    · have hz : 0 < R.length := List.length_pos_iff.mpr z
      have iff : (sgood n (eqs n R) = R) ↔ Clo n R .sum := by
        constructor
        · intro q
          refine eqs_clo n4 rel fun r lr hr => ?_
          rw [← q]
          simp only [sgood, List.mem_filter, mem_bits, List.all_eq_true]
          exact ⟨lr, hr⟩
        · intro q
          refine rel_ext (n := n) ⟨(bits_sorted n).filter _, fun r hr => bits_len n r (List.mem_filter.mp hr).1⟩ rel fun x => ?_
          simp only [sgood, List.mem_filter, mem_bits, List.all_eq_true]
          constructor
          · rintro ⟨lx, hx⟩
            exact (eqs_rel n4 rel q lx).mp hx
          · intro hx
            exact ⟨rel.l x hx, (eqs_rel n4 rel q (rel.l x hx)).mpr hx⟩
      have en : (lose n R .sum).isNone = decide (sgood n (eqs n R) = R) := by
        rw [Bool.eq_iff_iff, Option.isNone_iff_eq_none, lose_none, decide_eq_true_eq, iff]
      rw [en] at ek
      replace ek : F_kept_by [.va (.int (n : Int)), .va (rw_ R), .va (.str "sum")] S2 = _ := ek
      simp [m_law_6, d6, d7, d9, ek, hz, peq]
  refine ⟨fr4, S2, ki, h2, fun K => ?_⟩
  rw [seq_ap, e3, Ou.seq_nx, seq_ap, e7, Ou.seq_nx, seq_ap, e8, Ou.seq_nx, seq_ap, e9, Ou.seq_nx, seq_ap, e10, Ou.seq_nx, seq_ap, e11, Ou.seq_nx]
end
end Law84
namespace Law84
open PySem Q
section
variable {S : Sto}
/-- the other half: numbers that come together -/
structure Fm (n : Nat) (E : List Eqn) (fr : Fr) : Prop where
  k : Fk fr
  a10 : fr[10]? = some (.va (.int (n : Int)))
  a19 : fr[19]? = some (.va (.lst ((lsets n).map lv)))
  a20 : fr[20]? = some (.ow (.lst (E.map eqv)))
  e : ∀ e ∈ E, e.1.length = n
theorem Fm.set {n : Nat} {E : List Eqn} {fr : Fr} (h : Fm n E fr) {i : Nat} (hi : i ≠ 1 ∧ i ≠ 10 ∧ i ≠ 19 ∧ i ≠ 20) {a : Sl} : Fm n E (fr.set i a) :=
  ⟨h.k.set hi.1, by rw [List.getElem?_set_ne hi.2.1]; exact h.a10, by rw [List.getElem?_set_ne hi.2.2.1]; exact h.a19, by rw [List.getElem?_set_ne hi.2.2.2]; exact h.a20, h.e⟩
theorem mem_lsets {n : Nat} {m : List Bool} : m ∈ lsets n ↔ m.length = n := by rw [lsets_perm.mem_iff, mem_swm]
theorem lsets_len {n : Nat} : (lsets n).length = 2 ^ n := by rw [lsets_perm.length_eq, swm_len]
theorem lsets_ne {n : Nat} : lsets n ≠ [] := fun z => by
  have h : zr n ∈ lsets n := mem_lsets.mpr (by simp)
  rw [z] at h
  exact nomatch h
theorem bits_ne {n : Nat} : bits n ≠ [] := fun z => by
  have h : zr n ∈ bits n := mem_bits.mpr (by simp)
  rw [z] at h
  exact nomatch h
/-- some.append(..) -/
theorem step9 {n : Nat} (bn : n ≤ 6) {E : List Eqn} {fr : Fr} (k : Fm n E fr) (h : HOk S) (lE : E.length ≤ 20) : ∃ e fr' S', m_law_9 fr S = .nx fr' S' ∧ Fm n (E ++ [e]) fr' ∧ HOk S' := by
  have pl := Nat.pow_le_pow_right (n := 2) (by decide) bn
  obtain ⟨m, S1, em, hm, h1⟩ := any_ok (f := lv) (l := lsets n) h lsets_ne (by rw [lsets_len]; omega)
  obtain ⟨d, S2, ed, dl, h2⟩ := dr (m := 2) h1 (by decide) (by decide)
  simp only [Int.cast_ofNat_Int] at ed
  have hd : ∃ b : Bool, (d : Int) = bi b := by
    match d, dl with
    | 0, _ => exact ⟨false, rfl⟩
    | 1, _ => exact ⟨true, rfl⟩
  obtain ⟨b, hb⟩ := hd
  have lm := mem_lsets.mp hm
  have le : E.length ≤ 16777215 := by omega
  refine ⟨(m, b), fr.set 20 (.ow (.lst ((E ++ [(m, b)]).map eqv))), S2, ?_, ⟨k.k.set (by decide), by rw [List.getElem?_set_ne (by decide)]; exact k.a10, by rw [List.getElem?_set_ne (by decide)]; exact k.a19, by simp [k.k.l], fun e he => ?_⟩, h2⟩
  · simp [m_law_9, k.k.h, k.a19, em, ed, k.a20, le, hb]
    simp [eqv, lv]
  · rcases List.mem_append.mp he with he | he
    · exact k.e e he
    · rw [List.mem_singleton.mp he]; exact lm
theorem step10 {n : Nat} (bn : n ≤ 6) {fr : Fr} (k : Fm n [] fr) (h : HOk S) : ∃ E fr' S', m_law_10 fr S = .nx fr' S' ∧ Fm n E fr' ∧ HOk S' ∧ E.length ≤ 6 := by
  obtain ⟨d, S1, ed, dl, h1⟩ := dr (m := 7) h (by decide) (by decide)
  simp only [Int.cast_ofNat_Int] at ed
  have w := wp_for (tg := tN 3) (b := fb_law_1) (fun j fr S => ∃ E, Fm n E fr ∧ HOk S ∧ E.length = j) (R := fun _ _ => False) (xs := rangeV 0 d) (fr := fr) (S := S1) 0 ⟨[], k, h1, rfl⟩ (fun j x fr S ⟨E, kk, hh, lE⟩ hx => by
    have jl : j < d := by
      have := (List.getElem?_eq_some_iff.mp hx).1
      rwa [rangeV_len] at this
    obtain ⟨e, fr', S', es, kk', hh'⟩ := step9 bn (kk.set (i := 3) (by decide) (a := .va x)) hh (by omega)
    refine ⟨_, rfl, ?_⟩
    unfold fb_law_1
    rw [seq_ap, es]
    exact ⟨E ++ [e], kk', hh', by simp [lE]⟩)
  have er : (iRng1 (eCall F__law_draw (gV (eV 1) (gV (eC (.int 7)) gN)))) fr S = .ok (rangeV 0 d) S1 := by
    have c : (d : Int) ≤ 16777216 := by omega
    simp [k.k.h, ed, c]
  have e10 : m_law_10 fr S = forGo (tN 3) fb_law_1 (rangeV 0 d) fr S1 := by
    unfold m_law_10
    rw [for_ap, er]; rfl
  rw [e10]
  cases e : forGo (tN 3) fb_law_1 (rangeV 0 d) fr S1 with
  | nx fr' S' =>
    rw [e, Nat.zero_add, rangeV_len] at w
    obtain ⟨E, kk, hh, lE⟩ := w
    exact ⟨E, fr', S', rfl, kk, hh, by omega⟩
  | _ => rw [e] at w; exact w.elim
theorem half2 {fr : Fr} (k : Fk fr) (h : HOk S) : ∃ fr' S', Fk fr' ∧ HOk S' ∧ (sSeq m_law_7 (sSeq m_law_8 (sSeq m_law_10 (sSeq m_law_11 (sSeq m_law_12 (sSeq m_law_13 (sSeq m_law_14 (sSeq m_law_15 (sSeq m_law_16 (sSeq m_law_17 (sSeq m_law_18 sNil))))))))))) fr S = .nx fr' S' := by
  obtain ⟨d, S1, ed, dl, h1⟩ := dr (m := 6) h (by decide) (by decide)
  simp only [Int.cast_ofNat_Int] at ed
  have e7 : m_law_7 fr S = .nx (fr.set 10 (.va (.int ((1 + d : Nat) : Int)))) S1 := by simp [m_law_7, k.h, ed]
  generalize hn : 1 + d = n at e7
  have n1 : 1 ≤ n := by omega
  have bn : n ≤ 6 := by omega
  have kf := k.set (i := 10) (by decide) (a := .va (.int (n : Int)))
  have a10 : (fr.set 10 (.va (.int (n : Int))))[10]? = some (.va (.int (n : Int))) := by simp [k.l]
  generalize fr.set 10 (.va (.int (n : Int))) = fr1 at e7 kf a10
  have cn : (n : Int) ≤ 16777216 := by omega
  have e8 : m_law_8 fr1 S1 = .nx ((fr1.set 19 (.va (.lst ((lsets n).map lv)))).set 20 (.ow (.lst []))) S1 := by
    simp [m_law_8, a10, cn, e_lsets (S := S1) bn]
  have k2 : Fm n [] ((fr1.set 19 (.va (.lst ((lsets n).map lv)))).set 20 (.ow (.lst []))) := ⟨(kf.set (by decide)).set (by decide), by simp [a10], by simp [kf.l], by simp [kf.l], by simp⟩
  generalize (fr1.set 19 (.va (.lst ((lsets n).map lv)))).set 20 (.ow (.lst [])) = fr2 at e8 k2
  obtain ⟨E, fr3, S2, e10, k3, h2, lE⟩ := step10 bn k2 h1
  have hE := k3.e
  have e11 : m_law_11 fr3 S2 = .nx (fr3.set 11 (.va (.lst ((sgood n E).map rb)))) S2 := by
    simp [m_law_11, k3.a10, e_lrows (S := S2) bn]
    rw [lc_filtI (f := rb) (p := fun r => E.all fun e => e.ok r) fun r hr => ⟨_, rfl, ?_, fun _ => by simp [k3.k.l]⟩]
    · simp [-List.all_eq_true]; rfl
    · simp [k3.a20]
      rw [lc_mapI (f := fun f => .bl (f.ok r)) fun f hf => ⟨_, rfl, by simp [k3.k.l, e_lkeeps (S := S2) (e := f) (r := r) (by rw [hE f hf, bits_len n r hr]; exact Nat.le_refl _)]⟩]
      simp [allBl_map, Function.comp_def, -List.all_eq_true, List.all_map]
  have b11 : (fr3.set 11 (.va (.lst ((sgood n E).map rb))))[11]? = some (.va (.lst ((sgood n E).map rb))) := by simp [k3.k.l]
  have k4 := k3.set (i := 11) (by decide) (a := .va (.lst ((sgood n E).map rb)))
  generalize fr3.set 11 (.va (.lst ((sgood n E).map rb))) = fr4 at e11 b11 k4
  obtain ⟨x, es, hx⟩ := e_summed (S := S2) n1 bn hE (by omega)
  have e12 : m_law_12 fr4 S2 = .nx (fr4.set 12 (.va x)) S2 := by simp [m_law_12, k4.a10, k4.a20, es]
  have c11 : (fr4.set 12 (.va x))[11]? = some (.va (.lst ((sgood n E).map rb))) := by simp [b11]
  have c12 : (fr4.set 12 (.va x))[12]? = some (.va x) := by simp [k4.k.l]
  have k5 := k4.set (i := 12) (by decide) (a := .va x)
  generalize fr4.set 12 (.va x) = fr5 at e12 c11 c12 k5
  have none_of : ∀ u, comb n u E = (zr n, true) → sgood n E = [] := fun u hu => by
    unfold sgood
    rw [List.filter_eq_nil_iff]
    intro r hr hall
    have := comb_ok (n := n) (r := r) (u := u) hE fun f hf => List.all_eq_true.mp hall f hf
    rw [hu] at this
    simp [Eqn.ok, par_zr] at this
  have e13 : m_law_13 fr5 S2 = .nx fr5 S2 := by
    rcases hx with ⟨u, rfl, lu, hu⟩ | ⟨g, gs, hg, rfl⟩
    · simp [m_law_13, c11, none_of u hu]
    · simp [m_law_13, c11, c12, hg]
  have e14 : m_law_14 fr5 S2 = .nx fr5 S2 := by
    rcases hx with ⟨u, rfl, lu, hu⟩ | ⟨g, gs, hg, rfl⟩
    · have el := e_lnone (S := S2) n1 (by omega) hE lu
      simp [m_law_14, c11, c12, none_of u hu, k5.a20, k5.a10, el, hu]
    · have : ¬ (gs.length : Int) + 1 = 0 := by omega
      simp [m_law_14, c11, c12, hg, this]
  have cE : (E.length : Int) ≤ 16777216 := by omega
  obtain ⟨u, S3, eu, mu, h3⟩ := any_ok (f := lv) (l := lsets E.length) h2 lsets_ne (by
    have := Nat.pow_le_pow_right (n := 2) (by decide) lE
    rw [lsets_len]; omega)
  have lu := mem_lsets.mp mu
  have e15 : m_law_15 fr5 S2 = .nx (fr5.set 13 (.va (lv u))) S3 := by
    simp [m_law_15, k5.k.h, k5.a20, cE, e_lsets (S := S2) lE, eu]
  have d13 : (fr5.set 13 (.va (lv u)))[13]? = some (.va (lv u)) := by simp [k5.k.l]
  have d11 : (fr5.set 13 (.va (lv u)))[11]? = some (.va (.lst ((sgood n E).map rb))) := by simp [c11]
  have k6 := k5.set (i := 13) (by decide) (a := .va (lv u))
  generalize fr5.set 13 (.va (lv u)) = fr6 at e15 d13 d11 k6
  have ei := e_is_num (S := S3) n1 bn hE (by omega) lu
  have el := e_lnone (S := S3) n1 (by omega) hE lu
  have e16 : m_law_16 fr6 S3 = .nx fr6 S3 := by
    simp [m_law_16, k6.a10, k6.a20, d13, lv, ei, el, e_law_is]
  have pl := Nat.pow_le_pow_right (n := 2) (by decide) bn
  obtain ⟨r, S4, er, mr, h4⟩ := any_ok (f := rb) (l := bits n) h3 bits_ne (by rw [bits_length]; omega)
  have e17 : m_law_17 fr6 S3 = .nx (fr6.set 14 (.va (rb r))) S4 := by
    simp [m_law_17, k6.k.h, k6.a10, e_lrows (S := S3) bn, er]
  have f14 : (fr6.set 14 (.va (rb r)))[14]? = some (.va (rb r)) := by simp [k6.k.l]
  have f11 : (fr6.set 14 (.va (rb r)))[11]? = some (.va (.lst ((sgood n E).map rb))) := by simp [d11]
  have k7 := k6.set (i := 14) (by decide) (a := .va (rb r))
  generalize fr6.set 14 (.va (rb r)) = fr7 at e17 f14 f11 k7
  have ej := e_is_rw (S := S4) n1 bn hE (by omega) (bits_len n r mr)
  have em : decide (r ∈ sgood n E) = E.all fun e => e.ok r := by
    rw [Bool.eq_iff_iff, decide_eq_true_eq]
    unfold sgood
    rw [List.mem_filter]
    exact ⟨fun h => h.2, fun h => ⟨mr, h⟩⟩
  have e18 : m_law_18 fr7 S4 = .nx fr7 S4 := by
    simp [m_law_18, k7.a10, k7.a20, f14, f11, ej, em, e_law_is, -List.all_eq_true]
  refine ⟨fr7, S4, k7.k, h4, ?_⟩
  rw [seq_ap, e7, Ou.seq_nx, seq_ap, e8, Ou.seq_nx, seq_ap, e10, Ou.seq_nx, seq_ap, e11, Ou.seq_nx, seq_ap, e12, Ou.seq_nx, seq_ap, e13, Ou.seq_nx, seq_ap, e14, Ou.seq_nx, seq_ap, e15, Ou.seq_nx, seq_ap, e16, Ou.seq_nx, seq_ap, e17, Ou.seq_nx, seq_ap, e18]
  rfl
end
end Law84
namespace Law84
open PySem Q
section
variable {S : Sto}
theorem turn {fr : Fr} (k : Fk fr) (h : HOk S) : ∃ fr' S', fb_law_2 fr S = .nx fr' S' ∧ Fk fr' ∧ HOk S' := by
  obtain ⟨fr1, S1, k1, h1, e1⟩ := half1 k h
  obtain ⟨fr2, S2, k2, h2, e2⟩ := half2 k1 h1
  refine ⟨fr2, S2, ?_, k2, h2⟩
  unfold fb_law_2
  rw [e1, e2]
/-- the puzzle's relations on the way -/
structure F16 (c : Nat) (rs : List Rl) (fr : Fr) : Prop where
  k : Fk fr
  a15 : fr[15]? = some (.va (.int (c : Int)))
  a16 : fr[16]? = some (.ow (.lst (rs.map rlv)))
  r : ∀ q ∈ rs, 1 ≤ q.1 ∧ q.1 ≤ 4 ∧ Rel q.1 q.2 ∧ Clo q.1 q.2 .sum
theorem step3 {c : Nat} {rs : List Rl} {fr : Fr} (k : F16 c rs fr) (h : HOk S) (lr : rs.length ≤ 100) : ∃ q fr' S', fb_law_3 fr S = .nx fr' S' ∧ F16 c (rs ++ [q]) fr' ∧ HOk S' := by
  obtain ⟨d, S1, ed, dl, h1⟩ := dr (m := 3) h (by decide) (by decide)
  simp only [Int.cast_ofNat_Int] at ed
  have e20 : m_law_20 fr S = .nx (fr.set 17 (.va (.int ((1 + d : Nat) : Int)))) S1 := by simp [m_law_20, k.k.h, ed]
  generalize hn : 1 + d = n at e20
  have n1 : 1 ≤ n := by omega
  have n4 : n ≤ 4 := by omega
  obtain ⟨R, S2, er, rel, h2⟩ := e_lrelation h1 n1 n4
  obtain ⟨R', ec, cl⟩ := e_closed (S := S2) n1 n4 rel (ws := [.sum]) (by decide)
  rw [← wl_sum] at ec
  have k1 := k.k.set (i := 17) (by decide) (a := .va (.int (n : Int)))
  have b15 : (fr.set 17 (.va (.int (n : Int))))[15]? = some (.va (.int (c : Int))) := by simp [k.a15]
  have b16 : (fr.set 17 (.va (.int (n : Int))))[16]? = some (.ow (.lst (rs.map rlv))) := by simp [k.a16]
  have b17 : (fr.set 17 (.va (.int (n : Int))))[17]? = some (.va (.int (n : Int))) := by simp [k.k.l]
  generalize fr.set 17 (.va (.int (n : Int))) = fr1 at e20 k1 b15 b16 b17
  have lr' : rs.length ≤ 16777215 := by omega
  have e21 : m_law_21 fr1 S1 = .nx (fr1.set 16 (.ow (.lst ((rs ++ [(n, R')]).map rlv)))) S2 := by
    simp [m_law_21, k1.h, b17, er, ec, b16, lr']
    simp [rlv]
  refine ⟨(n, R'), _, S2, by unfold fb_law_3; rw [seq_ap, e20, Ou.seq_nx, seq_ap, e21]; rfl, ⟨k1.set (by decide), by rw [List.getElem?_set_ne (by decide)]; exact b15, by simp [k1.l], fun q hq => ?_⟩, h2⟩
  rcases List.mem_append.mp hq with hq | hq
  · exact k.r q hq
  · rw [List.mem_singleton.mp hq]; exact ⟨n1, n4, cl.r, cl.c _ (by simp)⟩
structure F4 (c : Nat) (rs : List Rl) (ds : List Dm) (fr : Fr) : Prop where
  f : F16 c rs fr
  a4 : fr[4]? = some (.ow (.lst (ds.map dmv)))
  d : ∀ d ∈ ds, ∃ k, rs[d.1]? = some k ∧ d.2.length = k.1 ∧ ∀ q ∈ d.2, q < c
theorem F16.set {c : Nat} {rs : List Rl} {fr : Fr} (h : F16 c rs fr) {i : Nat} (hi : i ≠ 1 ∧ i ≠ 15 ∧ i ≠ 16) {a : Sl} : F16 c rs (fr.set i a) :=
  ⟨h.k.set hi.1, by rw [List.getElem?_set_ne hi.2.1]; exact h.a15, by rw [List.getElem?_set_ne hi.2.2]; exact h.a16, h.r⟩
theorem step4 {c : Nat} (c1 : 1 ≤ c) (c6 : c ≤ 6) {rs : List Rl} (r2 : rs.length = 2) {ds : List Dm} {fr : Fr} (k : F4 c rs ds fr) (h : HOk S) (ld : ds.length ≤ 100) : ∃ d fr' S', fb_law_4 fr S = .nx fr' S' ∧ F4 c rs (ds ++ [d]) fr' ∧ HOk S' := by
  obtain ⟨j, S1, ed, jl, h1⟩ := dr (m := 2) h (by decide) (by decide)
  simp only [Int.cast_ofNat_Int] at ed
  have e22 : m_law_22 fr S = .nx (fr.set 18 (.va (.int (j : Int)))) S1 := by simp [m_law_22, k.f.k.h, ed]
  have k1 := k.f.set (i := 18) (by decide) (a := .va (.int (j : Int)))
  have b4 : (fr.set 18 (.va (.int (j : Int))))[4]? = some (.ow (.lst (ds.map dmv))) := by simp [k.a4]
  have b18 : (fr.set 18 (.va (.int (j : Int))))[18]? = some (.va (.int (j : Int))) := by simp [k.f.k.l]
  generalize fr.set 18 (.va (.int (j : Int))) = fr1 at e22 k1 b4 b18
  have ej : rs[j]? = some rs[j] := List.getElem?_eq_getElem (by omega)
  generalize rs[j] = q at ej
  have hq := k1.r q (List.mem_of_getElem? ej)
  have cq : (q.1 : Int) ≤ 16777216 := by omega
  obtain ⟨ps, S2, ep, lp, bp, h2⟩ := lc_draws (g := fun (i : Nat) => PV.int (i : Int)) (tg := tN 22) (m := eCall F__law_draw (gV (eV 1) (gV (eV 15) gN))) (fr := fr1.set 22 .no) (B := c) (l := List.range q.1) h1 fun x hx => ⟨_, rfl, fun S hS => by
    obtain ⟨d, S', e, dl, hd⟩ := dr (m := c) hS (by omega) (by omega)
    exact ⟨d, S', by simp [k1.k.h, k1.a15, e], dl, hd⟩⟩
  have ld' : ds.length ≤ 16777215 := by omega
  have lq : ps.length = q.1 := by rw [lp, List.length_range]
  have e23 : m_law_23 fr1 S1 = .nx (fr1.set 4 (.ow (.lst ((ds ++ [(j, ps)]).map dmv)))) S2 := by
    simp [m_law_23, b18, k1.a16, ej, rlv, cq, rangeV_map, ep, b4, ld']
    simp [dmv, ti, ps_, Function.comp_def]
  refine ⟨(j, ps), _, S2, by unfold fb_law_4; rw [seq_ap, e22, Ou.seq_nx, seq_ap, e23]; rfl, ⟨k1.set (by decide), by simp [k1.k.l], fun d hd => ?_⟩, h2⟩
  rcases List.mem_append.mp hd with hd | hd
  · exact k.d d hd
  · rw [List.mem_singleton.mp hd]; exact ⟨q, ej, lq, bp⟩
theorem F4.set {c : Nat} {rs : List Rl} {ds : List Dm} {fr : Fr} (h : F4 c rs ds fr) {i : Nat} (hi : (i ≠ 1 ∧ i ≠ 15 ∧ i ≠ 16) ∧ i ≠ 4) {a : Sl} : F4 c rs ds (fr.set i a) :=
  ⟨h.f.set hi.1, by rw [List.getElem?_set_ne hi.2]; exact h.a4, h.d⟩
theorem step24 {c : Nat} (c1 : 1 ≤ c) (c6 : c ≤ 6) {rs : List Rl} (r2 : rs.length = 2) {fr : Fr} (k : F4 c rs [] fr) (h : HOk S) : ∃ ds fr' S', m_law_24 fr S = .nx fr' S' ∧ F4 c rs ds fr' ∧ HOk S' ∧ ds.length ≤ 4 := by
  obtain ⟨d, S1, ed, dl, h1⟩ := dr (m := 4) h (by decide) (by decide)
  simp only [Int.cast_ofNat_Int] at ed
  have w := wp_for (tg := tN 3) (b := fb_law_4) (fun j fr S => ∃ ds, F4 c rs ds fr ∧ HOk S ∧ ds.length = j) (R := fun _ _ => False) (xs := rangeV 0 (1 + d)) (fr := fr) (S := S1) 0 ⟨[], k, h1, rfl⟩ (fun j x fr S ⟨E, kk, hh, lE⟩ hx => by
    have jl : j < 1 + d := by
      have := (List.getElem?_eq_some_iff.mp hx).1
      rwa [rangeV_len] at this
    obtain ⟨e, fr', S', es, kk', hh'⟩ := step4 c1 c6 r2 (kk.set (i := 3) (by decide) (a := .va x)) hh (by omega)
    refine ⟨_, rfl, ?_⟩
    rw [show (fr.set 3 (.va x)) = fr.set 3 (.va x) from rfl, es]
    exact ⟨E ++ [e], kk', hh', by simp [lE]⟩)
  have er : (iRng1 (eOp .add (eC (.int 1)) (eCall F__law_draw (gV (eV 1) (gV (eC (.int 4)) gN))))) fr S = .ok (rangeV 0 (1 + d)) S1 := by
    have c0 : (1 : Int) + (d : Int) ≤ 16777216 := by omega
    have c1 : -4611686018427387904 ≤ (1 : Int) + (d : Int) := by omega
    have c2 : (1 + (d : Int)).toNat = 1 + d := by omega
    simp [k.f.k.h, ed, c0, c1, c2]
  have e10 : m_law_24 fr S = forGo (tN 3) fb_law_4 (rangeV 0 (1 + d)) fr S1 := by
    unfold m_law_24
    rw [for_ap, er]; rfl
  rw [e10]
  cases e : forGo (tN 3) fb_law_4 (rangeV 0 (1 + d)) fr S1 with
  | nx fr' S' =>
    rw [e, Nat.zero_add, rangeV_len] at w
    obtain ⟨E, kk, hh, lE⟩ := w
    exact ⟨E, fr', S', rfl, kk, hh, by omega⟩
  | _ => rw [e] at w; exact w.elim
theorem last {c : Nat} (c1 : 1 ≤ c) (c6 : c ≤ 6) {rs : List Rl} (r2 : rs.length = 2) {ds : List Dm} (d4 : ds.length ≤ 4) {fr : Fr} (k : F4 c rs ds fr) (h : HOk S) : ∃ S', (sSeq m_law_25 (sSeq m_law_26 (sSeq m_law_27 sNil))) fr S = .rt (.bl true) S' := by
  let p : Pz := ⟨c, rs, ds⟩
  have ok : PzOk p := ⟨c1, c6, by show rs.length ≤ 6; omega, fun q hq => ⟨(k.f.r q hq).1, (k.f.r q hq).2.1, (k.f.r q hq).2.2.1⟩, by show ds.length ≤ 12; omega, k.d⟩
  have e25 : m_law_25 fr S = .nx (fr.set 5 (.va p.v)) S := by
    simp [m_law_25, k.f.a15, k.f.a16, k.a4]
    rfl
  have a5 : (fr.set 5 (.va p.v))[5]? = some (.va p.v) := by simp [k.f.k.l]
  have k5 := k.f.k.set (i := 5) (by decide) (a := .va p.v)
  generalize fr.set 5 (.va p.v) = fr1 at e25 a5 k5
  have ea := e_answers (S := S) ok
  obtain ⟨x, eb, hx⟩ := e_by_sums (S := S) ok fun q hq => (k.f.r q hq).2.2.2
  have e26 : m_law_26 fr1 S = .nx ((fr1.set 11 (.va (rw_ p.ans))).set 8 (.va x)) S := by simp [m_law_26, a5, ea, eb]
  have e27 : m_law_27 ((fr1.set 11 (.va (rw_ p.ans))).set 8 (.va x)) S = .rt (.bl true) S := by
    rcases hx with ⟨u, rfl, hu⟩ | ⟨g, gs, hg, rfl⟩
    · simp [m_law_27, k5.l, hu]
    · have at0 : (rw_ (g :: gs)).at_ (.int 0) = some (rb g) := by simp [rw_]
      simp [m_law_27, k5.l, hg, at0]
  exact ⟨S, by rw [seq_ap, e25, Ou.seq_nx, seq_ap, e26, Ou.seq_nx, seq_ap, e27]; rfl⟩
theorem plain : ∀ ns : List Int, ns.length ≤ 63 → ∃ S', m_law (fr0 23 1) [hand0 n4 ns] = .rt (.bl true) S' := by
  intro ns _
  have h0 : HOk [hand0 n4 ns] := by
    have := hand_ok0 n4 ns
    simpa [hand0, absI, List.map_map, Function.comp_def] using this
  generalize [hand0 n4 ns] = S at h0
  have k0 : Fk (fr0 23 1) := ⟨rfl, rfl⟩
  generalize fr0 23 1 = fr at k0
  have e1 : m_law_1 fr S = .nx fr S := by simp [m_law_1, known1, known2]
  have e2 : m_law_2 fr S = .nx fr S := by simp [m_law_2, known3]
  obtain ⟨fr1, S1, e3, k1, h1⟩ : ∃ fr1 S1, (sFor (iRng1 (eC (.int 2))) (tN 2) fb_law_2) fr S = .nx fr1 S1 ∧ Fk fr1 ∧ HOk S1 := by
    obtain ⟨f1, S1, e1, k1, h1⟩ := turn (k0.set (i := 2) (by decide) (a := .va (.int 0))) h0
    obtain ⟨f2, S2, e2, k2, h2⟩ := turn (k1.set (i := 2) (by decide) (a := .va (.int 1))) h1
    have er : rangeV 0 2 = [.int 0, .int 1] := rfl
    exact ⟨f2, S2, by simp [er, e1, e2], k2, h2⟩
  obtain ⟨d, S2, ed, dl, h2⟩ := dr (m := 3) h1 (by decide) (by decide)
  simp only [Int.cast_ofNat_Int] at ed
  have e19 : m_law_19 fr1 S1 = .nx ((fr1.set 15 (.va (.int ((2 + d : Nat) : Int)))).set 16 (.ow (.lst []))) S2 := by simp [m_law_19, k1.h, ed]
  generalize hc : 2 + d = c at e19
  have k2 : F16 c [] ((fr1.set 15 (.va (.int (c : Int)))).set 16 (.ow (.lst []))) := ⟨(k1.set (by decide)).set (by decide), by simp [k1.l], by simp [k1.l], by simp⟩
  generalize (fr1.set 15 (.va (.int (c : Int)))).set 16 (.ow (.lst [])) = fr2 at e19 k2
  obtain ⟨rs, fr3, S3, e4, k3, h3, r2⟩ : ∃ rs fr3 S3, (sFor (iRng1 (eC (.int 2))) (tN 3) fb_law_3) fr2 S2 = .nx fr3 S3 ∧ F16 c rs fr3 ∧ HOk S3 ∧ rs.length = 2 := by
    obtain ⟨q1, f1, S1, e1, k1, h1⟩ := step3 (k2.set (i := 3) (by decide) (a := .va (.int 0))) h2 (by simp)
    obtain ⟨q2, f2, S2, e2, k2, h2⟩ := step3 (k1.set (i := 3) (by decide) (a := .va (.int 1))) h1 (by simp)
    have er : rangeV 0 2 = [.int 0, .int 1] := rfl
    exact ⟨[q1, q2], f2, S2, by simp [er, e1, e2], k2, h2, rfl⟩
  have e5 : (sOwn 4 (eLst aN)) fr3 S3 = .nx (fr3.set 4 (.ow (.lst []))) S3 := by simp
  have k4 : F4 c rs [] (fr3.set 4 (.ow (.lst []))) := ⟨k3.set (by decide), by simp [k3.k.l], by simp⟩
  generalize fr3.set 4 (.ow (.lst [])) = fr4 at e5 k4
  obtain ⟨ds, fr5, S4, e6, k5, h4, d4⟩ := step24 (c := c) (by omega) (by omega) r2 k4 h3
  obtain ⟨S5, e7⟩ := last (c := c) (by omega) (by omega) r2 d4 k5 h4
  refine ⟨S5, ?_⟩
  unfold m_law
  rw [seq_ap, e1, Ou.seq_nx, seq_ap, e2, Ou.seq_nx, seq_ap, e3, Ou.seq_nx, seq_ap, e19, Ou.seq_nx, seq_ap, e4, Ou.seq_nx, seq_ap, e5, Ou.seq_nx, seq_ap, e6, Ou.seq_nx, e7]
end
end Law84
namespace Law84
open PySem PySem.Spec PyProof.Rows L2 Q
def topS (i : Nat) : Stmt := PySem.Challenge.pw_bittables_k84_whole_equations_and_sums.main.body.getD i (.Pass ⟨0, 0, 0, 0⟩)
abbrev s_is_tuple : Stmt := topS 3
abbrev N_is_tuple : List Str := ["thing", "least", "most"]
theorem sc_is_tuple : FnScope N_is_tuple ["thing", "least", "most"] (defScope s_is_tuple) := ⟨rfl, rfl, rfl, by decide +kernel, rfl, by decide +kernel, by decide +kernel⟩
abbrev s_is_integer : Stmt := topS 1
abbrev N_is_integer : List Str := ["thing"]
theorem sc_is_integer : FnScope N_is_integer ["thing"] (defScope s_is_integer) := ⟨rfl, rfl, rfl, by decide +kernel, rfl, by decide +kernel, by decide +kernel⟩
abbrev s_is_within : Stmt := topS 2
abbrev N_is_within : List Str := ["thing", "low", "high"]
theorem sc_is_within : FnScope N_is_within ["thing", "low", "high"] (defScope s_is_within) := ⟨rfl, rfl, rfl, by decide +kernel, rfl, by decide +kernel, by decide +kernel⟩
abbrev s_is_lot : Stmt := topS 4
abbrev N_is_lot : List Str := ["thing", "many", "one", "other"]
theorem sc_is_lot : FnScope N_is_lot ["thing", "many"] (defScope s_is_lot) := ⟨rfl, rfl, rfl, by decide +kernel, rfl, by decide +kernel, by decide +kernel⟩
abbrev s_is_lot_of : Stmt := topS 21
abbrev N_is_lot_of : List Str := ["letters", "thing"]
theorem sc_is_lot_of : FnScope N_is_lot_of ["letters", "thing"] (defScope s_is_lot_of) := ⟨rfl, rfl, rfl, by decide +kernel, rfl, by decide +kernel, by decide +kernel⟩
abbrev s_is_bit : Stmt := topS 17
abbrev N_is_bit : List Str := ["thing"]
theorem sc_is_bit : FnScope N_is_bit ["thing"] (defScope s_is_bit) := ⟨rfl, rfl, rfl, by decide +kernel, rfl, by decide +kernel, by decide +kernel⟩
abbrev s_is_equation : Stmt := topS 55
abbrev N_is_equation : List Str := ["letters", "thing"]
theorem sc_is_equation : FnScope N_is_equation ["letters", "thing"] (defScope s_is_equation) := ⟨rfl, rfl, rfl, by decide +kernel, rfl, by decide +kernel, by decide +kernel⟩
abbrev s_check_equations : Stmt := topS 63
abbrev N_check_equations : List Str := ["letters", "some", "one"]
theorem sc_check_equations : FnScope N_check_equations ["letters", "some"] (defScope s_check_equations) := ⟨rfl, rfl, rfl, by decide +kernel, rfl, by decide +kernel, by decide +kernel⟩
abbrev s_is_count : Stmt := topS 19
abbrev N_is_count : List Str := ["thing"]
theorem sc_is_count : FnScope N_is_count ["thing"] (defScope s_is_count) := ⟨rfl, rfl, rfl, by decide +kernel, rfl, by decide +kernel, by decide +kernel⟩
abbrev s_letters_six : Stmt := topS 67
abbrev N_letters_six : List Str := ["letters"]
theorem sc_letters_six : FnScope N_letters_six ["letters"] (defScope s_letters_six) := ⟨rfl, rfl, rfl, by decide +kernel, rfl, by decide +kernel, by decide +kernel⟩
abbrev s_check_summed : Stmt := topS 66
abbrev N_check_summed : List Str := ["letters", "some"]
theorem sc_check_summed : FnScope N_check_summed ["letters", "some"] (defScope s_check_summed) := ⟨rfl, rfl, rfl, by decide +kernel, rfl, by decide +kernel, by decide +kernel⟩
abbrev s_added : Stmt := topS 57
abbrev N_added : List Str := ["one", "other", "lot", "i"]
theorem sc_added : FnScope N_added ["one", "other"] (defScope s_added) := ⟨rfl, rfl, rfl, by decide +kernel, rfl, by decide +kernel, by decide +kernel⟩
abbrev s_odd_ones : Stmt := topS 59
abbrev N_odd_ones : List Str := ["one", "other", "k"]
theorem sc_odd_ones : FnScope N_odd_ones ["one", "other"] (defScope s_odd_ones) := ⟨rfl, rfl, rfl, by decide +kernel, rfl, by decide +kernel, by decide +kernel⟩
abbrev s_reduced : Stmt := topS 58
abbrev N_reduced : List Str := ["heads", "equation", "used", "head", "more"]
theorem sc_reduced : FnScope N_reduced ["heads", "equation", "used"] (defScope s_reduced) := ⟨rfl, rfl, rfl, by decide +kernel, rfl, by decide +kernel, by decide +kernel⟩
abbrev s_rows : Stmt := topS 16
abbrev N_rows : List Str := ["letters", "found", "turn", "longer", "row"]
theorem sc_rows : FnScope N_rows ["letters"] (defScope s_rows) := ⟨rfl, rfl, rfl, by decide +kernel, rfl, by decide +kernel, by decide +kernel⟩
abbrev s_is_kept : Stmt := topS 56
abbrev N_is_kept : List Str := ["equation", "row", "i"]
theorem sc_is_kept : FnScope N_is_kept ["equation", "row"] (defScope s_is_kept) := ⟨rfl, rfl, rfl, by decide +kernel, rfl, by decide +kernel, by decide +kernel⟩
abbrev s_solved_by_sums : Stmt := topS 65
abbrev N_solved_by_sums : List Str := ["letters", "some", "heads", "good", "number", "equation", "rest", "used", "row", "one"]
theorem sc_solved_by_sums : FnScope N_solved_by_sums ["letters", "some"] (defScope s_solved_by_sums) := ⟨rfl, rfl, rfl, by decide +kernel, rfl, by decide +kernel, by decide +kernel⟩
abbrev s_summed : Stmt := topS 68
abbrev N_summed : List Str := ["letters", "some"]
theorem sc_summed : FnScope N_summed ["letters", "some"] (defScope s_summed) := ⟨rfl, rfl, rfl, by decide +kernel, rfl, by decide +kernel, by decide +kernel⟩
abbrev s__law_draw : Stmt := topS 75
abbrev N__law_draw : List Str := ["hand", "sides", "number", "cell", "digit"]
theorem sc__law_draw : FnScope N__law_draw ["hand", "sides"] (defScope s__law_draw) := ⟨rfl, rfl, rfl, by decide +kernel, rfl, by decide +kernel, by decide +kernel⟩
abbrev s_is_places : Stmt := topS 27
abbrev N_is_places : List Str := ["thing"]
theorem sc_is_places : FnScope N_is_places ["thing"] (defScope s_is_places) := ⟨rfl, rfl, rfl, by decide +kernel, rfl, by decide +kernel, by decide +kernel⟩
abbrev s_check_places : Stmt := topS 28
abbrev N_check_places : List Str := ["places"]
theorem sc_check_places : FnScope N_check_places ["places"] (defScope s_check_places) := ⟨rfl, rfl, rfl, by decide +kernel, rfl, by decide +kernel, by decide +kernel⟩
abbrev s_are_bits : Stmt := topS 18
abbrev N_are_bits : List Str := ["thing", "many", "one"]
theorem sc_are_bits : FnScope N_are_bits ["thing", "many"] (defScope s_are_bits) := ⟨rfl, rfl, rfl, by decide +kernel, rfl, by decide +kernel, by decide +kernel⟩
abbrev s_is_row : Stmt := topS 20
abbrev N_is_row : List Str := ["letters", "thing"]
theorem sc_is_row : FnScope N_is_row ["letters", "thing"] (defScope s_is_row) := ⟨rfl, rfl, rfl, by decide +kernel, rfl, by decide +kernel, by decide +kernel⟩
abbrev s_are_rows : Stmt := topS 22
abbrev N_are_rows : List Str := ["letters", "thing", "one", "other", "row"]
theorem sc_are_rows : FnScope N_are_rows ["letters", "thing"] (defScope s_are_rows) := ⟨rfl, rfl, rfl, by decide +kernel, rfl, by decide +kernel, by decide +kernel⟩
abbrev s_check_relation : Stmt := topS 29
abbrev N_check_relation : List Str := ["places", "relation"]
theorem sc_check_relation : FnScope N_check_relation ["places", "relation"] (defScope s_check_relation) := ⟨rfl, rfl, rfl, by decide +kernel, rfl, by decide +kernel, by decide +kernel⟩
abbrev s_check_words : Stmt := topS 35
abbrev N_check_words : List Str := ["words", "word"]
theorem sc_check_words : FnScope N_check_words ["words"] (defScope s_check_words) := ⟨rfl, rfl, rfl, by decide +kernel, rfl, by decide +kernel, by decide +kernel⟩
abbrev s_tuples_of : Stmt := topS 31
abbrev N_tuples_of : List Str := ["relation", "many", "found", "turn", "longer", "some", "row"]
theorem sc_tuples_of : FnScope N_tuples_of ["relation", "many"] (defScope s_tuples_of) := ⟨rfl, rfl, rfl, by decide +kernel, rfl, by decide +kernel, by decide +kernel⟩
abbrev s_told_by : Stmt := topS 30
abbrev N_told_by : List Str := ["places", "word", "some", "sums", "a", "b", "c", "one", "bits"]
theorem sc_told_by : FnScope N_told_by ["places", "word", "some"] (defScope s_told_by) := ⟨rfl, rfl, rfl, by decide +kernel, rfl, by decide +kernel, by decide +kernel⟩
abbrev s_with_told : Stmt := topS 36
abbrev N_with_told : List Str := ["places", "relation", "words", "found", "word", "some", "row"]
theorem sc_with_told : FnScope N_with_told ["places", "relation", "words"] (defScope s_with_told) := ⟨rfl, rfl, rfl, by decide +kernel, rfl, by decide +kernel, by decide +kernel⟩
abbrev s_closed : Stmt := topS 37
abbrev N_closed : List Str := ["places", "relation", "words", "here", "later"]
theorem sc_closed : FnScope N_closed ["places", "relation", "words"] (defScope s_closed) := ⟨rfl, rfl, rfl, by decide +kernel, rfl, by decide +kernel, by decide +kernel⟩
abbrev s__law_rows : Stmt := topS 78
abbrev N__law_rows : List Str := ["letters", "found", "turn", "longer", "row"]
theorem sc__law_rows : FnScope N__law_rows ["letters"] (defScope s__law_rows) := ⟨rfl, rfl, rfl, by decide +kernel, rfl, by decide +kernel, by decide +kernel⟩
abbrev s__law_relation : Stmt := topS 86
abbrev N__law_relation : List Str := ["hand", "places", "often", "some", "row"]
theorem sc__law_relation : FnScope N__law_relation ["hand", "places"] (defScope s__law_relation) := ⟨rfl, rfl, rfl, by decide +kernel, rfl, by decide +kernel, by decide +kernel⟩
abbrev s_sets_within : Stmt := topS 52
abbrev N_sets_within : List Str := ["lot", "found", "i", "some"]
theorem sc_sets_within : FnScope N_sets_within ["lot"] (defScope s_sets_within) := ⟨rfl, rfl, rfl, by decide +kernel, rfl, by decide +kernel, by decide +kernel⟩
abbrev s_kept_equations : Stmt := topS 60
abbrev N_kept_equations : List Str := ["places", "relation", "found", "lot", "bit", "row"]
theorem sc_kept_equations : FnScope N_kept_equations ["places", "relation"] (defScope s_kept_equations) := ⟨rfl, rfl, rfl, by decide +kernel, rfl, by decide +kernel, by decide +kernel⟩
abbrev s_equations_of : Stmt := topS 61
abbrev N_equations_of : List Str := ["places", "relation", "equation", "heads", "found", "rest", "used"]
theorem sc_equations_of : FnScope N_equations_of ["places", "relation"] (defScope s_equations_of) := ⟨rfl, rfl, rfl, by decide +kernel, rfl, by decide +kernel, by decide +kernel⟩
abbrev s_equations : Stmt := topS 62
abbrev N_equations : List Str := ["places", "relation"]
theorem sc_equations : FnScope N_equations ["places", "relation"] (defScope s_equations) := ⟨rfl, rfl, rfl, by decide +kernel, rfl, by decide +kernel, by decide +kernel⟩
abbrev s__law_any : Stmt := topS 76
abbrev N__law_any : List Str := ["hand", "things"]
theorem sc__law_any : FnScope N__law_any ["hand", "things"] (defScope s__law_any) := ⟨rfl, rfl, rfl, by decide +kernel, rfl, by decide +kernel, by decide +kernel⟩
abbrev s_is_demand : Stmt := topS 43
abbrev N_is_demand : List Str := ["letters", "relations", "thing", "places", "i"]
theorem sc_is_demand : FnScope N_is_demand ["letters", "relations", "thing"] (defScope s_is_demand) := ⟨rfl, rfl, rfl, by decide +kernel, rfl, by decide +kernel, by decide +kernel⟩
abbrev s_is_told : Stmt := topS 42
abbrev N_is_told : List Str := ["thing"]
theorem sc_is_told : FnScope N_is_told ["thing"] (defScope s_is_told) := ⟨rfl, rfl, rfl, by decide +kernel, rfl, by decide +kernel, by decide +kernel⟩
abbrev s_is_puzzle : Stmt := topS 44
abbrev N_is_puzzle : List Str := ["thing", "letters", "relations", "demands", "one"]
theorem sc_is_puzzle : FnScope N_is_puzzle ["thing"] (defScope s_is_puzzle) := ⟨rfl, rfl, rfl, by decide +kernel, rfl, by decide +kernel, by decide +kernel⟩
abbrev s_check_puzzle : Stmt := topS 45
abbrev N_check_puzzle : List Str := ["puzzle"]
theorem sc_check_puzzle : FnScope N_check_puzzle ["puzzle"] (defScope s_check_puzzle) := ⟨rfl, rfl, rfl, by decide +kernel, rfl, by decide +kernel, by decide +kernel⟩
abbrev s_is_met : Stmt := topS 46
abbrev N_is_met : List Str := ["puzzle", "demand", "row", "number", "places", "i"]
theorem sc_is_met : FnScope N_is_met ["puzzle", "demand", "row"] (defScope s_is_met) := ⟨rfl, rfl, rfl, by decide +kernel, rfl, by decide +kernel, by decide +kernel⟩
abbrev s_answers_it : Stmt := topS 47
abbrev N_answers_it : List Str := ["puzzle", "row", "demand"]
theorem sc_answers_it : FnScope N_answers_it ["puzzle", "row"] (defScope s_answers_it) := ⟨rfl, rfl, rfl, by decide +kernel, rfl, by decide +kernel, by decide +kernel⟩
abbrev s_all_answers : Stmt := topS 48
abbrev N_all_answers : List Str := ["puzzle", "row"]
theorem sc_all_answers : FnScope N_all_answers ["puzzle"] (defScope s_all_answers) := ⟨rfl, rfl, rfl, by decide +kernel, rfl, by decide +kernel, by decide +kernel⟩
abbrev s_answers : Stmt := topS 49
abbrev N_answers : List Str := ["puzzle"]
theorem sc_answers : FnScope N_answers ["puzzle"] (defScope s_answers) := ⟨rfl, rfl, rfl, by decide +kernel, rfl, by decide +kernel, by decide +kernel⟩
abbrev s_losing : Stmt := topS 32
abbrev N_losing : List Str := ["places", "relation", "word", "some"]
theorem sc_losing : FnScope N_losing ["places", "relation", "word"] (defScope s_losing) := ⟨rfl, rfl, rfl, by decide +kernel, rfl, by decide +kernel, by decide +kernel⟩
abbrev s_easy_words : Stmt := topS 50
abbrev N_easy_words : List Str := ["puzzle", "word", "one"]
theorem sc_easy_words : FnScope N_easy_words ["puzzle"] (defScope s_easy_words) := ⟨rfl, rfl, rfl, by decide +kernel, rfl, by decide +kernel, by decide +kernel⟩
abbrev s_put_at : Stmt := topS 71
abbrev N_put_at : List Str := ["equation", "places", "found", "place"]
theorem sc_put_at : FnScope N_put_at ["equation", "places"] (defScope s_put_at) := ⟨rfl, rfl, rfl, by decide +kernel, rfl, by decide +kernel, by decide +kernel⟩
abbrev s_by_sums : Stmt := topS 72
abbrev N_by_sums : List Str := ["puzzle", "found", "number", "places", "size", "relation", "equation"]
theorem sc_by_sums : FnScope N_by_sums ["puzzle"] (defScope s_by_sums) := ⟨rfl, rfl, rfl, by decide +kernel, rfl, by decide +kernel, by decide +kernel⟩
abbrev s__law_sets : Stmt := topS 79
abbrev N__law_sets : List Str := ["things", "found", "one", "size", "some"]
theorem sc__law_sets : FnScope N__law_sets ["things"] (defScope s__law_sets) := ⟨rfl, rfl, rfl, by decide +kernel, rfl, by decide +kernel, by decide +kernel⟩
abbrev s__law_is : Stmt := topS 77
abbrev N__law_is : List Str := ["told", "due"]
theorem sc__law_is : FnScope N__law_is ["told", "due"] (defScope s__law_is) := ⟨rfl, rfl, rfl, by decide +kernel, rfl, by decide +kernel, by decide +kernel⟩
abbrev s__law_keeps : Stmt := topS 80
abbrev N__law_keeps : List Str := ["row", "equation", "i"]
theorem sc__law_keeps : FnScope N__law_keeps ["row", "equation"] (defScope s__law_keeps) := ⟨rfl, rfl, rfl, by decide +kernel, rfl, by decide +kernel, by decide +kernel⟩
abbrev s__law_vector : Stmt := topS 81
abbrev N__law_vector : List Str := ["equation", "places", "i"]
theorem sc__law_vector : FnScope N__law_vector ["equation", "places"] (defScope s__law_vector) := ⟨rfl, rfl, rfl, by decide +kernel, rfl, by decide +kernel, by decide +kernel⟩
abbrev s__law_added : Stmt := topS 82
abbrev N__law_added : List Str := ["one", "other", "a", "b"]
theorem sc__law_added : FnScope N__law_added ["one", "other"] (defScope s__law_added) := ⟨rfl, rfl, rfl, by decide +kernel, rfl, by decide +kernel, by decide +kernel⟩
abbrev s__law_spanned : Stmt := topS 83
abbrev N__law_spanned : List Str := ["vectors", "places", "found", "vector", "one"]
theorem sc__law_spanned : FnScope N__law_spanned ["vectors", "places"] (defScope s__law_spanned) := ⟨rfl, rfl, rfl, by decide +kernel, rfl, by decide +kernel, by decide +kernel⟩
abbrev s__law_equations : Stmt := topS 84
abbrev N__law_equations : List Str := ["places", "relation", "found", "lot", "bit", "vectors", "row", "one"]
theorem sc__law_equations : FnScope N__law_equations ["places", "relation"] (defScope s__law_equations) := ⟨rfl, rfl, rfl, by decide +kernel, rfl, by decide +kernel, by decide +kernel⟩
abbrev s_rows_keeping : Stmt := topS 64
abbrev N_rows_keeping : List Str := ["places", "some", "row", "one"]
theorem sc_rows_keeping : FnScope N_rows_keeping ["places", "some"] (defScope s_rows_keeping) := ⟨rfl, rfl, rfl, by decide +kernel, rfl, by decide +kernel, by decide +kernel⟩
abbrev s_check_operation : Stmt := topS 33
abbrev N_check_operation : List Str := ["word"]
theorem sc_check_operation : FnScope N_check_operation ["word"] (defScope s_check_operation) := ⟨rfl, rfl, rfl, by decide +kernel, rfl, by decide +kernel, by decide +kernel⟩
abbrev s_kept_by : Stmt := topS 34
abbrev N_kept_by : List Str := ["places", "relation", "word"]
theorem sc_kept_by : FnScope N_kept_by ["places", "relation", "word"] (defScope s_kept_by) := ⟨rfl, rfl, rfl, by decide +kernel, rfl, by decide +kernel, by decide +kernel⟩
abbrev s_come_to_none : Stmt := topS 69
abbrev N_come_to_none : List Str := ["some", "numbers", "whole", "number"]
theorem sc_come_to_none : FnScope N_come_to_none ["some", "numbers"] (defScope s_come_to_none) := ⟨rfl, rfl, rfl, by decide +kernel, rfl, by decide +kernel, by decide +kernel⟩
abbrev s_is_summed : Stmt := topS 70
abbrev N_is_summed : List Str := ["letters", "some", "thing", "one"]
theorem sc_is_summed : FnScope N_is_summed ["letters", "some", "thing"] (defScope s_is_summed) := ⟨rfl, rfl, rfl, by decide +kernel, rfl, by decide +kernel, by decide +kernel⟩
abbrev s__law_none : Stmt := topS 85
abbrev N__law_none : List Str := ["some", "numbers", "letters", "whole", "number"]
theorem sc__law_none : FnScope N__law_none ["some", "numbers", "letters"] (defScope s__law_none) := ⟨rfl, rfl, rfl, by decide +kernel, rfl, by decide +kernel, by decide +kernel⟩
abbrev s_law : Stmt := topS 87
abbrev N_law : List Str := ["script", "hand", "turn", "at", "demands", "puzzle", "places", "relation", "told", "whole", "letters", "good", "shown", "numbers", "row", "count", "relations", "size", "number", "every", "some", "one", "place"]
theorem sc_law : FnScope N_law ["script"] (defScope s_law) := ⟨rfl, rfl, rfl, by decide +kernel, rfl, by decide +kernel, by decide +kernel⟩
abbrev s__law_hand : Stmt := topS 74
structure Tp (K : PySem.W.Frag) (w : World) (mg : Str → Option Value) : Prop where
  f_is_tuple : DefI K mg "is_tuple" s_is_tuple ["thing", "least", "most"]
  f_is_integer : DefI K mg "is_integer" s_is_integer ["thing"]
  f_is_within : DefI K mg "is_within" s_is_within ["thing", "low", "high"]
  f_is_lot : DefI K mg "is_lot" s_is_lot ["thing", "many"]
  f_is_lot_of : DefI K mg "is_lot_of" s_is_lot_of ["letters", "thing"]
  f_is_bit : DefI K mg "is_bit" s_is_bit ["thing"]
  f_is_equation : DefI K mg "is_equation" s_is_equation ["letters", "thing"]
  f_check_equations : DefI K mg "check_equations" s_check_equations ["letters", "some"]
  f_is_count : DefI K mg "is_count" s_is_count ["thing"]
  f_letters_six : DefI K mg "letters_six" s_letters_six ["letters"]
  f_check_summed : DefI K mg "check_summed" s_check_summed ["letters", "some"]
  f_added : DefI K mg "added" s_added ["one", "other"]
  f_odd_ones : DefI K mg "odd_ones" s_odd_ones ["one", "other"]
  f_reduced : DefI K mg "reduced" s_reduced ["heads", "equation", "used"]
  f_rows : DefI K mg "rows" s_rows ["letters"]
  f_is_kept : DefI K mg "is_kept" s_is_kept ["equation", "row"]
  f_solved_by_sums : DefI K mg "solved_by_sums" s_solved_by_sums ["letters", "some"]
  f_summed : DefI K mg "summed" s_summed ["letters", "some"]
  f__law_draw : DefI K mg "_law_draw" s__law_draw ["hand", "sides"]
  f_is_places : DefI K mg "is_places" s_is_places ["thing"]
  f_check_places : DefI K mg "check_places" s_check_places ["places"]
  f_are_bits : DefI K mg "are_bits" s_are_bits ["thing", "many"]
  f_is_row : DefI K mg "is_row" s_is_row ["letters", "thing"]
  f_are_rows : DefI K mg "are_rows" s_are_rows ["letters", "thing"]
  f_check_relation : DefI K mg "check_relation" s_check_relation ["places", "relation"]
  f_check_words : DefI K mg "check_words" s_check_words ["words"]
  f_tuples_of : DefI K mg "tuples_of" s_tuples_of ["relation", "many"]
  f_told_by : DefI K mg "told_by" s_told_by ["places", "word", "some"]
  f_with_told : DefI K mg "with_told" s_with_told ["places", "relation", "words"]
  f_closed : DefI K mg "closed" s_closed ["places", "relation", "words"]
  f__law_rows : DefI K mg "_law_rows" s__law_rows ["letters"]
  f__law_relation : DefI K mg "_law_relation" s__law_relation ["hand", "places"]
  f_sets_within : DefI K mg "sets_within" s_sets_within ["lot"]
  f_kept_equations : DefI K mg "kept_equations" s_kept_equations ["places", "relation"]
  f_equations_of : DefI K mg "equations_of" s_equations_of ["places", "relation"]
  f_equations : DefI K mg "equations" s_equations ["places", "relation"]
  f__law_any : DefI K mg "_law_any" s__law_any ["hand", "things"]
  f_is_demand : DefI K mg "is_demand" s_is_demand ["letters", "relations", "thing"]
  f_is_told : DefI K mg "is_told" s_is_told ["thing"]
  f_is_puzzle : DefI K mg "is_puzzle" s_is_puzzle ["thing"]
  f_check_puzzle : DefI K mg "check_puzzle" s_check_puzzle ["puzzle"]
  f_is_met : DefI K mg "is_met" s_is_met ["puzzle", "demand", "row"]
  f_answers_it : DefI K mg "answers_it" s_answers_it ["puzzle", "row"]
  f_all_answers : DefI K mg "all_answers" s_all_answers ["puzzle"]
  f_answers : DefI K mg "answers" s_answers ["puzzle"]
  f_losing : DefI K mg "losing" s_losing ["places", "relation", "word"]
  f_easy_words : DefI K mg "easy_words" s_easy_words ["puzzle"]
  f_put_at : DefI K mg "put_at" s_put_at ["equation", "places"]
  f_by_sums : DefI K mg "by_sums" s_by_sums ["puzzle"]
  f__law_sets : DefI K mg "_law_sets" s__law_sets ["things"]
  f__law_is : DefI K mg "_law_is" s__law_is ["told", "due"]
  f__law_keeps : DefI K mg "_law_keeps" s__law_keeps ["row", "equation"]
  f__law_vector : DefI K mg "_law_vector" s__law_vector ["equation", "places"]
  f__law_added : DefI K mg "_law_added" s__law_added ["one", "other"]
  f__law_spanned : DefI K mg "_law_spanned" s__law_spanned ["vectors", "places"]
  f__law_equations : DefI K mg "_law_equations" s__law_equations ["places", "relation"]
  f_rows_keeping : DefI K mg "rows_keeping" s_rows_keeping ["places", "some"]
  f_check_operation : DefI K mg "check_operation" s_check_operation ["word"]
  f_kept_by : DefI K mg "kept_by" s_kept_by ["places", "relation", "word"]
  f_come_to_none : DefI K mg "come_to_none" s_come_to_none ["some", "numbers"]
  f_is_summed : DefI K mg "is_summed" s_is_summed ["letters", "some", "thing"]
  f__law_none : DefI K mg "_law_none" s__law_none ["some", "numbers", "letters"]
  f__law_hand : DefI K mg "_law_hand" s__law_hand ["script"]
  b_abs : mg "abs" = none
  b_all : mg "all" = none
  b_bool : mg "bool" = none
  b_dict : mg "dict" = none
  b_enumerate : mg "enumerate" = none
  b_int : mg "int" = none
  b_isinstance : mg "isinstance" = none
  b_len : mg "len" = none
  b_list : mg "list" = none
  b_max : mg "max" = none
  b_min : mg "min" = none
  b_range : mg "range" = none
  b_sorted : mg "sorted" = none
  b_str : mg "str" = none
  b_sum : mg "sum" = none
  b_tuple : mg "tuple" = none
  b_zip : mg "zip" = none
  k_MOST_DEMANDS : GlC K mg "MOST_DEMANDS" k_MOST_DEMANDS
  k_MOST_EQUATIONS : GlC K mg "MOST_EQUATIONS" k_MOST_EQUATIONS
  k_MOST_LETTERS : GlC K mg "MOST_LETTERS" k_MOST_LETTERS
  k_MOST_PLACES : GlC K mg "MOST_PLACES" k_MOST_PLACES
  k_MOST_PUZZLED : GlC K mg "MOST_PUZZLED" k_MOST_PUZZLED
  k_MOST_RELATIONS : GlC K mg "MOST_RELATIONS" k_MOST_RELATIONS
  k_NAMES : GlC K mg "NAMES" k_NAMES
  d_OPERATIONS : GlD K w mg "OPERATIONS" d_OPERATIONS
section
variable {mg : Str → Option Value} {base : Heap} {C : RC}
theorem c_is_tuple (T : Tp C.K C.w mg) : Cl C.P C.w C.K mg base C 1 "is_tuple" F_is_tuple :=
  cl_okD (F := F_is_tuple) rfl T.f_is_tuple sc_is_tuple rfl rfl fun cdv A outer s H E U r hr =>
    (s_cons (s_ret (be_and (x_is1 T.b_isinstance T.b_tuple (by decide +kernel) rfl (xp 0)) (be_one (x_ech cm_le cm_le (xo_le hr) (xo_le hr) (xp 1) (PE.p (x_len T.b_len ⟨rfl, rfl, rfl⟩ (xpC (xp 0) xpN))) (xp 2))))) s_nil)
theorem c_is_integer (T : Tp C.K C.w mg) : Cl C.P C.w C.K mg base C 1 "is_integer" F_is_integer :=
  cl_okD (F := F_is_integer) rfl T.f_is_integer sc_is_integer rfl rfl fun cdv A outer s H E U r hr =>
    (s_cons (s_ret (be_and (x_is1 T.b_isinstance T.b_int (by decide +kernel) rfl (xp 0)) (be_one (be_not (x_is1 T.b_isinstance T.b_bool (by decide +kernel) rfl (xp 0)))))) s_nil)
theorem c_is_within (T : Tp C.K C.w mg) : Cl C.P C.w C.K mg base C 2 "is_within" F_is_within :=
  cl_okD (F := F_is_within) rfl T.f_is_within sc_is_within rfl rfl fun cdv A outer s H E U r hr =>
    (s_cons (s_ret (be_and (x_call (c_is_integer T) hr (by decide) (xgV (xv 0) g_nil)) (be_one (x_ech cm_le cm_le (xo_le hr) (xo_le hr) (xp 1) (xp 0) (xp 2))))) s_nil)
theorem c_is_lot (T : Tp C.K C.w mg) : Cl C.P C.w C.K mg base C 3 "is_lot" F_is_lot :=
  cl_okD (F := F_is_lot) rfl T.f_is_lot sc_is_lot rfl rfl fun cdv A outer s H E U r hr =>
    (s_cons (s_if ((bt_or (bt_not (x_val (x_is1 T.b_isinstance T.b_tuple (by decide +kernel) rfl (xp 0)))) (bt_or1 (bt_not (x_val (x_all T.b_all rfl (xpC (PE.p (x_lc sc_is_lot.nd (show BlkOk N_is_lot _ _ [("one", 2)] from blkOk_by (by kernel_rfl)) (xi_c (ok_iSeq rfl (xv 0))) tg_name (fun _ _ _ _ _ => pg_name (i := 2) sc_is_lot.nd rfl (by first | exact .inl rfl | exact .inr rfl)) (fun _ _ _ _ _ => ts_nil) (fun _ _ _ _ _ => (x_call (c_is_within T) hr (by decide) (xgV (xv 2) (xgV (ok_C pe_int rfl) (xgV (ok_sub (xp 1) (PE.p (ok_C pe_int rfl))) g_nil))))))) xpN))))))).pt (s_cons (s_ret (ok_C pe_bl rfl)) s_nil) s_nil) (s_cons (s_ret (x_all T.b_all rfl (xpC (PE.p (x_lc sc_is_lot.nd (show BlkOk N_is_lot _ _ [("one", 2), ("other", 3)] from blkOk_by (by kernel_rfl)) (xi_c (xi_zip T.b_zip rfl (xv 0) (ok_sl rfl (xp 0) (ok_oS (PE.p (ok_C pe_int rfl))) ok_oN))) (tg_tup (is := [2, 3]) rfl) (fun _ _ _ _ _ => pg_tup rfl (pgs_cons (pg_name (i := 2) sc_is_lot.nd rfl (by first | exact .inl rfl | exact .inr rfl)) (pgs_cons (pg_name (i := 3) sc_is_lot.nd rfl (by first | exact .inl rfl | exact .inr rfl)) pgs_nil))) (fun _ _ _ _ _ => ts_nil) (fun _ _ _ _ _ => (x_ecm cm_lt (xo_lt hr) (xp 2) (xp 3))))) xpN))) s_nil))
theorem c_is_lot_of (T : Tp C.K C.w mg) : Cl C.P C.w C.K mg base C 4 "is_lot_of" F_is_lot_of :=
  cl_okD (F := F_is_lot_of) rfl T.f_is_lot_of sc_is_lot_of rfl rfl fun cdv A outer s H E U r hr =>
    (s_cons (s_ret (x_call (c_is_lot T) hr (by decide) (xgV (xv 1) (xgV (xv 0) g_nil)))) s_nil)
theorem c_is_bit (T : Tp C.K C.w mg) : Cl C.P C.w C.K mg base C 3 "is_bit" F_is_bit :=
  cl_okD (F := F_is_bit) rfl T.f_is_bit sc_is_bit rfl rfl fun cdv A outer s H E U r hr =>
    (s_cons (s_ret (x_call (c_is_within T) hr (by decide) (xgV (xv 0) (xgV (ok_C pe_int rfl) (xgV (ok_C pe_int rfl) g_nil))))) s_nil)
theorem c_is_equation (T : Tp C.K C.w mg) : Cl C.P C.w C.K mg base C 5 "is_equation" F_is_equation :=
  cl_okD (F := F_is_equation) rfl T.f_is_equation sc_is_equation rfl rfl fun cdv A outer s H E U r hr =>
    (s_cons (s_ret (be_and (x_call (c_is_tuple T) hr (by decide) (xgV (xv 1) (xgV (ok_C pe_int rfl) (xgV (ok_C pe_int rfl) g_nil)))) (be_and (x_call (c_is_lot_of T) hr (by decide) (xgV (xv 0) (xgV (x_ix ⟨rfl, rfl, rfl⟩ hr (xp 1) (PE.p (ok_C pe_int rfl))) g_nil))) (be_one (x_call (c_is_bit T) hr (by decide) (xgV (x_ix ⟨rfl, rfl, rfl⟩ hr (xp 1) (PE.p (ok_C pe_int rfl))) g_nil)))))) s_nil)
theorem c_check_equations (T : Tp C.K C.w mg) : Cl C.P C.w C.K mg base C 6 "check_equations" F_check_equations :=
  cl_okD (F := F_check_equations) rfl T.f_check_equations sc_check_equations rfl rfl fun cdv A outer s H E U r hr =>
    (s_cons (s_if ((bt_or (bt_not (x_val (x_call (c_is_tuple T) hr (by decide) (xgV (xv 1) (xgV (ok_C pe_int rfl) (xgV (xg T.k_MOST_EQUATIONS) g_nil)))))) (bt_or1 (bt_not (x_val (x_all T.b_all rfl (xpC (PE.p (x_lc sc_check_equations.nd (show BlkOk N_check_equations _ _ [("one", 2)] from blkOk_by (by kernel_rfl)) (xi_c (ok_iSeq rfl (xv 1))) tg_name (fun _ _ _ _ _ => pg_name (i := 2) sc_check_equations.nd rfl (by first | exact .inl rfl | exact .inr rfl)) (fun _ _ _ _ _ => ts_nil) (fun _ _ _ _ _ => (x_call (c_is_equation T) hr (by decide) (xgV (xv 0) (xgV (xv 2) g_nil)))))) xpN))))))).pt (s_cons s_bad s_nil) s_nil) s_nil)
theorem c_is_count (T : Tp C.K C.w mg) : Cl C.P C.w C.K mg base C 3 "is_count" F_is_count :=
  cl_okD (F := F_is_count) rfl T.f_is_count sc_is_count rfl rfl fun cdv A outer s H E U r hr =>
    (s_cons (s_ret (x_call (c_is_within T) hr (by decide) (xgV (xv 0) (xgV (ok_C pe_int rfl) (xgV (xg T.k_MOST_LETTERS) g_nil))))) s_nil)
theorem c_letters_six (T : Tp C.K C.w mg) : Cl C.P C.w C.K mg base C 1 "letters_six" F_letters_six :=
  cl_okD (F := F_letters_six) rfl T.f_letters_six sc_letters_six rfl rfl fun cdv A outer s H E U r hr =>
    (s_cons (s_ret (be_and (x_is1 T.b_isinstance T.b_int (by decide +kernel) rfl (xp 0)) (be_and (be_not (x_is1 T.b_isinstance T.b_bool (by decide +kernel) rfl (xp 0))) (be_one (x_ecm cm_eq (xo_eq hr) (xp 0) (PE.p (xg T.k_MOST_PUZZLED))))))) s_nil)
theorem c_check_summed (T : Tp C.K C.w mg) : Cl C.P C.w C.K mg base C 7 "check_summed" F_check_summed :=
  cl_okD (F := F_check_summed) rfl T.f_check_summed sc_check_summed rfl rfl fun cdv A outer s H E U r hr =>
    (s_cons (s_if ((bt_and (bt_not (x_val (x_call (c_is_count T) hr (by decide) (xgV (xv 0) g_nil)))) (bt_and1 (bt_not (x_val (x_call (c_letters_six T) hr (by decide) (xgV (xv 0) g_nil))))))).pt (s_cons s_bad s_nil) s_nil) (s_cons (x_expr (x_call (c_check_equations T) hr (by decide) (xgV (xv 0) (xgV (xv 1) g_nil)))) s_nil))
theorem c_added (T : Tp C.K C.w mg) : Cl C.P C.w C.K mg base C 1 "added" F_added :=
  cl_okD (F := F_added) rfl T.f_added sc_added rfl rfl fun cdv A outer s H E U r hr =>
    (s_cons (x_set 2 sc_added.nd (ok_add rfl (PE.p (x_lc sc_added.nd (show BlkOk N_added _ _ [("i", 3)] from blkOk_by (by kernel_rfl)) (xi_c (ok_iSeq rfl (x_ix ⟨rfl, rfl, rfl⟩ hr (xp 0) (PE.p (ok_C pe_int rfl))))) tg_name (fun _ _ _ _ _ => pg_name (i := 3) sc_added.nd rfl (by first | exact .inl rfl | exact .inr rfl)) (fun _ _ _ _ _ => (ts_one (x_bcm cm_nin (xo_nin hr) (xp 3) (PE.p (x_ix ⟨rfl, rfl, rfl⟩ hr (xp 1) (PE.p (ok_C pe_int rfl))))))) (fun _ _ _ _ _ => (xv 3)))) (PE.p (x_lc sc_added.nd (show BlkOk N_added _ _ [("i", 3)] from blkOk_by (by kernel_rfl)) (xi_c (ok_iSeq rfl (x_ix ⟨rfl, rfl, rfl⟩ hr (xp 1) (PE.p (ok_C pe_int rfl))))) tg_name (fun _ _ _ _ _ => pg_name (i := 3) sc_added.nd rfl (by first | exact .inl rfl | exact .inr rfl)) (fun _ _ _ _ _ => (ts_one (x_bcm cm_nin (xo_nin hr) (xp 3) (PE.p (x_ix ⟨rfl, rfl, rfl⟩ hr (xp 0) (PE.p (ok_C pe_int rfl))))))) (fun _ _ _ _ _ => (xv 3)))))) (s_cons (s_ret (ok_tup (xaC (x_tuple T.b_tuple rfl (xpC (PE.p (x_sorted hr T.b_sorted ⟨rfl, rfl, rfl⟩ (xpC (xp 2) xpN))) xpN)) (xaC (ok_mod (PE.p (ok_add rfl (PE.p (x_ix ⟨rfl, rfl, rfl⟩ hr (xp 0) (PE.p (ok_C pe_int rfl)))) (PE.p (x_ix ⟨rfl, rfl, rfl⟩ hr (xp 1) (PE.p (ok_C pe_int rfl)))))) (PE.p (ok_C pe_int rfl))) ok_aN)))) s_nil))
theorem c_odd_ones (T : Tp C.K C.w mg) : Cl C.P C.w C.K mg base C 1 "odd_ones" F_odd_ones :=
  cl_okD (F := F_odd_ones) rfl T.f_odd_ones sc_odd_ones rfl rfl fun cdv A outer s H E U r hr =>
    (s_cons (s_ret (x_tuple T.b_tuple rfl (xpC (PE.p (x_sorted hr T.b_sorted ⟨rfl, rfl, rfl⟩ (xpC (PE.p (ok_add rfl (PE.p (x_lc sc_odd_ones.nd (show BlkOk N_odd_ones _ _ [("k", 2)] from blkOk_by (by kernel_rfl)) (xi_c (ok_iSeq rfl (xv 0))) tg_name (fun _ _ _ _ _ => pg_name (i := 2) sc_odd_ones.nd rfl (by first | exact .inl rfl | exact .inr rfl)) (fun _ _ _ _ _ => (ts_one (x_bcm cm_nin (xo_nin hr) (xp 2) (xp 1)))) (fun _ _ _ _ _ => (xv 2)))) (PE.p (x_lc sc_odd_ones.nd (show BlkOk N_odd_ones _ _ [("k", 2)] from blkOk_by (by kernel_rfl)) (xi_c (ok_iSeq rfl (xv 1))) tg_name (fun _ _ _ _ _ => pg_name (i := 2) sc_odd_ones.nd rfl (by first | exact .inl rfl | exact .inr rfl)) (fun _ _ _ _ _ => (ts_one (x_bcm cm_nin (xo_nin hr) (xp 2) (xp 0)))) (fun _ _ _ _ _ => (xv 2)))))) xpN))) xpN))) s_nil)
theorem c_reduced (T : Tp C.K C.w mg) : Cl C.P C.w C.K mg base C 2 "reduced" F_reduced :=
  cl_okD (F := F_reduced) rfl T.f_reduced sc_reduced rfl rfl fun cdv A outer s H E U r hr =>
    (s_cons (x_wh ((bt_and (x_bcm cm_gt (xo_gt hr) (PE.p (x_len T.b_len ⟨rfl, rfl, rfl⟩ (xpC (PE.p (x_ix ⟨rfl, rfl, rfl⟩ hr (xp 1) (PE.p (ok_C pe_int rfl)))) xpN))) (PE.p (ok_C pe_int rfl))) (bt_and1 (x_bcm cm_in (xo_in hr) (PE.p (x_ix ⟨rfl, rfl, rfl⟩ hr (PE.p (x_ix ⟨rfl, rfl, rfl⟩ hr (xp 1) (PE.p (ok_C pe_int rfl)))) (PE.p (ok_C pe_int rfl)))) (xp 0))))).pt (s_cons (x_unp (is := [3, 4]) rfl (x_ix ⟨rfl, rfl, rfl⟩ hr (xp 0) (PE.p (x_ix ⟨rfl, rfl, rfl⟩ hr (PE.p (x_ix ⟨rfl, rfl, rfl⟩ hr (xp 1) (PE.p (ok_C pe_int rfl)))) (PE.p (ok_C pe_int rfl))))) (pgs_cons (pg_name (i := 3) sc_reduced.nd rfl (by first | exact .inl rfl | exact .inr rfl)) (pgs_cons (pg_name (i := 4) sc_reduced.nd rfl (by first | exact .inl rfl | exact .inr rfl)) pgs_nil))) (s_cons (x_par2 sc_reduced.nd (xhV (x_call (c_added T) hr (by decide) (xgV (xv 1) (xgV (xv 3) g_nil))) (xhV (x_call (c_odd_ones T) hr (by decide) (xgV (xv 2) (xgV (xv 4) g_nil))) h_nil))) s_nil))) (s_cons (s_ret (ok_tup (xaC (xv 1) (xaC (xv 2) ok_aN)))) s_nil))
theorem c_rows (T : Tp C.K C.w mg) : Cl C.P C.w C.K mg base C 1 "rows" F_rows :=
  cl_okD (F := F_rows) rfl T.f_rows sc_rows rfl rfl fun cdv A outer s H E U r hr =>
    (s_cons (x_set 1 sc_rows.nd (ok_lst (xaC (ok_tup ok_aN) ok_aN))) (s_cons (x_for (xi_rng1 T.b_range (xp 0)) (pg_name (i := 2) sc_rows.nd rfl (by first | exact .inl rfl | exact .inr rfl)) tg_name (s_cons (x_own 3 sc_rows.nd (f_lst ok_aN)) (s_cons (x_for (ok_iSeq rfl (xv 1)) (pg_name (i := 4) sc_rows.nd rfl (by first | exact .inl rfl | exact .inr rfl)) tg_name (s_cons (x_ext 3 (PE.p (ok_lst (xaC (ok_add rfl (xp 4) (PE.p (ok_tup (xaC (ok_C pe_int rfl) ok_aN)))) (xaC (ok_add rfl (xp 4) (PE.p (ok_tup (xaC (ok_C pe_int rfl) ok_aN)))) ok_aN))))) s_nil)) (s_cons (s_frz (x_set 1 sc_rows.nd (xv 3))) s_nil)))) (s_cons (s_ret (xv 1)) s_nil)))
theorem c_is_kept (T : Tp C.K C.w mg) : Cl C.P C.w C.K mg base C 1 "is_kept" F_is_kept :=
  cl_okD (F := F_is_kept) rfl T.f_is_kept sc_is_kept rfl rfl fun cdv A outer s H E U r hr =>
    (s_cons (s_ret (x_ecm cm_eq (xo_eq hr) (PE.p (ok_mod (PE.p (x_sum T.b_sum rfl (xpC (PE.p (x_lc sc_is_kept.nd (show BlkOk N_is_kept _ _ [("i", 2)] from blkOk_by (by kernel_rfl)) (xi_c (ok_iSeq rfl (x_ix ⟨rfl, rfl, rfl⟩ hr (xp 0) (PE.p (ok_C pe_int rfl))))) tg_name (fun _ _ _ _ _ => pg_name (i := 2) sc_is_kept.nd rfl (by first | exact .inl rfl | exact .inr rfl)) (fun _ _ _ _ _ => ts_nil) (fun _ _ _ _ _ => (x_ix ⟨rfl, rfl, rfl⟩ hr (xp 1) (xp 2))))) xpN))) (PE.p (ok_C pe_int rfl)))) (PE.p (x_ix ⟨rfl, rfl, rfl⟩ hr (xp 0) (PE.p (ok_C pe_int rfl)))))) s_nil)
theorem c_solved_by_sums (T : Tp C.K C.w mg) : Cl C.P C.w C.K mg base C 3 "solved_by_sums" F_solved_by_sums :=
  cl_okD (F := F_solved_by_sums) rfl T.f_solved_by_sums sc_solved_by_sums rfl rfl fun cdv A outer s H E U r hr =>
    (s_cons (x_own 2 sc_solved_by_sums.nd f_dnew) (s_cons (x_for (xi_enum T.b_enumerate rfl (xv 1)) (pg_tup rfl (pgs_cons (pg_name (i := 4) sc_solved_by_sums.nd rfl (by first | exact .inl rfl | exact .inr rfl)) (pgs_cons (pg_name (i := 5) sc_solved_by_sums.nd rfl (by first | exact .inl rfl | exact .inr rfl)) pgs_nil))) (tg_tup (is := [4, 5]) rfl) (s_cons (x_unp (is := [6, 7]) rfl (x_call (c_reduced T) hr (by decide) (xgL (xp 2) (xgV (xv 5) (xgV (ok_tup (xaC (xv 4) ok_aN)) g_nil)))) (pgs_cons (pg_name (i := 6) sc_solved_by_sums.nd rfl (by first | exact .inl rfl | exact .inr rfl)) (pgs_cons (pg_name (i := 7) sc_solved_by_sums.nd rfl (by first | exact .inl rfl | exact .inr rfl)) pgs_nil))) (s_cons (s_if (x_bcm cm_gt (xo_gt hr) (PE.p (x_len T.b_len ⟨rfl, rfl, rfl⟩ (xpC (PE.p (x_ix ⟨rfl, rfl, rfl⟩ hr (xp 6) (PE.p (ok_C pe_int rfl)))) xpN))) (PE.p (ok_C pe_int rfl))) (s_cons (x_put ⟨rfl, rfl, rfl⟩ hr 2 (PE.p (x_ix ⟨rfl, rfl, rfl⟩ hr (PE.p (x_ix ⟨rfl, rfl, rfl⟩ hr (xp 6) (PE.p (ok_C pe_int rfl)))) (PE.p (ok_C pe_int rfl)))) (ok_tup (xaC (xv 6) (xaC (xv 7) ok_aN)))) s_nil) (s_cons (s_if (x_bcm cm_eq (xo_eq hr) (PE.p (x_ix ⟨rfl, rfl, rfl⟩ hr (xp 6) (PE.p (ok_C pe_int rfl)))) (PE.p (ok_C pe_int rfl))) (s_cons (s_ret (ok_tup (xaC (ok_C pe_str rfl) (xaC (xv 7) ok_aN)))) s_nil) s_nil) s_nil)) s_nil))) (s_cons (x_setLc sc_solved_by_sums.nd (show BlkOk N_solved_by_sums _ _ [("row", 8)] from blkOk_by (by kernel_rfl)) (xi_c (ok_iSeq rfl (x_call (c_rows T) hr (by decide) (xgV (xv 0) g_nil)))) tg_name (fun _ _ _ _ _ => pg_name (i := 8) sc_solved_by_sums.nd rfl (by first | exact .inl rfl | exact .inr rfl)) (fun _ _ _ _ _ => (ts_one (x_val (x_all T.b_all rfl (xpC (PE.p (x_lc sc_solved_by_sums.nd (show BlkOk N_solved_by_sums _ _ [("one", 9)] from blkOk_by (by kernel_rfl)) (xi_c (ok_iSeq rfl (xv 1))) tg_name (fun _ _ _ _ _ => pg_name (i := 9) sc_solved_by_sums.nd rfl (by first | exact .inl rfl | exact .inr rfl)) (fun _ _ _ _ _ => ts_nil) (fun _ _ _ _ _ => (x_call (c_is_kept T) hr (by decide) (xgV (xv 9) (xgV (xv 8) g_nil)))))) xpN))))) (fun _ _ _ _ _ => (xv 8))) (s_cons (s_ret (ok_tup (xaC (ok_C pe_str rfl) (xaC (x_ix ⟨rfl, rfl, rfl⟩ hr (xp 3) (PE.p (ok_C pe_int rfl))) ok_aN)))) s_nil))))
theorem c_summed (T : Tp C.K C.w mg) : Cl C.P C.w C.K mg base C 8 "summed" F_summed :=
  cl_okD (F := F_summed) rfl T.f_summed sc_summed rfl rfl fun cdv A outer s H E U r hr =>
    (s_cons (x_expr (x_call (c_check_summed T) hr (by decide) (xgV (xv 0) (xgV (xv 1) g_nil)))) (s_cons (s_ret (x_call (c_solved_by_sums T) hr (by decide) (xgV (xv 0) (xgV (xv 1) g_nil)))) s_nil))
theorem c__law_draw (T : Tp C.K C.w mg) : Cl C.P C.w C.K mg base C 1 "_law_draw" F__law_draw :=
  cl_okD (F := F__law_draw) rfl T.f__law_draw sc__law_draw rfl rfl fun cdv A outer s H E U r hr =>
    (s_cons (s_if ((bt_and (x_bcm cm_eq (xo_eq hr) (PE.p (x_ixS ⟨rfl, rfl, rfl⟩ hr (xp 0) (PE.p (ok_C pe_int rfl)))) (PE.p (ok_C pe_int rfl))) (bt_and1 (x_bcm cm_lt (xo_lt hr) (PE.p (x_ixS ⟨rfl, rfl, rfl⟩ hr (xp 0) (PE.p (ok_C pe_int rfl)))) (PE.p (x_len T.b_len ⟨rfl, rfl, rfl⟩ (xpC (PE.p (x_ixS ⟨rfl, rfl, rfl⟩ hr (xp 0) (PE.p (ok_C pe_int rfl)))) xpN))))))).pt (s_cons (x_set 3 sc__law_draw.nd (x_ix ⟨rfl, rfl, rfl⟩ hr (PE.p (x_ixS ⟨rfl, rfl, rfl⟩ hr (xp 0) (PE.p (ok_C pe_int rfl)))) (PE.p (x_ixS ⟨rfl, rfl, rfl⟩ hr (xp 0) (PE.p (ok_C pe_int rfl)))))) (s_cons (x_putS ⟨rfl, rfl, rfl⟩ hr (xp 0) (PE.p (ok_C pe_int rfl)) (ok_add rfl (PE.p (x_ixS ⟨rfl, rfl, rfl⟩ hr (xp 0) (PE.p (ok_C pe_int rfl)))) (PE.p (ok_C pe_int rfl)))) (s_cons (x_putS ⟨rfl, rfl, rfl⟩ hr (xp 0) (PE.p (ok_C pe_int rfl)) (ok_mod (PE.p (x_int T.b_int (xpC (PE.p (ok_add rfl (PE.p (ok_add rfl (PE.p (ok_mul rfl (PE.p (x_ixS ⟨rfl, rfl, rfl⟩ hr (xp 0) (PE.p (ok_C pe_int rfl)))) (PE.p (ok_C pe_int rfl)))) (PE.p (ok_mul rfl (xp 3) (PE.p (ok_C pe_int rfl)))))) (PE.p (ok_C pe_int rfl)))) xpN))) (PE.p (ok_C pe_int rfl)))) (s_cons (s_if (x_bcm cm_ge (xo_ge hr) (xp 3) (PE.p (ok_pow (PE.p (ok_C pe_int rfl)) (PE.p (ok_C pe_int rfl))))) (s_cons (x_putS ⟨rfl, rfl, rfl⟩ hr (xp 0) (PE.p (ok_C pe_int rfl)) (xv 3)) s_nil) s_nil) s_nil)))) s_nil) (s_cons (s_if (x_bcm cm_gt (xo_gt hr) (PE.p (x_ixS ⟨rfl, rfl, rfl⟩ hr (xp 0) (PE.p (ok_C pe_int rfl)))) (PE.p (ok_C pe_int rfl))) (s_cons (x_set 4 sc__law_draw.nd (ok_mod (PE.p (x_int T.b_int (xpC (PE.p (x_ixS ⟨rfl, rfl, rfl⟩ hr (xp 0) (PE.p (ok_C pe_int rfl)))) xpN))) (xp 1))) (s_cons (x_putS ⟨rfl, rfl, rfl⟩ hr (xp 0) (PE.p (ok_C pe_int rfl)) (ok_fdiv (PE.p (x_ixS ⟨rfl, rfl, rfl⟩ hr (xp 0) (PE.p (ok_C pe_int rfl)))) (xp 1))) (s_cons (s_ret (xv 4)) s_nil))) s_nil) (s_cons (x_putS ⟨rfl, rfl, rfl⟩ hr (xp 0) (PE.p (ok_C pe_int rfl)) (ok_add rfl (PE.p (x_ixS ⟨rfl, rfl, rfl⟩ hr (xp 0) (PE.p (ok_C pe_int rfl)))) (PE.p (ok_C pe_int rfl)))) (s_cons (x_set 2 sc__law_draw.nd (ok_mod (PE.p (x_int T.b_int (xpC (PE.p (ok_mul rfl (PE.p (x_int T.b_int (xpC (PE.p (ok_add rfl (PE.p (x_ixS ⟨rfl, rfl, rfl⟩ hr (xp 0) (PE.p (ok_C pe_int rfl)))) (PE.p (ok_mul rfl (PE.p (ok_C pe_int rfl)) (PE.p (x_ixS ⟨rfl, rfl, rfl⟩ hr (xp 0) (PE.p (ok_C pe_int rfl)))))))) xpN))) (PE.p (ok_C pe_int rfl)))) xpN))) (PE.p (ok_C pe_int rfl)))) (s_cons (x_set 2 sc__law_draw.nd (ok_mod (PE.p (x_int T.b_int (xpC (PE.p (ok_mul rfl (xp 2) (PE.p (ok_add rfl (PE.p (ok_fdiv (xp 2) (PE.p (ok_C pe_int rfl)))) (PE.p (ok_C pe_int rfl)))))) xpN))) (PE.p (ok_C pe_int rfl)))) (s_cons (x_set 2 sc__law_draw.nd (ok_mod (PE.p (x_int T.b_int (xpC (PE.p (ok_mul rfl (xp 2) (PE.p (ok_add rfl (PE.p (ok_fdiv (xp 2) (PE.p (ok_C pe_int rfl)))) (PE.p (ok_C pe_int rfl)))))) xpN))) (PE.p (ok_C pe_int rfl)))) (s_cons (s_ret (ok_mod (PE.p (x_int T.b_int (xpC (PE.p (ok_fdiv (xp 2) (PE.p (ok_C pe_int rfl)))) xpN))) (xp 1))) s_nil)))))))
theorem c_is_places (T : Tp C.K C.w mg) : Cl C.P C.w C.K mg base C 3 "is_places" F_is_places :=
  cl_okD (F := F_is_places) rfl T.f_is_places sc_is_places rfl rfl fun cdv A outer s H E U r hr =>
    (s_cons (s_ret (x_call (c_is_within T) hr (by decide) (xgV (xv 0) (xgV (ok_C pe_int rfl) (xgV (xg T.k_MOST_PLACES) g_nil))))) s_nil)
theorem c_check_places (T : Tp C.K C.w mg) : Cl C.P C.w C.K mg base C 4 "check_places" F_check_places :=
  cl_okD (F := F_check_places) rfl T.f_check_places sc_check_places rfl rfl fun cdv A outer s H E U r hr =>
    (s_cons (s_if (bt_not (x_val (x_call (c_is_places T) hr (by decide) (xgV (xv 0) g_nil)))) (s_cons s_bad s_nil) s_nil) s_nil)
theorem c_are_bits (T : Tp C.K C.w mg) : Cl C.P C.w C.K mg base C 4 "are_bits" F_are_bits :=
  cl_okD (F := F_are_bits) rfl T.f_are_bits sc_are_bits rfl rfl fun cdv A outer s H E U r hr =>
    (s_cons (s_ret (be_and (x_call (c_is_tuple T) hr (by decide) (xgV (xv 0) (xgV (xv 1) (xgV (xv 1) g_nil)))) (be_one (x_all T.b_all rfl (xpC (PE.p (x_lc sc_are_bits.nd (show BlkOk N_are_bits _ _ [("one", 2)] from blkOk_by (by kernel_rfl)) (xi_c (ok_iSeq rfl (xv 0))) tg_name (fun _ _ _ _ _ => pg_name (i := 2) sc_are_bits.nd rfl (by first | exact .inl rfl | exact .inr rfl)) (fun _ _ _ _ _ => ts_nil) (fun _ _ _ _ _ => (x_call (c_is_bit T) hr (by decide) (xgV (xv 2) g_nil))))) xpN))))) s_nil)
theorem c_is_row (T : Tp C.K C.w mg) : Cl C.P C.w C.K mg base C 5 "is_row" F_is_row :=
  cl_okD (F := F_is_row) rfl T.f_is_row sc_is_row rfl rfl fun cdv A outer s H E U r hr =>
    (s_cons (s_ret (x_call (c_are_bits T) hr (by decide) (xgV (xv 1) (xgV (xv 0) g_nil)))) s_nil)
theorem c_are_rows (T : Tp C.K C.w mg) : Cl C.P C.w C.K mg base C 6 "are_rows" F_are_rows :=
  cl_okD (F := F_are_rows) rfl T.f_are_rows sc_are_rows rfl rfl fun cdv A outer s H E U r hr =>
    (s_cons (s_if ((bt_or (bt_not (x_val (x_is1 T.b_isinstance T.b_tuple (by decide +kernel) rfl (xp 1)))) (bt_or1 (bt_not (x_val (x_all T.b_all rfl (xpC (PE.p (x_lc sc_are_rows.nd (show BlkOk N_are_rows _ _ [("row", 4)] from blkOk_by (by kernel_rfl)) (xi_c (ok_iSeq rfl (xv 1))) tg_name (fun _ _ _ _ _ => pg_name (i := 4) sc_are_rows.nd rfl (by first | exact .inl rfl | exact .inr rfl)) (fun _ _ _ _ _ => ts_nil) (fun _ _ _ _ _ => (x_call (c_is_row T) hr (by decide) (xgV (xv 0) (xgV (xv 4) g_nil)))))) xpN))))))).pt (s_cons (s_ret (ok_C pe_bl rfl)) s_nil) s_nil) (s_cons (s_ret (x_all T.b_all rfl (xpC (PE.p (x_lc sc_are_rows.nd (show BlkOk N_are_rows _ _ [("one", 2), ("other", 3)] from blkOk_by (by kernel_rfl)) (xi_c (xi_zip T.b_zip rfl (xv 1) (ok_sl rfl (xp 1) (ok_oS (PE.p (ok_C pe_int rfl))) ok_oN))) (tg_tup (is := [2, 3]) rfl) (fun _ _ _ _ _ => pg_tup rfl (pgs_cons (pg_name (i := 2) sc_are_rows.nd rfl (by first | exact .inl rfl | exact .inr rfl)) (pgs_cons (pg_name (i := 3) sc_are_rows.nd rfl (by first | exact .inl rfl | exact .inr rfl)) pgs_nil))) (fun _ _ _ _ _ => ts_nil) (fun _ _ _ _ _ => (x_ecm cm_lt (xo_lt hr) (xp 2) (xp 3))))) xpN))) s_nil))
theorem c_check_relation (T : Tp C.K C.w mg) : Cl C.P C.w C.K mg base C 7 "check_relation" F_check_relation :=
  cl_okD (F := F_check_relation) rfl T.f_check_relation sc_check_relation rfl rfl fun cdv A outer s H E U r hr =>
    (s_cons (x_expr (x_call (c_check_places T) hr (by decide) (xgV (xv 0) g_nil))) (s_cons (s_if (bt_not (x_val (x_call (c_are_rows T) hr (by decide) (xgV (xv 0) (xgV (xv 1) g_nil))))) (s_cons s_bad s_nil) s_nil) s_nil))
theorem c_check_words (T : Tp C.K C.w mg) : Cl C.P C.w C.K mg base C 1 "check_words" F_check_words :=
  cl_okD (F := F_check_words) rfl T.f_check_words sc_check_words rfl rfl fun cdv A outer s H E U r hr =>
    (s_cons (s_if ((bt_or (bt_not (x_val (x_is2 T.b_isinstance T.b_list (by decide +kernel) T.b_tuple (by decide +kernel) rfl (xp 0)))) (bt_or1 (bt_not (x_val (x_all T.b_all rfl (xpC (PE.p (x_lc sc_check_words.nd (show BlkOk N_check_words _ _ [("word", 1)] from blkOk_by (by kernel_rfl)) (xi_c (ok_iSeq rfl (xv 0))) tg_name (fun _ _ _ _ _ => pg_name (i := 1) sc_check_words.nd rfl (by first | exact .inl rfl | exact .inr rfl)) (fun _ _ _ _ _ => ts_nil) (fun _ _ _ _ _ => (x_is1 T.b_isinstance T.b_str (by decide +kernel) rfl (xp 1))))) xpN))))))).pt (s_cons s_bad s_nil) s_nil) (s_cons (s_if (bt_not (x_val (x_all T.b_all rfl (xpC (PE.p (x_lc sc_check_words.nd (show BlkOk N_check_words _ _ [("word", 1)] from blkOk_by (by kernel_rfl)) (xi_c (ok_iSeq rfl (xv 0))) tg_name (fun _ _ _ _ _ => pg_name (i := 1) sc_check_words.nd rfl (by first | exact .inl rfl | exact .inr rfl)) (fun _ _ _ _ _ => ts_nil) (fun _ _ _ _ _ => (xe_inKd rfl T.d_OPERATIONS (xp 1))))) xpN)))) (s_cons s_bad s_nil) s_nil) s_nil))
theorem c_tuples_of (T : Tp C.K C.w mg) : Cl C.P C.w C.K mg base C 1 "tuples_of" F_tuples_of :=
  cl_okD (F := F_tuples_of) rfl T.f_tuples_of sc_tuples_of rfl rfl fun cdv A outer s H E U r hr =>
    (s_cons (x_set 2 sc_tuples_of.nd (ok_lst (xaC (ok_tup ok_aN) ok_aN))) (s_cons (x_for (xi_rng1 T.b_range (xp 1)) (pg_name (i := 3) sc_tuples_of.nd rfl (by first | exact .inl rfl | exact .inr rfl)) tg_name (s_cons (x_own 4 sc_tuples_of.nd (f_lst ok_aN)) (s_cons (x_for (ok_iSeq rfl (xv 2)) (pg_name (i := 5) sc_tuples_of.nd rfl (by first | exact .inl rfl | exact .inr rfl)) tg_name (s_cons (x_ext 4 (PE.p (x_lc sc_tuples_of.nd (show BlkOk N_tuples_of _ _ [("row", 6)] from blkOk_by (by kernel_rfl)) (xi_c (ok_iSeq rfl (xv 0))) tg_name (fun _ _ _ _ _ => pg_name (i := 6) sc_tuples_of.nd rfl (by first | exact .inl rfl | exact .inr rfl)) (fun _ _ _ _ _ => ts_nil) (fun _ _ _ _ _ => (ok_add rfl (xp 5) (PE.p (ok_tup (xaC (xv 6) ok_aN)))))))) s_nil)) (s_cons (s_frz (x_set 2 sc_tuples_of.nd (xv 4))) s_nil)))) (s_cons (s_ret (xv 2)) s_nil)))
theorem c_told_by (T : Tp C.K C.w mg) : Cl C.P C.w C.K mg base C 1 "told_by" F_told_by :=
  cl_okD (F := F_told_by) rfl T.f_told_by sc_told_by rfl rfl fun cdv A outer s H E U r hr =>
    (s_cons (s_if (x_bcm cm_in (xo_in hr) (xp 1) (PE.p (ok_tup (xaC (ok_C pe_str rfl) (xaC (ok_C pe_str rfl) ok_aN))))) (s_cons (s_ret (ok_mul rfl (PE.p (ok_tup (xaC (x_int T.b_int (xpC (PE.p (x_ecm cm_eq (xo_eq hr) (xp 1) (PE.p (ok_C pe_str rfl)))) xpN)) ok_aN))) (xp 0))) s_nil) s_nil) (s_cons (s_if (x_bcm cm_eq (xo_eq hr) (xp 1) (PE.p (ok_C pe_str rfl))) (s_cons (s_ret (x_tuple T.b_tuple rfl (xpC (PE.p (x_lc sc_told_by.nd (show BlkOk N_told_by _ _ [("bits", 8)] from blkOk_by (by kernel_rfl)) (xi_c (xi_zipN T.b_zip rfl (x_ix ⟨rfl, rfl, rfl⟩ hr (xp 2) (PE.p (ok_C pe_int rfl))) (x_ix ⟨rfl, rfl, rfl⟩ hr (xp 2) (PE.p (ok_C pe_int rfl))))) tg_name (fun _ _ _ _ _ => pg_name (i := 8) sc_told_by.nd rfl (by first | exact .inl rfl | exact .inr rfl)) (fun _ _ _ _ _ => ts_nil) (fun _ _ _ _ _ => (x_min hr T.b_min rfl (xpC (xp 8) xpN))))) xpN))) s_nil) s_nil) (s_cons (s_if (x_bcm cm_eq (xo_eq hr) (xp 1) (PE.p (ok_C pe_str rfl))) (s_cons (s_ret (x_tuple T.b_tuple rfl (xpC (PE.p (x_lc sc_told_by.nd (show BlkOk N_told_by _ _ [("bits", 8)] from blkOk_by (by kernel_rfl)) (xi_c (xi_zipN T.b_zip rfl (x_ix ⟨rfl, rfl, rfl⟩ hr (xp 2) (PE.p (ok_C pe_int rfl))) (x_ix ⟨rfl, rfl, rfl⟩ hr (xp 2) (PE.p (ok_C pe_int rfl))))) tg_name (fun _ _ _ _ _ => pg_name (i := 8) sc_told_by.nd rfl (by first | exact .inl rfl | exact .inr rfl)) (fun _ _ _ _ _ => ts_nil) (fun _ _ _ _ _ => (x_max hr T.b_max rfl (xpC (xp 8) xpN))))) xpN))) s_nil) s_nil) (s_cons (x_setLc sc_told_by.nd (show BlkOk N_told_by _ _ [("a", 4), ("b", 5), ("c", 6)] from blkOk_by (by kernel_rfl)) (xi_c (xi_zip3 T.b_zip rfl (x_ix ⟨rfl, rfl, rfl⟩ hr (xp 2) (PE.p (ok_C pe_int rfl))) (x_ix ⟨rfl, rfl, rfl⟩ hr (xp 2) (PE.p (ok_C pe_int rfl))) (x_ix ⟨rfl, rfl, rfl⟩ hr (xp 2) (PE.p (ok_C pe_int rfl))))) (tg_tup (is := [4, 5, 6]) rfl) (fun _ _ _ _ _ => pg_tup rfl (pgs_cons (pg_name (i := 4) sc_told_by.nd rfl (by first | exact .inl rfl | exact .inr rfl)) (pgs_cons (pg_name (i := 5) sc_told_by.nd rfl (by first | exact .inl rfl | exact .inr rfl)) (pgs_cons (pg_name (i := 6) sc_told_by.nd rfl (by first | exact .inl rfl | exact .inr rfl)) pgs_nil)))) (fun _ _ _ _ _ => ts_nil) (fun _ _ _ _ _ => (ok_add rfl (PE.p (ok_add rfl (xp 4) (xp 5))) (xp 6)))) (s_cons (s_ret (x_tuple T.b_tuple rfl (xpC (PE.p (x_lc sc_told_by.nd (show BlkOk N_told_by _ _ [("one", 7)] from blkOk_by (by kernel_rfl)) (xi_c (ok_iSeq rfl (xv 3))) tg_name (fun _ _ _ _ _ => pg_name (i := 7) sc_told_by.nd rfl (by first | exact .inl rfl | exact .inr rfl)) (fun _ _ _ _ _ => ts_nil) (fun _ _ _ _ _ => (be_if (x_bcm cm_eq (xo_eq hr) (xp 1) (PE.p (ok_C pe_str rfl))) (x_int T.b_int (xpC (PE.p (x_ecm cm_gt (xo_gt hr) (xp 7) (PE.p (ok_C pe_int rfl)))) xpN)) (ok_mod (xp 7) (PE.p (ok_C pe_int rfl))))))) xpN))) s_nil)))))
theorem c_with_told (T : Tp C.K C.w mg) : Cl C.P C.w C.K mg base C 2 "with_told" F_with_told :=
  cl_okD (F := F_with_told) rfl T.f_with_told sc_with_told rfl rfl fun cdv A outer s H E U r hr =>
    (s_cons (x_own 3 sc_with_told.nd (xf_dict hr T.b_dict ⟨rfl, rfl, rfl⟩ (xpC (PE.p (x_lc sc_with_told.nd (show BlkOk N_with_told _ _ [("row", 6)] from blkOk_by (by kernel_rfl)) (xi_c (ok_iSeq rfl (xv 1))) tg_name (fun _ _ _ _ _ => pg_name (i := 6) sc_with_told.nd rfl (by first | exact .inl rfl | exact .inr rfl)) (fun _ _ _ _ _ => ts_nil) (fun _ _ _ _ _ => (ok_tup (xaC (xv 6) (xaC (ok_C pe_bl rfl) ok_aN)))))) xpN))) (s_cons (x_for (ok_iSeq rfl (xv 2)) (pg_name (i := 4) sc_with_told.nd rfl (by first | exact .inl rfl | exact .inr rfl)) tg_name (s_cons (x_for (ok_iSeq rfl (x_call (c_tuples_of T) hr (by decide) (xgV (xv 1) (xgV (xdk rfl T.d_OPERATIONS (xp 4)) g_nil)))) (pg_name (i := 5) sc_with_told.nd rfl (by first | exact .inl rfl | exact .inr rfl)) tg_name (s_cons (x_put ⟨rfl, rfl, rfl⟩ hr 3 (PE.p (x_call (c_told_by T) hr (by decide) (xgV (xv 0) (xgV (xv 4) (xgV (xv 5) g_nil))))) (ok_C pe_bl rfl)) s_nil)) s_nil)) (s_cons (s_ret (x_tuple T.b_tuple rfl (xpC (PE.p (x_sorted hr T.b_sorted ⟨rfl, rfl, rfl⟩ (xpC (xp 3) xpN))) xpN))) s_nil)))
theorem c_closed (T : Tp C.K C.w mg) : Cl C.P C.w C.K mg base C 8 "closed" F_closed :=
  cl_okD (F := F_closed) rfl T.f_closed sc_closed rfl rfl fun cdv A outer s H E U r hr =>
    (s_cons (x_expr (x_call (c_check_relation T) hr (by decide) (xgV (xv 0) (xgV (xv 1) g_nil)))) (s_cons (x_expr (x_call (c_check_words T) hr (by decide) (xgV (xv 2) g_nil))) (s_cons (x_par2 sc_closed.nd (xhV (xv 1) (xhV (x_call (c_with_told T) hr (by decide) (xgV (xv 0) (xgV (xv 1) (xgV (xv 2) g_nil)))) h_nil))) (s_cons (x_wh (x_bcm cm_ne (xo_ne hr) (xp 4) (xp 3)) (s_cons (x_par2 sc_closed.nd (xhV (xv 4) (xhV (x_call (c_with_told T) hr (by decide) (xgV (xv 0) (xgV (xv 4) (xgV (xv 2) g_nil)))) h_nil))) s_nil)) (s_cons (s_ret (xv 3)) s_nil)))))
theorem c__law_rows (T : Tp C.K C.w mg) : Cl C.P C.w C.K mg base C 1 "_law_rows" F__law_rows :=
  cl_okD (F := F__law_rows) rfl T.f__law_rows sc__law_rows rfl rfl fun cdv A outer s H E U r hr =>
    (s_cons (x_set 1 sc__law_rows.nd (ok_lst (xaC (ok_tup ok_aN) ok_aN))) (s_cons (x_for (xi_rng1 T.b_range (xp 0)) (pg_name (i := 2) sc__law_rows.nd rfl (by first | exact .inl rfl | exact .inr rfl)) tg_name (s_cons (x_own 3 sc__law_rows.nd (f_lst ok_aN)) (s_cons (x_for (ok_iSeq rfl (xv 1)) (pg_name (i := 4) sc__law_rows.nd rfl (by first | exact .inl rfl | exact .inr rfl)) tg_name (s_cons (x_ext 3 (PE.p (ok_lst (xaC (ok_add rfl (xp 4) (PE.p (ok_tup (xaC (ok_C pe_int rfl) ok_aN)))) (xaC (ok_add rfl (xp 4) (PE.p (ok_tup (xaC (ok_C pe_int rfl) ok_aN)))) ok_aN))))) s_nil)) (s_cons (s_frz (x_set 1 sc__law_rows.nd (xv 3))) s_nil)))) (s_cons (s_ret (xv 1)) s_nil)))
theorem c__law_relation (T : Tp C.K C.w mg) : Cl C.P C.w C.K mg base C 9 "_law_relation" F__law_relation :=
  cl_okD (F := F__law_relation) rfl T.f__law_relation sc__law_relation rfl rfl fun cdv A outer s H E U r hr =>
    (s_cons (x_set 2 sc__law_relation.nd (ok_add rfl (PE.p (ok_C pe_int rfl)) (PE.p (x_call (c__law_draw T) hr (by decide) (xgV (xv 0) (xgV (ok_C pe_int rfl) g_nil)))))) (s_cons (x_set 3 sc__law_relation.nd (x_tuple T.b_tuple rfl (xpC (PE.p (x_lc sc__law_relation.nd (show BlkOk N__law_relation _ _ [("row", 4)] from blkOk_by (by kernel_rfl)) (xi_c (ok_iSeq rfl (x_call (c__law_rows T) hr (by decide) (xgV (xv 1) g_nil)))) tg_name (fun _ _ _ _ _ => pg_name (i := 4) sc__law_relation.nd rfl (by first | exact .inl rfl | exact .inr rfl)) (fun _ _ _ _ _ => (ts_one (x_bcm cm_eq (xo_eq hr) (PE.p (x_call (c__law_draw T) hr (by decide) (xgV (xv 0) (xgV (xv 2) g_nil)))) (PE.p (ok_C pe_int rfl))))) (fun _ _ _ _ _ => (xv 4)))) xpN))) (s_cons (s_ret (be_if (x_bcm cm_eq (xo_eq hr) (PE.p (x_call (c__law_draw T) hr (by decide) (xgV (xv 0) (xgV (ok_C pe_int rfl) g_nil)))) (PE.p (ok_C pe_int rfl))) (xv 3) (x_call (c_closed T) hr (by decide) (xgV (xv 1) (xgV (xv 3) (xgV (ok_lst (xaC (ok_C pe_str rfl) ok_aN)) g_nil)))))) s_nil)))
theorem c_sets_within (T : Tp C.K C.w mg) : Cl C.P C.w C.K mg base C 1 "sets_within" F_sets_within :=
  cl_okD (F := F_sets_within) rfl T.f_sets_within sc_sets_within rfl rfl fun cdv A outer s H E U r hr =>
    (s_cons (x_set 1 sc_sets_within.nd (ok_lst (xaC (ok_tup ok_aN) ok_aN))) (s_cons (x_for (ok_iSeq rfl (xv 0)) (pg_name (i := 2) sc_sets_within.nd rfl (by first | exact .inl rfl | exact .inr rfl)) tg_name (s_cons (x_set 1 sc_sets_within.nd (ok_add rfl (xp 1) (PE.p (x_lc sc_sets_within.nd (show BlkOk N_sets_within _ _ [("some", 3)] from blkOk_by (by kernel_rfl)) (xi_c (ok_iSeq rfl (xv 1))) tg_name (fun _ _ _ _ _ => pg_name (i := 3) sc_sets_within.nd rfl (by first | exact .inl rfl | exact .inr rfl)) (fun _ _ _ _ _ => ts_nil) (fun _ _ _ _ _ => (ok_add rfl (xp 3) (PE.p (ok_tup (xaC (xv 2) ok_aN))))))))) s_nil)) (s_cons (s_ret (xv 1)) s_nil)))
theorem c_kept_equations (T : Tp C.K C.w mg) : Cl C.P C.w C.K mg base C 2 "kept_equations" F_kept_equations :=
  cl_okD (F := F_kept_equations) rfl T.f_kept_equations sc_kept_equations rfl rfl fun cdv A outer s H E U r hr =>
    (s_cons (x_own 2 sc_kept_equations.nd (f_lst ok_aN)) (s_cons (x_for (ok_iSeq rfl (x_sorted hr T.b_sorted ⟨rfl, rfl, rfl⟩ (xpC (PE.p (x_call (c_sets_within T) hr (by decide) (xgV (x_tupRg T.b_tuple (xr_rng1 T.b_range (xp 0))) g_nil))) xpN))) (pg_name (i := 3) sc_kept_equations.nd rfl (by first | exact .inl rfl | exact .inr rfl)) tg_name (s_cons (x_ext 2 (PE.p (x_lc sc_kept_equations.nd (show BlkOk N_kept_equations _ _ [("bit", 4)] from blkOk_by (by kernel_rfl)) (xi_c (ok_iSeq rfl (ok_tup (xaC (ok_C pe_int rfl) (xaC (ok_C pe_int rfl) ok_aN))))) tg_name (fun _ _ _ _ _ => pg_name (i := 4) sc_kept_equations.nd rfl (by first | exact .inl rfl | exact .inr rfl)) (fun _ _ _ _ _ => (ts_one (x_val (x_all T.b_all rfl (xpC (PE.p (x_lc sc_kept_equations.nd (show BlkOk N_kept_equations _ _ [("row", 5)] from blkOk_by (by kernel_rfl)) (xi_c (ok_iSeq rfl (xv 1))) tg_name (fun _ _ _ _ _ => pg_name (i := 5) sc_kept_equations.nd rfl (by first | exact .inl rfl | exact .inr rfl)) (fun _ _ _ _ _ => ts_nil) (fun _ _ _ _ _ => (x_call (c_is_kept T) hr (by decide) (xgV (ok_tup (xaC (xv 3) (xaC (xv 4) ok_aN))) (xgV (xv 5) g_nil)))))) xpN))))) (fun _ _ _ _ _ => (ok_tup (xaC (xv 3) (xaC (xv 4) ok_aN))))))) s_nil)) (s_cons (s_ret (xv 2)) s_nil)))
theorem c_equations_of (T : Tp C.K C.w mg) : Cl C.P C.w C.K mg base C 3 "equations_of" F_equations_of :=
  cl_okD (F := F_equations_of) rfl T.f_equations_of sc_equations_of rfl rfl fun cdv A outer s H E U r hr =>
    (s_cons (s_if (x_bcm cm_eq (xo_eq hr) (PE.p (x_len T.b_len ⟨rfl, rfl, rfl⟩ (xpC (xp 1) xpN))) (PE.p (ok_C pe_int rfl))) (s_cons (s_ret (ok_tup (xaC (ok_tup (xaC (ok_tup ok_aN) (xaC (ok_C pe_int rfl) ok_aN))) ok_aN))) s_nil) s_nil) (s_cons (x_par2 sc_equations_of.nd (xhO f_dnew (xhO (f_lst ok_aN) h_nil))) (s_cons (x_for (ok_iSeq rfl (x_call (c_kept_equations T) hr (by decide) (xgV (xv 0) (xgV (xv 1) g_nil)))) (pg_name (i := 2) sc_equations_of.nd rfl (by first | exact .inl rfl | exact .inr rfl)) tg_name (s_cons (x_unp (is := [5, 6]) rfl (x_call (c_reduced T) hr (by decide) (xgL (xp 3) (xgV (xv 2) (xgV (ok_tup ok_aN) g_nil)))) (pgs_cons (pg_name (i := 5) sc_equations_of.nd rfl (by first | exact .inl rfl | exact .inr rfl)) (pgs_cons (pg_name (i := 6) sc_equations_of.nd rfl (by first | exact .inl rfl | exact .inr rfl)) pgs_nil))) (s_cons (s_if (x_bcm cm_gt (xo_gt hr) (PE.p (x_len T.b_len ⟨rfl, rfl, rfl⟩ (xpC (PE.p (x_ix ⟨rfl, rfl, rfl⟩ hr (xp 5) (PE.p (ok_C pe_int rfl)))) xpN))) (PE.p (ok_C pe_int rfl))) (s_cons (x_put ⟨rfl, rfl, rfl⟩ hr 3 (PE.p (x_ix ⟨rfl, rfl, rfl⟩ hr (PE.p (x_ix ⟨rfl, rfl, rfl⟩ hr (xp 5) (PE.p (ok_C pe_int rfl)))) (PE.p (ok_C pe_int rfl)))) (ok_tup (xaC (xv 5) (xaC (ok_tup ok_aN) ok_aN)))) (s_cons (x_app 4 (xv 2)) s_nil)) s_nil) s_nil))) (s_cons (s_ret (x_tuple T.b_tuple rfl (xpC (xp 4) xpN))) s_nil))))
theorem c_equations (T : Tp C.K C.w mg) : Cl C.P C.w C.K mg base C 8 "equations" F_equations :=
  cl_okD (F := F_equations) rfl T.f_equations sc_equations rfl rfl fun cdv A outer s H E U r hr =>
    (s_cons (x_expr (x_call (c_check_relation T) hr (by decide) (xgV (xv 0) (xgV (xv 1) g_nil)))) (s_cons (s_ret (x_call (c_equations_of T) hr (by decide) (xgV (xv 0) (xgV (xv 1) g_nil)))) s_nil))
theorem c__law_any (T : Tp C.K C.w mg) : Cl C.P C.w C.K mg base C 2 "_law_any" F__law_any :=
  cl_okD (F := F__law_any) rfl T.f__law_any sc__law_any rfl rfl fun cdv A outer s H E U r hr =>
    (s_cons (s_ret (x_ix ⟨rfl, rfl, rfl⟩ hr (xp 1) (PE.p (x_call (c__law_draw T) hr (by decide) (xgV (xv 0) (xgV (x_len T.b_len ⟨rfl, rfl, rfl⟩ (xpC (xp 1) xpN)) g_nil)))))) s_nil)
theorem c_is_demand (T : Tp C.K C.w mg) : Cl C.P C.w C.K mg base C 3 "is_demand" F_is_demand :=
  cl_okD (F := F_is_demand) rfl T.f_is_demand sc_is_demand rfl rfl fun cdv A outer s H E U r hr =>
    (s_cons (s_if ((bt_or (bt_not (x_val (x_call (c_is_tuple T) hr (by decide) (xgV (xv 2) (xgV (ok_C pe_int rfl) (xgV (ok_C pe_int rfl) g_nil)))))) (bt_or1 (bt_not (x_val (x_call (c_is_within T) hr (by decide) (xgV (x_ix ⟨rfl, rfl, rfl⟩ hr (xp 2) (PE.p (ok_C pe_int rfl))) (xgV (ok_C pe_int rfl) (xgV (ok_sub (PE.p (x_len T.b_len ⟨rfl, rfl, rfl⟩ (xpC (xp 1) xpN))) (PE.p (ok_C pe_int rfl))) g_nil))))))))).pt (s_cons (s_ret (ok_C pe_bl rfl)) s_nil) s_nil) (s_cons (x_set 3 sc_is_demand.nd (x_ix ⟨rfl, rfl, rfl⟩ hr (PE.p (x_ix ⟨rfl, rfl, rfl⟩ hr (xp 1) (PE.p (x_ix ⟨rfl, rfl, rfl⟩ hr (xp 2) (PE.p (ok_C pe_int rfl)))))) (PE.p (ok_C pe_int rfl)))) (s_cons (s_ret (be_and (x_call (c_is_tuple T) hr (by decide) (xgV (x_ix ⟨rfl, rfl, rfl⟩ hr (xp 2) (PE.p (ok_C pe_int rfl))) (xgV (xv 3) (xgV (xv 3) g_nil)))) (be_one (x_all T.b_all rfl (xpC (PE.p (x_lc sc_is_demand.nd (show BlkOk N_is_demand _ _ [("i", 4)] from blkOk_by (by kernel_rfl)) (xi_c (ok_iSeq rfl (x_ix ⟨rfl, rfl, rfl⟩ hr (xp 2) (PE.p (ok_C pe_int rfl))))) tg_name (fun _ _ _ _ _ => pg_name (i := 4) sc_is_demand.nd rfl (by first | exact .inl rfl | exact .inr rfl)) (fun _ _ _ _ _ => ts_nil) (fun _ _ _ _ _ => (x_call (c_is_within T) hr (by decide) (xgV (xv 4) (xgV (ok_C pe_int rfl) (xgV (ok_sub (xp 0) (PE.p (ok_C pe_int rfl))) g_nil))))))) xpN))))) s_nil)))
theorem c_is_told (T : Tp C.K C.w mg) : Cl C.P C.w C.K mg base C 7 "is_told" F_is_told :=
  cl_okD (F := F_is_told) rfl T.f_is_told sc_is_told rfl rfl fun cdv A outer s H E U r hr =>
    (s_cons (s_ret (be_and (x_call (c_is_tuple T) hr (by decide) (xgV (xv 0) (xgV (ok_C pe_int rfl) (xgV (ok_C pe_int rfl) g_nil)))) (be_and (x_call (c_is_places T) hr (by decide) (xgV (x_ix ⟨rfl, rfl, rfl⟩ hr (xp 0) (PE.p (ok_C pe_int rfl))) g_nil)) (be_one (x_call (c_are_rows T) hr (by decide) (xgV (x_ix ⟨rfl, rfl, rfl⟩ hr (xp 0) (PE.p (ok_C pe_int rfl))) (xgV (x_ix ⟨rfl, rfl, rfl⟩ hr (xp 0) (PE.p (ok_C pe_int rfl))) g_nil))))))) s_nil)
theorem c_is_puzzle (T : Tp C.K C.w mg) : Cl C.P C.w C.K mg base C 8 "is_puzzle" F_is_puzzle :=
  cl_okD (F := F_is_puzzle) rfl T.f_is_puzzle sc_is_puzzle rfl rfl fun cdv A outer s H E U r hr =>
    (s_cons (s_if ((bt_or (bt_not (x_val (x_call (c_is_tuple T) hr (by decide) (xgV (xv 0) (xgV (ok_C pe_int rfl) (xgV (ok_C pe_int rfl) g_nil)))))) (bt_or1 (bt_not (x_val (x_call (c_is_within T) hr (by decide) (xgV (x_ix ⟨rfl, rfl, rfl⟩ hr (xp 0) (PE.p (ok_C pe_int rfl))) (xgV (ok_C pe_int rfl) (xgV (xg T.k_MOST_PUZZLED) g_nil))))))))).pt (s_cons (s_ret (ok_C pe_bl rfl)) s_nil) s_nil) (s_cons (x_unp (is := [1, 2, 3]) rfl (xv 0) (pgs_cons (pg_name (i := 1) sc_is_puzzle.nd rfl (by first | exact .inl rfl | exact .inr rfl)) (pgs_cons (pg_name (i := 2) sc_is_puzzle.nd rfl (by first | exact .inl rfl | exact .inr rfl)) (pgs_cons (pg_name (i := 3) sc_is_puzzle.nd rfl (by first | exact .inl rfl | exact .inr rfl)) pgs_nil)))) (s_cons (s_if ((bt_or (bt_not (x_val (x_call (c_is_tuple T) hr (by decide) (xgV (xv 2) (xgV (ok_C pe_int rfl) (xgV (xg T.k_MOST_RELATIONS) g_nil)))))) (bt_or1 (bt_not (x_val (x_all T.b_all rfl (xpC (PE.p (x_lc sc_is_puzzle.nd (show BlkOk N_is_puzzle _ _ [("one", 4)] from blkOk_by (by kernel_rfl)) (xi_c (ok_iSeq rfl (xv 2))) tg_name (fun _ _ _ _ _ => pg_name (i := 4) sc_is_puzzle.nd rfl (by first | exact .inl rfl | exact .inr rfl)) (fun _ _ _ _ _ => ts_nil) (fun _ _ _ _ _ => (x_call (c_is_told T) hr (by decide) (xgV (xv 4) g_nil))))) xpN))))))).pt (s_cons (s_ret (ok_C pe_bl rfl)) s_nil) s_nil) (s_cons (s_ret (be_and (x_call (c_is_tuple T) hr (by decide) (xgV (xv 3) (xgV (ok_C pe_int rfl) (xgV (xg T.k_MOST_DEMANDS) g_nil)))) (be_one (x_all T.b_all rfl (xpC (PE.p (x_lc sc_is_puzzle.nd (show BlkOk N_is_puzzle _ _ [("one", 4)] from blkOk_by (by kernel_rfl)) (xi_c (ok_iSeq rfl (xv 3))) tg_name (fun _ _ _ _ _ => pg_name (i := 4) sc_is_puzzle.nd rfl (by first | exact .inl rfl | exact .inr rfl)) (fun _ _ _ _ _ => ts_nil) (fun _ _ _ _ _ => (x_call (c_is_demand T) hr (by decide) (xgV (xv 1) (xgV (xv 2) (xgV (xv 4) g_nil))))))) xpN))))) s_nil))))
theorem c_check_puzzle (T : Tp C.K C.w mg) : Cl C.P C.w C.K mg base C 9 "check_puzzle" F_check_puzzle :=
  cl_okD (F := F_check_puzzle) rfl T.f_check_puzzle sc_check_puzzle rfl rfl fun cdv A outer s H E U r hr =>
    (s_cons (s_if (bt_not (x_val (x_call (c_is_puzzle T) hr (by decide) (xgV (xv 0) g_nil)))) (s_cons s_bad s_nil) s_nil) s_nil)
theorem c_is_met (T : Tp C.K C.w mg) : Cl C.P C.w C.K mg base C 1 "is_met" F_is_met :=
  cl_okD (F := F_is_met) rfl T.f_is_met sc_is_met rfl rfl fun cdv A outer s H E U r hr =>
    (s_cons (x_unp (is := [3, 4]) rfl (xv 1) (pgs_cons (pg_name (i := 3) sc_is_met.nd rfl (by first | exact .inl rfl | exact .inr rfl)) (pgs_cons (pg_name (i := 4) sc_is_met.nd rfl (by first | exact .inl rfl | exact .inr rfl)) pgs_nil))) (s_cons (s_ret (x_ecm cm_in (xo_in hr) (PE.p (x_tuple T.b_tuple rfl (xpC (PE.p (x_lc sc_is_met.nd (show BlkOk N_is_met _ _ [("i", 5)] from blkOk_by (by kernel_rfl)) (xi_c (ok_iSeq rfl (xv 4))) tg_name (fun _ _ _ _ _ => pg_name (i := 5) sc_is_met.nd rfl (by first | exact .inl rfl | exact .inr rfl)) (fun _ _ _ _ _ => ts_nil) (fun _ _ _ _ _ => (x_ix ⟨rfl, rfl, rfl⟩ hr (xp 2) (xp 5))))) xpN))) (PE.p (x_ix ⟨rfl, rfl, rfl⟩ hr (PE.p (x_ix ⟨rfl, rfl, rfl⟩ hr (PE.p (x_ix ⟨rfl, rfl, rfl⟩ hr (xp 0) (PE.p (ok_C pe_int rfl)))) (xp 3))) (PE.p (ok_C pe_int rfl)))))) s_nil))
theorem c_answers_it (T : Tp C.K C.w mg) : Cl C.P C.w C.K mg base C 2 "answers_it" F_answers_it :=
  cl_okD (F := F_answers_it) rfl T.f_answers_it sc_answers_it rfl rfl fun cdv A outer s H E U r hr =>
    (s_cons (s_ret (x_all T.b_all rfl (xpC (PE.p (x_lc sc_answers_it.nd (show BlkOk N_answers_it _ _ [("demand", 2)] from blkOk_by (by kernel_rfl)) (xi_c (ok_iSeq rfl (x_ix ⟨rfl, rfl, rfl⟩ hr (xp 0) (PE.p (ok_C pe_int rfl))))) tg_name (fun _ _ _ _ _ => pg_name (i := 2) sc_answers_it.nd rfl (by first | exact .inl rfl | exact .inr rfl)) (fun _ _ _ _ _ => ts_nil) (fun _ _ _ _ _ => (x_call (c_is_met T) hr (by decide) (xgV (xv 0) (xgV (xv 2) (xgV (xv 1) g_nil))))))) xpN))) s_nil)
theorem c_all_answers (T : Tp C.K C.w mg) : Cl C.P C.w C.K mg base C 3 "all_answers" F_all_answers :=
  cl_okD (F := F_all_answers) rfl T.f_all_answers sc_all_answers rfl rfl fun cdv A outer s H E U r hr =>
    (s_cons (s_ret (x_lc sc_all_answers.nd (show BlkOk N_all_answers _ _ [("row", 1)] from blkOk_by (by kernel_rfl)) (xi_c (ok_iSeq rfl (x_call (c_rows T) hr (by decide) (xgV (x_ix ⟨rfl, rfl, rfl⟩ hr (xp 0) (PE.p (ok_C pe_int rfl))) g_nil)))) tg_name (fun _ _ _ _ _ => pg_name (i := 1) sc_all_answers.nd rfl (by first | exact .inl rfl | exact .inr rfl)) (fun _ _ _ _ _ => (ts_one (x_val (x_call (c_answers_it T) hr (by decide) (xgV (xv 0) (xgV (xv 1) g_nil)))))) (fun _ _ _ _ _ => (xv 1)))) s_nil)
theorem c_answers (T : Tp C.K C.w mg) : Cl C.P C.w C.K mg base C 10 "answers" F_answers :=
  cl_okD (F := F_answers) rfl T.f_answers sc_answers rfl rfl fun cdv A outer s H E U r hr =>
    (s_cons (x_expr (x_call (c_check_puzzle T) hr (by decide) (xgV (xv 0) g_nil))) (s_cons (s_ret (x_tuple T.b_tuple rfl (xpC (PE.p (x_call (c_all_answers T) hr (by decide) (xgV (xv 0) g_nil))) xpN))) s_nil))
theorem c_losing (T : Tp C.K C.w mg) : Cl C.P C.w C.K mg base C 2 "losing" F_losing :=
  cl_okD (F := F_losing) rfl T.f_losing sc_losing rfl rfl fun cdv A outer s H E U r hr =>
    (s_cons (x_for (ok_iSeq rfl (x_call (c_tuples_of T) hr (by decide) (xgV (xv 1) (xgV (xdk rfl T.d_OPERATIONS (xp 2)) g_nil)))) (pg_name (i := 3) sc_losing.nd rfl (by first | exact .inl rfl | exact .inr rfl)) tg_name (s_cons (s_if (x_bcm cm_nin (xo_nin hr) (PE.p (x_call (c_told_by T) hr (by decide) (xgV (xv 0) (xgV (xv 2) (xgV (xv 3) g_nil))))) (xp 1)) (s_cons (s_ret (xv 3)) s_nil) s_nil) s_nil)) (s_cons (s_ret (ok_C pe_non rfl)) s_nil))
theorem c_easy_words (T : Tp C.K C.w mg) : Cl C.P C.w C.K mg base C 3 "easy_words" F_easy_words :=
  cl_okD (F := F_easy_words) rfl T.f_easy_words sc_easy_words rfl rfl fun cdv A outer s H E U r hr =>
    (s_cons (s_ret (x_tuple T.b_tuple rfl (xpC (PE.p (x_lc sc_easy_words.nd (show BlkOk N_easy_words _ _ [("word", 1)] from blkOk_by (by kernel_rfl)) (xi_c (ok_iSeq rfl (xg T.k_NAMES))) tg_name (fun _ _ _ _ _ => pg_name (i := 1) sc_easy_words.nd rfl (by first | exact .inl rfl | exact .inr rfl)) (fun _ _ _ _ _ => (ts_one (x_val (x_all T.b_all rfl (xpC (PE.p (x_lc sc_easy_words.nd (show BlkOk N_easy_words _ _ [("one", 2)] from blkOk_by (by kernel_rfl)) (xi_c (ok_iSeq rfl (x_ix ⟨rfl, rfl, rfl⟩ hr (xp 0) (PE.p (ok_C pe_int rfl))))) tg_name (fun _ _ _ _ _ => pg_name (i := 2) sc_easy_words.nd rfl (by first | exact .inl rfl | exact .inr rfl)) (fun _ _ _ _ _ => ts_nil) (fun _ _ _ _ _ => (x_ecm cm_isN op_isN (PE.p (x_call (c_losing T) hr (by decide) (xgV (x_ix ⟨rfl, rfl, rfl⟩ hr (xp 2) (PE.p (ok_C pe_int rfl))) (xgV (x_ix ⟨rfl, rfl, rfl⟩ hr (xp 2) (PE.p (ok_C pe_int rfl))) (xgV (xv 1) g_nil))))) (PE.p (ok_C pe_non rfl)))))) xpN))))) (fun _ _ _ _ _ => (xv 1)))) xpN))) s_nil)
theorem c_put_at (T : Tp C.K C.w mg) : Cl C.P C.w C.K mg base C 2 "put_at" F_put_at :=
  cl_okD (F := F_put_at) rfl T.f_put_at sc_put_at rfl rfl fun cdv A outer s H E U r hr =>
    (s_cons (x_set 2 sc_put_at.nd (ok_tup (xaC (ok_tup ok_aN) (xaC (x_ix ⟨rfl, rfl, rfl⟩ hr (xp 0) (PE.p (ok_C pe_int rfl))) ok_aN)))) (s_cons (x_for (ok_iSeq rfl (x_ix ⟨rfl, rfl, rfl⟩ hr (xp 0) (PE.p (ok_C pe_int rfl)))) (pg_name (i := 3) sc_put_at.nd rfl (by first | exact .inl rfl | exact .inr rfl)) tg_name (s_cons (x_set 2 sc_put_at.nd (x_call (c_added T) hr (by decide) (xgV (xv 2) (xgV (ok_tup (xaC (ok_tup (xaC (x_ix ⟨rfl, rfl, rfl⟩ hr (xp 1) (xp 3)) ok_aN)) (xaC (ok_C pe_int rfl) ok_aN))) g_nil)))) s_nil)) (s_cons (s_ret (xv 2)) s_nil)))
theorem c_by_sums (T : Tp C.K C.w mg) : Cl C.P C.w C.K mg base C 10 "by_sums" F_by_sums :=
  cl_okD (F := F_by_sums) rfl T.f_by_sums sc_by_sums rfl rfl fun cdv A outer s H E U r hr =>
    (s_cons (x_expr (x_call (c_check_puzzle T) hr (by decide) (xgV (xv 0) g_nil))) (s_cons (s_if (x_bcm cm_nin (xo_nin hr) (PE.p (ok_C pe_str rfl)) (PE.p (x_call (c_easy_words T) hr (by decide) (xgV (xv 0) g_nil)))) (s_cons s_bad s_nil) s_nil) (s_cons (x_own 1 sc_by_sums.nd (f_lst ok_aN)) (s_cons (x_for (ok_iSeq rfl (x_ix ⟨rfl, rfl, rfl⟩ hr (xp 0) (PE.p (ok_C pe_int rfl)))) (pg_tup rfl (pgs_cons (pg_name (i := 2) sc_by_sums.nd rfl (by first | exact .inl rfl | exact .inr rfl)) (pgs_cons (pg_name (i := 3) sc_by_sums.nd rfl (by first | exact .inl rfl | exact .inr rfl)) pgs_nil))) (tg_tup (is := [2, 3]) rfl) (s_cons (x_unp (is := [4, 5]) rfl (x_ix ⟨rfl, rfl, rfl⟩ hr (PE.p (x_ix ⟨rfl, rfl, rfl⟩ hr (xp 0) (PE.p (ok_C pe_int rfl)))) (xp 2)) (pgs_cons (pg_name (i := 4) sc_by_sums.nd rfl (by first | exact .inl rfl | exact .inr rfl)) (pgs_cons (pg_name (i := 5) sc_by_sums.nd rfl (by first | exact .inl rfl | exact .inr rfl)) pgs_nil))) (s_cons (x_ext 1 (PE.p (x_lc sc_by_sums.nd (show BlkOk N_by_sums _ _ [("equation", 6)] from blkOk_by (by kernel_rfl)) (xi_c (ok_iSeq rfl (x_call (c_equations_of T) hr (by decide) (xgV (xv 4) (xgV (xv 5) g_nil))))) tg_name (fun _ _ _ _ _ => pg_name (i := 6) sc_by_sums.nd rfl (by first | exact .inl rfl | exact .inr rfl)) (fun _ _ _ _ _ => ts_nil) (fun _ _ _ _ _ => (x_call (c_put_at T) hr (by decide) (xgV (xv 6) (xgV (xv 3) g_nil))))))) s_nil))) (s_cons (s_ret (x_call (c_solved_by_sums T) hr (by decide) (xgV (x_ix ⟨rfl, rfl, rfl⟩ hr (xp 0) (PE.p (ok_C pe_int rfl))) (xgV (xv 1) g_nil)))) s_nil)))))
theorem c__law_sets (T : Tp C.K C.w mg) : Cl C.P C.w C.K mg base C 1 "_law_sets" F__law_sets :=
  cl_okD (F := F__law_sets) rfl T.f__law_sets sc__law_sets rfl rfl fun cdv A outer s H E U r hr =>
    (s_cons (x_set 1 sc__law_sets.nd (ok_lst (xaC (ok_tup ok_aN) ok_aN))) (s_cons (x_for (ok_iSeq rfl (xv 0)) (pg_name (i := 2) sc__law_sets.nd rfl (by first | exact .inl rfl | exact .inr rfl)) tg_name (s_cons (x_set 1 sc__law_sets.nd (ok_add rfl (xp 1) (PE.p (x_lc sc__law_sets.nd (show BlkOk N__law_sets _ _ [("some", 4)] from blkOk_by (by kernel_rfl)) (xi_c (ok_iSeq rfl (xv 1))) tg_name (fun _ _ _ _ _ => pg_name (i := 4) sc__law_sets.nd rfl (by first | exact .inl rfl | exact .inr rfl)) (fun _ _ _ _ _ => ts_nil) (fun _ _ _ _ _ => (ok_add rfl (xp 4) (PE.p (ok_tup (xaC (xv 2) ok_aN))))))))) s_nil)) (s_cons (s_ret (x_lc sc__law_sets.nd (show BlkOk N__law_sets _ _ [("size", 3), ("some", 4)] from blkOk_by (by kernel_rfl)) (xi_c (ok_iSeq rfl (x_sorted hr T.b_sorted ⟨rfl, rfl, rfl⟩ (xpC (PE.p (x_lc sc__law_sets.nd (show BlkOk N__law_sets _ _ [("some", 4)] from blkOk_by (by kernel_rfl)) (xi_c (ok_iSeq rfl (xv 1))) tg_name (fun _ _ _ _ _ => pg_name (i := 4) sc__law_sets.nd rfl (by first | exact .inl rfl | exact .inr rfl)) (fun _ _ _ _ _ => ts_nil) (fun _ _ _ _ _ => (ok_tup (xaC (x_len T.b_len ⟨rfl, rfl, rfl⟩ (xpC (xp 4) xpN)) (xaC (xv 4) ok_aN)))))) xpN)))) (tg_tup (is := [3, 4]) rfl) (fun _ _ _ _ _ => pg_tup rfl (pgs_cons (pg_name (i := 3) sc__law_sets.nd rfl (by first | exact .inl rfl | exact .inr rfl)) (pgs_cons (pg_name (i := 4) sc__law_sets.nd rfl (by first | exact .inl rfl | exact .inr rfl)) pgs_nil))) (fun _ _ _ _ _ => ts_nil) (fun _ _ _ _ _ => (xv 4)))) s_nil)))
theorem c__law_is (T : Tp C.K C.w mg) : Cl C.P C.w C.K mg base C 1 "_law_is" F__law_is :=
  cl_okD (F := F__law_is) rfl T.f__law_is sc__law_is rfl rfl fun cdv A outer s H E U r hr =>
    (s_cons (s_if ((bt_or (x_bcm cm_ne (xo_ne hr) (PE.p (x_is1 T.b_isinstance T.b_bool (by decide +kernel) rfl (xp 0))) (PE.p (x_is1 T.b_isinstance T.b_bool (by decide +kernel) rfl (xp 1)))) (bt_or1 (x_bcm cm_ne (xo_ne hr) (PE.p (x_is1 T.b_isinstance T.b_int (by decide +kernel) rfl (xp 0))) (PE.p (x_is1 T.b_isinstance T.b_int (by decide +kernel) rfl (xp 1))))))).pt (s_cons (s_ret (ok_C pe_bl rfl)) s_nil) s_nil) (s_cons (s_ret (x_ecm cm_eq (xo_eq hr) (xp 0) (xp 1))) s_nil))
theorem c__law_keeps (T : Tp C.K C.w mg) : Cl C.P C.w C.K mg base C 1 "_law_keeps" F__law_keeps :=
  cl_okD (F := F__law_keeps) rfl T.f__law_keeps sc__law_keeps rfl rfl fun cdv A outer s H E U r hr =>
    (s_cons (s_ret (x_ecm cm_eq (xo_eq hr) (PE.p (ok_mod (PE.p (x_sum T.b_sum rfl (xpC (PE.p (x_lc sc__law_keeps.nd (show BlkOk N__law_keeps _ _ [("i", 2)] from blkOk_by (by kernel_rfl)) (xi_c (ok_iSeq rfl (x_ix ⟨rfl, rfl, rfl⟩ hr (xp 1) (PE.p (ok_C pe_int rfl))))) tg_name (fun _ _ _ _ _ => pg_name (i := 2) sc__law_keeps.nd rfl (by first | exact .inl rfl | exact .inr rfl)) (fun _ _ _ _ _ => ts_nil) (fun _ _ _ _ _ => (x_ix ⟨rfl, rfl, rfl⟩ hr (xp 0) (xp 2))))) xpN))) (PE.p (ok_C pe_int rfl)))) (PE.p (x_ix ⟨rfl, rfl, rfl⟩ hr (xp 1) (PE.p (ok_C pe_int rfl)))))) s_nil)
theorem c__law_vector (T : Tp C.K C.w mg) : Cl C.P C.w C.K mg base C 1 "_law_vector" F__law_vector :=
  cl_okD (F := F__law_vector) rfl T.f__law_vector sc__law_vector rfl rfl fun cdv A outer s H E U r hr =>
    (s_cons (s_ret (x_tuple T.b_tuple rfl (xpC (PE.p (ok_add rfl (PE.p (x_lc sc__law_vector.nd (show BlkOk N__law_vector _ _ [("i", 2)] from blkOk_by (by kernel_rfl)) (xi_c (xi_rng1 T.b_range (xp 1))) tg_name (fun _ _ _ _ _ => pg_name (i := 2) sc__law_vector.nd rfl (by first | exact .inl rfl | exact .inr rfl)) (fun _ _ _ _ _ => ts_nil) (fun _ _ _ _ _ => (x_int T.b_int (xpC (PE.p (x_ecm cm_in (xo_in hr) (xp 2) (PE.p (x_ix ⟨rfl, rfl, rfl⟩ hr (xp 0) (PE.p (ok_C pe_int rfl)))))) xpN))))) (PE.p (ok_lst (xaC (x_ix ⟨rfl, rfl, rfl⟩ hr (xp 0) (PE.p (ok_C pe_int rfl))) ok_aN))))) xpN))) s_nil)
theorem c__law_added (T : Tp C.K C.w mg) : Cl C.P C.w C.K mg base C 1 "_law_added" F__law_added :=
  cl_okD (F := F__law_added) rfl T.f__law_added sc__law_added rfl rfl fun cdv A outer s H E U r hr =>
    (s_cons (s_ret (x_tuple T.b_tuple rfl (xpC (PE.p (x_lc sc__law_added.nd (show BlkOk N__law_added _ _ [("a", 2), ("b", 3)] from blkOk_by (by kernel_rfl)) (xi_c (xi_zip T.b_zip rfl (xv 0) (xv 1))) (tg_tup (is := [2, 3]) rfl) (fun _ _ _ _ _ => pg_tup rfl (pgs_cons (pg_name (i := 2) sc__law_added.nd rfl (by first | exact .inl rfl | exact .inr rfl)) (pgs_cons (pg_name (i := 3) sc__law_added.nd rfl (by first | exact .inl rfl | exact .inr rfl)) pgs_nil))) (fun _ _ _ _ _ => ts_nil) (fun _ _ _ _ _ => (ok_mod (PE.p (ok_add rfl (xp 2) (xp 3))) (PE.p (ok_C pe_int rfl)))))) xpN))) s_nil)
theorem c__law_spanned (T : Tp C.K C.w mg) : Cl C.P C.w C.K mg base C 2 "_law_spanned" F__law_spanned :=
  cl_okD (F := F__law_spanned) rfl T.f__law_spanned sc__law_spanned rfl rfl fun cdv A outer s H E U r hr =>
    (s_cons (x_own 2 sc__law_spanned.nd (xf_disp [((eOp .mul (eTup (aC (eC (.int 0)) aN)) (eOp .add (eP 1) (eC (.int 1)))), (eC (.bl true)))] rfl ⟨rfl, rfl, rfl⟩ hr (pps_cons (ok_mul rfl (PE.p (ok_tup (xaC (ok_C pe_int rfl) ok_aN))) (PE.p (ok_add rfl (xp 1) (PE.p (ok_C pe_int rfl))))) (ok_C pe_bl rfl) pps_nil))) (s_cons (x_for (ok_iSeq rfl (xv 0)) (pg_name (i := 3) sc__law_spanned.nd rfl (by first | exact .inl rfl | exact .inr rfl)) tg_name (s_cons (x_for (ok_iSeq rfl (x_list T.b_list ⟨rfl, rfl, rfl⟩ (xpC (xp 2) xpN))) (pg_name (i := 4) sc__law_spanned.nd rfl (by first | exact .inl rfl | exact .inr rfl)) tg_name (s_cons (x_put ⟨rfl, rfl, rfl⟩ hr 2 (PE.p (x_call (c__law_added T) hr (by decide) (xgV (xv 4) (xgV (xv 3) g_nil)))) (ok_C pe_bl rfl)) s_nil)) s_nil)) (s_cons (s_ret (xv 2)) s_nil)))
theorem c__law_equations (T : Tp C.K C.w mg) : Cl C.P C.w C.K mg base C 3 "_law_equations" F__law_equations :=
  cl_okD (F := F__law_equations) rfl T.f__law_equations sc__law_equations rfl rfl fun cdv A outer s H E U r hr =>
    (s_cons (s_if (x_bcm cm_eq (xo_eq hr) (PE.p (x_len T.b_len ⟨rfl, rfl, rfl⟩ (xpC (xp 1) xpN))) (PE.p (ok_C pe_int rfl))) (s_cons (s_ret (ok_tup (xaC (ok_tup (xaC (ok_tup ok_aN) (xaC (ok_C pe_int rfl) ok_aN))) ok_aN))) s_nil) s_nil) (s_cons (x_own 2 sc__law_equations.nd (f_lst ok_aN)) (s_cons (x_for (ok_iSeq rfl (x_sorted hr T.b_sorted ⟨rfl, rfl, rfl⟩ (xpC (PE.p (x_call (c__law_sets T) hr (by decide) (xgV (x_lstRg T.b_list (xr_rng1 T.b_range (xp 0))) g_nil))) xpN))) (pg_name (i := 3) sc__law_equations.nd rfl (by first | exact .inl rfl | exact .inr rfl)) tg_name (s_cons (x_for (ok_iSeq rfl (ok_tup (xaC (ok_C pe_int rfl) (xaC (ok_C pe_int rfl) ok_aN)))) (pg_name (i := 4) sc__law_equations.nd rfl (by first | exact .inl rfl | exact .inr rfl)) tg_name (s_cons (s_if (x_val (x_all T.b_all rfl (xpC (PE.p (x_lc sc__law_equations.nd (show BlkOk N__law_equations _ _ [("row", 6)] from blkOk_by (by kernel_rfl)) (xi_c (ok_iSeq rfl (xv 1))) tg_name (fun _ _ _ _ _ => pg_name (i := 6) sc__law_equations.nd rfl (by first | exact .inl rfl | exact .inr rfl)) (fun _ _ _ _ _ => ts_nil) (fun _ _ _ _ _ => (x_call (c__law_keeps T) hr (by decide) (xgV (xv 6) (xgV (ok_tup (xaC (xv 3) (xaC (xv 4) ok_aN))) g_nil)))))) xpN))) (s_cons (x_setLc sc__law_equations.nd (show BlkOk N__law_equations _ _ [("one", 7)] from blkOk_by (by kernel_rfl)) (xi_peek rfl (xp 2)) tg_name (fun _ _ _ _ _ => pg_name (i := 7) sc__law_equations.nd rfl (by first | exact .inl rfl | exact .inr rfl)) (fun _ _ _ _ _ => ts_nil) (fun _ _ _ _ _ => (x_call (c__law_vector T) hr (by decide) (xgV (xv 7) (xgV (xv 0) g_nil))))) (s_cons (s_if (x_bcm cm_nin (xo_nin hr) (PE.p (x_call (c__law_vector T) hr (by decide) (xgV (ok_tup (xaC (xv 3) (xaC (xv 4) ok_aN))) (xgV (xv 0) g_nil)))) (PE.p (x_call (c__law_spanned T) hr (by decide) (xgV (xv 5) (xgV (xv 0) g_nil))))) (s_cons (x_app 2 (ok_tup (xaC (xv 3) (xaC (xv 4) ok_aN)))) s_nil) s_nil) s_nil)) s_nil) s_nil)) s_nil)) (s_cons (s_ret (x_tuple T.b_tuple rfl (xpC (xp 2) xpN))) s_nil))))
theorem c_rows_keeping (T : Tp C.K C.w mg) : Cl C.P C.w C.K mg base C 7 "rows_keeping" F_rows_keeping :=
  cl_okD (F := F_rows_keeping) rfl T.f_rows_keeping sc_rows_keeping rfl rfl fun cdv A outer s H E U r hr =>
    (s_cons (x_expr (x_call (c_check_places T) hr (by decide) (xgV (xv 0) g_nil))) (s_cons (x_expr (x_call (c_check_equations T) hr (by decide) (xgV (xv 0) (xgV (xv 1) g_nil)))) (s_cons (s_ret (x_tuple T.b_tuple rfl (xpC (PE.p (x_lc sc_rows_keeping.nd (show BlkOk N_rows_keeping _ _ [("row", 2)] from blkOk_by (by kernel_rfl)) (xi_c (ok_iSeq rfl (x_call (c_rows T) hr (by decide) (xgV (xv 0) g_nil)))) tg_name (fun _ _ _ _ _ => pg_name (i := 2) sc_rows_keeping.nd rfl (by first | exact .inl rfl | exact .inr rfl)) (fun _ _ _ _ _ => (ts_one (x_val (x_all T.b_all rfl (xpC (PE.p (x_lc sc_rows_keeping.nd (show BlkOk N_rows_keeping _ _ [("one", 3)] from blkOk_by (by kernel_rfl)) (xi_c (ok_iSeq rfl (xv 1))) tg_name (fun _ _ _ _ _ => pg_name (i := 3) sc_rows_keeping.nd rfl (by first | exact .inl rfl | exact .inr rfl)) (fun _ _ _ _ _ => ts_nil) (fun _ _ _ _ _ => (x_call (c_is_kept T) hr (by decide) (xgV (xv 3) (xgV (xv 2) g_nil)))))) xpN))))) (fun _ _ _ _ _ => (xv 2)))) xpN))) s_nil)))
theorem c_check_operation (T : Tp C.K C.w mg) : Cl C.P C.w C.K mg base C 1 "check_operation" F_check_operation :=
  cl_okD (F := F_check_operation) rfl T.f_check_operation sc_check_operation rfl rfl fun cdv A outer s H E U r hr =>
    (s_cons (s_if ((bt_or (bt_not (x_val (x_is1 T.b_isinstance T.b_str (by decide +kernel) rfl (xp 0)))) (bt_or1 (xb_ninKd rfl T.d_OPERATIONS (xp 0))))).pt (s_cons s_bad s_nil) s_nil) s_nil)
theorem c_kept_by (T : Tp C.K C.w mg) : Cl C.P C.w C.K mg base C 8 "kept_by" F_kept_by :=
  cl_okD (F := F_kept_by) rfl T.f_kept_by sc_kept_by rfl rfl fun cdv A outer s H E U r hr =>
    (s_cons (x_expr (x_call (c_check_relation T) hr (by decide) (xgV (xv 0) (xgV (xv 1) g_nil)))) (s_cons (x_expr (x_call (c_check_operation T) hr (by decide) (xgV (xv 2) g_nil))) (s_cons (s_ret (x_ecm cm_isN op_isN (PE.p (x_call (c_losing T) hr (by decide) (xgV (xv 0) (xgV (xv 1) (xgV (xv 2) g_nil))))) (PE.p (ok_C pe_non rfl)))) s_nil)))
theorem c_come_to_none (T : Tp C.K C.w mg) : Cl C.P C.w C.K mg base C 2 "come_to_none" F_come_to_none :=
  cl_okD (F := F_come_to_none) rfl T.f_come_to_none sc_come_to_none rfl rfl fun cdv A outer s H E U r hr =>
    (s_cons (x_set 2 sc_come_to_none.nd (ok_tup (xaC (ok_tup ok_aN) (xaC (ok_C pe_int rfl) ok_aN)))) (s_cons (x_for (ok_iSeq rfl (xv 1)) (pg_name (i := 3) sc_come_to_none.nd rfl (by first | exact .inl rfl | exact .inr rfl)) tg_name (s_cons (x_set 2 sc_come_to_none.nd (x_call (c_added T) hr (by decide) (xgV (xv 2) (xgV (x_ix ⟨rfl, rfl, rfl⟩ hr (xp 0) (xp 3)) g_nil)))) s_nil)) (s_cons (s_ret (x_ecm cm_eq (xo_eq hr) (xp 2) (PE.p (ok_tup (xaC (ok_tup ok_aN) (xaC (ok_C pe_int rfl) ok_aN)))))) s_nil)))
theorem c_is_summed (T : Tp C.K C.w mg) : Cl C.P C.w C.K mg base C 8 "is_summed" F_is_summed :=
  cl_okD (F := F_is_summed) rfl T.f_is_summed sc_is_summed rfl rfl fun cdv A outer s H E U r hr =>
    (s_cons (x_expr (x_call (c_check_summed T) hr (by decide) (xgV (xv 0) (xgV (xv 1) g_nil)))) (s_cons (s_if ((bt_or (bt_not (x_val (x_call (c_is_tuple T) hr (by decide) (xgV (xv 2) (xgV (ok_C pe_int rfl) (xgV (ok_C pe_int rfl) g_nil)))))) (bt_or1 (bt_not (x_val (x_is1 T.b_isinstance T.b_str (by decide +kernel) rfl (PE.p (x_ix ⟨rfl, rfl, rfl⟩ hr (xp 2) (PE.p (ok_C pe_int rfl)))))))))).pt (s_cons (s_ret (ok_C pe_bl rfl)) s_nil) s_nil) (s_cons (s_if (x_bcm cm_eq (xo_eq hr) (PE.p (x_ix ⟨rfl, rfl, rfl⟩ hr (xp 2) (PE.p (ok_C pe_int rfl)))) (PE.p (ok_C pe_str rfl))) (s_cons (s_ret (be_and (x_call (c_is_row T) hr (by decide) (xgV (xv 0) (xgV (x_ix ⟨rfl, rfl, rfl⟩ hr (xp 2) (PE.p (ok_C pe_int rfl))) g_nil))) (be_one (x_all T.b_all rfl (xpC (PE.p (x_lc sc_is_summed.nd (show BlkOk N_is_summed _ _ [("one", 3)] from blkOk_by (by kernel_rfl)) (xi_c (ok_iSeq rfl (xv 1))) tg_name (fun _ _ _ _ _ => pg_name (i := 3) sc_is_summed.nd rfl (by first | exact .inl rfl | exact .inr rfl)) (fun _ _ _ _ _ => ts_nil) (fun _ _ _ _ _ => (x_call (c_is_kept T) hr (by decide) (xgV (xv 3) (xgV (x_ix ⟨rfl, rfl, rfl⟩ hr (xp 2) (PE.p (ok_C pe_int rfl))) g_nil)))))) xpN))))) s_nil) s_nil) (s_cons (s_ret (be_and (x_ecm cm_eq (xo_eq hr) (PE.p (x_ix ⟨rfl, rfl, rfl⟩ hr (xp 2) (PE.p (ok_C pe_int rfl)))) (PE.p (ok_C pe_str rfl))) (be_and (x_call (c_is_lot_of T) hr (by decide) (xgV (x_len T.b_len ⟨rfl, rfl, rfl⟩ (xpC (xp 1) xpN)) (xgV (x_ix ⟨rfl, rfl, rfl⟩ hr (xp 2) (PE.p (ok_C pe_int rfl))) g_nil))) (be_one (x_call (c_come_to_none T) hr (by decide) (xgV (xv 1) (xgV (x_ix ⟨rfl, rfl, rfl⟩ hr (xp 2) (PE.p (ok_C pe_int rfl))) g_nil))))))) s_nil))))
theorem c__law_none (T : Tp C.K C.w mg) : Cl C.P C.w C.K mg base C 2 "_law_none" F__law_none :=
  cl_okD (F := F__law_none) rfl T.f__law_none sc__law_none rfl rfl fun cdv A outer s H E U r hr =>
    (s_cons (x_set 3 sc__law_none.nd (ok_mul rfl (PE.p (ok_tup (xaC (ok_C pe_int rfl) ok_aN))) (PE.p (ok_add rfl (xp 2) (PE.p (ok_C pe_int rfl)))))) (s_cons (x_for (ok_iSeq rfl (xv 1)) (pg_name (i := 4) sc__law_none.nd rfl (by first | exact .inl rfl | exact .inr rfl)) tg_name (s_cons (x_set 3 sc__law_none.nd (x_call (c__law_added T) hr (by decide) (xgV (xv 3) (xgV (x_call (c__law_vector T) hr (by decide) (xgV (x_ix ⟨rfl, rfl, rfl⟩ hr (xp 0) (xp 4)) (xgV (xv 2) g_nil))) g_nil)))) s_nil)) (s_cons (s_ret (x_ecm cm_eq (xo_eq hr) (xp 3) (PE.p (ok_add rfl (PE.p (ok_mul rfl (PE.p (ok_tup (xaC (ok_C pe_int rfl) ok_aN))) (xp 2))) (PE.p (ok_tup (xaC (ok_C pe_int rfl) ok_aN))))))) s_nil)))
theorem w_law (T : Tp C.K C.w mg) {cdv : Value} {A : Around} {outer : List Env} {s : Shared} {H : Hp} {E : XK} {f : Addr} (hr : Room 10 (A.deeper (envOfC "law" (defScope s_law) s.heap.objs.size f cdv))) (c : Cn) (hC : c.C = C) : PSs (cxOf CX0 C.P C.w C.K mg base N_law "law" (defScope s_law) f cdv A outer s H E).nox ((defBody s_law).drop 1) (LS c m_law) := by
  subst hC
  exact (s_cons (s_if ((bt_or (x_bcm cm_ne (xo_ne hr) (PE.p (x_call (c_equations T) hr (by decide) (xgV (ok_C pe_int rfl) (xgV (ok_tup (xaC (ok_tup (xaC (ok_C pe_int rfl) (xaC (ok_C pe_int rfl) ok_aN))) (xaC (ok_tup (xaC (ok_C pe_int rfl) (xaC (ok_C pe_int rfl) ok_aN))) ok_aN))) g_nil)))) (PE.p (ok_tup (xaC (ok_tup (xaC (ok_tup (xaC (ok_C pe_int rfl) (xaC (ok_C pe_int rfl) ok_aN))) (xaC (ok_C pe_int rfl) ok_aN))) ok_aN)))) (bt_or1 (x_bcm cm_ne (xo_ne hr) (PE.p (x_call (c_equations T) hr (by decide) (xgV (ok_C pe_int rfl) (xgV (ok_tup ok_aN) g_nil)))) (PE.p (ok_tup (xaC (ok_tup (xaC (ok_tup ok_aN) (xaC (ok_C pe_int rfl) ok_aN))) ok_aN))))))).pt (s_cons (s_ret (ok_C pe_bl rfl)) s_nil) s_nil) (s_cons (s_if (x_bcm cm_ne (xo_ne hr) (PE.p (x_call (c_summed T) hr (by decide) (xgV (ok_C pe_int rfl) (xgV (ok_tup (xaC (ok_tup (xaC (ok_tup (xaC (ok_C pe_int rfl) ok_aN)) (xaC (ok_C pe_int rfl) ok_aN))) (xaC (ok_tup (xaC (ok_tup (xaC (ok_C pe_int rfl) (xaC (ok_C pe_int rfl) ok_aN))) (xaC (ok_C pe_int rfl) ok_aN))) (xaC (ok_tup (xaC (ok_tup (xaC (ok_C pe_int rfl) ok_aN)) (xaC (ok_C pe_int rfl) ok_aN))) ok_aN)))) g_nil)))) (PE.p (ok_tup (xaC (ok_C pe_str rfl) (xaC (ok_tup (xaC (ok_C pe_int rfl) (xaC (ok_C pe_int rfl) (xaC (ok_C pe_int rfl) ok_aN)))) ok_aN))))) (s_cons (s_ret (ok_C pe_bl rfl)) s_nil) s_nil) (s_cons (x_for (xi_rng1 T.b_range (PE.p (ok_C pe_int rfl))) (pg_name (i := 2) sc_law.nd rfl (by first | exact .inl rfl | exact .inr rfl)) tg_name (s_cons (x_set 6 sc_law.nd (ok_add rfl (PE.p (ok_C pe_int rfl)) (PE.p (x_call (c__law_draw T) hr (by decide) (xgV (xv 1) (xgV (ok_C pe_int rfl) g_nil)))))) (s_cons (x_set 7 sc_law.nd (x_call (c__law_relation T) hr (by decide) (xgV (xv 1) (xgV (xv 6) g_nil)))) (s_cons (x_set 8 sc_law.nd (x_call (c_equations T) hr (by decide) (xgV (xv 6) (xgV (xv 7) g_nil)))) (s_cons (x_set 9 sc_law.nd (x_tuple T.b_tuple rfl (xpC (PE.p (x_lc sc_law.nd (show BlkOk N_law _ _ [("row", 14)] from blkOk_by (by kernel_rfl)) (xi_c (ok_iSeq rfl (x_call (c__law_rows T) hr (by decide) (xgV (xv 6) g_nil)))) tg_name (fun _ _ _ _ _ => pg_name (i := 14) sc_law.nd rfl (by first | exact .inl rfl | exact .inr rfl)) (fun _ _ _ _ _ => (ts_one (x_val (x_all T.b_all rfl (xpC (PE.p (x_lc sc_law.nd (show BlkOk N_law _ _ [("one", 21)] from blkOk_by (by kernel_rfl)) (xi_c (ok_iSeq rfl (xv 8))) tg_name (fun _ _ _ _ _ => pg_name (i := 21) sc_law.nd rfl (by first | exact .inl rfl | exact .inr rfl)) (fun _ _ _ _ _ => ts_nil) (fun _ _ _ _ _ => (x_call (c__law_keeps T) hr (by decide) (xgV (xv 14) (xgV (xv 21) g_nil)))))) xpN))))) (fun _ _ _ _ _ => (xv 14)))) xpN))) (s_cons (s_if ((bt_or (x_bcm cm_ne (xo_ne hr) (xp 8) (PE.p (x_call (c__law_equations T) hr (by decide) (xgV (xv 6) (xgV (xv 7) g_nil))))) (bt_or1 (x_bcm cm_ne (xo_ne hr) (PE.p (x_call (c_rows_keeping T) hr (by decide) (xgV (xv 6) (xgV (xv 8) g_nil)))) (xp 9))))).pt (s_cons (s_ret (ok_C pe_bl rfl)) s_nil) s_nil) (s_cons (s_if ((bt_and (x_bcm cm_gt (xo_gt hr) (PE.p (x_len T.b_len ⟨rfl, rfl, rfl⟩ (xpC (xp 7) xpN))) (PE.p (ok_C pe_int rfl))) (bt_and1 (x_bcm cm_ne (xo_ne hr) (PE.p (x_ecm cm_eq (xo_eq hr) (xp 9) (xp 7))) (PE.p (x_call (c_kept_by T) hr (by decide) (xgV (xv 6) (xgV (xv 7) (xgV (ok_C pe_str rfl) g_nil))))))))).pt (s_cons (s_ret (ok_C pe_bl rfl)) s_nil) s_nil) (s_cons (x_set 10 sc_law.nd (ok_add rfl (PE.p (ok_C pe_int rfl)) (PE.p (x_call (c__law_draw T) hr (by decide) (xgV (xv 1) (xgV (ok_C pe_int rfl) g_nil)))))) (s_cons (x_parT (is := [19, 20]) rfl (xhV (x_call (c__law_sets T) hr (by decide) (xgV (x_lstRg T.b_list (xr_rng1 T.b_range (xp 10))) g_nil)) (xhO (f_lst ok_aN) h_nil)) (pgs_cons (pg_name (i := 19) sc_law.nd rfl (by first | exact .inl rfl | exact .inr rfl)) (pgs_cons (pg_name (i := 20) sc_law.nd rfl (by first | exact .inl rfl | exact .inr rfl)) pgs_nil))) (s_cons (x_for (xi_rng1 T.b_range (PE.p (x_call (c__law_draw T) hr (by decide) (xgV (xv 1) (xgV (ok_C pe_int rfl) g_nil))))) (pg_name (i := 3) sc_law.nd rfl (by first | exact .inl rfl | exact .inr rfl)) tg_name (s_cons (x_app 20 (ok_tup (xaC (x_call (c__law_any T) hr (by decide) (xgV (xv 1) (xgV (xv 19) g_nil))) (xaC (x_call (c__law_draw T) hr (by decide) (xgV (xv 1) (xgV (ok_C pe_int rfl) g_nil))) ok_aN)))) s_nil)) (s_cons (x_setLc sc_law.nd (show BlkOk N_law _ _ [("row", 14)] from blkOk_by (by kernel_rfl)) (xi_c (ok_iSeq rfl (x_call (c__law_rows T) hr (by decide) (xgV (xv 10) g_nil)))) tg_name (fun _ _ _ _ _ => pg_name (i := 14) sc_law.nd rfl (by first | exact .inl rfl | exact .inr rfl)) (fun _ _ _ _ _ => (ts_one (x_val (x_all T.b_all rfl (xpC (PE.p (x_lc sc_law.nd (show BlkOk N_law _ _ [("one", 21)] from blkOk_by (by kernel_rfl)) (xi_peek rfl (xp 20)) tg_name (fun _ _ _ _ _ => pg_name (i := 21) sc_law.nd rfl (by first | exact .inl rfl | exact .inr rfl)) (fun _ _ _ _ _ => ts_nil) (fun _ _ _ _ _ => (x_call (c__law_keeps T) hr (by decide) (xgV (xv 14) (xgV (xv 21) g_nil)))))) xpN))))) (fun _ _ _ _ _ => (xv 14))) (s_cons (x_set 12 sc_law.nd (x_call (c_summed T) hr (by decide) (xgV (xv 10) (xgV (x_tuple T.b_tuple rfl (xpC (xp 20) xpN)) g_nil)))) (s_cons (s_if ((bt_and (x_bcm cm_gt (xo_gt hr) (PE.p (x_len T.b_len ⟨rfl, rfl, rfl⟩ (xpC (xp 11) xpN))) (PE.p (ok_C pe_int rfl))) (bt_and1 (x_bcm cm_ne (xo_ne hr) (xp 12) (PE.p (ok_tup (xaC (ok_C pe_str rfl) (xaC (x_ix ⟨rfl, rfl, rfl⟩ hr (xp 11) (PE.p (ok_C pe_int rfl))) ok_aN)))))))).pt (s_cons (s_ret (ok_C pe_bl rfl)) s_nil) s_nil) (s_cons (s_if ((bt_and (x_bcm cm_eq (xo_eq hr) (PE.p (x_len T.b_len ⟨rfl, rfl, rfl⟩ (xpC (xp 11) xpN))) (PE.p (ok_C pe_int rfl))) (bt_and1 ((bt_or (x_bcm cm_ne (xo_ne hr) (PE.p (x_ix ⟨rfl, rfl, rfl⟩ hr (xp 12) (PE.p (ok_C pe_int rfl)))) (PE.p (ok_C pe_str rfl))) (bt_or1 (bt_not (x_val (x_call (c__law_none T) hr (by decide) (xgL (xp 20) (xgV (x_ix ⟨rfl, rfl, rfl⟩ hr (xp 12) (PE.p (ok_C pe_int rfl))) (xgV (xv 10) g_nil))))))))).pt))).pt (s_cons (s_ret (ok_C pe_bl rfl)) s_nil) s_nil) (s_cons (x_set 13 sc_law.nd (x_call (c__law_any T) hr (by decide) (xgV (xv 1) (xgV (x_call (c__law_sets T) hr (by decide) (xgV (x_lstRg T.b_list (xr_rng1 T.b_range (PE.p (x_len T.b_len ⟨rfl, rfl, rfl⟩ (xpC (xp 20) xpN))))) g_nil)) g_nil)))) (s_cons (s_if (bt_not (x_val (x_call (c__law_is T) hr (by decide) (xgV (x_call (c_is_summed T) hr (by decide) (xgV (xv 10) (xgV (x_tuple T.b_tuple rfl (xpC (xp 20) xpN)) (xgV (ok_tup (xaC (ok_C pe_str rfl) (xaC (xv 13) ok_aN))) g_nil)))) (xgV (x_call (c__law_none T) hr (by decide) (xgL (xp 20) (xgV (xv 13) (xgV (xv 10) g_nil)))) g_nil))))) (s_cons (s_ret (ok_C pe_bl rfl)) s_nil) s_nil) (s_cons (x_set 14 sc_law.nd (x_call (c__law_any T) hr (by decide) (xgV (xv 1) (xgV (x_call (c__law_rows T) hr (by decide) (xgV (xv 10) g_nil)) g_nil)))) (s_cons (s_if (bt_not (x_val (x_call (c__law_is T) hr (by decide) (xgV (x_call (c_is_summed T) hr (by decide) (xgV (xv 10) (xgV (x_tuple T.b_tuple rfl (xpC (xp 20) xpN)) (xgV (ok_tup (xaC (ok_C pe_str rfl) (xaC (xv 14) ok_aN))) g_nil)))) (xgV (x_ecm cm_in (xo_in hr) (xp 14) (xp 11)) g_nil))))) (s_cons (s_ret (ok_C pe_bl rfl)) s_nil) s_nil) s_nil)))))))))))))))))) (s_cons (x_parT (is := [15, 16]) rfl (xhV (ok_add rfl (PE.p (ok_C pe_int rfl)) (PE.p (x_call (c__law_draw T) hr (by decide) (xgV (xv 1) (xgV (ok_C pe_int rfl) g_nil))))) (xhO (f_lst ok_aN) h_nil)) (pgs_cons (pg_name (i := 15) sc_law.nd rfl (by first | exact .inl rfl | exact .inr rfl)) (pgs_cons (pg_name (i := 16) sc_law.nd rfl (by first | exact .inl rfl | exact .inr rfl)) pgs_nil))) (s_cons (x_for (xi_rng1 T.b_range (PE.p (ok_C pe_int rfl))) (pg_name (i := 3) sc_law.nd rfl (by first | exact .inl rfl | exact .inr rfl)) tg_name (s_cons (x_set 17 sc_law.nd (ok_add rfl (PE.p (ok_C pe_int rfl)) (PE.p (x_call (c__law_draw T) hr (by decide) (xgV (xv 1) (xgV (ok_C pe_int rfl) g_nil)))))) (s_cons (x_app 16 (ok_tup (xaC (xv 17) (xaC (x_call (c_closed T) hr (by decide) (xgV (xv 17) (xgV (x_call (c__law_relation T) hr (by decide) (xgV (xv 1) (xgV (xv 17) g_nil))) (xgV (ok_lst (xaC (ok_C pe_str rfl) ok_aN)) g_nil)))) ok_aN)))) s_nil))) (s_cons (x_own 4 sc_law.nd (f_lst ok_aN)) (s_cons (x_for (xi_rng1 T.b_range (PE.p (ok_add rfl (PE.p (ok_C pe_int rfl)) (PE.p (x_call (c__law_draw T) hr (by decide) (xgV (xv 1) (xgV (ok_C pe_int rfl) g_nil))))))) (pg_name (i := 3) sc_law.nd rfl (by first | exact .inl rfl | exact .inr rfl)) tg_name (s_cons (x_set 18 sc_law.nd (x_call (c__law_draw T) hr (by decide) (xgV (xv 1) (xgV (ok_C pe_int rfl) g_nil)))) (s_cons (x_app 4 (ok_tup (xaC (xv 18) (xaC (x_tuple T.b_tuple rfl (xpC (PE.p (x_lc sc_law.nd (show BlkOk N_law _ _ [("place", 22)] from blkOk_by (by kernel_rfl)) (xi_c (xi_rng1 T.b_range (PE.p (x_ix ⟨rfl, rfl, rfl⟩ hr (PE.p (x_ix ⟨rfl, rfl, rfl⟩ hr (xp 16) (xp 18))) (PE.p (ok_C pe_int rfl)))))) tg_name (fun _ _ _ _ _ => pg_name (i := 22) sc_law.nd rfl (by first | exact .inl rfl | exact .inr rfl)) (fun _ _ _ _ _ => ts_nil) (fun _ _ _ _ _ => (x_call (c__law_draw T) hr (by decide) (xgV (xv 1) (xgV (xv 15) g_nil)))))) xpN)) ok_aN)))) s_nil))) (s_cons (x_set 5 sc_law.nd (ok_tup (xaC (xv 15) (xaC (x_tuple T.b_tuple rfl (xpC (xp 16) xpN)) (xaC (x_tuple T.b_tuple rfl (xpC (xp 4) xpN)) ok_aN))))) (s_cons (x_parT (is := [11, 8]) rfl (xhV (x_call (c_answers T) hr (by decide) (xgV (xv 5) g_nil)) (xhV (x_call (c_by_sums T) hr (by decide) (xgV (xv 5) g_nil)) h_nil)) (pgs_cons (pg_name (i := 11) sc_law.nd rfl (by first | exact .inl rfl | exact .inr rfl)) (pgs_cons (pg_name (i := 8) sc_law.nd rfl (by first | exact .inl rfl | exact .inr rfl)) pgs_nil))) (s_cons (s_ret (be_if (x_bcm cm_gt (xo_gt hr) (PE.p (x_len T.b_len ⟨rfl, rfl, rfl⟩ (xpC (xp 11) xpN))) (PE.p (ok_C pe_int rfl))) (x_ecm cm_eq (xo_eq hr) (xp 8) (PE.p (ok_tup (xaC (ok_C pe_str rfl) (xaC (x_ix ⟨rfl, rfl, rfl⟩ hr (xp 11) (PE.p (ok_C pe_int rfl))) ok_aN))))) (x_ecm cm_eq (xo_eq hr) (PE.p (x_ix ⟨rfl, rfl, rfl⟩ hr (xp 8) (PE.p (ok_C pe_int rfl)))) (PE.p (ok_C pe_str rfl))))) s_nil))))))))))
end
end Law84
namespace Law84
open PySem PySem.Spec PyProof.Rows L2 Q
theorem sc__law_hand : FnScope ["script", "cells", "cell"] ["script"] (defScope s__law_hand) := ⟨rfl, rfl, rfl, by decide +kernel, rfl, by decide +kernel, by decide +kernel⟩
def n4 (n : Nat) : Int := 7 + (n : Int)
section
variable {mg : Str → Option Value} {base : Heap} {C : RC}
theorem hand_w (T : Tp C.K C.w mg) : ClH C.P C.w C.K mg base n4 := hand_ok T.f__law_hand sc__law_hand (t4 := tOp (rI0 fun i j => .int (i + j)) (tC (.int 7)) (tLen1 C.K)) (fun σ H q c ys e sq k => ⟨.ref c, e, c, ys, rfl, .inl sq, 7, _, rfl, rfl, k⟩) fun cdv A outer s H E =>
  pss_cons (ps_setLc (own := [("cell", 2)]) rfl sc__law_hand.nd rfl rfl (sw_true rfl rfl rfl (by decide +kernel)) (pi_list (pe_slice sl_list (pv 0) po_none (po_some pe_int))) (show BlkOk ["script", "cells", "cell"] _ _ [("cell", 2)] from blkOk_by (by kernel_rfl)) (fun _ _ _ _ _ => pg_name (i := 2) sc__law_hand.nd rfl (.inl rfl)) (fun _ _ _ _ _ => pts_nil)
    (fun _ _ _ _ _ => pe_callB call_abs (by rfl) T.b_abs (by decide +kernel) (pa_cons (pe_callTy call_int1 (by rfl) T.b_int (by decide +kernel) (pa_cons (pv 2) pa_nil)) pa_nil)))
  (pss_cons (ps_ret (pe_lst (pa_cons (pv 1) (pa_cons pe_int (pa_cons pe_int (pa_cons (pe_op op_add pe_int (pe_callB call_len_seq (by rfl) T.b_len PySem.boot_len (pa_cons (pv 1) pa_nil))) (pa_cons pe_int pa_nil))))))) pss_nil)
theorem law_fn (T : Tp C.K C.w mg) {f : Addr} {fd : FuncData} (G : Fun C.K "law" "law" s_law f fd) (plain : ∀ ns : List Int, ns.length ≤ 63 → ∃ S', m_law (fr0 23 1) [hand0 n4 ns] = .rt (.bl true) S') : FnOk C.P C.w C.K mg base CX0 11 f fd ["script"] (spLaw C.K) :=
  law_ok (m := m_law) (k := 10) G sc_law rfl (by decide) (hand_w T) (fun cdv A outer s H E hr => by
    obtain ⟨fh, fdh, psh, Gh, gm, kp, b⟩ := (hand_w (base := base) T).ex
    exact pss_cons (ps_set (i := 1) sc_law.nd rfl (by first | exact .inl rfl | exact .inr rfl) (pe_call Gh (hr.mono (by decide)) (by rfl) gm kp b .nil pass0 (pa_cons (pv 0) pa_nil))) (pss_x fun c hC => w_law T hr c hC)) plain
end
theorem all_mk (plain : ∀ ns : List Int, ns.length ≤ 63 → ∃ S', m_law (fr0 23 1) [hand0 n4 ns] = .rt (.bl true) S') {l : PySem.W.OpenLaw} {w : World} {K : PySem.W.Frag} {h : Heap} {mg : Str → Option Value} {fa : Addr} (X : K.In h) (G : h.Ns mainGlobals mg) (hfa : mg "law" = some (.ref fa))
    {f_is_tuple : Addr} {od_is_tuple an_is_tuple : Option Addr} {sl_is_tuple : Array (Option Value)} {oc_is_tuple kV_is_tuple dc_is_tuple pm_is_tuple cd_is_tuple ct_is_tuple : Value}
    {f_is_integer : Addr} {od_is_integer an_is_integer : Option Addr} {sl_is_integer : Array (Option Value)} {oc_is_integer kV_is_integer dc_is_integer pm_is_integer cd_is_integer ct_is_integer : Value}
    {f_is_within : Addr} {od_is_within an_is_within : Option Addr} {sl_is_within : Array (Option Value)} {oc_is_within kV_is_within dc_is_within pm_is_within cd_is_within ct_is_within : Value}
    {f_is_lot : Addr} {od_is_lot an_is_lot : Option Addr} {sl_is_lot : Array (Option Value)} {oc_is_lot kV_is_lot dc_is_lot pm_is_lot cd_is_lot ct_is_lot : Value}
    {f_is_lot_of : Addr} {od_is_lot_of an_is_lot_of : Option Addr} {sl_is_lot_of : Array (Option Value)} {oc_is_lot_of kV_is_lot_of dc_is_lot_of pm_is_lot_of cd_is_lot_of ct_is_lot_of : Value}
    {f_is_bit : Addr} {od_is_bit an_is_bit : Option Addr} {sl_is_bit : Array (Option Value)} {oc_is_bit kV_is_bit dc_is_bit pm_is_bit cd_is_bit ct_is_bit : Value}
    {f_is_equation : Addr} {od_is_equation an_is_equation : Option Addr} {sl_is_equation : Array (Option Value)} {oc_is_equation kV_is_equation dc_is_equation pm_is_equation cd_is_equation ct_is_equation : Value}
    {f_check_equations : Addr} {od_check_equations an_check_equations : Option Addr} {sl_check_equations : Array (Option Value)} {oc_check_equations kV_check_equations dc_check_equations pm_check_equations cd_check_equations ct_check_equations : Value}
    {f_is_count : Addr} {od_is_count an_is_count : Option Addr} {sl_is_count : Array (Option Value)} {oc_is_count kV_is_count dc_is_count pm_is_count cd_is_count ct_is_count : Value}
    {f_letters_six : Addr} {od_letters_six an_letters_six : Option Addr} {sl_letters_six : Array (Option Value)} {oc_letters_six kV_letters_six dc_letters_six pm_letters_six cd_letters_six ct_letters_six : Value}
    {f_check_summed : Addr} {od_check_summed an_check_summed : Option Addr} {sl_check_summed : Array (Option Value)} {oc_check_summed kV_check_summed dc_check_summed pm_check_summed cd_check_summed ct_check_summed : Value}
    {f_added : Addr} {od_added an_added : Option Addr} {sl_added : Array (Option Value)} {oc_added kV_added dc_added pm_added cd_added ct_added : Value}
    {f_odd_ones : Addr} {od_odd_ones an_odd_ones : Option Addr} {sl_odd_ones : Array (Option Value)} {oc_odd_ones kV_odd_ones dc_odd_ones pm_odd_ones cd_odd_ones ct_odd_ones : Value}
    {f_reduced : Addr} {od_reduced an_reduced : Option Addr} {sl_reduced : Array (Option Value)} {oc_reduced kV_reduced dc_reduced pm_reduced cd_reduced ct_reduced : Value}
    {f_rows : Addr} {od_rows an_rows : Option Addr} {sl_rows : Array (Option Value)} {oc_rows kV_rows dc_rows pm_rows cd_rows ct_rows : Value}
    {f_is_kept : Addr} {od_is_kept an_is_kept : Option Addr} {sl_is_kept : Array (Option Value)} {oc_is_kept kV_is_kept dc_is_kept pm_is_kept cd_is_kept ct_is_kept : Value}
    {f_solved_by_sums : Addr} {od_solved_by_sums an_solved_by_sums : Option Addr} {sl_solved_by_sums : Array (Option Value)} {oc_solved_by_sums kV_solved_by_sums dc_solved_by_sums pm_solved_by_sums cd_solved_by_sums ct_solved_by_sums : Value}
    {f_summed : Addr} {od_summed an_summed : Option Addr} {sl_summed : Array (Option Value)} {oc_summed kV_summed dc_summed pm_summed cd_summed ct_summed : Value}
    {f__law_draw : Addr} {od__law_draw an__law_draw : Option Addr} {sl__law_draw : Array (Option Value)} {oc__law_draw kV__law_draw dc__law_draw pm__law_draw cd__law_draw ct__law_draw : Value}
    {f_is_places : Addr} {od_is_places an_is_places : Option Addr} {sl_is_places : Array (Option Value)} {oc_is_places kV_is_places dc_is_places pm_is_places cd_is_places ct_is_places : Value}
    {f_check_places : Addr} {od_check_places an_check_places : Option Addr} {sl_check_places : Array (Option Value)} {oc_check_places kV_check_places dc_check_places pm_check_places cd_check_places ct_check_places : Value}
    {f_are_bits : Addr} {od_are_bits an_are_bits : Option Addr} {sl_are_bits : Array (Option Value)} {oc_are_bits kV_are_bits dc_are_bits pm_are_bits cd_are_bits ct_are_bits : Value}
    {f_is_row : Addr} {od_is_row an_is_row : Option Addr} {sl_is_row : Array (Option Value)} {oc_is_row kV_is_row dc_is_row pm_is_row cd_is_row ct_is_row : Value}
    {f_are_rows : Addr} {od_are_rows an_are_rows : Option Addr} {sl_are_rows : Array (Option Value)} {oc_are_rows kV_are_rows dc_are_rows pm_are_rows cd_are_rows ct_are_rows : Value}
    {f_check_relation : Addr} {od_check_relation an_check_relation : Option Addr} {sl_check_relation : Array (Option Value)} {oc_check_relation kV_check_relation dc_check_relation pm_check_relation cd_check_relation ct_check_relation : Value}
    {f_check_words : Addr} {od_check_words an_check_words : Option Addr} {sl_check_words : Array (Option Value)} {oc_check_words kV_check_words dc_check_words pm_check_words cd_check_words ct_check_words : Value}
    {f_tuples_of : Addr} {od_tuples_of an_tuples_of : Option Addr} {sl_tuples_of : Array (Option Value)} {oc_tuples_of kV_tuples_of dc_tuples_of pm_tuples_of cd_tuples_of ct_tuples_of : Value}
    {f_told_by : Addr} {od_told_by an_told_by : Option Addr} {sl_told_by : Array (Option Value)} {oc_told_by kV_told_by dc_told_by pm_told_by cd_told_by ct_told_by : Value}
    {f_with_told : Addr} {od_with_told an_with_told : Option Addr} {sl_with_told : Array (Option Value)} {oc_with_told kV_with_told dc_with_told pm_with_told cd_with_told ct_with_told : Value}
    {f_closed : Addr} {od_closed an_closed : Option Addr} {sl_closed : Array (Option Value)} {oc_closed kV_closed dc_closed pm_closed cd_closed ct_closed : Value}
    {f__law_rows : Addr} {od__law_rows an__law_rows : Option Addr} {sl__law_rows : Array (Option Value)} {oc__law_rows kV__law_rows dc__law_rows pm__law_rows cd__law_rows ct__law_rows : Value}
    {f__law_relation : Addr} {od__law_relation an__law_relation : Option Addr} {sl__law_relation : Array (Option Value)} {oc__law_relation kV__law_relation dc__law_relation pm__law_relation cd__law_relation ct__law_relation : Value}
    {f_sets_within : Addr} {od_sets_within an_sets_within : Option Addr} {sl_sets_within : Array (Option Value)} {oc_sets_within kV_sets_within dc_sets_within pm_sets_within cd_sets_within ct_sets_within : Value}
    {f_kept_equations : Addr} {od_kept_equations an_kept_equations : Option Addr} {sl_kept_equations : Array (Option Value)} {oc_kept_equations kV_kept_equations dc_kept_equations pm_kept_equations cd_kept_equations ct_kept_equations : Value}
    {f_equations_of : Addr} {od_equations_of an_equations_of : Option Addr} {sl_equations_of : Array (Option Value)} {oc_equations_of kV_equations_of dc_equations_of pm_equations_of cd_equations_of ct_equations_of : Value}
    {f_equations : Addr} {od_equations an_equations : Option Addr} {sl_equations : Array (Option Value)} {oc_equations kV_equations dc_equations pm_equations cd_equations ct_equations : Value}
    {f__law_any : Addr} {od__law_any an__law_any : Option Addr} {sl__law_any : Array (Option Value)} {oc__law_any kV__law_any dc__law_any pm__law_any cd__law_any ct__law_any : Value}
    {f_is_demand : Addr} {od_is_demand an_is_demand : Option Addr} {sl_is_demand : Array (Option Value)} {oc_is_demand kV_is_demand dc_is_demand pm_is_demand cd_is_demand ct_is_demand : Value}
    {f_is_told : Addr} {od_is_told an_is_told : Option Addr} {sl_is_told : Array (Option Value)} {oc_is_told kV_is_told dc_is_told pm_is_told cd_is_told ct_is_told : Value}
    {f_is_puzzle : Addr} {od_is_puzzle an_is_puzzle : Option Addr} {sl_is_puzzle : Array (Option Value)} {oc_is_puzzle kV_is_puzzle dc_is_puzzle pm_is_puzzle cd_is_puzzle ct_is_puzzle : Value}
    {f_check_puzzle : Addr} {od_check_puzzle an_check_puzzle : Option Addr} {sl_check_puzzle : Array (Option Value)} {oc_check_puzzle kV_check_puzzle dc_check_puzzle pm_check_puzzle cd_check_puzzle ct_check_puzzle : Value}
    {f_is_met : Addr} {od_is_met an_is_met : Option Addr} {sl_is_met : Array (Option Value)} {oc_is_met kV_is_met dc_is_met pm_is_met cd_is_met ct_is_met : Value}
    {f_answers_it : Addr} {od_answers_it an_answers_it : Option Addr} {sl_answers_it : Array (Option Value)} {oc_answers_it kV_answers_it dc_answers_it pm_answers_it cd_answers_it ct_answers_it : Value}
    {f_all_answers : Addr} {od_all_answers an_all_answers : Option Addr} {sl_all_answers : Array (Option Value)} {oc_all_answers kV_all_answers dc_all_answers pm_all_answers cd_all_answers ct_all_answers : Value}
    {f_answers : Addr} {od_answers an_answers : Option Addr} {sl_answers : Array (Option Value)} {oc_answers kV_answers dc_answers pm_answers cd_answers ct_answers : Value}
    {f_losing : Addr} {od_losing an_losing : Option Addr} {sl_losing : Array (Option Value)} {oc_losing kV_losing dc_losing pm_losing cd_losing ct_losing : Value}
    {f_easy_words : Addr} {od_easy_words an_easy_words : Option Addr} {sl_easy_words : Array (Option Value)} {oc_easy_words kV_easy_words dc_easy_words pm_easy_words cd_easy_words ct_easy_words : Value}
    {f_put_at : Addr} {od_put_at an_put_at : Option Addr} {sl_put_at : Array (Option Value)} {oc_put_at kV_put_at dc_put_at pm_put_at cd_put_at ct_put_at : Value}
    {f_by_sums : Addr} {od_by_sums an_by_sums : Option Addr} {sl_by_sums : Array (Option Value)} {oc_by_sums kV_by_sums dc_by_sums pm_by_sums cd_by_sums ct_by_sums : Value}
    {f__law_sets : Addr} {od__law_sets an__law_sets : Option Addr} {sl__law_sets : Array (Option Value)} {oc__law_sets kV__law_sets dc__law_sets pm__law_sets cd__law_sets ct__law_sets : Value}
    {f__law_is : Addr} {od__law_is an__law_is : Option Addr} {sl__law_is : Array (Option Value)} {oc__law_is kV__law_is dc__law_is pm__law_is cd__law_is ct__law_is : Value}
    {f__law_keeps : Addr} {od__law_keeps an__law_keeps : Option Addr} {sl__law_keeps : Array (Option Value)} {oc__law_keeps kV__law_keeps dc__law_keeps pm__law_keeps cd__law_keeps ct__law_keeps : Value}
    {f__law_vector : Addr} {od__law_vector an__law_vector : Option Addr} {sl__law_vector : Array (Option Value)} {oc__law_vector kV__law_vector dc__law_vector pm__law_vector cd__law_vector ct__law_vector : Value}
    {f__law_added : Addr} {od__law_added an__law_added : Option Addr} {sl__law_added : Array (Option Value)} {oc__law_added kV__law_added dc__law_added pm__law_added cd__law_added ct__law_added : Value}
    {f__law_spanned : Addr} {od__law_spanned an__law_spanned : Option Addr} {sl__law_spanned : Array (Option Value)} {oc__law_spanned kV__law_spanned dc__law_spanned pm__law_spanned cd__law_spanned ct__law_spanned : Value}
    {f__law_equations : Addr} {od__law_equations an__law_equations : Option Addr} {sl__law_equations : Array (Option Value)} {oc__law_equations kV__law_equations dc__law_equations pm__law_equations cd__law_equations ct__law_equations : Value}
    {f_rows_keeping : Addr} {od_rows_keeping an_rows_keeping : Option Addr} {sl_rows_keeping : Array (Option Value)} {oc_rows_keeping kV_rows_keeping dc_rows_keeping pm_rows_keeping cd_rows_keeping ct_rows_keeping : Value}
    {f_check_operation : Addr} {od_check_operation an_check_operation : Option Addr} {sl_check_operation : Array (Option Value)} {oc_check_operation kV_check_operation dc_check_operation pm_check_operation cd_check_operation ct_check_operation : Value}
    {f_kept_by : Addr} {od_kept_by an_kept_by : Option Addr} {sl_kept_by : Array (Option Value)} {oc_kept_by kV_kept_by dc_kept_by pm_kept_by cd_kept_by ct_kept_by : Value}
    {f_come_to_none : Addr} {od_come_to_none an_come_to_none : Option Addr} {sl_come_to_none : Array (Option Value)} {oc_come_to_none kV_come_to_none dc_come_to_none pm_come_to_none cd_come_to_none ct_come_to_none : Value}
    {f_is_summed : Addr} {od_is_summed an_is_summed : Option Addr} {sl_is_summed : Array (Option Value)} {oc_is_summed kV_is_summed dc_is_summed pm_is_summed cd_is_summed ct_is_summed : Value}
    {f__law_none : Addr} {od__law_none an__law_none : Option Addr} {sl__law_none : Array (Option Value)} {oc__law_none kV__law_none dc__law_none pm__law_none cd__law_none ct__law_none : Value}
    {f__law_hand : Addr} {od__law_hand an__law_hand : Option Addr} {sl__law_hand : Array (Option Value)} {oc__law_hand kV__law_hand dc__law_hand pm__law_hand cd__law_hand ct__law_hand : Value}
    {f_law : Addr} {od_law an_law : Option Addr} {sl_law : Array (Option Value)} {oc_law kV_law dc_law pm_law cd_law ct_law : Value}
    {ct_MOST_DEMANDS : Tok}
    {ct_MOST_EQUATIONS : Tok}
    {ct_MOST_LETTERS : Tok}
    {ct_MOST_PLACES : Tok}
    {ct_MOST_PUZZLED : Tok}
    {ct_MOST_RELATIONS : Tok}
    {t_NAMES : Addr} {td_NAMES : Option Addr} {ti_NAMES : Array Value} {tn_NAMES : Nat} {ts_NAMES : Array (Option Value)}
    {d_OPERATIONS_a : Addr} {es_OPERATIONS : Array DictEntry} {dn_OPERATIONS : Nat}
    {ct_OPERATIONS_0 : Tok}
    {ct_OPERATIONS_1 : Tok}
    {ct_OPERATIONS_2 : Tok}
    {ct_OPERATIONS_3 : Tok}
    {ct_OPERATIONS_4 : Tok}
    {ct_OPERATIONS_5 : Tok}
    (a_is_tuple : PySem.W.nsIn K mainGlobals "is_tuple" = some (some (.ref f_is_tuple))) (l_is_tuple : K.lookup f_is_tuple = some ⟨oc_is_tuple, od_is_tuple, .func (PySem.W.fnOf "is_tuple" "is_tuple" (defArgs s_is_tuple) (defBody s_is_tuple) (defScope s_is_tuple) .none kV_is_tuple dc_is_tuple pm_is_tuple an_is_tuple cd_is_tuple ct_is_tuple), sl_is_tuple⟩) (c_is_tuple : PySem.W.codeIn K cd_is_tuple "is_tuple" = true) (k_is_tuple : PySem.W.keepIn K (.ref f_is_tuple) = true)
    (a_is_integer : PySem.W.nsIn K mainGlobals "is_integer" = some (some (.ref f_is_integer))) (l_is_integer : K.lookup f_is_integer = some ⟨oc_is_integer, od_is_integer, .func (PySem.W.fnOf "is_integer" "is_integer" (defArgs s_is_integer) (defBody s_is_integer) (defScope s_is_integer) .none kV_is_integer dc_is_integer pm_is_integer an_is_integer cd_is_integer ct_is_integer), sl_is_integer⟩) (c_is_integer : PySem.W.codeIn K cd_is_integer "is_integer" = true) (k_is_integer : PySem.W.keepIn K (.ref f_is_integer) = true)
    (a_is_within : PySem.W.nsIn K mainGlobals "is_within" = some (some (.ref f_is_within))) (l_is_within : K.lookup f_is_within = some ⟨oc_is_within, od_is_within, .func (PySem.W.fnOf "is_within" "is_within" (defArgs s_is_within) (defBody s_is_within) (defScope s_is_within) .none kV_is_within dc_is_within pm_is_within an_is_within cd_is_within ct_is_within), sl_is_within⟩) (c_is_within : PySem.W.codeIn K cd_is_within "is_within" = true) (k_is_within : PySem.W.keepIn K (.ref f_is_within) = true)
    (a_is_lot : PySem.W.nsIn K mainGlobals "is_lot" = some (some (.ref f_is_lot))) (l_is_lot : K.lookup f_is_lot = some ⟨oc_is_lot, od_is_lot, .func (PySem.W.fnOf "is_lot" "is_lot" (defArgs s_is_lot) (defBody s_is_lot) (defScope s_is_lot) .none kV_is_lot dc_is_lot pm_is_lot an_is_lot cd_is_lot ct_is_lot), sl_is_lot⟩) (c_is_lot : PySem.W.codeIn K cd_is_lot "is_lot" = true) (k_is_lot : PySem.W.keepIn K (.ref f_is_lot) = true)
    (a_is_lot_of : PySem.W.nsIn K mainGlobals "is_lot_of" = some (some (.ref f_is_lot_of))) (l_is_lot_of : K.lookup f_is_lot_of = some ⟨oc_is_lot_of, od_is_lot_of, .func (PySem.W.fnOf "is_lot_of" "is_lot_of" (defArgs s_is_lot_of) (defBody s_is_lot_of) (defScope s_is_lot_of) .none kV_is_lot_of dc_is_lot_of pm_is_lot_of an_is_lot_of cd_is_lot_of ct_is_lot_of), sl_is_lot_of⟩) (c_is_lot_of : PySem.W.codeIn K cd_is_lot_of "is_lot_of" = true) (k_is_lot_of : PySem.W.keepIn K (.ref f_is_lot_of) = true)
    (a_is_bit : PySem.W.nsIn K mainGlobals "is_bit" = some (some (.ref f_is_bit))) (l_is_bit : K.lookup f_is_bit = some ⟨oc_is_bit, od_is_bit, .func (PySem.W.fnOf "is_bit" "is_bit" (defArgs s_is_bit) (defBody s_is_bit) (defScope s_is_bit) .none kV_is_bit dc_is_bit pm_is_bit an_is_bit cd_is_bit ct_is_bit), sl_is_bit⟩) (c_is_bit : PySem.W.codeIn K cd_is_bit "is_bit" = true) (k_is_bit : PySem.W.keepIn K (.ref f_is_bit) = true)
    (a_is_equation : PySem.W.nsIn K mainGlobals "is_equation" = some (some (.ref f_is_equation))) (l_is_equation : K.lookup f_is_equation = some ⟨oc_is_equation, od_is_equation, .func (PySem.W.fnOf "is_equation" "is_equation" (defArgs s_is_equation) (defBody s_is_equation) (defScope s_is_equation) .none kV_is_equation dc_is_equation pm_is_equation an_is_equation cd_is_equation ct_is_equation), sl_is_equation⟩) (c_is_equation : PySem.W.codeIn K cd_is_equation "is_equation" = true) (k_is_equation : PySem.W.keepIn K (.ref f_is_equation) = true)
    (a_check_equations : PySem.W.nsIn K mainGlobals "check_equations" = some (some (.ref f_check_equations))) (l_check_equations : K.lookup f_check_equations = some ⟨oc_check_equations, od_check_equations, .func (PySem.W.fnOf "check_equations" "check_equations" (defArgs s_check_equations) (defBody s_check_equations) (defScope s_check_equations) .none kV_check_equations dc_check_equations pm_check_equations an_check_equations cd_check_equations ct_check_equations), sl_check_equations⟩) (c_check_equations : PySem.W.codeIn K cd_check_equations "check_equations" = true) (k_check_equations : PySem.W.keepIn K (.ref f_check_equations) = true)
    (a_is_count : PySem.W.nsIn K mainGlobals "is_count" = some (some (.ref f_is_count))) (l_is_count : K.lookup f_is_count = some ⟨oc_is_count, od_is_count, .func (PySem.W.fnOf "is_count" "is_count" (defArgs s_is_count) (defBody s_is_count) (defScope s_is_count) .none kV_is_count dc_is_count pm_is_count an_is_count cd_is_count ct_is_count), sl_is_count⟩) (c_is_count : PySem.W.codeIn K cd_is_count "is_count" = true) (k_is_count : PySem.W.keepIn K (.ref f_is_count) = true)
    (a_letters_six : PySem.W.nsIn K mainGlobals "letters_six" = some (some (.ref f_letters_six))) (l_letters_six : K.lookup f_letters_six = some ⟨oc_letters_six, od_letters_six, .func (PySem.W.fnOf "letters_six" "letters_six" (defArgs s_letters_six) (defBody s_letters_six) (defScope s_letters_six) .none kV_letters_six dc_letters_six pm_letters_six an_letters_six cd_letters_six ct_letters_six), sl_letters_six⟩) (c_letters_six : PySem.W.codeIn K cd_letters_six "letters_six" = true) (k_letters_six : PySem.W.keepIn K (.ref f_letters_six) = true)
    (a_check_summed : PySem.W.nsIn K mainGlobals "check_summed" = some (some (.ref f_check_summed))) (l_check_summed : K.lookup f_check_summed = some ⟨oc_check_summed, od_check_summed, .func (PySem.W.fnOf "check_summed" "check_summed" (defArgs s_check_summed) (defBody s_check_summed) (defScope s_check_summed) .none kV_check_summed dc_check_summed pm_check_summed an_check_summed cd_check_summed ct_check_summed), sl_check_summed⟩) (c_check_summed : PySem.W.codeIn K cd_check_summed "check_summed" = true) (k_check_summed : PySem.W.keepIn K (.ref f_check_summed) = true)
    (a_added : PySem.W.nsIn K mainGlobals "added" = some (some (.ref f_added))) (l_added : K.lookup f_added = some ⟨oc_added, od_added, .func (PySem.W.fnOf "added" "added" (defArgs s_added) (defBody s_added) (defScope s_added) .none kV_added dc_added pm_added an_added cd_added ct_added), sl_added⟩) (c_added : PySem.W.codeIn K cd_added "added" = true) (k_added : PySem.W.keepIn K (.ref f_added) = true)
    (a_odd_ones : PySem.W.nsIn K mainGlobals "odd_ones" = some (some (.ref f_odd_ones))) (l_odd_ones : K.lookup f_odd_ones = some ⟨oc_odd_ones, od_odd_ones, .func (PySem.W.fnOf "odd_ones" "odd_ones" (defArgs s_odd_ones) (defBody s_odd_ones) (defScope s_odd_ones) .none kV_odd_ones dc_odd_ones pm_odd_ones an_odd_ones cd_odd_ones ct_odd_ones), sl_odd_ones⟩) (c_odd_ones : PySem.W.codeIn K cd_odd_ones "odd_ones" = true) (k_odd_ones : PySem.W.keepIn K (.ref f_odd_ones) = true)
    (a_reduced : PySem.W.nsIn K mainGlobals "reduced" = some (some (.ref f_reduced))) (l_reduced : K.lookup f_reduced = some ⟨oc_reduced, od_reduced, .func (PySem.W.fnOf "reduced" "reduced" (defArgs s_reduced) (defBody s_reduced) (defScope s_reduced) .none kV_reduced dc_reduced pm_reduced an_reduced cd_reduced ct_reduced), sl_reduced⟩) (c_reduced : PySem.W.codeIn K cd_reduced "reduced" = true) (k_reduced : PySem.W.keepIn K (.ref f_reduced) = true)
    (a_rows : PySem.W.nsIn K mainGlobals "rows" = some (some (.ref f_rows))) (l_rows : K.lookup f_rows = some ⟨oc_rows, od_rows, .func (PySem.W.fnOf "rows" "rows" (defArgs s_rows) (defBody s_rows) (defScope s_rows) .none kV_rows dc_rows pm_rows an_rows cd_rows ct_rows), sl_rows⟩) (c_rows : PySem.W.codeIn K cd_rows "rows" = true) (k_rows : PySem.W.keepIn K (.ref f_rows) = true)
    (a_is_kept : PySem.W.nsIn K mainGlobals "is_kept" = some (some (.ref f_is_kept))) (l_is_kept : K.lookup f_is_kept = some ⟨oc_is_kept, od_is_kept, .func (PySem.W.fnOf "is_kept" "is_kept" (defArgs s_is_kept) (defBody s_is_kept) (defScope s_is_kept) .none kV_is_kept dc_is_kept pm_is_kept an_is_kept cd_is_kept ct_is_kept), sl_is_kept⟩) (c_is_kept : PySem.W.codeIn K cd_is_kept "is_kept" = true) (k_is_kept : PySem.W.keepIn K (.ref f_is_kept) = true)
    (a_solved_by_sums : PySem.W.nsIn K mainGlobals "solved_by_sums" = some (some (.ref f_solved_by_sums))) (l_solved_by_sums : K.lookup f_solved_by_sums = some ⟨oc_solved_by_sums, od_solved_by_sums, .func (PySem.W.fnOf "solved_by_sums" "solved_by_sums" (defArgs s_solved_by_sums) (defBody s_solved_by_sums) (defScope s_solved_by_sums) .none kV_solved_by_sums dc_solved_by_sums pm_solved_by_sums an_solved_by_sums cd_solved_by_sums ct_solved_by_sums), sl_solved_by_sums⟩) (c_solved_by_sums : PySem.W.codeIn K cd_solved_by_sums "solved_by_sums" = true) (k_solved_by_sums : PySem.W.keepIn K (.ref f_solved_by_sums) = true)
    (a_summed : PySem.W.nsIn K mainGlobals "summed" = some (some (.ref f_summed))) (l_summed : K.lookup f_summed = some ⟨oc_summed, od_summed, .func (PySem.W.fnOf "summed" "summed" (defArgs s_summed) (defBody s_summed) (defScope s_summed) .none kV_summed dc_summed pm_summed an_summed cd_summed ct_summed), sl_summed⟩) (c_summed : PySem.W.codeIn K cd_summed "summed" = true) (k_summed : PySem.W.keepIn K (.ref f_summed) = true)
    (a__law_draw : PySem.W.nsIn K mainGlobals "_law_draw" = some (some (.ref f__law_draw))) (l__law_draw : K.lookup f__law_draw = some ⟨oc__law_draw, od__law_draw, .func (PySem.W.fnOf "_law_draw" "_law_draw" (defArgs s__law_draw) (defBody s__law_draw) (defScope s__law_draw) .none kV__law_draw dc__law_draw pm__law_draw an__law_draw cd__law_draw ct__law_draw), sl__law_draw⟩) (c__law_draw : PySem.W.codeIn K cd__law_draw "_law_draw" = true) (k__law_draw : PySem.W.keepIn K (.ref f__law_draw) = true)
    (a_is_places : PySem.W.nsIn K mainGlobals "is_places" = some (some (.ref f_is_places))) (l_is_places : K.lookup f_is_places = some ⟨oc_is_places, od_is_places, .func (PySem.W.fnOf "is_places" "is_places" (defArgs s_is_places) (defBody s_is_places) (defScope s_is_places) .none kV_is_places dc_is_places pm_is_places an_is_places cd_is_places ct_is_places), sl_is_places⟩) (c_is_places : PySem.W.codeIn K cd_is_places "is_places" = true) (k_is_places : PySem.W.keepIn K (.ref f_is_places) = true)
    (a_check_places : PySem.W.nsIn K mainGlobals "check_places" = some (some (.ref f_check_places))) (l_check_places : K.lookup f_check_places = some ⟨oc_check_places, od_check_places, .func (PySem.W.fnOf "check_places" "check_places" (defArgs s_check_places) (defBody s_check_places) (defScope s_check_places) .none kV_check_places dc_check_places pm_check_places an_check_places cd_check_places ct_check_places), sl_check_places⟩) (c_check_places : PySem.W.codeIn K cd_check_places "check_places" = true) (k_check_places : PySem.W.keepIn K (.ref f_check_places) = true)
    (a_are_bits : PySem.W.nsIn K mainGlobals "are_bits" = some (some (.ref f_are_bits))) (l_are_bits : K.lookup f_are_bits = some ⟨oc_are_bits, od_are_bits, .func (PySem.W.fnOf "are_bits" "are_bits" (defArgs s_are_bits) (defBody s_are_bits) (defScope s_are_bits) .none kV_are_bits dc_are_bits pm_are_bits an_are_bits cd_are_bits ct_are_bits), sl_are_bits⟩) (c_are_bits : PySem.W.codeIn K cd_are_bits "are_bits" = true) (k_are_bits : PySem.W.keepIn K (.ref f_are_bits) = true)
    (a_is_row : PySem.W.nsIn K mainGlobals "is_row" = some (some (.ref f_is_row))) (l_is_row : K.lookup f_is_row = some ⟨oc_is_row, od_is_row, .func (PySem.W.fnOf "is_row" "is_row" (defArgs s_is_row) (defBody s_is_row) (defScope s_is_row) .none kV_is_row dc_is_row pm_is_row an_is_row cd_is_row ct_is_row), sl_is_row⟩) (c_is_row : PySem.W.codeIn K cd_is_row "is_row" = true) (k_is_row : PySem.W.keepIn K (.ref f_is_row) = true)
    (a_are_rows : PySem.W.nsIn K mainGlobals "are_rows" = some (some (.ref f_are_rows))) (l_are_rows : K.lookup f_are_rows = some ⟨oc_are_rows, od_are_rows, .func (PySem.W.fnOf "are_rows" "are_rows" (defArgs s_are_rows) (defBody s_are_rows) (defScope s_are_rows) .none kV_are_rows dc_are_rows pm_are_rows an_are_rows cd_are_rows ct_are_rows), sl_are_rows⟩) (c_are_rows : PySem.W.codeIn K cd_are_rows "are_rows" = true) (k_are_rows : PySem.W.keepIn K (.ref f_are_rows) = true)
    (a_check_relation : PySem.W.nsIn K mainGlobals "check_relation" = some (some (.ref f_check_relation))) (l_check_relation : K.lookup f_check_relation = some ⟨oc_check_relation, od_check_relation, .func (PySem.W.fnOf "check_relation" "check_relation" (defArgs s_check_relation) (defBody s_check_relation) (defScope s_check_relation) .none kV_check_relation dc_check_relation pm_check_relation an_check_relation cd_check_relation ct_check_relation), sl_check_relation⟩) (c_check_relation : PySem.W.codeIn K cd_check_relation "check_relation" = true) (k_check_relation : PySem.W.keepIn K (.ref f_check_relation) = true)
    (a_check_words : PySem.W.nsIn K mainGlobals "check_words" = some (some (.ref f_check_words))) (l_check_words : K.lookup f_check_words = some ⟨oc_check_words, od_check_words, .func (PySem.W.fnOf "check_words" "check_words" (defArgs s_check_words) (defBody s_check_words) (defScope s_check_words) .none kV_check_words dc_check_words pm_check_words an_check_words cd_check_words ct_check_words), sl_check_words⟩) (c_check_words : PySem.W.codeIn K cd_check_words "check_words" = true) (k_check_words : PySem.W.keepIn K (.ref f_check_words) = true)
    (a_tuples_of : PySem.W.nsIn K mainGlobals "tuples_of" = some (some (.ref f_tuples_of))) (l_tuples_of : K.lookup f_tuples_of = some ⟨oc_tuples_of, od_tuples_of, .func (PySem.W.fnOf "tuples_of" "tuples_of" (defArgs s_tuples_of) (defBody s_tuples_of) (defScope s_tuples_of) .none kV_tuples_of dc_tuples_of pm_tuples_of an_tuples_of cd_tuples_of ct_tuples_of), sl_tuples_of⟩) (c_tuples_of : PySem.W.codeIn K cd_tuples_of "tuples_of" = true) (k_tuples_of : PySem.W.keepIn K (.ref f_tuples_of) = true)
    (a_told_by : PySem.W.nsIn K mainGlobals "told_by" = some (some (.ref f_told_by))) (l_told_by : K.lookup f_told_by = some ⟨oc_told_by, od_told_by, .func (PySem.W.fnOf "told_by" "told_by" (defArgs s_told_by) (defBody s_told_by) (defScope s_told_by) .none kV_told_by dc_told_by pm_told_by an_told_by cd_told_by ct_told_by), sl_told_by⟩) (c_told_by : PySem.W.codeIn K cd_told_by "told_by" = true) (k_told_by : PySem.W.keepIn K (.ref f_told_by) = true)
    (a_with_told : PySem.W.nsIn K mainGlobals "with_told" = some (some (.ref f_with_told))) (l_with_told : K.lookup f_with_told = some ⟨oc_with_told, od_with_told, .func (PySem.W.fnOf "with_told" "with_told" (defArgs s_with_told) (defBody s_with_told) (defScope s_with_told) .none kV_with_told dc_with_told pm_with_told an_with_told cd_with_told ct_with_told), sl_with_told⟩) (c_with_told : PySem.W.codeIn K cd_with_told "with_told" = true) (k_with_told : PySem.W.keepIn K (.ref f_with_told) = true)
    (a_closed : PySem.W.nsIn K mainGlobals "closed" = some (some (.ref f_closed))) (l_closed : K.lookup f_closed = some ⟨oc_closed, od_closed, .func (PySem.W.fnOf "closed" "closed" (defArgs s_closed) (defBody s_closed) (defScope s_closed) .none kV_closed dc_closed pm_closed an_closed cd_closed ct_closed), sl_closed⟩) (c_closed : PySem.W.codeIn K cd_closed "closed" = true) (k_closed : PySem.W.keepIn K (.ref f_closed) = true)
    (a__law_rows : PySem.W.nsIn K mainGlobals "_law_rows" = some (some (.ref f__law_rows))) (l__law_rows : K.lookup f__law_rows = some ⟨oc__law_rows, od__law_rows, .func (PySem.W.fnOf "_law_rows" "_law_rows" (defArgs s__law_rows) (defBody s__law_rows) (defScope s__law_rows) .none kV__law_rows dc__law_rows pm__law_rows an__law_rows cd__law_rows ct__law_rows), sl__law_rows⟩) (c__law_rows : PySem.W.codeIn K cd__law_rows "_law_rows" = true) (k__law_rows : PySem.W.keepIn K (.ref f__law_rows) = true)
    (a__law_relation : PySem.W.nsIn K mainGlobals "_law_relation" = some (some (.ref f__law_relation))) (l__law_relation : K.lookup f__law_relation = some ⟨oc__law_relation, od__law_relation, .func (PySem.W.fnOf "_law_relation" "_law_relation" (defArgs s__law_relation) (defBody s__law_relation) (defScope s__law_relation) .none kV__law_relation dc__law_relation pm__law_relation an__law_relation cd__law_relation ct__law_relation), sl__law_relation⟩) (c__law_relation : PySem.W.codeIn K cd__law_relation "_law_relation" = true) (k__law_relation : PySem.W.keepIn K (.ref f__law_relation) = true)
    (a_sets_within : PySem.W.nsIn K mainGlobals "sets_within" = some (some (.ref f_sets_within))) (l_sets_within : K.lookup f_sets_within = some ⟨oc_sets_within, od_sets_within, .func (PySem.W.fnOf "sets_within" "sets_within" (defArgs s_sets_within) (defBody s_sets_within) (defScope s_sets_within) .none kV_sets_within dc_sets_within pm_sets_within an_sets_within cd_sets_within ct_sets_within), sl_sets_within⟩) (c_sets_within : PySem.W.codeIn K cd_sets_within "sets_within" = true) (k_sets_within : PySem.W.keepIn K (.ref f_sets_within) = true)
    (a_kept_equations : PySem.W.nsIn K mainGlobals "kept_equations" = some (some (.ref f_kept_equations))) (l_kept_equations : K.lookup f_kept_equations = some ⟨oc_kept_equations, od_kept_equations, .func (PySem.W.fnOf "kept_equations" "kept_equations" (defArgs s_kept_equations) (defBody s_kept_equations) (defScope s_kept_equations) .none kV_kept_equations dc_kept_equations pm_kept_equations an_kept_equations cd_kept_equations ct_kept_equations), sl_kept_equations⟩) (c_kept_equations : PySem.W.codeIn K cd_kept_equations "kept_equations" = true) (k_kept_equations : PySem.W.keepIn K (.ref f_kept_equations) = true)
    (a_equations_of : PySem.W.nsIn K mainGlobals "equations_of" = some (some (.ref f_equations_of))) (l_equations_of : K.lookup f_equations_of = some ⟨oc_equations_of, od_equations_of, .func (PySem.W.fnOf "equations_of" "equations_of" (defArgs s_equations_of) (defBody s_equations_of) (defScope s_equations_of) .none kV_equations_of dc_equations_of pm_equations_of an_equations_of cd_equations_of ct_equations_of), sl_equations_of⟩) (c_equations_of : PySem.W.codeIn K cd_equations_of "equations_of" = true) (k_equations_of : PySem.W.keepIn K (.ref f_equations_of) = true)
    (a_equations : PySem.W.nsIn K mainGlobals "equations" = some (some (.ref f_equations))) (l_equations : K.lookup f_equations = some ⟨oc_equations, od_equations, .func (PySem.W.fnOf "equations" "equations" (defArgs s_equations) (defBody s_equations) (defScope s_equations) .none kV_equations dc_equations pm_equations an_equations cd_equations ct_equations), sl_equations⟩) (c_equations : PySem.W.codeIn K cd_equations "equations" = true) (k_equations : PySem.W.keepIn K (.ref f_equations) = true)
    (a__law_any : PySem.W.nsIn K mainGlobals "_law_any" = some (some (.ref f__law_any))) (l__law_any : K.lookup f__law_any = some ⟨oc__law_any, od__law_any, .func (PySem.W.fnOf "_law_any" "_law_any" (defArgs s__law_any) (defBody s__law_any) (defScope s__law_any) .none kV__law_any dc__law_any pm__law_any an__law_any cd__law_any ct__law_any), sl__law_any⟩) (c__law_any : PySem.W.codeIn K cd__law_any "_law_any" = true) (k__law_any : PySem.W.keepIn K (.ref f__law_any) = true)
    (a_is_demand : PySem.W.nsIn K mainGlobals "is_demand" = some (some (.ref f_is_demand))) (l_is_demand : K.lookup f_is_demand = some ⟨oc_is_demand, od_is_demand, .func (PySem.W.fnOf "is_demand" "is_demand" (defArgs s_is_demand) (defBody s_is_demand) (defScope s_is_demand) .none kV_is_demand dc_is_demand pm_is_demand an_is_demand cd_is_demand ct_is_demand), sl_is_demand⟩) (c_is_demand : PySem.W.codeIn K cd_is_demand "is_demand" = true) (k_is_demand : PySem.W.keepIn K (.ref f_is_demand) = true)
    (a_is_told : PySem.W.nsIn K mainGlobals "is_told" = some (some (.ref f_is_told))) (l_is_told : K.lookup f_is_told = some ⟨oc_is_told, od_is_told, .func (PySem.W.fnOf "is_told" "is_told" (defArgs s_is_told) (defBody s_is_told) (defScope s_is_told) .none kV_is_told dc_is_told pm_is_told an_is_told cd_is_told ct_is_told), sl_is_told⟩) (c_is_told : PySem.W.codeIn K cd_is_told "is_told" = true) (k_is_told : PySem.W.keepIn K (.ref f_is_told) = true)
    (a_is_puzzle : PySem.W.nsIn K mainGlobals "is_puzzle" = some (some (.ref f_is_puzzle))) (l_is_puzzle : K.lookup f_is_puzzle = some ⟨oc_is_puzzle, od_is_puzzle, .func (PySem.W.fnOf "is_puzzle" "is_puzzle" (defArgs s_is_puzzle) (defBody s_is_puzzle) (defScope s_is_puzzle) .none kV_is_puzzle dc_is_puzzle pm_is_puzzle an_is_puzzle cd_is_puzzle ct_is_puzzle), sl_is_puzzle⟩) (c_is_puzzle : PySem.W.codeIn K cd_is_puzzle "is_puzzle" = true) (k_is_puzzle : PySem.W.keepIn K (.ref f_is_puzzle) = true)
    (a_check_puzzle : PySem.W.nsIn K mainGlobals "check_puzzle" = some (some (.ref f_check_puzzle))) (l_check_puzzle : K.lookup f_check_puzzle = some ⟨oc_check_puzzle, od_check_puzzle, .func (PySem.W.fnOf "check_puzzle" "check_puzzle" (defArgs s_check_puzzle) (defBody s_check_puzzle) (defScope s_check_puzzle) .none kV_check_puzzle dc_check_puzzle pm_check_puzzle an_check_puzzle cd_check_puzzle ct_check_puzzle), sl_check_puzzle⟩) (c_check_puzzle : PySem.W.codeIn K cd_check_puzzle "check_puzzle" = true) (k_check_puzzle : PySem.W.keepIn K (.ref f_check_puzzle) = true)
    (a_is_met : PySem.W.nsIn K mainGlobals "is_met" = some (some (.ref f_is_met))) (l_is_met : K.lookup f_is_met = some ⟨oc_is_met, od_is_met, .func (PySem.W.fnOf "is_met" "is_met" (defArgs s_is_met) (defBody s_is_met) (defScope s_is_met) .none kV_is_met dc_is_met pm_is_met an_is_met cd_is_met ct_is_met), sl_is_met⟩) (c_is_met : PySem.W.codeIn K cd_is_met "is_met" = true) (k_is_met : PySem.W.keepIn K (.ref f_is_met) = true)
    (a_answers_it : PySem.W.nsIn K mainGlobals "answers_it" = some (some (.ref f_answers_it))) (l_answers_it : K.lookup f_answers_it = some ⟨oc_answers_it, od_answers_it, .func (PySem.W.fnOf "answers_it" "answers_it" (defArgs s_answers_it) (defBody s_answers_it) (defScope s_answers_it) .none kV_answers_it dc_answers_it pm_answers_it an_answers_it cd_answers_it ct_answers_it), sl_answers_it⟩) (c_answers_it : PySem.W.codeIn K cd_answers_it "answers_it" = true) (k_answers_it : PySem.W.keepIn K (.ref f_answers_it) = true)
    (a_all_answers : PySem.W.nsIn K mainGlobals "all_answers" = some (some (.ref f_all_answers))) (l_all_answers : K.lookup f_all_answers = some ⟨oc_all_answers, od_all_answers, .func (PySem.W.fnOf "all_answers" "all_answers" (defArgs s_all_answers) (defBody s_all_answers) (defScope s_all_answers) .none kV_all_answers dc_all_answers pm_all_answers an_all_answers cd_all_answers ct_all_answers), sl_all_answers⟩) (c_all_answers : PySem.W.codeIn K cd_all_answers "all_answers" = true) (k_all_answers : PySem.W.keepIn K (.ref f_all_answers) = true)
    (a_answers : PySem.W.nsIn K mainGlobals "answers" = some (some (.ref f_answers))) (l_answers : K.lookup f_answers = some ⟨oc_answers, od_answers, .func (PySem.W.fnOf "answers" "answers" (defArgs s_answers) (defBody s_answers) (defScope s_answers) .none kV_answers dc_answers pm_answers an_answers cd_answers ct_answers), sl_answers⟩) (c_answers : PySem.W.codeIn K cd_answers "answers" = true) (k_answers : PySem.W.keepIn K (.ref f_answers) = true)
    (a_losing : PySem.W.nsIn K mainGlobals "losing" = some (some (.ref f_losing))) (l_losing : K.lookup f_losing = some ⟨oc_losing, od_losing, .func (PySem.W.fnOf "losing" "losing" (defArgs s_losing) (defBody s_losing) (defScope s_losing) .none kV_losing dc_losing pm_losing an_losing cd_losing ct_losing), sl_losing⟩) (c_losing : PySem.W.codeIn K cd_losing "losing" = true) (k_losing : PySem.W.keepIn K (.ref f_losing) = true)
    (a_easy_words : PySem.W.nsIn K mainGlobals "easy_words" = some (some (.ref f_easy_words))) (l_easy_words : K.lookup f_easy_words = some ⟨oc_easy_words, od_easy_words, .func (PySem.W.fnOf "easy_words" "easy_words" (defArgs s_easy_words) (defBody s_easy_words) (defScope s_easy_words) .none kV_easy_words dc_easy_words pm_easy_words an_easy_words cd_easy_words ct_easy_words), sl_easy_words⟩) (c_easy_words : PySem.W.codeIn K cd_easy_words "easy_words" = true) (k_easy_words : PySem.W.keepIn K (.ref f_easy_words) = true)
    (a_put_at : PySem.W.nsIn K mainGlobals "put_at" = some (some (.ref f_put_at))) (l_put_at : K.lookup f_put_at = some ⟨oc_put_at, od_put_at, .func (PySem.W.fnOf "put_at" "put_at" (defArgs s_put_at) (defBody s_put_at) (defScope s_put_at) .none kV_put_at dc_put_at pm_put_at an_put_at cd_put_at ct_put_at), sl_put_at⟩) (c_put_at : PySem.W.codeIn K cd_put_at "put_at" = true) (k_put_at : PySem.W.keepIn K (.ref f_put_at) = true)
    (a_by_sums : PySem.W.nsIn K mainGlobals "by_sums" = some (some (.ref f_by_sums))) (l_by_sums : K.lookup f_by_sums = some ⟨oc_by_sums, od_by_sums, .func (PySem.W.fnOf "by_sums" "by_sums" (defArgs s_by_sums) (defBody s_by_sums) (defScope s_by_sums) .none kV_by_sums dc_by_sums pm_by_sums an_by_sums cd_by_sums ct_by_sums), sl_by_sums⟩) (c_by_sums : PySem.W.codeIn K cd_by_sums "by_sums" = true) (k_by_sums : PySem.W.keepIn K (.ref f_by_sums) = true)
    (a__law_sets : PySem.W.nsIn K mainGlobals "_law_sets" = some (some (.ref f__law_sets))) (l__law_sets : K.lookup f__law_sets = some ⟨oc__law_sets, od__law_sets, .func (PySem.W.fnOf "_law_sets" "_law_sets" (defArgs s__law_sets) (defBody s__law_sets) (defScope s__law_sets) .none kV__law_sets dc__law_sets pm__law_sets an__law_sets cd__law_sets ct__law_sets), sl__law_sets⟩) (c__law_sets : PySem.W.codeIn K cd__law_sets "_law_sets" = true) (k__law_sets : PySem.W.keepIn K (.ref f__law_sets) = true)
    (a__law_is : PySem.W.nsIn K mainGlobals "_law_is" = some (some (.ref f__law_is))) (l__law_is : K.lookup f__law_is = some ⟨oc__law_is, od__law_is, .func (PySem.W.fnOf "_law_is" "_law_is" (defArgs s__law_is) (defBody s__law_is) (defScope s__law_is) .none kV__law_is dc__law_is pm__law_is an__law_is cd__law_is ct__law_is), sl__law_is⟩) (c__law_is : PySem.W.codeIn K cd__law_is "_law_is" = true) (k__law_is : PySem.W.keepIn K (.ref f__law_is) = true)
    (a__law_keeps : PySem.W.nsIn K mainGlobals "_law_keeps" = some (some (.ref f__law_keeps))) (l__law_keeps : K.lookup f__law_keeps = some ⟨oc__law_keeps, od__law_keeps, .func (PySem.W.fnOf "_law_keeps" "_law_keeps" (defArgs s__law_keeps) (defBody s__law_keeps) (defScope s__law_keeps) .none kV__law_keeps dc__law_keeps pm__law_keeps an__law_keeps cd__law_keeps ct__law_keeps), sl__law_keeps⟩) (c__law_keeps : PySem.W.codeIn K cd__law_keeps "_law_keeps" = true) (k__law_keeps : PySem.W.keepIn K (.ref f__law_keeps) = true)
    (a__law_vector : PySem.W.nsIn K mainGlobals "_law_vector" = some (some (.ref f__law_vector))) (l__law_vector : K.lookup f__law_vector = some ⟨oc__law_vector, od__law_vector, .func (PySem.W.fnOf "_law_vector" "_law_vector" (defArgs s__law_vector) (defBody s__law_vector) (defScope s__law_vector) .none kV__law_vector dc__law_vector pm__law_vector an__law_vector cd__law_vector ct__law_vector), sl__law_vector⟩) (c__law_vector : PySem.W.codeIn K cd__law_vector "_law_vector" = true) (k__law_vector : PySem.W.keepIn K (.ref f__law_vector) = true)
    (a__law_added : PySem.W.nsIn K mainGlobals "_law_added" = some (some (.ref f__law_added))) (l__law_added : K.lookup f__law_added = some ⟨oc__law_added, od__law_added, .func (PySem.W.fnOf "_law_added" "_law_added" (defArgs s__law_added) (defBody s__law_added) (defScope s__law_added) .none kV__law_added dc__law_added pm__law_added an__law_added cd__law_added ct__law_added), sl__law_added⟩) (c__law_added : PySem.W.codeIn K cd__law_added "_law_added" = true) (k__law_added : PySem.W.keepIn K (.ref f__law_added) = true)
    (a__law_spanned : PySem.W.nsIn K mainGlobals "_law_spanned" = some (some (.ref f__law_spanned))) (l__law_spanned : K.lookup f__law_spanned = some ⟨oc__law_spanned, od__law_spanned, .func (PySem.W.fnOf "_law_spanned" "_law_spanned" (defArgs s__law_spanned) (defBody s__law_spanned) (defScope s__law_spanned) .none kV__law_spanned dc__law_spanned pm__law_spanned an__law_spanned cd__law_spanned ct__law_spanned), sl__law_spanned⟩) (c__law_spanned : PySem.W.codeIn K cd__law_spanned "_law_spanned" = true) (k__law_spanned : PySem.W.keepIn K (.ref f__law_spanned) = true)
    (a__law_equations : PySem.W.nsIn K mainGlobals "_law_equations" = some (some (.ref f__law_equations))) (l__law_equations : K.lookup f__law_equations = some ⟨oc__law_equations, od__law_equations, .func (PySem.W.fnOf "_law_equations" "_law_equations" (defArgs s__law_equations) (defBody s__law_equations) (defScope s__law_equations) .none kV__law_equations dc__law_equations pm__law_equations an__law_equations cd__law_equations ct__law_equations), sl__law_equations⟩) (c__law_equations : PySem.W.codeIn K cd__law_equations "_law_equations" = true) (k__law_equations : PySem.W.keepIn K (.ref f__law_equations) = true)
    (a_rows_keeping : PySem.W.nsIn K mainGlobals "rows_keeping" = some (some (.ref f_rows_keeping))) (l_rows_keeping : K.lookup f_rows_keeping = some ⟨oc_rows_keeping, od_rows_keeping, .func (PySem.W.fnOf "rows_keeping" "rows_keeping" (defArgs s_rows_keeping) (defBody s_rows_keeping) (defScope s_rows_keeping) .none kV_rows_keeping dc_rows_keeping pm_rows_keeping an_rows_keeping cd_rows_keeping ct_rows_keeping), sl_rows_keeping⟩) (c_rows_keeping : PySem.W.codeIn K cd_rows_keeping "rows_keeping" = true) (k_rows_keeping : PySem.W.keepIn K (.ref f_rows_keeping) = true)
    (a_check_operation : PySem.W.nsIn K mainGlobals "check_operation" = some (some (.ref f_check_operation))) (l_check_operation : K.lookup f_check_operation = some ⟨oc_check_operation, od_check_operation, .func (PySem.W.fnOf "check_operation" "check_operation" (defArgs s_check_operation) (defBody s_check_operation) (defScope s_check_operation) .none kV_check_operation dc_check_operation pm_check_operation an_check_operation cd_check_operation ct_check_operation), sl_check_operation⟩) (c_check_operation : PySem.W.codeIn K cd_check_operation "check_operation" = true) (k_check_operation : PySem.W.keepIn K (.ref f_check_operation) = true)
    (a_kept_by : PySem.W.nsIn K mainGlobals "kept_by" = some (some (.ref f_kept_by))) (l_kept_by : K.lookup f_kept_by = some ⟨oc_kept_by, od_kept_by, .func (PySem.W.fnOf "kept_by" "kept_by" (defArgs s_kept_by) (defBody s_kept_by) (defScope s_kept_by) .none kV_kept_by dc_kept_by pm_kept_by an_kept_by cd_kept_by ct_kept_by), sl_kept_by⟩) (c_kept_by : PySem.W.codeIn K cd_kept_by "kept_by" = true) (k_kept_by : PySem.W.keepIn K (.ref f_kept_by) = true)
    (a_come_to_none : PySem.W.nsIn K mainGlobals "come_to_none" = some (some (.ref f_come_to_none))) (l_come_to_none : K.lookup f_come_to_none = some ⟨oc_come_to_none, od_come_to_none, .func (PySem.W.fnOf "come_to_none" "come_to_none" (defArgs s_come_to_none) (defBody s_come_to_none) (defScope s_come_to_none) .none kV_come_to_none dc_come_to_none pm_come_to_none an_come_to_none cd_come_to_none ct_come_to_none), sl_come_to_none⟩) (c_come_to_none : PySem.W.codeIn K cd_come_to_none "come_to_none" = true) (k_come_to_none : PySem.W.keepIn K (.ref f_come_to_none) = true)
    (a_is_summed : PySem.W.nsIn K mainGlobals "is_summed" = some (some (.ref f_is_summed))) (l_is_summed : K.lookup f_is_summed = some ⟨oc_is_summed, od_is_summed, .func (PySem.W.fnOf "is_summed" "is_summed" (defArgs s_is_summed) (defBody s_is_summed) (defScope s_is_summed) .none kV_is_summed dc_is_summed pm_is_summed an_is_summed cd_is_summed ct_is_summed), sl_is_summed⟩) (c_is_summed : PySem.W.codeIn K cd_is_summed "is_summed" = true) (k_is_summed : PySem.W.keepIn K (.ref f_is_summed) = true)
    (a__law_none : PySem.W.nsIn K mainGlobals "_law_none" = some (some (.ref f__law_none))) (l__law_none : K.lookup f__law_none = some ⟨oc__law_none, od__law_none, .func (PySem.W.fnOf "_law_none" "_law_none" (defArgs s__law_none) (defBody s__law_none) (defScope s__law_none) .none kV__law_none dc__law_none pm__law_none an__law_none cd__law_none ct__law_none), sl__law_none⟩) (c__law_none : PySem.W.codeIn K cd__law_none "_law_none" = true) (k__law_none : PySem.W.keepIn K (.ref f__law_none) = true)
    (a__law_hand : PySem.W.nsIn K mainGlobals "_law_hand" = some (some (.ref f__law_hand))) (l__law_hand : K.lookup f__law_hand = some ⟨oc__law_hand, od__law_hand, .func (PySem.W.fnOf "_law_hand" "_law_hand" (defArgs s__law_hand) (defBody s__law_hand) (defScope s__law_hand) .none kV__law_hand dc__law_hand pm__law_hand an__law_hand cd__law_hand ct__law_hand), sl__law_hand⟩) (c__law_hand : PySem.W.codeIn K cd__law_hand "_law_hand" = true) (k__law_hand : PySem.W.keepIn K (.ref f__law_hand) = true)
    (a_law : PySem.W.nsIn K mainGlobals "law" = some (some (.ref f_law))) (l_law : K.lookup f_law = some ⟨oc_law, od_law, .func (PySem.W.fnOf "law" "law" (defArgs s_law) (defBody s_law) (defScope s_law) .none kV_law dc_law pm_law an_law cd_law ct_law), sl_law⟩) (c_law : PySem.W.codeIn K cd_law "law" = true) (k_law : PySem.W.keepIn K (.ref f_law) = true)
    (z_abs : PySem.W.nsIn K mainGlobals "abs" = some none)
    (z_all : PySem.W.nsIn K mainGlobals "all" = some none)
    (z_bool : PySem.W.nsIn K mainGlobals "bool" = some none)
    (z_dict : PySem.W.nsIn K mainGlobals "dict" = some none)
    (z_enumerate : PySem.W.nsIn K mainGlobals "enumerate" = some none)
    (z_int : PySem.W.nsIn K mainGlobals "int" = some none)
    (z_isinstance : PySem.W.nsIn K mainGlobals "isinstance" = some none)
    (z_len : PySem.W.nsIn K mainGlobals "len" = some none)
    (z_list : PySem.W.nsIn K mainGlobals "list" = some none)
    (z_max : PySem.W.nsIn K mainGlobals "max" = some none)
    (z_min : PySem.W.nsIn K mainGlobals "min" = some none)
    (z_range : PySem.W.nsIn K mainGlobals "range" = some none)
    (z_sorted : PySem.W.nsIn K mainGlobals "sorted" = some none)
    (z_str : PySem.W.nsIn K mainGlobals "str" = some none)
    (z_sum : PySem.W.nsIn K mainGlobals "sum" = some none)
    (z_tuple : PySem.W.nsIn K mainGlobals "tuple" = some none)
    (z_zip : PySem.W.nsIn K mainGlobals "zip" = some none)
    (t1_MOST_DEMANDS : PySem.W.nsIn K mainGlobals "MOST_DEMANDS" = some (some (.int 12 ct_MOST_DEMANDS)))
    (t1_MOST_EQUATIONS : PySem.W.nsIn K mainGlobals "MOST_EQUATIONS" = some (some (.int 20 ct_MOST_EQUATIONS)))
    (t1_MOST_LETTERS : PySem.W.nsIn K mainGlobals "MOST_LETTERS" = some (some (.int 5 ct_MOST_LETTERS)))
    (t1_MOST_PLACES : PySem.W.nsIn K mainGlobals "MOST_PLACES" = some (some (.int 4 ct_MOST_PLACES)))
    (t1_MOST_PUZZLED : PySem.W.nsIn K mainGlobals "MOST_PUZZLED" = some (some (.int 6 ct_MOST_PUZZLED)))
    (t1_MOST_RELATIONS : PySem.W.nsIn K mainGlobals "MOST_RELATIONS" = some (some (.int 6 ct_MOST_RELATIONS)))
    (t1_NAMES : PySem.W.nsIn K mainGlobals "NAMES" = some (some (.ref t_NAMES))) (t2_NAMES : K.lookup t_NAMES = some ⟨.type "tuple", td_NAMES, .seq ti_NAMES tn_NAMES, ts_NAMES⟩) (t3_NAMES : ti_NAMES.toList.map absV = ([.str "nought", .str "one", .str "and", .str "or", .str "most", .str "sum"] : List V).map some)
    (d1_OPERATIONS : PySem.W.nsIn K mainGlobals "OPERATIONS" = some (some (.ref d_OPERATIONS_a))) (d2_OPERATIONS : K.lookup d_OPERATIONS_a = some ⟨.type "dict", none, .dict es_OPERATIONS dn_OPERATIONS, #[]⟩) (d3_OPERATIONS : PySem.W.KeysLit w.params es_OPERATIONS.toList) (d4_OPERATIONS : (d_OPERATIONS_a == sysModules) = false)
    (t1_OPERATIONS_0 : PySem.W.nsIn K d_OPERATIONS_a "nought" = some (some (.int 0 ct_OPERATIONS_0)))
    (t1_OPERATIONS_1 : PySem.W.nsIn K d_OPERATIONS_a "one" = some (some (.int 0 ct_OPERATIONS_1)))
    (t1_OPERATIONS_2 : PySem.W.nsIn K d_OPERATIONS_a "and" = some (some (.int 2 ct_OPERATIONS_2)))
    (t1_OPERATIONS_3 : PySem.W.nsIn K d_OPERATIONS_a "or" = some (some (.int 2 ct_OPERATIONS_3)))
    (t1_OPERATIONS_4 : PySem.W.nsIn K d_OPERATIONS_a "most" = some (some (.int 3 ct_OPERATIONS_4)))
    (t1_OPERATIONS_5 : PySem.W.nsIn K d_OPERATIONS_a "sum" = some (some (.int 3 ct_OPERATIONS_5)))
    : ∃ fd : FuncData, (∀ (s : Shared) (v : Value), BindsTo s fd ⟨[v], []⟩ [("script", v)]) ∧ ∀ base : Heap, K.In base → base.Ns mainGlobals mg → FnOk l.prog w K mg base CX0 11 fa fd ["script"] (spLaw K) := by
  have e := hfa.symm.trans (PySem.W.mg_of X G a_law)
  cases e
  have T : Tp K w mg := {
    f_is_tuple := ⟨f_is_tuple, _, fun_mk (st := s_is_tuple) l_is_tuple c_is_tuple k_is_tuple, PySem.W.mg_of X G a_is_tuple, (fun_mk (st := s_is_tuple) l_is_tuple c_is_tuple k_is_tuple).binds fun _ _ _ _ _ _ us hl => match us, hl with | [_, _, _], _ => rfl⟩
    f_is_integer := ⟨f_is_integer, _, fun_mk (st := s_is_integer) l_is_integer c_is_integer k_is_integer, PySem.W.mg_of X G a_is_integer, (fun_mk (st := s_is_integer) l_is_integer c_is_integer k_is_integer).binds fun _ _ _ _ _ _ us hl => match us, hl with | [_], _ => rfl⟩
    f_is_within := ⟨f_is_within, _, fun_mk (st := s_is_within) l_is_within c_is_within k_is_within, PySem.W.mg_of X G a_is_within, (fun_mk (st := s_is_within) l_is_within c_is_within k_is_within).binds fun _ _ _ _ _ _ us hl => match us, hl with | [_, _, _], _ => rfl⟩
    f_is_lot := ⟨f_is_lot, _, fun_mk (st := s_is_lot) l_is_lot c_is_lot k_is_lot, PySem.W.mg_of X G a_is_lot, (fun_mk (st := s_is_lot) l_is_lot c_is_lot k_is_lot).binds fun _ _ _ _ _ _ us hl => match us, hl with | [_, _], _ => rfl⟩
    f_is_lot_of := ⟨f_is_lot_of, _, fun_mk (st := s_is_lot_of) l_is_lot_of c_is_lot_of k_is_lot_of, PySem.W.mg_of X G a_is_lot_of, (fun_mk (st := s_is_lot_of) l_is_lot_of c_is_lot_of k_is_lot_of).binds fun _ _ _ _ _ _ us hl => match us, hl with | [_, _], _ => rfl⟩
    f_is_bit := ⟨f_is_bit, _, fun_mk (st := s_is_bit) l_is_bit c_is_bit k_is_bit, PySem.W.mg_of X G a_is_bit, (fun_mk (st := s_is_bit) l_is_bit c_is_bit k_is_bit).binds fun _ _ _ _ _ _ us hl => match us, hl with | [_], _ => rfl⟩
    f_is_equation := ⟨f_is_equation, _, fun_mk (st := s_is_equation) l_is_equation c_is_equation k_is_equation, PySem.W.mg_of X G a_is_equation, (fun_mk (st := s_is_equation) l_is_equation c_is_equation k_is_equation).binds fun _ _ _ _ _ _ us hl => match us, hl with | [_, _], _ => rfl⟩
    f_check_equations := ⟨f_check_equations, _, fun_mk (st := s_check_equations) l_check_equations c_check_equations k_check_equations, PySem.W.mg_of X G a_check_equations, (fun_mk (st := s_check_equations) l_check_equations c_check_equations k_check_equations).binds fun _ _ _ _ _ _ us hl => match us, hl with | [_, _], _ => rfl⟩
    f_is_count := ⟨f_is_count, _, fun_mk (st := s_is_count) l_is_count c_is_count k_is_count, PySem.W.mg_of X G a_is_count, (fun_mk (st := s_is_count) l_is_count c_is_count k_is_count).binds fun _ _ _ _ _ _ us hl => match us, hl with | [_], _ => rfl⟩
    f_letters_six := ⟨f_letters_six, _, fun_mk (st := s_letters_six) l_letters_six c_letters_six k_letters_six, PySem.W.mg_of X G a_letters_six, (fun_mk (st := s_letters_six) l_letters_six c_letters_six k_letters_six).binds fun _ _ _ _ _ _ us hl => match us, hl with | [_], _ => rfl⟩
    f_check_summed := ⟨f_check_summed, _, fun_mk (st := s_check_summed) l_check_summed c_check_summed k_check_summed, PySem.W.mg_of X G a_check_summed, (fun_mk (st := s_check_summed) l_check_summed c_check_summed k_check_summed).binds fun _ _ _ _ _ _ us hl => match us, hl with | [_, _], _ => rfl⟩
    f_added := ⟨f_added, _, fun_mk (st := s_added) l_added c_added k_added, PySem.W.mg_of X G a_added, (fun_mk (st := s_added) l_added c_added k_added).binds fun _ _ _ _ _ _ us hl => match us, hl with | [_, _], _ => rfl⟩
    f_odd_ones := ⟨f_odd_ones, _, fun_mk (st := s_odd_ones) l_odd_ones c_odd_ones k_odd_ones, PySem.W.mg_of X G a_odd_ones, (fun_mk (st := s_odd_ones) l_odd_ones c_odd_ones k_odd_ones).binds fun _ _ _ _ _ _ us hl => match us, hl with | [_, _], _ => rfl⟩
    f_reduced := ⟨f_reduced, _, fun_mk (st := s_reduced) l_reduced c_reduced k_reduced, PySem.W.mg_of X G a_reduced, (fun_mk (st := s_reduced) l_reduced c_reduced k_reduced).binds fun _ _ _ _ _ _ us hl => match us, hl with | [_, _, _], _ => rfl⟩
    f_rows := ⟨f_rows, _, fun_mk (st := s_rows) l_rows c_rows k_rows, PySem.W.mg_of X G a_rows, (fun_mk (st := s_rows) l_rows c_rows k_rows).binds fun _ _ _ _ _ _ us hl => match us, hl with | [_], _ => rfl⟩
    f_is_kept := ⟨f_is_kept, _, fun_mk (st := s_is_kept) l_is_kept c_is_kept k_is_kept, PySem.W.mg_of X G a_is_kept, (fun_mk (st := s_is_kept) l_is_kept c_is_kept k_is_kept).binds fun _ _ _ _ _ _ us hl => match us, hl with | [_, _], _ => rfl⟩
    f_solved_by_sums := ⟨f_solved_by_sums, _, fun_mk (st := s_solved_by_sums) l_solved_by_sums c_solved_by_sums k_solved_by_sums, PySem.W.mg_of X G a_solved_by_sums, (fun_mk (st := s_solved_by_sums) l_solved_by_sums c_solved_by_sums k_solved_by_sums).binds fun _ _ _ _ _ _ us hl => match us, hl with | [_, _], _ => rfl⟩
    f_summed := ⟨f_summed, _, fun_mk (st := s_summed) l_summed c_summed k_summed, PySem.W.mg_of X G a_summed, (fun_mk (st := s_summed) l_summed c_summed k_summed).binds fun _ _ _ _ _ _ us hl => match us, hl with | [_, _], _ => rfl⟩
    f__law_draw := ⟨f__law_draw, _, fun_mk (st := s__law_draw) l__law_draw c__law_draw k__law_draw, PySem.W.mg_of X G a__law_draw, (fun_mk (st := s__law_draw) l__law_draw c__law_draw k__law_draw).binds fun _ _ _ _ _ _ us hl => match us, hl with | [_, _], _ => rfl⟩
    f_is_places := ⟨f_is_places, _, fun_mk (st := s_is_places) l_is_places c_is_places k_is_places, PySem.W.mg_of X G a_is_places, (fun_mk (st := s_is_places) l_is_places c_is_places k_is_places).binds fun _ _ _ _ _ _ us hl => match us, hl with | [_], _ => rfl⟩
    f_check_places := ⟨f_check_places, _, fun_mk (st := s_check_places) l_check_places c_check_places k_check_places, PySem.W.mg_of X G a_check_places, (fun_mk (st := s_check_places) l_check_places c_check_places k_check_places).binds fun _ _ _ _ _ _ us hl => match us, hl with | [_], _ => rfl⟩
    f_are_bits := ⟨f_are_bits, _, fun_mk (st := s_are_bits) l_are_bits c_are_bits k_are_bits, PySem.W.mg_of X G a_are_bits, (fun_mk (st := s_are_bits) l_are_bits c_are_bits k_are_bits).binds fun _ _ _ _ _ _ us hl => match us, hl with | [_, _], _ => rfl⟩
    f_is_row := ⟨f_is_row, _, fun_mk (st := s_is_row) l_is_row c_is_row k_is_row, PySem.W.mg_of X G a_is_row, (fun_mk (st := s_is_row) l_is_row c_is_row k_is_row).binds fun _ _ _ _ _ _ us hl => match us, hl with | [_, _], _ => rfl⟩
    f_are_rows := ⟨f_are_rows, _, fun_mk (st := s_are_rows) l_are_rows c_are_rows k_are_rows, PySem.W.mg_of X G a_are_rows, (fun_mk (st := s_are_rows) l_are_rows c_are_rows k_are_rows).binds fun _ _ _ _ _ _ us hl => match us, hl with | [_, _], _ => rfl⟩
    f_check_relation := ⟨f_check_relation, _, fun_mk (st := s_check_relation) l_check_relation c_check_relation k_check_relation, PySem.W.mg_of X G a_check_relation, (fun_mk (st := s_check_relation) l_check_relation c_check_relation k_check_relation).binds fun _ _ _ _ _ _ us hl => match us, hl with | [_, _], _ => rfl⟩
    f_check_words := ⟨f_check_words, _, fun_mk (st := s_check_words) l_check_words c_check_words k_check_words, PySem.W.mg_of X G a_check_words, (fun_mk (st := s_check_words) l_check_words c_check_words k_check_words).binds fun _ _ _ _ _ _ us hl => match us, hl with | [_], _ => rfl⟩
    f_tuples_of := ⟨f_tuples_of, _, fun_mk (st := s_tuples_of) l_tuples_of c_tuples_of k_tuples_of, PySem.W.mg_of X G a_tuples_of, (fun_mk (st := s_tuples_of) l_tuples_of c_tuples_of k_tuples_of).binds fun _ _ _ _ _ _ us hl => match us, hl with | [_, _], _ => rfl⟩
    f_told_by := ⟨f_told_by, _, fun_mk (st := s_told_by) l_told_by c_told_by k_told_by, PySem.W.mg_of X G a_told_by, (fun_mk (st := s_told_by) l_told_by c_told_by k_told_by).binds fun _ _ _ _ _ _ us hl => match us, hl with | [_, _, _], _ => rfl⟩
    f_with_told := ⟨f_with_told, _, fun_mk (st := s_with_told) l_with_told c_with_told k_with_told, PySem.W.mg_of X G a_with_told, (fun_mk (st := s_with_told) l_with_told c_with_told k_with_told).binds fun _ _ _ _ _ _ us hl => match us, hl with | [_, _, _], _ => rfl⟩
    f_closed := ⟨f_closed, _, fun_mk (st := s_closed) l_closed c_closed k_closed, PySem.W.mg_of X G a_closed, (fun_mk (st := s_closed) l_closed c_closed k_closed).binds fun _ _ _ _ _ _ us hl => match us, hl with | [_, _, _], _ => rfl⟩
    f__law_rows := ⟨f__law_rows, _, fun_mk (st := s__law_rows) l__law_rows c__law_rows k__law_rows, PySem.W.mg_of X G a__law_rows, (fun_mk (st := s__law_rows) l__law_rows c__law_rows k__law_rows).binds fun _ _ _ _ _ _ us hl => match us, hl with | [_], _ => rfl⟩
    f__law_relation := ⟨f__law_relation, _, fun_mk (st := s__law_relation) l__law_relation c__law_relation k__law_relation, PySem.W.mg_of X G a__law_relation, (fun_mk (st := s__law_relation) l__law_relation c__law_relation k__law_relation).binds fun _ _ _ _ _ _ us hl => match us, hl with | [_, _], _ => rfl⟩
    f_sets_within := ⟨f_sets_within, _, fun_mk (st := s_sets_within) l_sets_within c_sets_within k_sets_within, PySem.W.mg_of X G a_sets_within, (fun_mk (st := s_sets_within) l_sets_within c_sets_within k_sets_within).binds fun _ _ _ _ _ _ us hl => match us, hl with | [_], _ => rfl⟩
    f_kept_equations := ⟨f_kept_equations, _, fun_mk (st := s_kept_equations) l_kept_equations c_kept_equations k_kept_equations, PySem.W.mg_of X G a_kept_equations, (fun_mk (st := s_kept_equations) l_kept_equations c_kept_equations k_kept_equations).binds fun _ _ _ _ _ _ us hl => match us, hl with | [_, _], _ => rfl⟩
    f_equations_of := ⟨f_equations_of, _, fun_mk (st := s_equations_of) l_equations_of c_equations_of k_equations_of, PySem.W.mg_of X G a_equations_of, (fun_mk (st := s_equations_of) l_equations_of c_equations_of k_equations_of).binds fun _ _ _ _ _ _ us hl => match us, hl with | [_, _], _ => rfl⟩
    f_equations := ⟨f_equations, _, fun_mk (st := s_equations) l_equations c_equations k_equations, PySem.W.mg_of X G a_equations, (fun_mk (st := s_equations) l_equations c_equations k_equations).binds fun _ _ _ _ _ _ us hl => match us, hl with | [_, _], _ => rfl⟩
    f__law_any := ⟨f__law_any, _, fun_mk (st := s__law_any) l__law_any c__law_any k__law_any, PySem.W.mg_of X G a__law_any, (fun_mk (st := s__law_any) l__law_any c__law_any k__law_any).binds fun _ _ _ _ _ _ us hl => match us, hl with | [_, _], _ => rfl⟩
    f_is_demand := ⟨f_is_demand, _, fun_mk (st := s_is_demand) l_is_demand c_is_demand k_is_demand, PySem.W.mg_of X G a_is_demand, (fun_mk (st := s_is_demand) l_is_demand c_is_demand k_is_demand).binds fun _ _ _ _ _ _ us hl => match us, hl with | [_, _, _], _ => rfl⟩
    f_is_told := ⟨f_is_told, _, fun_mk (st := s_is_told) l_is_told c_is_told k_is_told, PySem.W.mg_of X G a_is_told, (fun_mk (st := s_is_told) l_is_told c_is_told k_is_told).binds fun _ _ _ _ _ _ us hl => match us, hl with | [_], _ => rfl⟩
    f_is_puzzle := ⟨f_is_puzzle, _, fun_mk (st := s_is_puzzle) l_is_puzzle c_is_puzzle k_is_puzzle, PySem.W.mg_of X G a_is_puzzle, (fun_mk (st := s_is_puzzle) l_is_puzzle c_is_puzzle k_is_puzzle).binds fun _ _ _ _ _ _ us hl => match us, hl with | [_], _ => rfl⟩
    f_check_puzzle := ⟨f_check_puzzle, _, fun_mk (st := s_check_puzzle) l_check_puzzle c_check_puzzle k_check_puzzle, PySem.W.mg_of X G a_check_puzzle, (fun_mk (st := s_check_puzzle) l_check_puzzle c_check_puzzle k_check_puzzle).binds fun _ _ _ _ _ _ us hl => match us, hl with | [_], _ => rfl⟩
    f_is_met := ⟨f_is_met, _, fun_mk (st := s_is_met) l_is_met c_is_met k_is_met, PySem.W.mg_of X G a_is_met, (fun_mk (st := s_is_met) l_is_met c_is_met k_is_met).binds fun _ _ _ _ _ _ us hl => match us, hl with | [_, _, _], _ => rfl⟩
    f_answers_it := ⟨f_answers_it, _, fun_mk (st := s_answers_it) l_answers_it c_answers_it k_answers_it, PySem.W.mg_of X G a_answers_it, (fun_mk (st := s_answers_it) l_answers_it c_answers_it k_answers_it).binds fun _ _ _ _ _ _ us hl => match us, hl with | [_, _], _ => rfl⟩
    f_all_answers := ⟨f_all_answers, _, fun_mk (st := s_all_answers) l_all_answers c_all_answers k_all_answers, PySem.W.mg_of X G a_all_answers, (fun_mk (st := s_all_answers) l_all_answers c_all_answers k_all_answers).binds fun _ _ _ _ _ _ us hl => match us, hl with | [_], _ => rfl⟩
    f_answers := ⟨f_answers, _, fun_mk (st := s_answers) l_answers c_answers k_answers, PySem.W.mg_of X G a_answers, (fun_mk (st := s_answers) l_answers c_answers k_answers).binds fun _ _ _ _ _ _ us hl => match us, hl with | [_], _ => rfl⟩
    f_losing := ⟨f_losing, _, fun_mk (st := s_losing) l_losing c_losing k_losing, PySem.W.mg_of X G a_losing, (fun_mk (st := s_losing) l_losing c_losing k_losing).binds fun _ _ _ _ _ _ us hl => match us, hl with | [_, _, _], _ => rfl⟩
    f_easy_words := ⟨f_easy_words, _, fun_mk (st := s_easy_words) l_easy_words c_easy_words k_easy_words, PySem.W.mg_of X G a_easy_words, (fun_mk (st := s_easy_words) l_easy_words c_easy_words k_easy_words).binds fun _ _ _ _ _ _ us hl => match us, hl with | [_], _ => rfl⟩
    f_put_at := ⟨f_put_at, _, fun_mk (st := s_put_at) l_put_at c_put_at k_put_at, PySem.W.mg_of X G a_put_at, (fun_mk (st := s_put_at) l_put_at c_put_at k_put_at).binds fun _ _ _ _ _ _ us hl => match us, hl with | [_, _], _ => rfl⟩
    f_by_sums := ⟨f_by_sums, _, fun_mk (st := s_by_sums) l_by_sums c_by_sums k_by_sums, PySem.W.mg_of X G a_by_sums, (fun_mk (st := s_by_sums) l_by_sums c_by_sums k_by_sums).binds fun _ _ _ _ _ _ us hl => match us, hl with | [_], _ => rfl⟩
    f__law_sets := ⟨f__law_sets, _, fun_mk (st := s__law_sets) l__law_sets c__law_sets k__law_sets, PySem.W.mg_of X G a__law_sets, (fun_mk (st := s__law_sets) l__law_sets c__law_sets k__law_sets).binds fun _ _ _ _ _ _ us hl => match us, hl with | [_], _ => rfl⟩
    f__law_is := ⟨f__law_is, _, fun_mk (st := s__law_is) l__law_is c__law_is k__law_is, PySem.W.mg_of X G a__law_is, (fun_mk (st := s__law_is) l__law_is c__law_is k__law_is).binds fun _ _ _ _ _ _ us hl => match us, hl with | [_, _], _ => rfl⟩
    f__law_keeps := ⟨f__law_keeps, _, fun_mk (st := s__law_keeps) l__law_keeps c__law_keeps k__law_keeps, PySem.W.mg_of X G a__law_keeps, (fun_mk (st := s__law_keeps) l__law_keeps c__law_keeps k__law_keeps).binds fun _ _ _ _ _ _ us hl => match us, hl with | [_, _], _ => rfl⟩
    f__law_vector := ⟨f__law_vector, _, fun_mk (st := s__law_vector) l__law_vector c__law_vector k__law_vector, PySem.W.mg_of X G a__law_vector, (fun_mk (st := s__law_vector) l__law_vector c__law_vector k__law_vector).binds fun _ _ _ _ _ _ us hl => match us, hl with | [_, _], _ => rfl⟩
    f__law_added := ⟨f__law_added, _, fun_mk (st := s__law_added) l__law_added c__law_added k__law_added, PySem.W.mg_of X G a__law_added, (fun_mk (st := s__law_added) l__law_added c__law_added k__law_added).binds fun _ _ _ _ _ _ us hl => match us, hl with | [_, _], _ => rfl⟩
    f__law_spanned := ⟨f__law_spanned, _, fun_mk (st := s__law_spanned) l__law_spanned c__law_spanned k__law_spanned, PySem.W.mg_of X G a__law_spanned, (fun_mk (st := s__law_spanned) l__law_spanned c__law_spanned k__law_spanned).binds fun _ _ _ _ _ _ us hl => match us, hl with | [_, _], _ => rfl⟩
    f__law_equations := ⟨f__law_equations, _, fun_mk (st := s__law_equations) l__law_equations c__law_equations k__law_equations, PySem.W.mg_of X G a__law_equations, (fun_mk (st := s__law_equations) l__law_equations c__law_equations k__law_equations).binds fun _ _ _ _ _ _ us hl => match us, hl with | [_, _], _ => rfl⟩
    f_rows_keeping := ⟨f_rows_keeping, _, fun_mk (st := s_rows_keeping) l_rows_keeping c_rows_keeping k_rows_keeping, PySem.W.mg_of X G a_rows_keeping, (fun_mk (st := s_rows_keeping) l_rows_keeping c_rows_keeping k_rows_keeping).binds fun _ _ _ _ _ _ us hl => match us, hl with | [_, _], _ => rfl⟩
    f_check_operation := ⟨f_check_operation, _, fun_mk (st := s_check_operation) l_check_operation c_check_operation k_check_operation, PySem.W.mg_of X G a_check_operation, (fun_mk (st := s_check_operation) l_check_operation c_check_operation k_check_operation).binds fun _ _ _ _ _ _ us hl => match us, hl with | [_], _ => rfl⟩
    f_kept_by := ⟨f_kept_by, _, fun_mk (st := s_kept_by) l_kept_by c_kept_by k_kept_by, PySem.W.mg_of X G a_kept_by, (fun_mk (st := s_kept_by) l_kept_by c_kept_by k_kept_by).binds fun _ _ _ _ _ _ us hl => match us, hl with | [_, _, _], _ => rfl⟩
    f_come_to_none := ⟨f_come_to_none, _, fun_mk (st := s_come_to_none) l_come_to_none c_come_to_none k_come_to_none, PySem.W.mg_of X G a_come_to_none, (fun_mk (st := s_come_to_none) l_come_to_none c_come_to_none k_come_to_none).binds fun _ _ _ _ _ _ us hl => match us, hl with | [_, _], _ => rfl⟩
    f_is_summed := ⟨f_is_summed, _, fun_mk (st := s_is_summed) l_is_summed c_is_summed k_is_summed, PySem.W.mg_of X G a_is_summed, (fun_mk (st := s_is_summed) l_is_summed c_is_summed k_is_summed).binds fun _ _ _ _ _ _ us hl => match us, hl with | [_, _, _], _ => rfl⟩
    f__law_none := ⟨f__law_none, _, fun_mk (st := s__law_none) l__law_none c__law_none k__law_none, PySem.W.mg_of X G a__law_none, (fun_mk (st := s__law_none) l__law_none c__law_none k__law_none).binds fun _ _ _ _ _ _ us hl => match us, hl with | [_, _, _], _ => rfl⟩
    f__law_hand := ⟨f__law_hand, _, fun_mk (st := s__law_hand) l__law_hand c__law_hand k__law_hand, PySem.W.mg_of X G a__law_hand, (fun_mk (st := s__law_hand) l__law_hand c__law_hand k__law_hand).binds fun _ _ _ _ _ _ us hl => match us, hl with | [_], _ => rfl⟩
    b_abs := PySem.W.mg_none_of X G z_abs
    b_all := PySem.W.mg_none_of X G z_all
    b_bool := PySem.W.mg_none_of X G z_bool
    b_dict := PySem.W.mg_none_of X G z_dict
    b_enumerate := PySem.W.mg_none_of X G z_enumerate
    b_int := PySem.W.mg_none_of X G z_int
    b_isinstance := PySem.W.mg_none_of X G z_isinstance
    b_len := PySem.W.mg_none_of X G z_len
    b_list := PySem.W.mg_none_of X G z_list
    b_max := PySem.W.mg_none_of X G z_max
    b_min := PySem.W.mg_none_of X G z_min
    b_range := PySem.W.mg_none_of X G z_range
    b_sorted := PySem.W.mg_none_of X G z_sorted
    b_str := PySem.W.mg_none_of X G z_str
    b_sum := PySem.W.mg_none_of X G z_sum
    b_tuple := PySem.W.mg_none_of X G z_tuple
    b_zip := PySem.W.mg_none_of X G z_zip
    k_MOST_DEMANDS := ⟨_, .int 12, PySem.W.mg_of X G t1_MOST_DEMANDS, ⟨_, rfl⟩, by simp [k_MOST_DEMANDS, KRep]⟩
    k_MOST_EQUATIONS := ⟨_, .int 20, PySem.W.mg_of X G t1_MOST_EQUATIONS, ⟨_, rfl⟩, by simp [k_MOST_EQUATIONS, KRep]⟩
    k_MOST_LETTERS := ⟨_, .int 5, PySem.W.mg_of X G t1_MOST_LETTERS, ⟨_, rfl⟩, by simp [k_MOST_LETTERS, KRep]⟩
    k_MOST_PLACES := ⟨_, .int 4, PySem.W.mg_of X G t1_MOST_PLACES, ⟨_, rfl⟩, by simp [k_MOST_PLACES, KRep]⟩
    k_MOST_PUZZLED := ⟨_, .int 6, PySem.W.mg_of X G t1_MOST_PUZZLED, ⟨_, rfl⟩, by simp [k_MOST_PUZZLED, KRep]⟩
    k_MOST_RELATIONS := ⟨_, .int 6, PySem.W.mg_of X G t1_MOST_RELATIONS, ⟨_, rfl⟩, by simp [k_MOST_RELATIONS, KRep]⟩
    k_NAMES := ⟨_, .ref t_NAMES, PySem.W.mg_of X G t1_NAMES, rfl, kt_flat t2_NAMES t3_NAMES (by decide) (by simp [KReps, KRep])⟩
    d_OPERATIONS := ⟨d_OPERATIONS_a, PySem.W.mg_of X G d1_OPERATIONS, d4_OPERATIONS, by
      intro s t e
      unfold d_OPERATIONS at e
      refine gd_cons (p := fun s t => ∃ v, KDct K w d_OPERATIONS_a s v ∧ KRep K t v) e ⟨.int 0, ⟨es_OPERATIONS, dn_OPERATIONS, _, d2_OPERATIONS, d3_OPERATIONS, t1_OPERATIONS_0, ⟨_, rfl⟩⟩, by simp [KRep]⟩ fun e => ?_
      refine gd_cons (p := fun s t => ∃ v, KDct K w d_OPERATIONS_a s v ∧ KRep K t v) e ⟨.int 0, ⟨es_OPERATIONS, dn_OPERATIONS, _, d2_OPERATIONS, d3_OPERATIONS, t1_OPERATIONS_1, ⟨_, rfl⟩⟩, by simp [KRep]⟩ fun e => ?_
      refine gd_cons (p := fun s t => ∃ v, KDct K w d_OPERATIONS_a s v ∧ KRep K t v) e ⟨.int 2, ⟨es_OPERATIONS, dn_OPERATIONS, _, d2_OPERATIONS, d3_OPERATIONS, t1_OPERATIONS_2, ⟨_, rfl⟩⟩, by simp [KRep]⟩ fun e => ?_
      refine gd_cons (p := fun s t => ∃ v, KDct K w d_OPERATIONS_a s v ∧ KRep K t v) e ⟨.int 2, ⟨es_OPERATIONS, dn_OPERATIONS, _, d2_OPERATIONS, d3_OPERATIONS, t1_OPERATIONS_3, ⟨_, rfl⟩⟩, by simp [KRep]⟩ fun e => ?_
      refine gd_cons (p := fun s t => ∃ v, KDct K w d_OPERATIONS_a s v ∧ KRep K t v) e ⟨.int 3, ⟨es_OPERATIONS, dn_OPERATIONS, _, d2_OPERATIONS, d3_OPERATIONS, t1_OPERATIONS_4, ⟨_, rfl⟩⟩, by simp [KRep]⟩ fun e => ?_
      refine gd_cons (p := fun s t => ∃ v, KDct K w d_OPERATIONS_a s v ∧ KRep K t v) e ⟨.int 3, ⟨es_OPERATIONS, dn_OPERATIONS, _, d2_OPERATIONS, d3_OPERATIONS, t1_OPERATIONS_5, ⟨_, rfl⟩⟩, by simp [KRep]⟩ fun e => ?_
      exact nomatch e⟩
  }
  exact ⟨PySem.W.fnOf "law" "law" (defArgs s_law) (defBody s_law) (defScope s_law) .none kV_law dc_law pm_law an_law cd_law ct_law, fun s v => .of_eq rfl, fun base _ _ => law_fn (C := RC0 K l.prog w) T (fun_mk (st := s_law) l_law c_law k_law) plain⟩
end Law84
open PySem PySem.W PyProof.Rows
set_option maxHeartbeats 0 in
theorem PySem.Challenge.cw_bittables_k84_whole_equations_and_sums_holds : PySem.Challenge.rw_bittables_k84_whole_equations_and_sums.Holds := by
  w_on; o_law; k_head; (case hw => w_witness2)
  k_fill
  refine L2.walk_of (l := PySem.Challenge.rw_bittables_k84_whole_equations_and_sums) (n := 63) (k := 11) (x := "script") (CX := fun _ => L2.CX0) (sp := fun w => Q.spLaw _) rfl (by decide) rfl ⟨rfl, by decide, by decide⟩ (fun w h Y => PySem.W.kIn_of Y) ?F (fun _ _ a ns hl _ hS => ⟨a, ns, rfl, hS, hl, fun _ => rfl⟩) (fun _ _ _ _ _ h => h)
  case F =>
    intro w mg fa h KX G hmg
    refine' Law84.all_mk Law84.plain KX G hmg (a_is_tuple := ?a_is_tuple) (l_is_tuple := ?l_is_tuple) (c_is_tuple := ?c_is_tuple) (k_is_tuple := ?k_is_tuple) (a_is_integer := ?a_is_integer) (l_is_integer := ?l_is_integer) (c_is_integer := ?c_is_integer) (k_is_integer := ?k_is_integer) (a_is_within := ?a_is_within) (l_is_within := ?l_is_within) (c_is_within := ?c_is_within) (k_is_within := ?k_is_within) (a_is_lot := ?a_is_lot) (l_is_lot := ?l_is_lot) (c_is_lot := ?c_is_lot) (k_is_lot := ?k_is_lot) (a_is_lot_of := ?a_is_lot_of) (l_is_lot_of := ?l_is_lot_of) (c_is_lot_of := ?c_is_lot_of) (k_is_lot_of := ?k_is_lot_of) (a_is_bit := ?a_is_bit) (l_is_bit := ?l_is_bit) (c_is_bit := ?c_is_bit) (k_is_bit := ?k_is_bit) (a_is_equation := ?a_is_equation) (l_is_equation := ?l_is_equation) (c_is_equation := ?c_is_equation) (k_is_equation := ?k_is_equation) (a_check_equations := ?a_check_equations) (l_check_equations := ?l_check_equations) (c_check_equations := ?c_check_equations) (k_check_equations := ?k_check_equations) (a_is_count := ?a_is_count) (l_is_count := ?l_is_count) (c_is_count := ?c_is_count) (k_is_count := ?k_is_count) (a_letters_six := ?a_letters_six) (l_letters_six := ?l_letters_six) (c_letters_six := ?c_letters_six) (k_letters_six := ?k_letters_six) (a_check_summed := ?a_check_summed) (l_check_summed := ?l_check_summed) (c_check_summed := ?c_check_summed) (k_check_summed := ?k_check_summed) (a_added := ?a_added) (l_added := ?l_added) (c_added := ?c_added) (k_added := ?k_added) (a_odd_ones := ?a_odd_ones) (l_odd_ones := ?l_odd_ones) (c_odd_ones := ?c_odd_ones) (k_odd_ones := ?k_odd_ones) (a_reduced := ?a_reduced) (l_reduced := ?l_reduced) (c_reduced := ?c_reduced) (k_reduced := ?k_reduced) (a_rows := ?a_rows) (l_rows := ?l_rows) (c_rows := ?c_rows) (k_rows := ?k_rows) (a_is_kept := ?a_is_kept) (l_is_kept := ?l_is_kept) (c_is_kept := ?c_is_kept) (k_is_kept := ?k_is_kept) (a_solved_by_sums := ?a_solved_by_sums) (l_solved_by_sums := ?l_solved_by_sums) (c_solved_by_sums := ?c_solved_by_sums) (k_solved_by_sums := ?k_solved_by_sums) (a_summed := ?a_summed) (l_summed := ?l_summed) (c_summed := ?c_summed) (k_summed := ?k_summed) (a__law_draw := ?a__law_draw) (l__law_draw := ?l__law_draw) (c__law_draw := ?c__law_draw) (k__law_draw := ?k__law_draw) (a_is_places := ?a_is_places) (l_is_places := ?l_is_places) (c_is_places := ?c_is_places) (k_is_places := ?k_is_places) (a_check_places := ?a_check_places) (l_check_places := ?l_check_places) (c_check_places := ?c_check_places) (k_check_places := ?k_check_places) (a_are_bits := ?a_are_bits) (l_are_bits := ?l_are_bits) (c_are_bits := ?c_are_bits) (k_are_bits := ?k_are_bits) (a_is_row := ?a_is_row) (l_is_row := ?l_is_row) (c_is_row := ?c_is_row) (k_is_row := ?k_is_row) (a_are_rows := ?a_are_rows) (l_are_rows := ?l_are_rows) (c_are_rows := ?c_are_rows) (k_are_rows := ?k_are_rows) (a_check_relation := ?a_check_relation) (l_check_relation := ?l_check_relation) (c_check_relation := ?c_check_relation) (k_check_relation := ?k_check_relation) (a_check_words := ?a_check_words) (l_check_words := ?l_check_words) (c_check_words := ?c_check_words) (k_check_words := ?k_check_words) (a_tuples_of := ?a_tuples_of) (l_tuples_of := ?l_tuples_of) (c_tuples_of := ?c_tuples_of) (k_tuples_of := ?k_tuples_of) (a_told_by := ?a_told_by) (l_told_by := ?l_told_by) (c_told_by := ?c_told_by) (k_told_by := ?k_told_by) (a_with_told := ?a_with_told) (l_with_told := ?l_with_told) (c_with_told := ?c_with_told) (k_with_told := ?k_with_told) (a_closed := ?a_closed) (l_closed := ?l_closed) (c_closed := ?c_closed) (k_closed := ?k_closed) (a__law_rows := ?a__law_rows) (l__law_rows := ?l__law_rows) (c__law_rows := ?c__law_rows) (k__law_rows := ?k__law_rows) (a__law_relation := ?a__law_relation) (l__law_relation := ?l__law_relation) (c__law_relation := ?c__law_relation) (k__law_relation := ?k__law_relation) (a_sets_within := ?a_sets_within) (l_sets_within := ?l_sets_within) (c_sets_within := ?c_sets_within) (k_sets_within := ?k_sets_within) (a_kept_equations := ?a_kept_equations) (l_kept_equations := ?l_kept_equations) (c_kept_equations := ?c_kept_equations) (k_kept_equations := ?k_kept_equations) (a_equations_of := ?a_equations_of) (l_equations_of := ?l_equations_of) (c_equations_of := ?c_equations_of) (k_equations_of := ?k_equations_of) (a_equations := ?a_equations) (l_equations := ?l_equations) (c_equations := ?c_equations) (k_equations := ?k_equations) (a__law_any := ?a__law_any) (l__law_any := ?l__law_any) (c__law_any := ?c__law_any) (k__law_any := ?k__law_any) (a_is_demand := ?a_is_demand) (l_is_demand := ?l_is_demand) (c_is_demand := ?c_is_demand) (k_is_demand := ?k_is_demand) (a_is_told := ?a_is_told) (l_is_told := ?l_is_told) (c_is_told := ?c_is_told) (k_is_told := ?k_is_told) (a_is_puzzle := ?a_is_puzzle) (l_is_puzzle := ?l_is_puzzle) (c_is_puzzle := ?c_is_puzzle) (k_is_puzzle := ?k_is_puzzle) (a_check_puzzle := ?a_check_puzzle) (l_check_puzzle := ?l_check_puzzle) (c_check_puzzle := ?c_check_puzzle) (k_check_puzzle := ?k_check_puzzle) (a_is_met := ?a_is_met) (l_is_met := ?l_is_met) (c_is_met := ?c_is_met) (k_is_met := ?k_is_met) (a_answers_it := ?a_answers_it) (l_answers_it := ?l_answers_it) (c_answers_it := ?c_answers_it) (k_answers_it := ?k_answers_it) (a_all_answers := ?a_all_answers) (l_all_answers := ?l_all_answers) (c_all_answers := ?c_all_answers) (k_all_answers := ?k_all_answers) (a_answers := ?a_answers) (l_answers := ?l_answers) (c_answers := ?c_answers) (k_answers := ?k_answers) (a_losing := ?a_losing) (l_losing := ?l_losing) (c_losing := ?c_losing) (k_losing := ?k_losing) (a_easy_words := ?a_easy_words) (l_easy_words := ?l_easy_words) (c_easy_words := ?c_easy_words) (k_easy_words := ?k_easy_words) (a_put_at := ?a_put_at) (l_put_at := ?l_put_at) (c_put_at := ?c_put_at) (k_put_at := ?k_put_at) (a_by_sums := ?a_by_sums) (l_by_sums := ?l_by_sums) (c_by_sums := ?c_by_sums) (k_by_sums := ?k_by_sums) (a__law_sets := ?a__law_sets) (l__law_sets := ?l__law_sets) (c__law_sets := ?c__law_sets) (k__law_sets := ?k__law_sets) (a__law_is := ?a__law_is) (l__law_is := ?l__law_is) (c__law_is := ?c__law_is) (k__law_is := ?k__law_is) (a__law_keeps := ?a__law_keeps) (l__law_keeps := ?l__law_keeps) (c__law_keeps := ?c__law_keeps) (k__law_keeps := ?k__law_keeps) (a__law_vector := ?a__law_vector) (l__law_vector := ?l__law_vector) (c__law_vector := ?c__law_vector) (k__law_vector := ?k__law_vector) (a__law_added := ?a__law_added) (l__law_added := ?l__law_added) (c__law_added := ?c__law_added) (k__law_added := ?k__law_added) (a__law_spanned := ?a__law_spanned) (l__law_spanned := ?l__law_spanned) (c__law_spanned := ?c__law_spanned) (k__law_spanned := ?k__law_spanned) (a__law_equations := ?a__law_equations) (l__law_equations := ?l__law_equations) (c__law_equations := ?c__law_equations) (k__law_equations := ?k__law_equations) (a_rows_keeping := ?a_rows_keeping) (l_rows_keeping := ?l_rows_keeping) (c_rows_keeping := ?c_rows_keeping) (k_rows_keeping := ?k_rows_keeping) (a_check_operation := ?a_check_operation) (l_check_operation := ?l_check_operation) (c_check_operation := ?c_check_operation) (k_check_operation := ?k_check_operation) (a_kept_by := ?a_kept_by) (l_kept_by := ?l_kept_by) (c_kept_by := ?c_kept_by) (k_kept_by := ?k_kept_by) (a_come_to_none := ?a_come_to_none) (l_come_to_none := ?l_come_to_none) (c_come_to_none := ?c_come_to_none) (k_come_to_none := ?k_come_to_none) (a_is_summed := ?a_is_summed) (l_is_summed := ?l_is_summed) (c_is_summed := ?c_is_summed) (k_is_summed := ?k_is_summed) (a__law_none := ?a__law_none) (l__law_none := ?l__law_none) (c__law_none := ?c__law_none) (k__law_none := ?k__law_none) (a__law_hand := ?a__law_hand) (l__law_hand := ?l__law_hand) (c__law_hand := ?c__law_hand) (k__law_hand := ?k__law_hand) (a_law := ?a_law) (l_law := ?l_law) (c_law := ?c_law) (k_law := ?k_law) (z_abs := ?z_abs) (z_all := ?z_all) (z_bool := ?z_bool) (z_dict := ?z_dict) (z_enumerate := ?z_enumerate) (z_int := ?z_int) (z_isinstance := ?z_isinstance) (z_len := ?z_len) (z_list := ?z_list) (z_max := ?z_max) (z_min := ?z_min) (z_range := ?z_range) (z_sorted := ?z_sorted) (z_str := ?z_str) (z_sum := ?z_sum) (z_tuple := ?z_tuple) (z_zip := ?z_zip) (t1_MOST_DEMANDS := ?t1_MOST_DEMANDS) (t1_MOST_EQUATIONS := ?t1_MOST_EQUATIONS) (t1_MOST_LETTERS := ?t1_MOST_LETTERS) (t1_MOST_PLACES := ?t1_MOST_PLACES) (t1_MOST_PUZZLED := ?t1_MOST_PUZZLED) (t1_MOST_RELATIONS := ?t1_MOST_RELATIONS) (t1_NAMES := ?t1_NAMES) (t2_NAMES := ?t2_NAMES) (d1_OPERATIONS := ?d1_OPERATIONS) (d2_OPERATIONS := ?d2_OPERATIONS) (t1_OPERATIONS_0 := ?t1_OPERATIONS_0) (t1_OPERATIONS_1 := ?t1_OPERATIONS_1) (t1_OPERATIONS_2 := ?t1_OPERATIONS_2) (t1_OPERATIONS_3 := ?t1_OPERATIONS_3) (t1_OPERATIONS_4 := ?t1_OPERATIONS_4) (t1_OPERATIONS_5 := ?t1_OPERATIONS_5) (t3_NAMES := ?t3_NAMES) (d3_OPERATIONS := ?d3_OPERATIONS) (d4_OPERATIONS := ?d4_OPERATIONS)
    (case a_is_tuple => k_is); (case l_is_tuple => k_is); (case c_is_tuple => k_is); (case k_is_tuple => k_is); (case a_is_integer => k_is); (case l_is_integer => k_is); (case c_is_integer => k_is); (case k_is_integer => k_is); (case a_is_within => k_is); (case l_is_within => k_is); (case c_is_within => k_is); (case k_is_within => k_is); (case a_is_lot => k_is); (case l_is_lot => k_is); (case c_is_lot => k_is); (case k_is_lot => k_is); (case a_is_lot_of => k_is); (case l_is_lot_of => k_is); (case c_is_lot_of => k_is); (case k_is_lot_of => k_is); (case a_is_bit => k_is); (case l_is_bit => k_is); (case c_is_bit => k_is); (case k_is_bit => k_is); (case a_is_equation => k_is); (case l_is_equation => k_is); (case c_is_equation => k_is); (case k_is_equation => k_is); (case a_check_equations => k_is); (case l_check_equations => k_is); (case c_check_equations => k_is); (case k_check_equations => k_is); (case a_is_count => k_is); (case l_is_count => k_is); (case c_is_count => k_is); (case k_is_count => k_is); (case a_letters_six => k_is); (case l_letters_six => k_is); (case c_letters_six => k_is); (case k_letters_six => k_is); (case a_check_summed => k_is); (case l_check_summed => k_is); (case c_check_summed => k_is); (case k_check_summed => k_is); (case a_added => k_is); (case l_added => k_is); (case c_added => k_is); (case k_added => k_is); (case a_odd_ones => k_is); (case l_odd_ones => k_is); (case c_odd_ones => k_is); (case k_odd_ones => k_is); (case a_reduced => k_is); (case l_reduced => k_is); (case c_reduced => k_is); (case k_reduced => k_is); (case a_rows => k_is); (case l_rows => k_is); (case c_rows => k_is); (case k_rows => k_is); (case a_is_kept => k_is); (case l_is_kept => k_is); (case c_is_kept => k_is); (case k_is_kept => k_is); (case a_solved_by_sums => k_is); (case l_solved_by_sums => k_is); (case c_solved_by_sums => k_is); (case k_solved_by_sums => k_is); (case a_summed => k_is); (case l_summed => k_is); (case c_summed => k_is); (case k_summed => k_is); (case a__law_draw => k_is); (case l__law_draw => k_is); (case c__law_draw => k_is); (case k__law_draw => k_is); (case a_is_places => k_is); (case l_is_places => k_is); (case c_is_places => k_is); (case k_is_places => k_is); (case a_check_places => k_is); (case l_check_places => k_is); (case c_check_places => k_is); (case k_check_places => k_is); (case a_are_bits => k_is); (case l_are_bits => k_is); (case c_are_bits => k_is); (case k_are_bits => k_is); (case a_is_row => k_is); (case l_is_row => k_is); (case c_is_row => k_is); (case k_is_row => k_is); (case a_are_rows => k_is); (case l_are_rows => k_is); (case c_are_rows => k_is); (case k_are_rows => k_is); (case a_check_relation => k_is); (case l_check_relation => k_is); (case c_check_relation => k_is); (case k_check_relation => k_is); (case a_check_words => k_is); (case l_check_words => k_is); (case c_check_words => k_is); (case k_check_words => k_is); (case a_tuples_of => k_is); (case l_tuples_of => k_is); (case c_tuples_of => k_is); (case k_tuples_of => k_is); (case a_told_by => k_is); (case l_told_by => k_is); (case c_told_by => k_is); (case k_told_by => k_is); (case a_with_told => k_is); (case l_with_told => k_is); (case c_with_told => k_is); (case k_with_told => k_is); (case a_closed => k_is); (case l_closed => k_is); (case c_closed => k_is); (case k_closed => k_is); (case a__law_rows => k_is); (case l__law_rows => k_is); (case c__law_rows => k_is); (case k__law_rows => k_is); (case a__law_relation => k_is); (case l__law_relation => k_is); (case c__law_relation => k_is); (case k__law_relation => k_is); (case a_sets_within => k_is); (case l_sets_within => k_is); (case c_sets_within => k_is); (case k_sets_within => k_is); (case a_kept_equations => k_is); (case l_kept_equations => k_is); (case c_kept_equations => k_is); (case k_kept_equations => k_is); (case a_equations_of => k_is); (case l_equations_of => k_is); (case c_equations_of => k_is); (case k_equations_of => k_is); (case a_equations => k_is); (case l_equations => k_is); (case c_equations => k_is); (case k_equations => k_is); (case a__law_any => k_is); (case l__law_any => k_is); (case c__law_any => k_is); (case k__law_any => k_is); (case a_is_demand => k_is); (case l_is_demand => k_is); (case c_is_demand => k_is); (case k_is_demand => k_is); (case a_is_told => k_is); (case l_is_told => k_is); (case c_is_told => k_is); (case k_is_told => k_is); (case a_is_puzzle => k_is); (case l_is_puzzle => k_is); (case c_is_puzzle => k_is); (case k_is_puzzle => k_is); (case a_check_puzzle => k_is); (case l_check_puzzle => k_is); (case c_check_puzzle => k_is); (case k_check_puzzle => k_is); (case a_is_met => k_is); (case l_is_met => k_is); (case c_is_met => k_is); (case k_is_met => k_is); (case a_answers_it => k_is); (case l_answers_it => k_is); (case c_answers_it => k_is); (case k_answers_it => k_is); (case a_all_answers => k_is); (case l_all_answers => k_is); (case c_all_answers => k_is); (case k_all_answers => k_is); (case a_answers => k_is); (case l_answers => k_is); (case c_answers => k_is); (case k_answers => k_is); (case a_losing => k_is); (case l_losing => k_is); (case c_losing => k_is); (case k_losing => k_is); (case a_easy_words => k_is); (case l_easy_words => k_is); (case c_easy_words => k_is); (case k_easy_words => k_is); (case a_put_at => k_is); (case l_put_at => k_is); (case c_put_at => k_is); (case k_put_at => k_is); (case a_by_sums => k_is); (case l_by_sums => k_is); (case c_by_sums => k_is); (case k_by_sums => k_is); (case a__law_sets => k_is); (case l__law_sets => k_is); (case c__law_sets => k_is); (case k__law_sets => k_is); (case a__law_is => k_is); (case l__law_is => k_is); (case c__law_is => k_is); (case k__law_is => k_is); (case a__law_keeps => k_is); (case l__law_keeps => k_is); (case c__law_keeps => k_is); (case k__law_keeps => k_is); (case a__law_vector => k_is); (case l__law_vector => k_is); (case c__law_vector => k_is); (case k__law_vector => k_is); (case a__law_added => k_is); (case l__law_added => k_is); (case c__law_added => k_is); (case k__law_added => k_is); (case a__law_spanned => k_is); (case l__law_spanned => k_is); (case c__law_spanned => k_is); (case k__law_spanned => k_is); (case a__law_equations => k_is); (case l__law_equations => k_is); (case c__law_equations => k_is); (case k__law_equations => k_is); (case a_rows_keeping => k_is); (case l_rows_keeping => k_is); (case c_rows_keeping => k_is); (case k_rows_keeping => k_is); (case a_check_operation => k_is); (case l_check_operation => k_is); (case c_check_operation => k_is); (case k_check_operation => k_is); (case a_kept_by => k_is); (case l_kept_by => k_is); (case c_kept_by => k_is); (case k_kept_by => k_is); (case a_come_to_none => k_is); (case l_come_to_none => k_is); (case c_come_to_none => k_is); (case k_come_to_none => k_is); (case a_is_summed => k_is); (case l_is_summed => k_is); (case c_is_summed => k_is); (case k_is_summed => k_is); (case a__law_none => k_is); (case l__law_none => k_is); (case c__law_none => k_is); (case k__law_none => k_is); (case a__law_hand => k_is); (case l__law_hand => k_is); (case c__law_hand => k_is); (case k__law_hand => k_is); (case a_law => k_is); (case l_law => k_is); (case c_law => k_is); (case k_law => k_is); (case z_abs => k_is); (case z_all => k_is); (case z_bool => k_is); (case z_dict => k_is); (case z_enumerate => k_is); (case z_int => k_is); (case z_isinstance => k_is); (case z_len => k_is); (case z_list => k_is); (case z_max => k_is); (case z_min => k_is); (case z_range => k_is); (case z_sorted => k_is); (case z_str => k_is); (case z_sum => k_is); (case z_tuple => k_is); (case z_zip => k_is); (case t1_MOST_DEMANDS => k_is); (case t1_MOST_EQUATIONS => k_is); (case t1_MOST_LETTERS => k_is); (case t1_MOST_PLACES => k_is); (case t1_MOST_PUZZLED => k_is); (case t1_MOST_RELATIONS => k_is); (case t1_NAMES => k_is); (case t2_NAMES => k_is); (case d1_OPERATIONS => k_is); (case d2_OPERATIONS => k_is); (case t1_OPERATIONS_0 => k_is); (case t1_OPERATIONS_1 => k_is); (case t1_OPERATIONS_2 => k_is); (case t1_OPERATIONS_3 => k_is); (case t1_OPERATIONS_4 => k_is); (case t1_OPERATIONS_5 => k_is)
    (case t3_NAMES => rfl)
    (case d3_OPERATIONS => exact ⟨⟨_, _, rfl, rfl⟩, ⟨⟨_, _, rfl, rfl⟩, ⟨⟨_, _, rfl, rfl⟩, ⟨⟨_, _, rfl, rfl⟩, ⟨⟨_, _, rfl, rfl⟩, ⟨⟨_, _, rfl, rfl⟩, trivial⟩⟩⟩⟩⟩⟩)
    (case d4_OPERATIONS => rfl)
