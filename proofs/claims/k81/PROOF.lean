import PyProof.Rows.All
import Wide.All
import OpenK.AllK
import Wide.FinOn
import HandS.ForMost
import HandS.TupAny
import HandS.TupMul
import HandS.Deep
import HandS.Style
import HandS.IsInst
import HandS.Walk
import HandS.Zip
import HandS.Words
import HandS.More
import KE.GoesNew
import PySem.Challenge.RW_bittables_k81_whole_sequents_proved_or_n
set_option Elab.async false
set_option linter.all false
set_option maxRecDepth 100000
set_option maxHeartbeats 4000000
/-! Qa: values as trees, frames, stores, and what the pieces of a body do with them. -/
namespace Q
open PySem

inductive PV where
  | non | bl (b : Bool) | int (i : Int) | str (s : Str)
  | tup (xs : List PV) | lst (xs : List PV)
  | dct (ks vs : List PV)
  | ins (c : Nat) (ns : List Str) (fs : List PV)
  | ref (k : Nat)
  deriving Inhabited

abbrev Sto := List PV
inductive Re (α : Type) where
  | ok (a : α) (S : Sto)
  | ex (c : Nat) (args : List PV) (S : Sto)
  | bad
  deriving Inhabited
inductive Sl where
  | no | va (t : PV) | ow (t : PV) | bo (t : PV) | cl (F : List PV → Sto → Re PV)
  deriving Inhabited
abbrev Fr := List Sl
abbrev SE := Fr → Sto → Re PV
abbrev SA := Fr → Sto → Re (List PV)
abbrev SB := Fr → Sto → Re Bool
abbrev FN := List Sl → Sto → Re PV

def Re.bind {α β : Type} : Re α → (α → Sto → Re β) → Re β
  | .ok a S, f => f a S
  | .ex c as S, _ => .ex c as S
  | .bad, _ => .bad
def Re.of {α : Type} : Option α → Sto → Re α
  | some a, S => .ok a S
  | none, _ => .bad
section
variable {α β : Type} {a : α} {S : Sto} {f : α → Sto → Re β}
@[simp] theorem Re.bind_ok : (Re.ok a S).bind f = f a S := rfl
@[simp] theorem Re.bind_ex {c : Nat} {as : List PV} : (Re.ex c as S : Re α).bind f = .ex c as S := rfl
@[simp] theorem Re.bind_bad : (Re.bad : Re α).bind f = .bad := rfl
@[simp] theorem Re.of_some : Re.of (some a) S = .ok a S := rfl
@[simp] theorem Re.of_none : (Re.of none S : Re α) = .bad := rfl
end

theorem Re.bind_assoc {α β γ : Type} (x : Re α) (f : α → Sto → Re β) (g : β → Sto → Re γ) : (x.bind f).bind g = x.bind fun a S => (f a S).bind g := by
  cases x <;> rfl

/-! ### data -/
mutual
def PV.toD : PV → PyData
  | .non => .none
  | .bl b => .bool b
  | .int i => .int i
  | .str s => .str s
  | .tup xs => .tuple (toDs xs)
  | .lst xs => .list (toDs xs)
  | .dct _ _ => .none
  | .ins _ _ _ => .none
  | .ref _ => .none
def toDs : List PV → List PyData
  | [] => []
  | x :: xs => x.toD :: toDs xs
end
mutual
/-- data alone, at most n deep -/
def PV.isD : Nat → PV → Bool
  | _, .non => true
  | _, .bl _ => true
  | _, .int _ => true
  | _, .str s => PyData.canLay0 (.str s)
  | 0, .tup _ => false
  | n + 1, .tup xs => areD n xs
  | 0, .lst _ => false
  | n + 1, .lst xs => areD n xs
  | _, .dct _ _ => false
  | _, .ins _ _ _ => false
  | _, .ref _ => false
def areD : Nat → List PV → Bool
  | _, [] => true
  | n, x :: xs => x.isD n && areD n xs
end
mutual
def peq : PV → PV → Bool
  | .non, y => match y with | .non => true | _ => false
  | .bl a, y => match y with | .bl b => a == b | .int j => (if a then 1 else 0) == j | _ => false
  | .int i, y => match y with | .bl b => i == (if b then 1 else 0) | .int j => i == j | _ => false
  | .str a, y => match y with | .str b => a == b | _ => false
  | .tup xs, y => match y with | .tup ys => peqs xs ys | _ => false
  | .lst xs, y => match y with | .lst ys => peqs xs ys | _ => false
  | .dct _ _, _ => false
  | .ins _ _ _, _ => false
  | .ref _, _ => false
def peqs : List PV → List PV → Bool
  | [], ys => match ys with | [] => true | _ :: _ => false
  | x :: xs, ys => match ys with | [] => false | y :: ys => peq x y && peqs xs ys
end

/-! ### operators -/
/-- a length that a list or tuple may have -/
abbrev fits (n : Nat) : Bool := decide (n ≤ 16777216)
def small (i : Int) : Bool := decide (-(2 ^ 64) < i) && decide (i < 2 ^ 64)
inductive Op | add | sub | mul | fdiv | mod | pow | shl | xor | band | bor
def intsOf (g : Int → Int → Option Int) : PV → PV → Option PV
  | .int i, .int j => (g i j).map .int
  | _, _ => none
def catT : PV → PV → Option PV
  | .tup xs, .tup ys => if fits (xs.length + ys.length) then some (.tup (xs ++ ys)) else none
  | _, _ => none
def catL : PV → PV → Option PV
  | .lst xs, .lst ys => if fits (xs.length + ys.length) then some (.lst (xs ++ ys)) else none
  | _, _ => none
def repT : PV → PV → Option PV
  | .tup xs, .int k => if !xs.isEmpty && decide (2 ≤ k) && decide (k ≤ 1000) && decide (xs.length ≤ 1000) then some (.tup (List.replicate k.toNat xs).flatten) else none
  | _, _ => none
def repL : PV → PV → Option PV
  | .lst xs, .int k => if fits (xs.length * k.toNat) && decide (k < 2 ^ 63) && decide (-(2 ^ 63) ≤ k) then some (.lst (List.replicate k.toNat xs).flatten) else none
  | _, _ => none
section
variable {g : Int → Int → Option Int} {xs ys : List PV} {i j : Int} {y : PV}
@[simp] theorem intsOf_int : intsOf g (.int i) (.int j) = (g i j).map .int := rfl
@[simp] theorem intsOf_tup : intsOf g (.tup xs) y = none := rfl
@[simp] theorem intsOf_lst : intsOf g (.lst xs) y = none := rfl
@[simp] theorem catT_tup : catT (.tup xs) (.tup ys) = if fits (xs.length + ys.length) then some (.tup (xs ++ ys)) else none := rfl
@[simp] theorem catT_lst : catT (.lst xs) y = none := rfl
@[simp] theorem catL_lst : catL (.lst xs) (.lst ys) = if fits (xs.length + ys.length) then some (.lst (xs ++ ys)) else none := rfl
@[simp] theorem repT_tup : repT (.tup xs) (.int i) = if !xs.isEmpty && decide (2 ≤ i) && decide (i ≤ 1000) && decide (xs.length ≤ 1000) then some (.tup (List.replicate i.toNat xs).flatten) else none := rfl
@[simp] theorem repT_lst : repT (.lst xs) y = none := rfl
@[simp] theorem repL_lst : repL (.lst xs) (.int i) = if fits (xs.length * i.toNat) && decide (i < 2 ^ 63) && decide (-(2 ^ 63) ≤ i) then some (.lst (List.replicate i.toNat xs).flatten) else none := rfl
end
@[simp] def Op.on : Op → PV → PV → Option PV
  | .add, x, y => (intsOf (fun i j => some (i + j)) x y).or ((catT x y).or (catL x y))
  | .sub, x, y => intsOf (fun i j => some (i - j)) x y
  | .mul, x, y => (intsOf (fun i j => if small i || small j then some (i * j) else none) x y).or ((repT x y).or (repL x y))
  | .fdiv, x, y => intsOf (fun i j => if decide (j ≠ 0) && decide (j.natAbs < 1073741824) then some (i.fdiv j) else none) x y
  | .mod, x, y => intsOf (fun i j => if decide (j ≠ 0) then some (i.fmod j) else none) x y
  | .pow, x, y => intsOf (fun i j => if decide (0 ≤ j) && decide (j ≤ 1000000) && decide (i.natAbs < 2 ^ 64) then some (i ^ j.toNat) else none) x y
  | .shl, x, y => intsOf (fun i j => if decide (0 ≤ j) && decide (j ≤ 1000000) && decide (i.natAbs < 2 ^ 64) then some (i * 2 ^ j.toNat) else none) x y
  | .xor, x, y => intsOf (fun i j => some (Builtin.bitXor i j)) x y
  | .band, x, y => intsOf (fun i j => some (Builtin.bitAnd i j)) x y
  | .bor, x, y => intsOf (fun i j => some (Builtin.bitOr i j)) x y
inductive Cm | eq | ne | lt | le | gt | ge | isin | notin | isN | notN | isBl | notBl
/-- deep enough for == -/
abbrev deep : Nat := 60
def PV.items : PV → Option (List PV)
  | .tup xs => some xs
  | .lst xs => some xs
  | _ => none
def PV.isNon : PV → Bool
  | .non => true
  | _ => false
def cmI (g : Int → Int → Bool) : PV → PV → Option Bool
  | .int i, .int j => some (g i j)
  | _, _ => none
def cmB (g : Bool → Bool → Bool) : PV → PV → Option Bool
  | .bl i, .bl j => some (g i j)
  | _, _ => none
def inV (x : PV) : PV → Option Bool
  | .tup ys => if x.isD deep && areD deep ys then some (ys.any fun y => peq y x) else none
  | .lst ys => if x.isD deep && areD deep ys then some (ys.any fun y => peq y x) else none
  | _ => none
def isNo (x : PV) : PV → Option Bool
  | .non => some x.isNon
  | _ => none
section
variable {g : Int → Int → Bool} {f : Bool → Bool → Bool} {i j : Int} {a b : Bool} {x : PV} {xs ys ks : List PV} {ns : List Str} {n : Nat} {s : Str}
@[simp] theorem isNon_non : PV.non.isNon = true := rfl
@[simp] theorem isNon_bl : (PV.bl a).isNon = false := rfl
@[simp] theorem isNon_int : (PV.int i).isNon = false := rfl
@[simp] theorem isNon_str : (PV.str s).isNon = false := rfl
@[simp] theorem isNon_tup : (PV.tup xs).isNon = false := rfl
@[simp] theorem isNon_lst : (PV.lst xs).isNon = false := rfl
@[simp] theorem isNon_ins : (PV.ins n ns xs).isNon = false := rfl
@[simp] theorem isNon_ref : (PV.ref n).isNon = false := rfl
@[simp] theorem cmI_int : cmI g (.int i) (.int j) = some (g i j) := rfl
@[simp] theorem cmB_bl : cmB f (.bl a) (.bl b) = some (f a b) := rfl
@[simp] theorem inV_tup : inV x (.tup ys) = if x.isD deep && areD deep ys then some (ys.any fun y => peq y x) else none := rfl
@[simp] theorem inV_lst : inV x (.lst ys) = if x.isD deep && areD deep ys then some (ys.any fun y => peq y x) else none := rfl
@[simp] theorem isNo_non : isNo x .non = some x.isNon := rfl
end
@[simp] def Cm.on : Cm → PV → PV → Option Bool
  | .eq, x, y => if x.isD deep && y.isD deep then some (peq x y) else none
  | .ne, x, y => if x.isD deep && y.isD deep then some (!peq x y) else none
  | .lt, x, y => cmI (fun i j => decide (i < j)) x y
  | .le, x, y => cmI (fun i j => decide (i ≤ j)) x y
  | .gt, x, y => cmI (fun i j => decide (j < i)) x y
  | .ge, x, y => cmI (fun i j => decide (j ≤ i)) x y
  | .isin, x, y => inV x y
  | .notin, x, y => (inV x y).map (!·)
  | .isN, x, y => isNo x y
  | .notN, x, y => (isNo x y).map (!·)
  | .isBl, x, y => cmB (fun a b => decide (a = b)) x y
  | .notBl, x, y => cmB (fun a b => !decide (a = b)) x y

/-! ### expressions -/
@[simp] def eC (t : PV) : SE := fun _ S => .ok t S
/-- a name whose value is a plain one -/
def eV (i : Nat) : SE := fun fr S => match fr[i]? with
  | some (.va t) => .ok t S
  | _ => .bad
/-- a name that is only looked at: a plain value, a list of one's own, a borrowed one -/
def eP (i : Nat) : SE := fun fr S => match fr[i]? with
  | some (.va t) => .ok t S
  | some (.ow t) => .ok t S
  | some (.bo t) => .ok t S
  | _ => .bad
@[simp] def eOp (o : Op) (a b : SE) : SE := fun fr S => (a fr S).bind fun x S1 => (b fr S1).bind fun y S2 => .of (o.on x y) S2
def eNeg (a : SE) : SE := fun fr S => (a fr S).bind fun x S1 => match x with
  | .int i => .ok (.int (-i)) S1
  | _ => .bad
@[simp] def bCm (o : Cm) (a b : SE) : SB := fun fr S => (a fr S).bind fun x S1 => (b fr S1).bind fun y S2 => .of (o.on x y) S2
/-- a o1 b o2 c -/
@[simp] def bCh (o1 o2 : Cm) (a b c : SE) : SB := fun fr S => (a fr S).bind fun x S1 => (b fr S1).bind fun y S2 => (Re.of (o1.on x y) S2).bind fun k S3 =>
  if k then (c fr S3).bind fun z S4 => .of (o2.on y z) S4 else .ok false S3
@[simp] def eB (b : SB) : SE := fun fr S => (b fr S).bind fun k S1 => .ok (.bl k) S1
/-- an expression whose value is a bool, as a test -/
def bE (a : SE) : SB := fun fr S => (a fr S).bind fun x S1 => match x with
  | .bl k => .ok k S1
  | _ => .bad
@[simp] def bNot (a : SB) : SB := fun fr S => (a fr S).bind fun k S1 => .ok (!k) S1
@[simp] def bAnd (a b : SB) : SB := fun fr S => (a fr S).bind fun k S1 => if k then b fr S1 else .ok false S1
@[simp] def bOr (a b : SB) : SB := fun fr S => (a fr S).bind fun k S1 => if k then .ok true S1 else b fr S1
/-- a and b as a value, a's value a bool -/
@[simp] def eAnd (a : SB) (b : SE) : SE := fun fr S => (a fr S).bind fun k S1 => if k then b fr S1 else .ok (.bl false) S1
@[simp] def eOr (a : SB) (b : SE) : SE := fun fr S => (a fr S).bind fun k S1 => if k then .ok (.bl true) S1 else b fr S1
@[simp] def eIf (c : SB) (a b : SE) : SE := fun fr S => (c fr S).bind fun k S1 => if k then a fr S1 else b fr S1
@[simp] def aN : SA := fun _ S => .ok [] S
@[simp] def aC (a : SE) (r : SA) : SA := fun fr S => (a fr S).bind fun x S1 => (r fr S1).bind fun xs S2 => .ok (x :: xs) S2
def eTup (r : SA) : SE := fun fr S => (r fr S).bind fun xs S1 => if fits xs.length then .ok (.tup xs) S1 else .bad
def eLst (r : SA) : SE := fun fr S => (r fr S).bind fun xs S1 => if fits xs.length then .ok (.lst xs) S1 else .bad

/-- the place that an index means -/
def ixN (n : Nat) (i : Int) : Option Nat := if 0 ≤ i then (if i < n then some i.toNat else none) else if -(n : Int) ≤ i then some (i + n).toNat else none
def ixV (xs : List PV) (i : Int) : Option PV := (ixN xs.length i).bind fun j => xs[j]?
def PV.at_ : PV → PV → Option PV
  | .tup xs, .int i => ixV xs i
  | .lst xs, .int i => ixV xs i
  | _, _ => none
/-- x[i] of a list or tuple -/
@[simp] def eIx (a b : SE) : SE := fun fr S => (a fr S).bind fun x S1 => (b fr S1).bind fun y S2 => .of (x.at_ y) S2
/-- x[i] of a list in the store -/
def stAt (S : Sto) (x y : PV) : Option PV := match x with
  | .ref k => match S[k]? with
    | some t => t.at_ y
    | none => none
  | _ => none
@[simp] def eIxS (a b : SE) : SE := fun fr S => (a fr S).bind fun x S1 => (b fr S1).bind fun y S2 => .of (stAt S2 x y) S2
def sIx (n d : Nat) : Option Int → Nat
  | none => d
  | some v => if v < 0 then (v + (n : Int)).toNat else min v.toNat n
def cut {α : Type} (xs : List α) (lo hi : Option Int) : List α := (xs.drop (sIx xs.length 0 lo)).take (sIx xs.length xs.length hi - sIx xs.length 0 lo)
abbrev SO := Fr → Sto → Re (Option Int)
@[simp] def oN : SO := fun _ S => .ok none S
def oS (a : SE) : SO := fun fr S => (a fr S).bind fun x S1 => match x with
  | .int i => .ok (some i) S1
  | _ => .bad
def PV.cut_ : PV → Option Int → Option Int → Option PV
  | .tup xs, lo, hi => some (.tup (cut xs lo hi))
  | .lst xs, lo, hi => some (.lst (cut xs lo hi))
  | _, _, _ => none
@[simp] def eSl (a : SE) (lo hi : SO) : SE := fun fr S => (a fr S).bind fun x S1 => (lo fr S1).bind fun l S2 => (hi fr S2).bind fun h S3 => .of (x.cut_ l h) S3

/-! ### built-ins -/
def allBl : List PV → Option (List Bool)
  | [] => some []
  | .bl b :: r => (allBl r).map (b :: ·)
  | _ :: _ => none
def allInt : List PV → Option (List Int)
  | [] => some []
  | .int i :: r => (allInt r).map (i :: ·)
  | _ :: _ => none
def leastI : Int → List Int → Int
  | m, [] => m
  | m, x :: r => leastI (if x < m then x else m) r
def greatestI : Int → List Int → Int
  | m, [] => m
  | m, x :: r => greatestI (if m < x then x else m) r
def bLen : List PV → Option PV
  | [.tup xs] => some (.int xs.length)
  | [.lst xs] => some (.int xs.length)
  | _ => none
def bAll : List PV → Option PV
  | [.lst xs] => (allBl xs).map fun bs => .bl (bs.all id)
  | _ => none
def bAny : List PV → Option PV
  | [.lst xs] => (allBl xs).map fun bs => .bl (bs.any id)
  | _ => none
def bSum : List PV → Option PV
  | [.lst xs] => (allInt xs).map fun ns => .int ns.sum
  | _ => none
def least1 : List Int → Option PV
  | n :: r => some (.int (leastI n r))
  | [] => none
def greatest1 : List Int → Option PV
  | n :: r => some (.int (greatestI n r))
  | [] => none
def bMin : List PV → Option PV
  | [.lst xs] => (allInt xs).bind least1
  | _ => none
def bMax : List PV → Option PV
  | [.lst xs] => (allInt xs).bind greatest1
  | _ => none
def bMin2 : List PV → Option PV
  | [.int i, .int j] => some (.int (if j < i then j else i))
  | _ => none
def bMax2 : List PV → Option PV
  | [.int i, .int j] => some (.int (if j > i then j else i))
  | _ => none
def bInt : List PV → Option PV
  | [.int i] => some (.int i)
  | [.bl b] => some (.int (if b then 1 else 0))
  | _ => none
def bAbs : List PV → Option PV
  | [.int i] => some (.int (if i < 0 then -i else i))
  | _ => none
def bTuple : List PV → Option PV
  | [.tup xs] => some (.tup xs)
  | [.lst xs] => some (.tup xs)
  | _ => none
def bList : List PV → Option PV
  | [.tup xs] => some (.lst xs)
  | [.lst xs] => some (.lst xs)
  | _ => none
section
variable {xs : List PV} {i j : Int} {b : Bool} {l : List Int}
@[simp] theorem bLen_t : bLen [.tup xs] = some (.int xs.length) := rfl
@[simp] theorem bLen_l : bLen [.lst xs] = some (.int xs.length) := rfl
@[simp] theorem bAll_l : bAll [.lst xs] = (allBl xs).map fun bs => .bl (bs.all id) := rfl
@[simp] theorem bAny_l : bAny [.lst xs] = (allBl xs).map fun bs => .bl (bs.any id) := rfl
@[simp] theorem bSum_l : bSum [.lst xs] = (allInt xs).map fun ns => .int ns.sum := rfl
@[simp] theorem bMin_l : bMin [.lst xs] = (allInt xs).bind least1 := rfl
@[simp] theorem bMax_l : bMax [.lst xs] = (allInt xs).bind greatest1 := rfl
@[simp] theorem least1_c : least1 (i :: l) = some (.int (leastI i l)) := rfl
@[simp] theorem greatest1_c : greatest1 (i :: l) = some (.int (greatestI i l)) := rfl
@[simp] theorem bMin2_i : bMin2 [.int i, .int j] = some (.int (if j < i then j else i)) := rfl
@[simp] theorem bMax2_i : bMax2 [.int i, .int j] = some (.int (if j > i then j else i)) := rfl
@[simp] theorem bInt_i : bInt [.int i] = some (.int i) := rfl
@[simp] theorem bInt_b : bInt [.bl b] = some (.int (if b then 1 else 0)) := rfl
@[simp] theorem bAbs_i : bAbs [.int i] = some (.int (if i < 0 then -i else i)) := rfl
@[simp] theorem bTuple_t : bTuple [.tup xs] = some (.tup xs) := rfl
@[simp] theorem bTuple_l : bTuple [.lst xs] = some (.tup xs) := rfl
@[simp] theorem bList_t : bList [.tup xs] = some (.lst xs) := rfl
@[simp] theorem bList_l : bList [.lst xs] = some (.lst xs) := rfl
end
@[simp] def eBi (f : List PV → Option PV) (r : SA) : SE := fun fr S => (r fr S).bind fun xs S1 => .of (f xs) S1
/-- list(range(n)) -/
def rangeV (lo : Int) (n : Nat) : List PV := (List.range n).map fun (i : Nat) => .int (lo + i)
/-- isinstance(x, ..) -/
inductive Ty | int | bool | str | tuple | list | dict
def PV.tyName : PV → Option String
  | .non => some "NoneType"
  | .bl _ => some "bool"
  | .int _ => some "int"
  | .str _ => some "str"
  | .tup _ => some "tuple"
  | .lst _ => some "list"
  | _ => none
def PV.ofTy : PV → Ty → Bool
  | .int _, .int => true
  | .bl _, .int => true
  | .bl _, .bool => true
  | .str _, .str => true
  | .tup _, .tuple => true
  | .lst _, .list => true
  | _, _ => false
def isV (x : PV) (ts : List Ty) : Option Bool := x.tyName.map fun _ => ts.any x.ofTy
@[simp] def bIs (a : SE) (ts : List Ty) : SB := fun fr S => (a fr S).bind fun x S1 => .of (isV x ts) S1
section
variable {ts : List Ty} {i : Int} {b : Bool} {s : Str} {xs : List PV}
@[simp] theorem isV_non : isV .non ts = some (ts.any PV.non.ofTy) := rfl
@[simp] theorem isV_bl : isV (.bl b) ts = some (ts.any (PV.bl b).ofTy) := rfl
@[simp] theorem isV_int : isV (.int i) ts = some (ts.any (PV.int i).ofTy) := rfl
@[simp] theorem isV_str : isV (.str s) ts = some (ts.any (PV.str s).ofTy) := rfl
@[simp] theorem isV_tup : isV (.tup xs) ts = some (ts.any (PV.tup xs).ofTy) := rfl
@[simp] theorem isV_lst : isV (.lst xs) ts = some (ts.any (PV.lst xs).ofTy) := rfl
@[simp] theorem ofTy_ii : (PV.int i).ofTy .int = true := rfl
@[simp] theorem ofTy_ib : (PV.int i).ofTy .bool = false := rfl
@[simp] theorem ofTy_is : (PV.int i).ofTy .str = false := rfl
@[simp] theorem ofTy_it : (PV.int i).ofTy .tuple = false := rfl
@[simp] theorem ofTy_il : (PV.int i).ofTy .list = false := rfl
@[simp] theorem ofTy_bi : (PV.bl b).ofTy .int = true := rfl
@[simp] theorem ofTy_bb : (PV.bl b).ofTy .bool = true := rfl
@[simp] theorem ofTy_bs : (PV.bl b).ofTy .str = false := rfl
@[simp] theorem ofTy_bt : (PV.bl b).ofTy .tuple = false := rfl
@[simp] theorem ofTy_blst : (PV.bl b).ofTy .list = false := rfl
@[simp] theorem ofTy_si : (PV.str s).ofTy .int = false := rfl
@[simp] theorem ofTy_sb : (PV.str s).ofTy .bool = false := rfl
@[simp] theorem ofTy_ss : (PV.str s).ofTy .str = true := rfl
@[simp] theorem ofTy_st : (PV.str s).ofTy .tuple = false := rfl
@[simp] theorem ofTy_sl : (PV.str s).ofTy .list = false := rfl
@[simp] theorem ofTy_ti : (PV.tup xs).ofTy .int = false := rfl
@[simp] theorem ofTy_tb : (PV.tup xs).ofTy .bool = false := rfl
@[simp] theorem ofTy_ts : (PV.tup xs).ofTy .str = false := rfl
@[simp] theorem ofTy_tt : (PV.tup xs).ofTy .tuple = true := rfl
@[simp] theorem ofTy_tl : (PV.tup xs).ofTy .list = false := rfl
@[simp] theorem ofTy_li : (PV.lst xs).ofTy .int = false := rfl
@[simp] theorem ofTy_lb : (PV.lst xs).ofTy .bool = false := rfl
@[simp] theorem ofTy_ls : (PV.lst xs).ofTy .str = false := rfl
@[simp] theorem ofTy_lt : (PV.lst xs).ofTy .tuple = false := rfl
@[simp] theorem ofTy_ll : (PV.lst xs).ofTy .list = true := rfl
@[simp] theorem ofTy_n (t : Ty) : PV.non.ofTy t = false := by cases t <;> rfl
end

/-! ### calls -/
/-- how an argument is handed on: a plain value; a list lent; a function handed on -/
abbrev SG := Fr → Sto → Re (List Sl)
@[simp] def gN : SG := fun _ S => .ok [] S
@[simp] def gV (a : SE) (r : SG) : SG := fun fr S => (a fr S).bind fun x S1 => (r fr S1).bind fun xs S2 => .ok (.va x :: xs) S2
/-- lent, to be looked at -/
@[simp] def gL (a : SE) (r : SG) : SG := fun fr S => (a fr S).bind fun x S1 => (r fr S1).bind fun xs S2 => .ok (.bo x :: xs) S2
@[simp] def eCall (F : FN) (r : SG) : SE := fun fr S => (r fr S).bind fun xs S1 => F xs S1

/-! ### what is walked -/
abbrev SI := Fr → Sto → Re (List PV)
@[simp] def iSeq (a : SE) : SI := fun fr S => (a fr S).bind fun x S1 => .of x.items S1
def rng1 : PV → Option (List PV)
  | .int j => if decide (j ≤ 16777216) && decide (-4611686018427387904 ≤ j) then some (rangeV 0 j.toNat) else none
  | _ => none
@[simp] theorem rng1_int {j : Int} : rng1 (.int j) = if decide (j ≤ 16777216) && decide (-4611686018427387904 ≤ j) then some (rangeV 0 j.toNat) else none := rfl
@[simp] def iRng1 (a : SE) : SI := fun fr S => (a fr S).bind fun x S1 => .of (rng1 x) S1
def rng2 : PV → PV → Option (List PV)
  | .int i, .int j => if decide (-4611686018427387904 ≤ i) && decide (i < 4611686018427387904) && decide (-4611686018427387904 ≤ j) && decide (j < 4611686018427387904) && decide (j - i ≤ 16777216) then some (rangeV i (j - i).toNat) else none
  | _, _ => none
@[simp] theorem rng2_int {i j : Int} : rng2 (.int i) (.int j) = if decide (-4611686018427387904 ≤ i) && decide (i < 4611686018427387904) && decide (-4611686018427387904 ≤ j) && decide (j < 4611686018427387904) && decide (j - i ≤ 16777216) then some (rangeV i (j - i).toNat) else none := rfl
@[simp] def iRng2 (a b : SE) : SI := fun fr S => (a fr S).bind fun x S1 => (b fr S1).bind fun y S2 => .of (rng2 x y) S2
def zipV (xs ys : List PV) : List PV := List.zipWith (fun x y => .tup [x, y]) xs ys
def zipO (x y : PV) : Option (List PV) := x.items.bind fun xs => y.items.map fun ys => zipV xs ys
@[simp] def iZip (a b : SE) : SI := fun fr S => (a fr S).bind fun x S1 => (b fr S1).bind fun y S2 => .of (zipO x y) S2
def enumV (n : Nat) : List PV → List PV
  | [] => []
  | x :: r => .tup [.int (n : Int), x] :: enumV (n + 1) r
def enumO (x : PV) : Option (List PV) := x.items.map (enumV 0)
@[simp] def iEnum (a : SE) : SI := fun fr S => (a fr S).bind fun x S1 => .of (enumO x) S1
section
variable {xs ys : List PV}
@[simp] theorem items_tup : (PV.tup xs).items = some xs := rfl
@[simp] theorem items_lst : (PV.lst xs).items = some xs := rfl
@[simp] theorem zipO_tt : zipO (.tup xs) (.tup ys) = some (zipV xs ys) := rfl
@[simp] theorem zipO_tl : zipO (.tup xs) (.lst ys) = some (zipV xs ys) := rfl
@[simp] theorem zipO_lt : zipO (.lst xs) (.tup ys) = some (zipV xs ys) := rfl
@[simp] theorem zipO_ll : zipO (.lst xs) (.lst ys) = some (zipV xs ys) := rfl
@[simp] theorem enumO_t : enumO (.tup xs) = some (enumV 0 xs) := rfl
@[simp] theorem enumO_l : enumO (.lst xs) = some (enumV 0 xs) := rfl
end
/-- targets -/
abbrev TgS := PV → Fr → Option Fr
@[simp] def tN (i : Nat) : TgS := fun x fr => some (fr.set i (.va x))
def setAll : List Nat → List PV → Fr → Option Fr
  | [], [], fr => some fr
  | i :: is, x :: xs, fr => setAll is xs (fr.set i (.va x))
  | _, _, _ => none
def tT (is : List Nat) : TgS := fun x fr => match x with
  | .tup xs => setAll is xs fr
  | _ => none
/-- a comprehension's turns -/
def lcGo (tg : TgS) (c : SB) (e : SE) (fr : Fr) : List PV → Sto → Re (List PV)
  | [], S => .ok [] S
  | x :: r, S => match tg x fr with
    | none => .bad
    | some fr1 => match c fr1 S with
      | .ok k S1 => if k then
          match e fr1 S1 with
          | .ok y S2 => (lcGo tg c e fr r S2).bind fun ys S3 => .ok (y :: ys) S3
          | _ => .bad
        else lcGo tg c e fr r S1
      | _ => .bad
/-- a comprehension's own names are not known ahead of it -/
def wipeF (fr : Fr) : List Nat → Fr
  | [] => fr
  | v :: vs => (wipeF fr vs).set v .no
@[simp] theorem wipeF_nil {fr : Fr} : wipeF fr [] = fr := rfl
@[simp] theorem wipeF_cons {fr : Fr} {v : Nat} {vs : List Nat} : wipeF fr (v :: vs) = (wipeF fr vs).set v .no := rfl
@[simp] def bT : SB := fun _ S => .ok true S
@[simp] def eLc (vs : List Nat) (it : SI) (tg : TgS) (c : SB) (e : SE) : SE := fun fr S => (it fr S).bind fun xs S1 => (lcGo tg c e (wipeF fr vs) xs S1).bind fun ys S2 => .ok (.lst ys) S2

/-! ### statements -/
inductive Ou where
  | nx (fr : Fr) (S : Sto)
  | rt (t : PV) (S : Sto)
  | bk (fr : Fr) (S : Sto)
  | ct (fr : Fr) (S : Sto)
  | ex (c : Nat) (args : List PV) (S : Sto)
  | bad
  deriving Inhabited
abbrev SS := Fr → Sto → Ou
def Ou.seq : Ou → SS → Ou
  | .nx fr S, k => k fr S
  | .rt t S, _ => .rt t S
  | .bk fr S, _ => .bk fr S
  | .ct fr S, _ => .ct fr S
  | .ex c as S, _ => .ex c as S
  | .bad, _ => .bad
def Re.thn {α : Type} : Re α → (α → Sto → Ou) → Ou
  | .ok a S, k => k a S
  | .ex c as S, _ => .ex c as S
  | .bad, _ => .bad
section
variable {α : Type} {a : α} {fr : Fr} {S : Sto} {t : PV} {k : SS} {f : α → Sto → Ou} {c : Nat} {as : List PV}
@[simp] theorem Ou.seq_nx : (Ou.nx fr S).seq k = k fr S := rfl
@[simp] theorem Ou.seq_rt : (Ou.rt t S).seq k = .rt t S := rfl
@[simp] theorem Ou.seq_bk : (Ou.bk fr S).seq k = .bk fr S := rfl
@[simp] theorem Ou.seq_ct : (Ou.ct fr S).seq k = .ct fr S := rfl
@[simp] theorem Ou.seq_ex : (Ou.ex c as S).seq k = .ex c as S := rfl
@[simp] theorem Ou.seq_bad : Ou.bad.seq k = .bad := rfl
@[simp] theorem Re.thn_ok : (Re.ok a S).thn f = f a S := rfl
@[simp] theorem Re.thn_ex : (Re.ex c as S : Re α).thn f = .ex c as S := rfl
@[simp] theorem Re.thn_bad : (Re.bad : Re α).thn f = .bad := rfl
end
@[simp] def sNil : SS := fun fr S => .nx fr S
@[simp] def sSeq (a b : SS) : SS := fun fr S => (a fr S).seq b
@[simp] def sBad : SS := fun _ _ => .bad
@[simp] def sExpr (e : SE) : SS := fun fr S => (e fr S).thn fun _ S1 => .nx fr S1
@[simp] def sSet (i : Nat) (e : SE) : SS := fun fr S => (e fr S).thn fun x S1 => .nx (fr.set i (.va x)) S1
def PV.isC : PV → Bool
  | .lst _ => true
  | _ => false
@[simp] theorem isC_lst {xs : List PV} : (PV.lst xs).isC = true := rfl
/-- a new list that is the frame's own -/
def sOwn (i : Nat) (e : SE) : SS := fun fr S => (e fr S).thn fun x S1 => if x.isC then .nx (fr.set i (.ow x)) S1 else .bad
/-- several names at once: values, new lists of the frame's own -/
abbrev SH := Fr → Sto → Re (List Sl)
@[simp] def hN : SH := fun _ S => .ok [] S
@[simp] def hV (a : SE) (r : SH) : SH := fun fr S => (a fr S).bind fun x S1 => (r fr S1).bind fun xs S2 => .ok (.va x :: xs) S2
def hO (a : SE) (r : SH) : SH := fun fr S => (a fr S).bind fun x S1 => if x.isC then (r fr S1).bind fun xs S2 => .ok (.ow x :: xs) S2 else .bad
def setSl : List Nat → List Sl → Fr → Option Fr
  | [], [], fr => some fr
  | i :: is, a :: as, fr => setSl is as (fr.set i a)
  | _, _, _ => none
@[simp] theorem setSl_nil {fr : Fr} : setSl [] [] fr = some fr := rfl
@[simp] theorem setSl_cons {i : Nat} {is : List Nat} {a : Sl} {as : List Sl} {fr : Fr} : setSl (i :: is) (a :: as) fr = setSl is as (fr.set i a) := rfl
def Ou.nxO : Option Fr → Sto → Ou
  | some fr, S => .nx fr S
  | none, _ => .bad
@[simp] theorem nxO_some {fr : Fr} {S : Sto} : Ou.nxO (some fr) S = .nx fr S := rfl
@[simp] theorem nxO_none {S : Sto} : Ou.nxO none S = .bad := rfl
@[simp] def sPar (is : List Nat) (m : SH) : SS := fun fr S => (m fr S).thn fun as S1 => .nxO (setSl is as fr) S1
/-- (i, j, ..) = a tuple -/
def sUnp (is : List Nat) (e : SE) : SS := fun fr S => (e fr S).thn fun x S1 => match tT is x fr with
  | some fr1 => .nx fr1 S1
  | none => .bad
def Sl.froz : Sl → Sl
  | .ow t => .va t
  | s => s
/-- a list of the frame's own is not changed from now on -/
def sFrz (i : Nat) (s : SS) : SS := fun fr S => match fr[i]? with
  | some a => s (fr.set i a.froz) S
  | none => .bad
@[simp] def sRet (e : SE) : SS := fun fr S => (e (fr.map Sl.froz) S).thn fun x S1 => .rt x S1
@[simp] def sRetN : SS := fun _ S => .rt .non S
@[simp] def sIf (c : SB) (a b : SS) : SS := fun fr S => (c fr S).thn fun k S1 => if k then a fr S1 else b fr S1
@[simp] def sBrk : SS := fun fr S => .bk fr S
@[simp] def sCnt : SS := fun fr S => .ct fr S
def forGo (tg : TgS) (b : SS) : List PV → Fr → Sto → Ou
  | [], fr, S => .nx fr S
  | x :: r, fr, S => match tg x fr with
    | none => .bad
    | some fr1 => match b fr1 S with
      | .nx fr2 S2 => forGo tg b r fr2 S2
      | .ct fr2 S2 => forGo tg b r fr2 S2
      | .bk fr2 S2 => .nx fr2 S2
      | .rt t S2 => .rt t S2
      | .ex c as S2 => .ex c as S2
      | .bad => .bad
@[simp] def sFor (it : SI) (tg : TgS) (b : SS) : SS := fun fr S => (it fr S).thn fun xs S1 => forGo tg b xs fr S1
def whGo (c : SB) (b : SS) : Nat → Fr → Sto → Ou
  | 0, _, _ => .bad
  | n + 1, fr, S => match c fr S with
    | .ok k S1 => if k then
        match b fr S1 with
        | .nx fr2 S2 => whGo c b n fr2 S2
        | .ct fr2 S2 => whGo c b n fr2 S2
        | .bk fr2 S2 => .nx fr2 S2
        | .rt t S2 => .rt t S2
        | .ex c as S2 => .ex c as S2
        | .bad => .bad
      else .nx fr S1
    | .ex c as S1 => .ex c as S1
    | .bad => .bad
@[simp] def sWh (n : Nat) (c : SB) (b : SS) : SS := fun fr S => whGo c b n fr S
/-- x.append(e), x the frame's own -/
def sApp (i : Nat) (e : SE) : SS := fun fr S => (e fr S).thn fun y S1 => match fr[i]? with
  | some (.ow (.lst xs)) => if fits (xs.length + 1) then .nx (fr.set i (.ow (.lst (xs ++ [y])))) S1 else .bad
  | _ => .bad
/-- x.extend(e), e a new list -/
def sExt (i : Nat) (e : SE) : SS := fun fr S => (e fr S).thn fun y S1 => match fr[i]?, y with
  | some (.ow (.lst xs)), .lst ys => if fits (xs.length + ys.length) then .nx (fr.set i (.ow (.lst (xs ++ ys)))) S1 else .bad
  | _, _ => .bad
/-- x[k] = e, x a list of the frame's own -/
def sPut (i : Nat) (k e : SE) : SS := fun fr S => (e fr S).thn fun y S1 => (k fr S1).thn fun z S2 => match fr[i]?, z with
  | some (.ow (.lst xs)), .int n => match ixN xs.length n with
    | some j => .nx (fr.set i (.ow (.lst (xs.set j y)))) S2
    | none => .bad
  | _, _ => .bad
/-- x[k] = e, x a list of the store -/
def sPutS (a k e : SE) : SS := fun fr S => (e fr S).thn fun y S1 => (a fr S1).thn fun x S2 => (k fr S2).thn fun z S3 => match x, z with
  | .ref r, .int n => match S3[r]? with
    | some (.lst xs) => match ixN xs.length n with
      | some j => .nx fr (S3.set r (.lst (xs.set j y)))
      | none => .bad
    | _ => .bad
  | _, _ => .bad
/-- a new list goes into the store -/
@[simp] def eNew (e : SE) : SE := fun fr S => (e fr S).bind fun x S1 => .ok (.ref S1.length) (S1 ++ [x])
def pad (n : Nat) (args : List Sl) : Fr := args ++ List.replicate (n - args.length) .no
/-- a def: so many parameters, so many names, its body -/
def fn (ps ns : Nat) (b : SS) : FN := fun args S => if args.length = ps then
    match b (pad ns args) S with
    | .nx _ S1 => .ok .non S1
    | .rt t S1 => .ok t S1
    | .ex c as S1 => .ex c as S1
    | _ => .bad
  else .bad
end Q
/-! Qb: what a tree is in the abstract heap; what stays. -/
namespace Q
open PySem L2

/-- what stays: all but the store's objects; tuples and what is locked -/
structure Kp (r : List Addr) (H H' : Hp) : Prop where
  keep : ∀ a o, H a = some o → a ∉ r → (∀ ps, o ≠ .tbl ps) → H' a = some o
  tups : ∀ a xs, H a = some (.tup xs) → H' a = some (.tup xs)
  frzs : ∀ a o u, H a = some (.frz o u) → H' a = some (.frz o u)
  tbls : ∀ a ps, H a = some (.tbl ps) → ∃ more, H' a = some (.tbl (ps ++ more))
theorem Kp.refl {r : List Addr} {H : Hp} : Kp r H H := ⟨fun _ _ h _ _ => h, fun _ _ h => h, fun _ _ _ h => h, fun _ ps h => ⟨#[], by rw [h]; simp⟩⟩
theorem Kp.trans {r : List Addr} {H H1 H2 : Hp} (a : Kp r H H1) (b : Kp r H1 H2) : Kp r H H2 :=
  ⟨fun c o h n t => b.keep c o (a.keep c o h n t) n t, fun c xs h => b.tups c xs (a.tups c xs h), fun c o u h => b.frzs c o u (a.frzs c o u h), fun c ps h => by
    obtain ⟨m1, e1⟩ := a.tbls c ps h
    obtain ⟨m2, e2⟩ := b.tbls c _ e1
    exact ⟨m1 ++ m2, by rw [e2, Array.append_assoc]⟩⟩
theorem Kp.there {r : List Addr} {H H' : Hp} (k : Kp r H H') {a : Addr} (h : H a ≠ none) (n : a ∉ r) : H' a ≠ none := by
  cases e : H a with
  | none => exact absurd e h
  | some o =>
    by_cases t : ∃ ps, o = .tbl ps
    · obtain ⟨ps, rfl⟩ := t
      obtain ⟨m, e'⟩ := k.tbls a ps e
      rw [e']; exact fun z => nomatch z
    · rw [k.keep a o e n (fun ps z => t ⟨ps, z⟩)]; exact fun z => nomatch z
theorem Kp.upd_new {r : List Addr} {H : Hp} {p : Addr} {o : HO} (h : H p = none) : Kp r H (upd H p o) :=
  have e : ∀ b u, H b = some u → upd H p o b = some u := fun b u q => by rw [upd_ne (ne_of_none q h)]; exact q
  ⟨fun b u q _ _ => e b u q, fun b xs q => e b _ q, fun b o u q => e b _ q, fun b ps q => ⟨#[], by rw [e b _ q]; simp⟩⟩
theorem Kp.of_all {r : List Addr} {H H' : Hp} (e : ∀ b u, H b = some u → H' b = some u) : Kp r H H' :=
  ⟨fun b u q _ _ => e b u q, fun b xs q => e b _ q, fun b o u q => e b _ q, fun b ps q => ⟨#[], by rw [e b _ q]; simp⟩⟩
structure RC where
  K : PySem.W.Frag
  cA : Nat → Addr
  cl : List Addr → Hp → V → (List PV → Sto → Re PV) → Prop
  clk : ∀ {r : List Addr} {H H' : Hp} {v : V} {F : List PV → Sto → Re PV}, cl r H v F → Kp r H H' → cl r H' v F
  clD : ∀ {r : List Addr} {H : Hp} {v : V} {F : List PV → Sto → Re PV} {D : Addr} {vs ws : List V}, cl r H v F → H D = some (.lst vs) → cl r (upd H D (.lst ws)) v F

/-- a list that stands at a, a not of B -/
def SqLB (B : Addr → Prop) (H : Hp) (a : Addr) (xs : List V) : Prop := H a = some (.lst xs) ∧ ¬ B a
theorem SqLB.sq {K : PySem.W.Frag} {B : Addr → Prop} {H : Hp} {a : Addr} {xs : List V} (h : SqLB B H a xs) : SqL K H a xs := .of h.1

mutual
def Rep (C : RC) (B : Addr → Prop) (r : List Addr) (H : Hp) : PV → V → Prop
  | .non, v => v = .non
  | .bl b, v => v = .bl b
  | .int i, v => v = .int i
  | .str s, v => v = .str s
  | .tup xs, v => ∃ a vs, v = .ref a ∧ SqT C.K H a vs ∧ Reps C B r H xs vs
  | .lst xs, v => ∃ a vs, v = .ref a ∧ SqLB B H a vs ∧ Reps C B r H xs vs
  | .dct _ _, _ => False
  | .ins c ns fs, v => ∃ a dx vs, v = .ref a ∧ H a = some (.ins (C.cA c) dx (ns.zip vs)) ∧ ns.length = vs.length ∧ ¬ B a ∧ Reps C B r H fs vs
  | .ref k, v => ∃ a, v = .ref a ∧ r[k]? = some a
def Reps (C : RC) (B : Addr → Prop) (r : List Addr) (H : Hp) : List PV → List V → Prop
  | [], vs => vs = []
  | x :: xs, vs => ∃ v vr, vs = v :: vr ∧ Rep C B r H x v ∧ Reps C B r H xs vr
end
/-- .. that is only looked at: a list may be of B, not of N -/
def RepM (C : RC) (B N : Addr → Prop) (r : List Addr) (H : Hp) (t : PV) (v : V) : Prop := match t with
  | .lst xs => ∃ a vs, v = .ref a ∧ SqLB N H a vs ∧ Reps C B r H xs vs
  | t => Rep C B r H t v
abbrev RepP (C : RC) (B : Addr → Prop) (r : List Addr) (H : Hp) (t : PV) (v : V) : Prop := RepM C B (fun b => b ∈ r) r H t v

/-- what is not of B stays -/
structure Kb (B : Addr → Prop) (H H' : Hp) : Prop where
  keep : ∀ a o, H a = some o → ¬ B a → (∀ ps, o ≠ .tbl ps) → H' a = some o
  tups : ∀ a xs, H a = some (.tup xs) → H' a = some (.tup xs)
  frzs : ∀ a o u, H a = some (.frz o u) → H' a = some (.frz o u)
theorem Kp.kb {B : Addr → Prop} {r : List Addr} {H H' : Hp} (k : Kp r H H') (hr : ∀ a ∈ r, B a) : Kb B H H' := ⟨fun a o e n t => k.keep a o e (fun z => n (hr a z)) t, k.tups, k.frzs⟩
section
variable {C : RC} {B B' : Addr → Prop} {r : List Addr} {H H' : Hp}
theorem SqT.kb {K : PySem.W.Frag} {a : Addr} {xs : List V} (h : SqT K H a xs) (k : Kb B H H') : SqT K H' a xs := by
  rcases h with (h | ⟨o, h⟩) | h
  · exact .inl (.inl (k.tups _ _ h))
  · exact .inl (.inr ⟨o, k.frzs _ _ _ h⟩)
  · exact .inr h
theorem SqLB.kb {a : Addr} {xs : List V} (h : SqLB B H a xs) (k : Kb B H H') (hB : ∀ a, B' a → B a ∨ H a = none) : SqLB B' H' a xs :=
  ⟨k.keep _ _ h.1 h.2 (fun _ z => nomatch z), fun z => (hB a z).elim h.2 fun z => by rw [h.1] at z; exact nomatch z⟩
mutual
theorem Rep.kb (k : Kb B H H') (hB : ∀ a, B' a → B a ∨ H a = none) : ∀ {t : PV} {v : V}, Rep C B r H t v → Rep C B' r H' t v
  | .non, _, h => by simpa only [Rep] using h
  | .bl _, _, h => by simpa only [Rep] using h
  | .int _, _, h => by simpa only [Rep] using h
  | .str _, _, h => by simpa only [Rep] using h
  | .tup xs, v, h => by
    simp only [Rep] at h ⊢
    obtain ⟨a, vs, e, s, q⟩ := h
    exact ⟨a, vs, e, SqT.kb s k, Reps.kb k hB q⟩
  | .lst xs, v, h => by
    simp only [Rep] at h ⊢
    obtain ⟨a, vs, e, s, q⟩ := h
    exact ⟨a, vs, e, s.kb k hB, Reps.kb k hB q⟩
  | .dct _ _, _, h => by simp only [Rep] at h
  | .ins c ns fs, v, h => by
    simp only [Rep] at h ⊢
    obtain ⟨a, dx, vs, e, s, l, n, q⟩ := h
    refine ⟨a, dx, vs, e, k.keep _ _ s n (fun _ z => nomatch z), l, fun z => ?_, Reps.kb k hB q⟩
    rcases hB a z with z | z
    · exact n z
    · rw [s] at z; exact nomatch z
  | .ref _, _, h => by simpa only [Rep] using h
theorem Reps.kb (k : Kb B H H') (hB : ∀ a, B' a → B a ∨ H a = none) : ∀ {ts : List PV} {vs : List V}, Reps C B r H ts vs → Reps C B' r H' ts vs
  | [], _, h => by simpa only [Reps] using h
  | x :: xs, vs, h => by
    simp only [Reps] at h ⊢
    obtain ⟨v, vr, e, h1, h2⟩ := h
    exact ⟨v, vr, e, Rep.kb k hB h1, Reps.kb k hB h2⟩
end
theorem Rep.kp (k : Kp r H H') (hr : ∀ a ∈ r, B a) (hB : ∀ a, B' a → B a ∨ H a = none) {t : PV} {v : V} (h : Rep C B r H t v) : Rep C B' r H' t v := h.kb (k.kb hr) hB
theorem Reps.kp (k : Kp r H H') (hr : ∀ a ∈ r, B a) (hB : ∀ a, B' a → B a ∨ H a = none) {t : List PV} {v : List V} (h : Reps C B r H t v) : Reps C B' r H' t v := h.kb (k.kb hr) hB
theorem SqLB.kp {a : Addr} {xs : List V} (h : SqLB B H a xs) (k : Kp r H H') (hr : ∀ a ∈ r, B a) (hB : ∀ a, B' a → B a ∨ H a = none) : SqLB B' H' a xs := h.kb (k.kb hr) hB
theorem Rep.k (k : Kp r H H') (hr : ∀ a ∈ r, B a) {t : PV} {v : V} (h : Rep C B r H t v) : Rep C B r H' t v := h.kp k hr fun _ z => .inl z
theorem Reps.k (k : Kp r H H') (hr : ∀ a ∈ r, B a) {t : List PV} {v : List V} (h : Reps C B r H t v) : Reps C B r H' t v := h.kp k hr fun _ z => .inl z
theorem RepM.kb {N N' : Addr → Prop} (k : Kb B H H') (kn : Kb N H H') (hB : ∀ a, B' a → B a ∨ H a = none) (hN : ∀ a, N' a → N a ∨ H a = none) {t : PV} {v : V} (h : RepM C B N r H t v) : RepM C B' N' r H' t v := by
  cases t with
  | lst xs =>
    obtain ⟨a, vs, e, s, q⟩ := h
    exact ⟨a, vs, e, s.kb kn hN, q.kb k hB⟩
  | _ => exact Rep.kb k hB h
theorem RepM.imp {N N' : Addr → Prop} (hN : ∀ a, N' a → N a) {t : PV} {v : V} (h : RepM C B N r H t v) : RepM C B N' r H t v := by
  cases t with
  | lst xs =>
    obtain ⟨a, vs, e, s, q⟩ := h
    exact ⟨a, vs, e, ⟨s.1, fun z => s.2 (hN a z)⟩, q⟩
  | _ => exact h
theorem RepP.kp (k : Kp r H H') (hr : ∀ a ∈ r, B a) (hB : ∀ a, B' a → B a ∨ H a = none) {t : PV} {v : V} (h : RepP C B r H t v) : RepP C B' r H' t v := by
  exact RepM.kb (k.kb hr) (k.kb fun _ z => z) hB (fun _ z => .inl z) h
theorem RepP.k (k : Kp r H H') (hr : ∀ a ∈ r, B a) {t : PV} {v : V} (h : RepP C B r H t v) : RepP C B r H' t v := h.kp k hr fun _ z => .inl z
theorem Rep.p (hr : ∀ a ∈ r, B a) {t : PV} {v : V} (h : Rep C B r H t v) : RepP C B r H t v := by
  cases t with
  | lst xs =>
    simp only [Rep] at h
    obtain ⟨a, vs, e, s, q⟩ := h
    exact ⟨a, vs, e, ⟨s.1, fun z => s.2 (hr _ z)⟩, q⟩
  | _ => exact h
theorem Reps.len : ∀ {xs : List PV} {vs : List V}, Reps C B r H xs vs → xs.length = vs.length
  | [], _, h => by simp only [Reps] at h; subst h; rfl
  | x :: xs, _, h => by
    simp only [Reps] at h
    obtain ⟨v, vr, rfl, _, q⟩ := h
    simp only [List.length_cons, q.len]
theorem Reps.get : ∀ {xs : List PV} {vs : List V} {i : Nat} {x : PV}, Reps C B r H xs vs → xs[i]? = some x → ∃ v, vs[i]? = some v ∧ Rep C B r H x v
  | [], _, _, _, _, e => by simp at e
  | x :: xs, _, i, y, h, e => by
    simp only [Reps] at h
    obtain ⟨v, vr, rfl, h1, q⟩ := h
    cases i with
    | zero => simp at e; subst e; exact ⟨v, by simp, h1⟩
    | succ i =>
      obtain ⟨w, h2, h3⟩ := q.get (by simpa using e)
      exact ⟨w, by simpa using h2, h3⟩
theorem Reps.get' : ∀ {xs : List PV} {vs : List V} {i : Nat} {v : V}, Reps C B r H xs vs → vs[i]? = some v → ∃ x, xs[i]? = some x ∧ Rep C B r H x v
  | [], _, _, _, h, e => by simp only [Reps] at h; subst h; simp at e
  | x :: xs, _, i, y, h, e => by
    simp only [Reps] at h
    obtain ⟨v, vr, rfl, h1, q⟩ := h
    cases i with
    | zero => simp at e; subst e; exact ⟨x, by simp, h1⟩
    | succ i =>
      obtain ⟨w, h2, h3⟩ := q.get' (by simpa using e)
      exact ⟨w, by simpa using h2, h3⟩
theorem Reps.nil : Reps C B r H [] [] := by simp only [Reps]
theorem Reps.cons {x : PV} {v : V} {xs : List PV} {vs : List V} (h : Rep C B r H x v) (q : Reps C B r H xs vs) : Reps C B r H (x :: xs) (v :: vs) := by
  simp only [Reps]; exact ⟨v, vs, rfl, h, q⟩
theorem Reps.append : ∀ {xs ys : List PV} {vs ws : List V}, Reps C B r H xs vs → Reps C B r H ys ws → Reps C B r H (xs ++ ys) (vs ++ ws)
  | [], _, _, _, h, q => by simp only [Reps] at h; subst h; exact q
  | x :: xs, _, _, _, h, q => by
    simp only [Reps] at h
    obtain ⟨v, vr, rfl, h1, h2⟩ := h
    exact .cons h1 (h2.append q)
theorem Reps.take : ∀ {xs : List PV} {vs : List V} (n : Nat), Reps C B r H xs vs → Reps C B r H (xs.take n) (vs.take n)
  | _, _, 0, h => by simp only [List.take_zero]; exact .nil
  | [], _, n + 1, h => by simp only [Reps] at h; subst h; exact .nil
  | x :: xs, _, n + 1, h => by
    simp only [Reps] at h
    obtain ⟨v, vr, rfl, h1, h2⟩ := h
    exact .cons h1 (h2.take n)
theorem Reps.drop : ∀ {xs : List PV} {vs : List V} (n : Nat), Reps C B r H xs vs → Reps C B r H (xs.drop n) (vs.drop n)
  | _, _, 0, h => h
  | [], _, n + 1, h => by simp only [Reps] at h; subst h; exact .nil
  | x :: xs, _, n + 1, h => by
    simp only [Reps] at h
    obtain ⟨v, vr, rfl, h1, h2⟩ := h
    exact h2.drop n
theorem Reps.set : ∀ {xs : List PV} {vs : List V} {x : PV} {v : V} (j : Nat), Reps C B r H xs vs → Rep C B r H x v → Reps C B r H (xs.set j x) (vs.set j v)
  | [], _, _, _, _, h, _ => by simp only [Reps] at h; subst h; exact .nil
  | y :: xs, _, x, v, j, h, q => by
    simp only [Reps] at h
    obtain ⟨w, vr, rfl, h1, h2⟩ := h
    cases j with
    | zero => exact .cons q h2
    | succ j => exact .cons h1 (h2.set j q)
theorem Reps.rep {xs : List PV} {vs : List V} (h : Reps C B r H xs vs) : ∀ n, Reps C B r H (List.replicate n xs).flatten (List.replicate n vs).flatten
  | 0 => .nil
  | n + 1 => by
    simp only [List.replicate_succ, List.flatten_cons]
    exact h.append (h.rep n)
end

/-! ### the store, a frame -/
/-- a list of one's own, of the store, at p -/
def Cnt (C : RC) (B : Addr → Prop) (r : List Addr) (H : Hp) (t : PV) (p : Addr) : Prop := match t with
  | .lst xs => ∃ vs, H p = some (.lst vs) ∧ Reps C B r H xs vs
  | _ => False
structure StoR (C : RC) (B : Addr → Prop) (r : List Addr) (S : Sto) (H : Hp) : Prop where
  len : r.length = S.length
  nd : r.Nodup
  at_ : ∀ (k : Nat) (p : Addr) (t : PV), r[k]? = some p → S[k]? = some t → Cnt C B r H t p
def SlotR (C : RC) (B M : Addr → Prop) (r : List Addr) (H : Hp) : Sl → Option V → Prop
  | .no, _ => True
  | .va t, some v => Rep C B r H t v
  | .ow t, some v => ∃ p, v = .ref p ∧ M p ∧ p ∉ r ∧ Cnt C B r H t p
  | .bo t, some v => RepM C B M r H t v
  | .cl F, some v => C.cl r H v F
  | _, none => False
structure RS (C : RC) (U : Addr → Prop) (H0 : Hp) (r : List Addr) (M : Addr → Prop) (S : Sto) (H : Hp) (s : L2.St) (fr : Fr) : Prop where
  kp : Kp r H0 H
  ut : ∀ a, U a → H0 a ≠ none
  mt : ∀ a, M a → H a ≠ none
  mn : ∀ a, M a → a ∉ r → H0 a = none
  ru : ∀ a ∈ r, U a
  rm : ∀ a ∈ r, M a
  st : StoR C (fun a => U a ∨ M a) r S H
  len : fr.length = s.length
  sl : ∀ (i : Nat) (a : Sl), fr[i]? = some a → ∀ o, s[i]? = some o → SlotR C (fun a => U a ∨ M a) M r H a o
  inj : ∀ (i j : Nat) (t u : PV) (p : Addr), fr[i]? = some (.ow t) → fr[j]? = some (.ow u) → s[i]? = some (some (.ref p)) → s[j]? = some (some (.ref p)) → i = j
end Q
/-! Qc: readings by trees; rules for expressions. -/
namespace L2
open PySem PySem.Spec PyProof.Rows
/-! ### weaker readings -/
theorem PE.w {X : Cx} {e : Expr} {t t' : TE} (h : PE X e t) (i : ∀ σ H Q, t' σ H Q → t σ H Q) : PE X e t' := ⟨fun pins s σ H Q I q => h.run pins s σ H Q I (i _ _ _ q)⟩
theorem PT.w {X : Cx} {e : Expr} {t t' : TT} (h : PT X e t) (i : ∀ σ H Q, t' σ H Q → t σ H Q) : PT X e t' := ⟨fun pins s σ H Q I q => h.run pins s σ H Q I (i _ _ _ q)⟩
theorem PW.w {X : Cx} {e : Expr} {t t' : TT} (h : PW X e t) (i : ∀ σ H Q, t' σ H Q → t σ H Q) : PW X e t' := ⟨fun wh pins s σ H Q I q => h.run wh pins s σ H Q I (i _ _ _ q)⟩
theorem PA.w {X : Cx} {e : List Expr} {t t' : TA} (h : PA X e t) (i : ∀ σ H Q, t' σ H Q → t σ H Q) : PA X e t' := ⟨fun pos pins s σ H Q I q => h.run pos pins s σ H Q I (i _ _ _ q)⟩
theorem PO.w {X : Cx} {e : Option Expr} {t t' : TO} (h : PO X e t) (i : ∀ σ H Q, t' σ H Q → t σ H Q) : PO X e t' := ⟨fun pins s σ H Q I q => h.run pins s σ H Q I (i _ _ _ q)⟩
theorem PI.w {X : Cx} {tg l : Expr} {t t' : TI} (h : PI X tg l t) (i : ∀ σ H R, t' σ H R → t σ H R) : PI X tg l t' := ⟨fun pins s σ H R I q => h.run pins s σ H R I (i _ _ _ q)⟩
theorem PS.w {X : Cx} {e : Stmt} {t t' : TS} (h : PS X e t) (i : ∀ D σ H, t' D σ H → t D σ H) : PS X e t' := ⟨fun pins s σ H D I q => h.run pins s σ H D I (i _ _ _ q)⟩
theorem PSs.w {X : Cx} {e : List Stmt} {t t' : TS} (h : PSs X e t) (i : ∀ D σ H, t' D σ H → t D σ H) : PSs X e t' := ⟨fun pins s σ H D I q => h.run pins s σ H D I (i _ _ _ q)⟩

end L2
namespace Q
open PySem PySem.Spec PyProof.Rows L2

/-! ### what a frame is -/
structure Cn where
  C : RC
  U : Addr → Prop
  H0 : Hp
  r : List Addr
abbrev Cn.B (c : Cn) (M : Addr → Prop) : Addr → Prop := fun a => c.U a ∨ M a
abbrev Cn.RS (c : Cn) (M : Addr → Prop) (S : Sto) (H : Hp) (s : L2.St) (fr : Fr) : Prop := Q.RS c.C c.U c.H0 c.r M S H s fr
abbrev Cn.St (c : Cn) (M : Addr → Prop) (S : Sto) (H : Hp) : Prop := StoR c.C (c.B M) c.r S H
abbrev Cn.R (c : Cn) (M : Addr → Prop) (H : Hp) (t : PV) (v : V) : Prop := Rep c.C (c.B M) c.r H t v
abbrev Cn.RP (c : Cn) (M : Addr → Prop) (H : Hp) (t : PV) (v : V) : Prop := RepP c.C (c.B M) c.r H t v
abbrev Cn.Rs (c : Cn) (M : Addr → Prop) (H : Hp) (t : List PV) (v : List V) : Prop := Reps c.C (c.B M) c.r H t v
def RepPs (C : RC) (B : Addr → Prop) (r : List Addr) (H : Hp) : List PV → List V → Prop
  | [], vs => vs = []
  | x :: xs, vs => ∃ v vr, vs = v :: vr ∧ RepP C B r H x v ∧ RepPs C B r H xs vr
abbrev Cn.RPs (c : Cn) (M : Addr → Prop) (H : Hp) (t : List PV) (v : List V) : Prop := RepPs c.C (c.B M) c.r H t v

section
variable {c : Cn} {M : Addr → Prop} {S S' : Sto} {H H' : Hp} {s : L2.St} {fr : Fr}
theorem RS.rb (h : c.RS M S H s fr) : ∀ a ∈ c.r, c.B M a := fun a z => .inl (h.ru a z)
theorem Cnt.k {C : RC} {B B' : Addr → Prop} {r : List Addr} {t : PV} {p : Addr} (h : Cnt C B r H t p) (k : Kp r H H') (hr : ∀ a ∈ r, B a) (hB : ∀ a, B' a → B a ∨ H a = none) (n : p ∉ r) : Cnt C B' r H' t p := by
  cases t with
  | lst xs =>
    obtain ⟨vs, e, q⟩ := h
    exact ⟨vs, k.keep _ _ e n (fun _ z => nomatch z), q.kp k hr hB⟩
  | _ => exact h
theorem SlotR.k {C : RC} {B M : Addr → Prop} {r : List Addr} {a : Sl} {o : Option V} (h : SlotR C B M r H a o) (k : Kp r H H') (hr : ∀ a ∈ r, B a) (hm : ∀ a ∈ r, M a) : SlotR C B M r H' a o := by
  cases a with
  | no => exact True.intro
  | va t =>
    cases o with
    | none => exact h
    | some v => exact Rep.k k hr h
  | ow t =>
    cases o with
    | none => exact h
    | some v =>
      obtain ⟨p, e, m, n, q⟩ := h
      exact ⟨p, e, m, n, q.k k hr (fun _ z => .inl z) n⟩
  | bo t =>
    cases o with
    | none => exact h
    | some v => exact RepM.kb (k.kb hr) (k.kb hm) (fun _ z => .inl z) (fun _ z => .inl z) h
  | cl F =>
    cases o with
    | none => exact h
    | some v => exact C.clk h k
theorem RS.step (h : c.RS M S H s fr) (k : Kp c.r H H') (st : c.St M S' H') : c.RS M S' H' s fr :=
  ⟨h.kp.trans k, h.ut, fun a m => by
    by_cases z : a ∈ c.r
    · obtain ⟨i, hi, e⟩ := List.getElem_of_mem z
      have l : i < S'.length := by rw [← st.len]; exact hi
      have q := st.at_ i a S'[i] (by rw [List.getElem?_eq_getElem hi, e]) (List.getElem?_eq_getElem l)
      revert q
      cases S'[i] with
      | lst xs => rintro ⟨vs, e, _⟩; rw [e]; exact fun z => nomatch z
      | _ => exact fun z => z.elim
    · exact k.there (h.mt a m) z,
   h.mn, h.ru, h.rm, st, h.len, fun i a e o e' => (h.sl i a e o e').k k h.rb h.rm, h.inj⟩
theorem RS.at (h : c.RS M S H s fr) {i : Nat} {a : Sl} (e : fr[i]? = some a) (hn : a ≠ .no) : ∃ v, s[i]? = some (some v) ∧ SlotR c.C (c.B M) M c.r H a (some v) := by
  have l : i < s.length := by rw [← h.len]; exact (List.getElem?_eq_some_iff.mp e).1
  have q := h.sl i a e s[i] (List.getElem?_eq_getElem l)
  cases e' : s[i] with
  | none =>
    rw [e'] at q
    cases a with
    | no => exact absurd rfl hn
    | _ => exact q.elim
  | some v => rw [e'] at q; exact ⟨v, by rw [List.getElem?_eq_getElem l, e'], q⟩
theorem RepPs.k {C : RC} {B : Addr → Prop} {r : List Addr} (k : Kp r H H') (hr : ∀ a ∈ r, B a) : ∀ {t : List PV} {v : List V}, RepPs C B r H t v → RepPs C B r H' t v
  | [], _, h => h
  | x :: xs, _, h => by
    obtain ⟨v, vr, e, h1, h2⟩ := h
    exact ⟨v, vr, e, h1.k k hr, h2.k k hr⟩
theorem Reps.ps {C : RC} {B : Addr → Prop} {r : List Addr} (hr : ∀ a ∈ r, B a) : ∀ {t : List PV} {v : List V}, Reps C B r H t v → RepPs C B r H t v
  | [], _, h => by
    simp only [Reps] at h
    exact h
  | x :: xs, _, h => by
    simp only [Reps] at h
    obtain ⟨v, vr, e, h1, h2⟩ := h
    exact ⟨v, vr, e, h1.p hr, h2.ps hr⟩
end

/-! ### readings -/
def PoE {α β : Type} (c : Cn) (M : Addr → Prop) (H : Hp) (res : Re α) (R : Hp → α → β → Prop) (q : β → Hp → Prop) : Prop := match res with
  | .ok t S' => ∀ v H', Kp c.r H H' → c.St M S' H' → R H' t v → q v H'
  | _ => False
def LE (c : Cn) (m : SE) : TE := fun s H q => ∃ M S fr, c.RS M S H s fr ∧ PoE c M H (m fr S) (c.R M) q
def LP (c : Cn) (m : SE) : TE := fun s H q => ∃ M S fr, c.RS M S H s fr ∧ PoE c M H (m fr S) (c.RP M) q
def LB (c : Cn) (m : SB) : TT := fun s H q => ∃ M S fr, c.RS M S H s fr ∧ PoE c M H (m fr S) (fun _ a b => b = a) q
def LA (c : Cn) (m : SA) : TA := fun s H q => ∃ M S fr, c.RS M S H s fr ∧ PoE c M H (m fr S) (c.Rs M) q
def LAp (c : Cn) (m : SA) : TA := fun s H q => ∃ M S fr, c.RS M S H s fr ∧ PoE c M H (m fr S) (c.RPs M) q
def LO (c : Cn) (m : SO) : TO := fun s H q => ∃ M S fr, c.RS M S H s fr ∧ PoE c M H (m fr S) (fun _ a b => b = a) q

section
variable {X : Cx} {c : Cn} {e a b d : Expr} {es : List Expr} {ma mb md : SE} {ba bb : SB} {m : SA} {pos : Pos}
/-- one piece, then what follows -/
theorem PoE.bind {α β γ δ : Type} {M : Addr → Prop} {H : Hp} {x : Re α} {f : α → Sto → Re γ} {R : Hp → α → β → Prop} {R' : Hp → γ → δ → Prop} {q : δ → Hp → Prop} {q' : β → Hp → Prop}
    (h : PoE c M H (x.bind f) R' q) (g : ∀ t S' v H', Kp c.r H H' → c.St M S' H' → R H' t v → PoE c M H' (f t S') R' q → q' v H') : PoE c M H x R q' := by
  cases x with
  | ok t S' =>
    intro v H' k st r
    refine g t S' v H' k st r ?_
    have h : PoE c M H (f t S') R' q := h
    revert h
    cases f t S' with
    | ok u S2 => exact fun h w H2 k2 st2 r2 => h w H2 (k.trans k2) st2 r2
    | ex c as S2 => exact fun h => h
    | bad => exact fun h => h
  | ex c as S' => exact h
  | bad => exact h
theorem PE.p (hr : PE X e (LE c ma)) : PE X e (LP c ma) := hr.w fun s H q ⟨M, S, fr, rs, h⟩ => ⟨M, S, fr, rs, by
  revert h
  cases ma fr S with
  | ok t S' => exact fun h v H' k st r => h v H' k st (r.p rs.rb)
  | ex c as S' => exact fun h => h
  | bad => exact fun h => h⟩

/-! ### names, constants -/
def PV.flat : PV → Option V
  | .non => some .non
  | .bl b => some (.bl b)
  | .int i => some (.int i)
  | .str x => some (.str x)
  | _ => none
theorem Rep.flat {C : RC} {B : Addr → Prop} {r : List Addr} {H : Hp} {t : PV} {v : V} (h : t.flat = some v) : Rep C B r H t v := by
  cases t <;> simp only [PV.flat, Option.some.injEq, reduceCtorEq] at h <;> subst h <;> simp only [Rep]
theorem ok_C {t : PV} {v : V} (h : PE X e (tC v)) (f : t.flat = some v) : PE X e (LE c (eC t)) := h.w fun s H q ⟨M, S, fr, rs, h⟩ => h v H .refl rs.st (.flat f)
theorem ok_V {i : Nat} (h : PE X e (tVar i)) : PE X e (LE c (eV i)) := h.w fun s H q ⟨M, S, fr, rs, h⟩ => by
  simp only [eV] at h
  split at h
  · rename_i t e
    obtain ⟨v, e1, r⟩ := rs.at e (fun z => nomatch z)
    exact ⟨v, e1, h v H .refl rs.st r⟩
  · exact h.elim
theorem Cnt.rp {C : RC} {B : Addr → Prop} {r : List Addr} {H : Hp} {t : PV} {p : Addr} (h : Cnt C B r H t p) (n : p ∉ r) : RepP C B r H t (.ref p) := by
  cases t with
  | lst xs =>
    obtain ⟨vs, e, q⟩ := h
    exact ⟨p, vs, rfl, ⟨e, n⟩, q⟩
  | _ => exact h.elim
theorem ok_P {i : Nat} (h : PE X e (tVar i)) : PE X e (LP c (eP i)) := h.w fun s H q ⟨M, S, fr, rs, h⟩ => by
  simp only [eP] at h
  split at h
  · rename_i t e
    obtain ⟨v, e1, r⟩ := rs.at e (fun z => nomatch z)
    exact ⟨v, e1, h v H .refl rs.st (Rep.p rs.rb r)⟩
  · rename_i t e
    obtain ⟨v, e1, p, rfl, _, n, r⟩ := rs.at e (fun z => nomatch z)
    exact ⟨_, e1, h _ H .refl rs.st (r.rp n)⟩
  · rename_i t e
    obtain ⟨v, e1, r⟩ := rs.at e (fun z => nomatch z)
    exact ⟨v, e1, h v H .refl rs.st (RepM.imp rs.rm r)⟩
  · exact h.elim

/-! ### two-place operations -/
/-- what an operation's rule asks, for trees -/
def OpT (c : Cn) (f : PV → PV → Option PV) (r : R2) : Prop :=
  ∀ (M : Addr → Prop) (H : Hp) (x y z : PV) (v w : V) (q : VK), (∀ a ∈ c.r, c.B M a) → f x y = some z → c.RP M H x v → c.RP M H y w → (∀ u H', Kp c.r H H' → (∀ b o, H b = some o → H' b = some o) → c.R M H' z u → q u H') → r v w H q
theorem StoR.k {C : RC} {B : Addr → Prop} {r : List Addr} {S : Sto} {H H' : Hp} (h : StoR C B r S H) (k : Kp r H H') (hr : ∀ a ∈ r, B a) (hk : ∀ b o, H b = some o → H' b = some o) : StoR C B r S H' :=
  ⟨h.len, h.nd, fun i p t e1 e2 => by
    have q := h.at_ i p t e1 e2
    cases t with
    | lst xs =>
      obtain ⟨vs, e, q⟩ := q
      exact ⟨vs, hk _ _ e, q.k k hr⟩
    | _ => exact q⟩
theorem ok_op {o : Op} {op : Operator} {r : R2} (hr : OpR X (binaryOp op) r) (ht : OpT c o.on r) (ha : PE X a (LP c ma)) (hb : PE X b (LP c mb)) : PE X (.BinOp a op b pos) (LE c (eOp o ma mb)) :=
  (pe_op hr ha hb).w fun s H q ⟨M, S, fr, rs, h⟩ => by
    refine ⟨M, S, fr, rs, PoE.bind h fun x S1 v H1 k1 st1 r1 h1 => ?_⟩
    have rs1 := rs.step k1 st1
    refine ⟨M, S1, fr, rs1, PoE.bind h1 fun y S2 w H2 k2 st2 r2 h2 => ?_⟩
    revert h2
    cases e : o.on x y with
    | none => exact fun h => h.elim
    | some z =>
      intro h2
      exact ht M H2 x y z v w q rs.rb e (r1.k k2 rs.rb) r2 fun u H' k hk r => h2 u H' k (st2.k k rs.rb hk) r
theorem OpT.or {f : PV → PV → Option PV} {g h : PV → PV → Option PV} {r r' : R2} (hg : OpT c g r) (hh : OpT c h r') (hf : ∀ x y z, f x y = some z → g x y = some z ∨ h x y = some z) : OpT c f (fun x y H q => r x y H q ∨ r' x y H q) :=
  fun M H x y z v w q rb e r1 r2 k => (hf x y z e).elim (fun e => .inl (hg M H x y z v w q rb e r1 r2 k)) fun e => .inr (hh M H x y z v w q rb e r1 r2 k)
/-- ints alone -/
theorem OpT.ints {f : PV → PV → Option PV} {P : Int → Int → Prop} {g : Int → Int → Int} (h : ∀ x y z, f x y = some z → ∃ i j, x = .int i ∧ y = .int j ∧ z = .int (g i j) ∧ P i j) : OpT c f (rI P fun i j => .int (g i j)) := by
  intro M H x y z v w q rb e r1 r2 k
  obtain ⟨i, j, rfl, rfl, rfl, p⟩ := h x y z e
  simp only [Cn.RP, RepP, RepM, Rep] at r1 r2
  subst r1 r2
  exact ⟨i, j, rfl, rfl, p, k _ H .refl (fun _ _ z => z) (.flat rfl)⟩
theorem OpT.ints0 {f : PV → PV → Option PV} {g : Int → Int → Int} (h : ∀ x y z, f x y = some z → ∃ i j, x = .int i ∧ y = .int j ∧ z = .int (g i j)) : OpT c f (rI0 fun i j => .int (g i j)) := by
  intro M H x y z v w q rb e r1 r2 k
  obtain ⟨i, j, rfl, rfl, rfl⟩ := h x y z e
  simp only [Cn.RP, RepP, RepM, Rep] at r1 r2
  subst r1 r2
  exact ⟨i, j, rfl, rfl, k _ H .refl (fun _ _ z => z) (.flat rfl)⟩
end
end Q
/-! Qd: operators, comparisons, tests. -/
namespace Q
open PySem PySem.Spec PyProof.Rows L2
theorem fits_le {n : Nat} (h : fits n = true) : n ≤ sizeLine := by
  have := of_decide_eq_true h
  rw [sizeLine_eq]; exact this
section
variable {X : Cx} {c : Cn} {e a b d : Expr} {es : List Expr} {ma mb md : SE} {ba bb : SB} {m : SA} {pos : Pos}

theorem rp_tup {M : Addr → Prop} {H : Hp} {xs : List PV} {v : V} (h : c.RP M H (.tup xs) v) : ∃ a vs, v = .ref a ∧ SqT c.C.K H a vs ∧ c.Rs M H xs vs := by
  simpa only [Cn.RP, RepP, RepM, Rep] using h
theorem rp_lst {M : Addr → Prop} {H : Hp} {xs : List PV} {v : V} (h : c.RP M H (.lst xs) v) : ∃ a vs, v = .ref a ∧ H a = some (.lst vs) ∧ a ∉ c.r ∧ c.Rs M H xs vs := by
  obtain ⟨a, vs, e, s, q⟩ := h
  exact ⟨a, vs, e, s.1, s.2, q⟩
theorem rp_int {M : Addr → Prop} {H : Hp} {i : Int} {v : V} (h : c.RP M H (.int i) v) : v = .int i := by simpa only [Cn.RP, RepP, RepM, Rep] using h
theorem rp_bl {M : Addr → Prop} {H : Hp} {i : Bool} {v : V} (h : c.RP M H (.bl i) v) : v = .bl i := by simpa only [Cn.RP, RepP, RepM, Rep] using h
theorem rp_str {M : Addr → Prop} {H : Hp} {i : Str} {v : V} (h : c.RP M H (.str i) v) : v = .str i := by simpa only [Cn.RP, RepP, RepM, Rep] using h
/-- a new tuple, a new list -/
theorem R.tup_new {M : Addr → Prop} {H : Hp} {xs : List PV} {vs : List V} {p : Addr} (rb : ∀ a ∈ c.r, c.B M a) (n : H p = none) (h : c.Rs M H xs vs) : c.R M (upd H p (.tup vs)) (.tup xs) (.ref p) := by
  show Rep _ _ _ _ _ _
  simp only [Rep]
  exact ⟨p, vs, rfl, .of upd_same, h.k (Kp.upd_new n) rb⟩
theorem R.lst_new {M : Addr → Prop} {H : Hp} {xs : List PV} {vs : List V} {p : Addr} (rb : ∀ a ∈ c.r, c.B M a) (nb : ∀ a, c.B M a → H a ≠ none) (n : H p = none) (h : c.Rs M H xs vs) : c.R M (upd H p (.lst vs)) (.lst xs) (.ref p) := by
  show Rep _ _ _ _ _ _
  simp only [Rep]
  exact ⟨p, vs, rfl, ⟨upd_same, fun z => nb p z n⟩, h.k (Kp.upd_new n) rb⟩
theorem RS.bn {M : Addr → Prop} {S : Sto} {H : Hp} {s : L2.St} {fr : Fr} (h : c.RS M S H s fr) : ∀ a, c.B M a → H a ≠ none := fun a z => by
  rcases z with z | z
  · by_cases q : a ∈ c.r
    · exact h.mt a (h.rm a q)
    · exact h.kp.there (h.ut a z) q
  · exact h.mt a z
theorem upd_keeps {H : Hp} {p : Addr} {o : HO} (n : H p = none) : ∀ b u, H b = some u → upd H p o b = some u := fun b u q => by rw [upd_ne (ne_of_none q n)]; exact q

/-- what an operation's rule asks, for trees, where all of B is there -/
def OpN (c : Cn) (f : PV → PV → Option PV) (r : R2) : Prop :=
  ∀ (M : Addr → Prop) (H : Hp) (x y z : PV) (v w : V) (q : VK), (∀ a ∈ c.r, c.B M a) → (∀ a, c.B M a → H a ≠ none) → f x y = some z → c.RP M H x v → c.RP M H y w → (∀ u H', Kp c.r H H' → (∀ b o, H b = some o → H' b = some o) → c.R M H' z u → q u H') → r v w H q
theorem OpT.n {f : PV → PV → Option PV} {r : R2} (h : OpT c f r) : OpN c f r := fun M H x y z v w q rb _ e r1 r2 k => h M H x y z v w q rb e r1 r2 k
theorem OpN.or {f : PV → PV → Option PV} {g h : PV → PV → Option PV} {r r' : R2} (hg : OpN c g r) (hh : OpN c h r') (hf : ∀ x y z, f x y = some z → g x y = some z ∨ h x y = some z) : OpN c f (fun x y H q => r x y H q ∨ r' x y H q) :=
  fun M H x y z v w q rb nb e r1 r2 k => (hf x y z e).elim (fun e => .inl (hg M H x y z v w q rb nb e r1 r2 k)) fun e => .inr (hh M H x y z v w q rb nb e r1 r2 k)
theorem ok_opN {o : Op} {op : Operator} {r : R2} (hr : OpR X (binaryOp op) r) (ht : OpN c o.on r) (ha : PE X a (LP c ma)) (hb : PE X b (LP c mb)) : PE X (.BinOp a op b pos) (LE c (eOp o ma mb)) :=
  (pe_op hr ha hb).w fun s H q ⟨M, S, fr, rs, h⟩ => by
    refine ⟨M, S, fr, rs, PoE.bind h fun x S1 v H1 k1 st1 r1 h1 => ?_⟩
    have rs1 := rs.step k1 st1
    refine ⟨M, S1, fr, rs1, PoE.bind h1 fun y S2 w H2 k2 st2 r2 h2 => ?_⟩
    have rs2 := rs1.step k2 st2
    revert h2
    cases e : o.on x y with
    | none => exact fun h => h.elim
    | some z =>
      intro h2
      exact ht M H2 x y z v w q rs.rb rs2.bn e (r1.k k2 rs.rb) r2 fun u H' k hk r => h2 u H' k (st2.k k rs.rb hk) r

theorem intsOf_some {g : Int → Int → Option Int} {x y z : PV} (h : intsOf g x y = some z) : ∃ i j k, x = .int i ∧ y = .int j ∧ z = .int k ∧ g i j = some k := by
  unfold intsOf at h
  split at h
  · rename_i i j
    cases e : g i j with
    | none => rw [e] at h; exact nomatch h
    | some k => rw [e] at h; cases h; exact ⟨i, j, k, rfl, rfl, rfl, e⟩
  · exact nomatch h
theorem ot_catT : OpN c catT (rCatA c.C.K) := by
  intro M H x y z v w q rb nb e r1 r2 k
  unfold catT at e
  split at e
  · rename_i xs ys
    split at e
    · rename_i hf
      cases e
      obtain ⟨a, vs, rfl, s1, q1⟩ := (rp_tup r1)
      obtain ⟨b, ws, rfl, s2, q2⟩ := (rp_tup r2)
      have l1 := q1.len
      have l2 := q2.len
      refine ⟨a, b, vs, ws, rfl, rfl, s1, s2, by rw [← l1, ← l2]; exact fits_le hf, fun z => ?_, fun _ z => ?_, fun _ _ p n => ?_⟩
      · subst z
        have : xs = [] := List.eq_nil_of_length_eq_zero l1
        subst this
        exact k _ H .refl (fun _ _ z => z) r2
      · subst z
        have : ys = [] := List.eq_nil_of_length_eq_zero l2
        subst this
        rw [List.append_nil] at k
        exact k _ H .refl (fun _ _ z => z) r1
      · exact k _ _ (Kp.upd_new n) (upd_keeps n) (R.tup_new rb n (q1.append q2))
    · exact nomatch e
  · exact nomatch e
theorem ot_catL : OpN c catL rCat := by
  intro M H x y z v w q rb nb e r1 r2 k
  unfold catL at e
  split at e
  · rename_i xs ys
    split at e
    · rename_i hf
      cases e
      obtain ⟨a, vs, rfl, s1, _, q1⟩ := (rp_lst r1)
      obtain ⟨b, ws, rfl, s2, _, q2⟩ := (rp_lst r2)
      refine ⟨a, b, vs, ws, rfl, rfl, s1, s2, by rw [← q1.len, ← q2.len]; exact fits_le hf, fun p n => ?_⟩
      exact k _ _ (Kp.upd_new n) (upd_keeps n) (R.lst_new rb nb n (q1.append q2))
    · exact nomatch e
  · exact nomatch e
theorem ot_ints {g : Int → Int → Option Int} {P : Int → Int → Prop} {f : Int → Int → Int} (h : ∀ i j k, g i j = some k → P i j ∧ f i j = k) : OpN c (intsOf g) (rI P fun i j => .int (f i j)) := by
  intro M H x y z v w q rb nb e r1 r2 k
  obtain ⟨i, j, n, rfl, rfl, rfl, e'⟩ := intsOf_some e
  obtain ⟨p, rfl⟩ := h i j n e'
  exact ⟨i, j, (rp_int r1), (rp_int r2), p, k _ H .refl (fun _ _ z => z) (.flat rfl)⟩
theorem ot_ints0 {f : Int → Int → Int} : OpN c (intsOf fun i j => some (f i j)) (rI0 fun i j => .int (f i j)) := by
  intro M H x y z v w q rb nb e r1 r2 k
  obtain ⟨i, j, n, rfl, rfl, rfl, e'⟩ := intsOf_some e
  cases e'
  exact ⟨i, j, (rp_int r1), (rp_int r2), k _ H .refl (fun _ _ z => z) (.flat rfl)⟩
theorem OpN.of {f g : PV → PV → Option PV} {r : R2} (h : OpN c g r) (hf : ∀ x y z, f x y = some z → g x y = some z) : OpN c f r :=
  fun M H x y z v w q rb nb e r1 r2 k => h M H x y z v w q rb nb (hf x y z e) r1 r2 k
theorem OpN.or2 {g h : PV → PV → Option PV} {r r' : R2} (hg : OpN c g r) (hh : OpN c h r') : OpN c (fun x y => (g x y).or (h x y)) (fun x y H q => r x y H q ∨ r' x y H q) := hg.or hh fun x y z e => by
  cases q : g x y with
  | none => rw [q] at e; exact .inr e
  | some u => rw [q] at e; exact .inl e
theorem ok_add (hk : X.K = c.C.K) (ha : PE X a (LP c ma)) (hb : PE X b (LP c mb)) : PE X (.BinOp a .Add b pos) (LE c (eOp .add ma mb)) :=
  ok_opN (op_add.or (op_catA.or op_cat)) (ot_ints0.or2 ((hk ▸ ot_catT).or2 ot_catL)) ha hb
theorem ok_sub (ha : PE X a (LP c ma)) (hb : PE X b (LP c mb)) : PE X (.BinOp a .Sub b pos) (LE c (eOp .sub ma mb)) := ok_opN op_sub ot_ints0 ha hb
theorem small_ok {i j : Int} (h : (small i || small j) = true) : CMul i j := by
  unfold small at h
  simp only [Bool.or_eq_true, Bool.and_eq_true, decide_eq_true_eq] at h
  exact h
theorem ot_repT : OpN c repT (rRepT c.C.K) := by
  intro M H x y z v w q rb nb e r1 r2 k
  unfold repT at e
  split at e
  · rename_i xs n
    split at e
    · rename_i hf
      cases e
      simp only [Bool.and_eq_true, Bool.not_eq_true', decide_eq_true_eq] at hf
      obtain ⟨⟨⟨h1, h2⟩, h3⟩, h4⟩ := hf
      obtain ⟨a, vs, rfl, s1, q1⟩ := rp_tup r1
      refine ⟨a, n, vs, rfl, rp_int r2, s1, fun z => ?_, h2, h3, by rw [← q1.len]; exact h4, fun p hn => ?_⟩
      · subst z
        have : xs = [] := List.eq_nil_of_length_eq_zero q1.len
        subst this
        exact nomatch h1
      · exact k _ _ (Kp.upd_new hn) (upd_keeps hn) (R.tup_new rb hn (q1.rep _))
    · exact nomatch e
  · exact nomatch e
theorem ot_repL : OpN c repL rRep := by
  intro M H x y z v w q rb nb e r1 r2 k
  unfold repL at e
  split at e
  · rename_i xs n
    split at e
    · rename_i hf
      cases e
      simp only [Bool.and_eq_true, decide_eq_true_eq] at hf
      obtain ⟨⟨h1, h2⟩, h3⟩ := hf
      obtain ⟨a, vs, rfl, s1, _, q1⟩ := rp_lst r1
      refine ⟨a, n, vs, rfl, rp_int r2, s1, h3, h2, by rw [← q1.len, sizeLine_eq]; exact h1, fun p hn => ?_⟩
      exact k _ _ (Kp.upd_new hn) (upd_keeps hn) (R.lst_new rb nb hn (q1.rep _))
    · exact nomatch e
  · exact nomatch e
theorem if_some {α : Type} {p : Prop} [Decidable p] {a b : α} (h : (if p then some a else none) = some b) : p ∧ a = b := by
  by_cases z : p
  · rw [if_pos z] at h; exact ⟨z, Option.some.inj h⟩
  · rw [if_neg z] at h; exact nomatch h
theorem ok_mul (hk : X.K = c.C.K) (ha : PE X a (LP c ma)) (hb : PE X b (LP c mb)) : PE X (.BinOp a .Mult b pos) (LE c (eOp .mul ma mb)) :=
  ok_opN (op_mul.or (op_repT.or op_rep)) ((ot_ints fun i j k h => let ⟨p, q⟩ := if_some h; ⟨small_ok p, q⟩).or2 ((hk ▸ ot_repT).or2 ot_repL)) ha hb
theorem ok_fdiv (ha : PE X a (LP c ma)) (hb : PE X b (LP c mb)) : PE X (.BinOp a .FloorDiv b pos) (LE c (eOp .fdiv ma mb)) :=
  ok_opN op_fdivN (ot_ints fun i j k h => let ⟨p, q⟩ := if_some h; ⟨by show j ≠ 0 ∧ j.natAbs < 1073741824; simpa only [Bool.and_eq_true, decide_eq_true_eq] using p, q⟩) ha hb
theorem ok_mod (ha : PE X a (LP c ma)) (hb : PE X b (LP c mb)) : PE X (.BinOp a .Mod b pos) (LE c (eOp .mod ma mb)) :=
  ok_opN op_modN (ot_ints fun i j k h => let ⟨p, q⟩ := if_some h; ⟨of_decide_eq_true p, q⟩) ha hb
theorem ok_pow (ha : PE X a (LP c ma)) (hb : PE X b (LP c mb)) : PE X (.BinOp a .Pow b pos) (LE c (eOp .pow ma mb)) :=
  ok_opN op_pow (ot_ints fun i j k h => let ⟨p, q⟩ := if_some h; ⟨by show 0 ≤ j ∧ j ≤ 1000000 ∧ i.natAbs < 2 ^ 64; simpa only [Bool.and_eq_true, decide_eq_true_eq, and_assoc] using p, q⟩) ha hb
theorem ok_shl (ha : PE X a (LP c ma)) (hb : PE X b (LP c mb)) : PE X (.BinOp a .LShift b pos) (LE c (eOp .shl ma mb)) :=
  ok_opN op_shl (ot_ints fun i j k h => let ⟨p, q⟩ := if_some h; ⟨by show 0 ≤ j ∧ j ≤ 1000000 ∧ i.natAbs < 2 ^ 64; simpa only [Bool.and_eq_true, decide_eq_true_eq, and_assoc] using p, q⟩) ha hb
theorem ok_xor (ha : PE X a (LP c ma)) (hb : PE X b (LP c mb)) : PE X (.BinOp a .BitXor b pos) (LE c (eOp .xor ma mb)) := ok_opN op_xor ot_ints0 ha hb
theorem ok_band (ha : PE X a (LP c ma)) (hb : PE X b (LP c mb)) : PE X (.BinOp a .BitAnd b pos) (LE c (eOp .band ma mb)) := ok_opN op_and ot_ints0 ha hb
theorem ok_bor (ha : PE X a (LP c ma)) (hb : PE X b (LP c mb)) : PE X (.BinOp a .BitOr b pos) (LE c (eOp .bor ma mb)) := ok_opN op_or ot_ints0 ha hb
end
end Q
/-! Qe: comparisons, tests. -/
namespace Q
open PySem PySem.Spec PyProof.Rows L2
/-! ### data -/
mutual
theorem isD_lay : ∀ {n : Nat} {x : PV}, x.isD n = true → PyData.canLay0 x.toD = true ∧ x.toD.depth ≤ n
  | n, .non, _ => by simp [PV.toD, PyData.canLay0, PyData.depth]
  | n, .bl _, _ => by simp [PV.toD, PyData.canLay0, PyData.depth]
  | n, .int _, _ => by simp [PV.toD, PyData.canLay0, PyData.depth]
  | n, .str s, h => by
    simp only [PV.isD] at h
    exact ⟨h, by simp [PV.toD, PyData.depth]⟩
  | 0, .tup _, h => by simp [PV.isD] at h
  | n + 1, .tup xs, h => by
    simp only [PV.isD] at h
    obtain ⟨h1, h2⟩ := areD_lay h
    simp only [PV.toD, PyData.canLay0, PyData.depth]
    exact ⟨h1, by omega⟩
  | 0, .lst _, h => by simp [PV.isD] at h
  | n + 1, .lst xs, h => by
    simp only [PV.isD] at h
    obtain ⟨h1, h2⟩ := areD_lay h
    simp only [PV.toD, PyData.canLay0, PyData.depth]
    exact ⟨h1, by omega⟩
  | n, .dct _ _, h => by simp [PV.isD] at h
  | n, .ins _ _ _, h => by simp [PV.isD] at h
  | n, .ref _, h => by simp [PV.isD] at h
theorem areD_lay : ∀ {n : Nat} {xs : List PV}, areD n xs = true → PyData.canLayAll0 (toDs xs) = true ∧ PyData.depthAll (toDs xs) ≤ n
  | n, [], _ => by simp [toDs, PyData.canLayAll0, PyData.depthAll]
  | n, x :: xs, h => by
    simp only [areD, Bool.and_eq_true] at h
    obtain ⟨h1, h2⟩ := isD_lay h.1
    obtain ⟨h3, h4⟩ := areD_lay h.2
    simp only [toDs, PyData.canLayAll0, PyData.depthAll, Bool.and_eq_true]
    exact ⟨⟨h1, h3⟩, by omega⟩
end
theorem isD_shaped {x : PV} (h : x.isD deep = true) : SeqAt.shaped x.toD = true := by
  obtain ⟨h1, h2⟩ := isD_lay h
  show (_ && decide _) = true
  rw [Bool.and_eq_true]
  exact ⟨h1, decide_eq_true (Nat.le_trans h2 (by decide))⟩
theorem areD_shapedT {xs : List PV} (h : areD deep xs = true) : SeqAt.shaped (.tuple (toDs xs)) = true := by
  obtain ⟨h1, h2⟩ := areD_lay h
  show (_ && decide _) = true
  rw [Bool.and_eq_true]
  simp only [PyData.canLay0, PyData.depth]
  exact ⟨h1, decide_eq_true (Nat.le_trans (Nat.add_le_add_right h2 1) (by decide))⟩
theorem areD_shapedL {xs : List PV} (h : areD deep xs = true) : SeqAt.shaped (.list (toDs xs)) = true := by
  obtain ⟨h1, h2⟩ := areD_lay h
  show (_ && decide _) = true
  rw [Bool.and_eq_true]
  simp only [PyData.canLay0, PyData.depth]
  exact ⟨h1, decide_eq_true (Nat.le_trans (Nat.add_le_add_right h2 1) (by decide))⟩
mutual
theorem Rep.dp {C : RC} {B : Addr → Prop} {r : List Addr} {H : Hp} : ∀ {n : Nat} {t : PV} {v : V}, t.isD n = true → Rep C B r H t v → Dp C.K H v t.toD
  | _, .non, _, _, h => by simp only [Rep] at h; subst h; exact .non
  | _, .bl _, _, _, h => by simp only [Rep] at h; subst h; exact .bl _
  | _, .int _, _, _, h => by simp only [Rep] at h; subst h; exact .int _
  | _, .str _, _, _, h => by simp only [Rep] at h; subst h; exact .str _
  | 0, .tup _, _, d, _ => by simp [PV.isD] at d
  | n + 1, .tup xs, v, d, h => by
    simp only [PV.isD] at d
    simp only [Rep] at h
    obtain ⟨a, vs, rfl, s, q⟩ := h
    simp only [PV.toD]
    exact .tup s (Reps.dp d q)
  | 0, .lst _, _, d, _ => by simp [PV.isD] at d
  | n + 1, .lst xs, v, d, h => by
    simp only [PV.isD] at d
    simp only [Rep] at h
    obtain ⟨a, vs, rfl, s, q⟩ := h
    simp only [PV.toD]
    exact .lst (.of s.1) (Reps.dp d q)
  | _, .dct _ _, _, d, _ => by simp [PV.isD] at d
  | _, .ins _ _ _, _, d, _ => by simp [PV.isD] at d
  | _, .ref _, _, d, _ => by simp [PV.isD] at d
theorem Reps.dp {C : RC} {B : Addr → Prop} {r : List Addr} {H : Hp} : ∀ {n : Nat} {t : List PV} {v : List V}, areD n t = true → Reps C B r H t v → DpAll C.K H v (toDs t)
  | _, [], _, _, h => by simp only [Reps] at h; subst h; exact .nil
  | n, x :: xs, _, d, h => by
    simp only [areD, Bool.and_eq_true] at d
    simp only [Reps] at h
    obtain ⟨v, vr, rfl, h1, h2⟩ := h
    exact .cons (Rep.dp d.1 h1) (Reps.dp d.2 h2)
end
theorem RepP.dp {C : RC} {B : Addr → Prop} {r : List Addr} {H : Hp} {n : Nat} {t : PV} {v : V} (d : t.isD n = true) (h : RepP C B r H t v) : Dp C.K H v t.toD := by
  cases t with
  | lst xs =>
    obtain ⟨a, vs, rfl, s, q⟩ := h
    cases n with
    | zero => simp [PV.isD] at d
    | succ n =>
      simp only [PV.isD] at d
      simp only [PV.toD]
      exact .lst (.of s.1) (Reps.dp d q)
  | _ => exact Rep.dp (B := B) (r := r) d h
mutual
theorem peq_eqv : ∀ {n m : Nat} {x y : PV}, x.isD n = true → y.isD m = true → peq x y = PyData.eqv x.toD y.toD
  | n, m, .non, y, _, h => by cases y <;> simp only [peq, PV.toD, PyData.eqv] <;> simp_all [PV.isD]
  | n, m, .bl a, y, _, h => by cases y <;> simp only [peq, PV.toD, PyData.eqv] <;> simp_all [PV.isD]
  | n, m, .int a, y, _, h => by cases y <;> simp only [peq, PV.toD, PyData.eqv] <;> simp_all [PV.isD]
  | n, m, .str a, y, _, h => by cases y <;> simp only [peq, PV.toD, PyData.eqv] <;> simp_all [PV.isD]
  | 0, m, .tup _, y, d, h => by simp [PV.isD] at d
  | n + 1, m, .tup xs, y, d, h => by
    simp only [PV.isD] at d
    cases y with
    | tup ys =>
      cases m with
      | zero => simp [PV.isD] at h
      | succ m =>
        simp only [PV.isD] at h
        simp only [peq, PV.toD, PyData.eqv]
        exact peqs_eqv d h
    | dct _ _ => simp [PV.isD] at h
    | ins _ _ _ => simp [PV.isD] at h
    | ref _ => simp [PV.isD] at h
    | _ => simp only [peq, PV.toD, PyData.eqv]
  | 0, m, .lst _, y, d, h => by simp [PV.isD] at d
  | n + 1, m, .lst xs, y, d, h => by
    simp only [PV.isD] at d
    cases y with
    | lst ys =>
      cases m with
      | zero => simp [PV.isD] at h
      | succ m =>
        simp only [PV.isD] at h
        simp only [peq, PV.toD, PyData.eqv]
        exact peqs_eqv d h
    | dct _ _ => simp [PV.isD] at h
    | ins _ _ _ => simp [PV.isD] at h
    | ref _ => simp [PV.isD] at h
    | _ => simp only [peq, PV.toD, PyData.eqv]
  | n, m, .dct _ _, y, d, h => by simp [PV.isD] at d
  | n, m, .ins _ _ _, y, d, h => by simp [PV.isD] at d
  | n, m, .ref _, y, d, h => by simp [PV.isD] at d
theorem peqs_eqv : ∀ {n m : Nat} {xs ys : List PV}, areD n xs = true → areD m ys = true → peqs xs ys = PyData.eqvAll (toDs xs) (toDs ys)
  | n, m, [], ys, _, _ => by cases ys <;> simp only [peqs, toDs, PyData.eqvAll]
  | n, m, x :: xs, ys, d, h => by
    cases ys with
    | nil => simp only [peqs, toDs, PyData.eqvAll]
    | cons y ys =>
      simp only [areD, Bool.and_eq_true] at d h
      simp only [peqs, toDs, PyData.eqvAll]
      rw [peq_eqv d.1 h.1, peqs_eqv d.2 h.2]
end
theorem any_eqv {n m : Nat} {x : PV} (hx : x.isD n = true) : ∀ {ys : List PV}, areD m ys = true → (ys.any fun y => peq y x) = ((toDs ys).any fun y => PyData.eqv y x.toD)
  | [], _ => rfl
  | y :: ys, h => by
    simp only [areD, Bool.and_eq_true] at h
    simp only [List.any_cons, toDs]
    rw [peq_eqv h.1 hx, any_eqv hx h.2]

/-! ### in -/
def rInA (K : PySem.W.Frag) (neg : Bool) : R2 := fun x y H Q => ∃ d ds, Dp K H x d ∧ (Dp K H y (.tuple ds) ∨ Dp K H y (.list ds)) ∧ SeqAt.shaped d = true ∧ SeqAt.shaped (.list ds) = true ∧ Q (.bl (if neg then !(ds.any fun z => PyData.eqv z d) else ds.any fun z => PyData.eqv z d)) H
theorem room_in {A : Around} {d : PyData} {ds : List PyData} (sd : SeqAt.shaped d = true) (hu : A.units + 65 < cLine) : A.units + 1 + min (PyData.depthAll ds) d.depth < cLine := by
  have h1 := SeqAt.depth_of_shaped sd
  have h2 : min (PyData.depthAll ds) d.depth ≤ d.depth := Nat.min_le_right _ _
  omega
section
variable {X : Cx} {c : Cn} {e a b d : Expr} {es : List Expr} {ma mb md : SE} {ba bb : SB} {m : SA} {pos : Pos}
theorem op_inA (hu : X.A.units + 65 < cLine) : OpR X (compareOp .In) (rInA X.K false) := by
  intro pins s σ H x y v u Q I rx ry h
  obtain ⟨d, ds, hd, he, sd, se, q⟩ := h
  obtain ⟨as, r1⟩ := Dp.reads I d x v hd rx
  rcases he with he | he
  · obtain ⟨bs, r2⟩ := Dp.reads I (.tuple ds) y u he ry
    exact SeqAt.in_tuple_reads r2 r1 (SeqAt.canLay_of_shaped se) (SeqAt.canLay_of_shaped sd) (room_in sd hu) ⟨.bl _, H, I, rfl, q⟩
  · obtain ⟨bs, r2⟩ := Dp.reads I (.list ds) y u he ry
    exact SeqAt.in_list_reads r2 r1 (SeqAt.canLay_of_shaped se) (SeqAt.canLay_of_shaped sd) (room_in sd hu) ⟨.bl _, H, I, rfl, q⟩
theorem op_ninA (hu : X.A.units + 65 < cLine) : OpR X (compareOp .NotIn) (rInA X.K true) := by
  intro pins s σ H x y v u Q I rx ry h
  obtain ⟨d, ds, hd, he, sd, se, q⟩ := h
  obtain ⟨as, r1⟩ := Dp.reads I d x v hd rx
  rcases he with he | he
  · obtain ⟨bs, r2⟩ := Dp.reads I (.tuple ds) y u he ry
    exact SeqAt.notIn_tuple_reads r2 r1 (SeqAt.canLay_of_shaped se) (SeqAt.canLay_of_shaped sd) (room_in sd hu) ⟨.bl _, H, I, rfl, q⟩
  · obtain ⟨bs, r2⟩ := Dp.reads I (.list ds) y u he ry
    exact SeqAt.notIn_list_reads r2 r1 (SeqAt.canLay_of_shaped se) (SeqAt.canLay_of_shaped sd) (room_in sd hu) ⟨.bl _, H, I, rfl, q⟩

/-! ### what a comparison's rule asks, for trees -/
def CmT (c : Cn) (o : Cm) (r : R2) : Prop := ∀ (M : Addr → Prop) (H : Hp) (x y : PV) (k : Bool) (v w : V) (q : VK), o.on x y = some k → c.RP M H x v → c.RP M H y w → q (.bl k) H → r v w H q
theorem cm_eq : CmT c .eq (rEqD c.C.K) := by
  intro M H x y k v w q e r1 r2 h
  simp only [Cm.on] at e
  obtain ⟨p, rfl⟩ := if_some e
  rw [Bool.and_eq_true] at p
  exact ⟨_, _, r1.dp p.1, r2.dp p.2, isD_shaped p.1, isD_shaped p.2, by rw [← peq_eqv p.1 p.2]; exact h⟩
theorem cm_ne : CmT c .ne (rNeD c.C.K) := by
  intro M H x y k v w q e r1 r2 h
  simp only [Cm.on] at e
  obtain ⟨p, rfl⟩ := if_some e
  rw [Bool.and_eq_true] at p
  exact ⟨_, _, r1.dp p.1, r2.dp p.2, isD_shaped p.1, isD_shaped p.2, by rw [← peq_eqv p.1 p.2]; exact h⟩
theorem cm_inV {M : Addr → Prop} {H : Hp} {x y : PV} {k : Bool} {v w : V} (e : inV x y = some k) (r1 : c.RP M H x v) (r2 : c.RP M H y w) :
    ∃ d ds, Dp c.C.K H v d ∧ (Dp c.C.K H w (.tuple ds) ∨ Dp c.C.K H w (.list ds)) ∧ SeqAt.shaped d = true ∧ SeqAt.shaped (.list ds) = true ∧ (ds.any fun z => PyData.eqv z d) = k := by
  unfold inV at e
  split at e
  · rename_i ys
    obtain ⟨p, rfl⟩ := if_some e
    rw [Bool.and_eq_true] at p
    have d : PV.isD (deep + 1) (.tup ys) = true := by simp only [PV.isD]; exact p.2
    exact ⟨_, _, r1.dp p.1, .inl (by have z := r2.dp d; simp only [PV.toD] at z; exact z), isD_shaped p.1, areD_shapedL p.2, by rw [← any_eqv p.1 p.2]⟩
  · rename_i ys
    obtain ⟨p, rfl⟩ := if_some e
    rw [Bool.and_eq_true] at p
    have d : PV.isD (deep + 1) (.lst ys) = true := by simp only [PV.isD]; exact p.2
    exact ⟨_, _, r1.dp p.1, .inr (by have z := r2.dp d; simp only [PV.toD] at z; exact z), isD_shaped p.1, areD_shapedL p.2, by rw [← any_eqv p.1 p.2]⟩
  · exact nomatch e
theorem map_not {o : Option Bool} {k : Bool} (h : o.map (!·) = some k) : ∃ j, o = some j ∧ k = !j := by
  cases o with
  | none => exact nomatch h
  | some j => exact ⟨j, rfl, (Option.some.inj h).symm⟩
theorem cm_in : CmT c .isin (rInA c.C.K false) := by
  intro M H x y k v w q e r1 r2 h
  obtain ⟨d, ds, h1, h2, h3, h4, rfl⟩ := cm_inV e r1 r2
  exact ⟨d, ds, h1, h2, h3, h4, h⟩
theorem cm_nin : CmT c .notin (rInA c.C.K true) := by
  intro M H x y k v w q e r1 r2 h
  obtain ⟨j, e', rfl⟩ := map_not e
  obtain ⟨d, ds, h1, h2, h3, h4, rfl⟩ := cm_inV e' r1 r2
  exact ⟨d, ds, h1, h2, h3, h4, h⟩
theorem cm_ints {o : Cm} {g : Int → Int → Bool} (ho : ∀ x y, o.on x y = cmI g x y) : CmT c o (rI0 fun i j => .bl (g i j)) := by
  intro M H x y k v w q e r1 r2 h
  rw [ho] at e
  unfold cmI at e
  split at e
  · cases e
    exact ⟨_, _, rp_int r1, rp_int r2, h⟩
  · exact nomatch e
theorem cm_lt : CmT c .lt (rI0 fun i j => .bl (decide (i < j))) := cm_ints fun _ _ => rfl
theorem cm_le : CmT c .le (rI0 fun i j => .bl (decide (i ≤ j))) := cm_ints fun _ _ => rfl
theorem cm_gt : CmT c .gt (rI0 fun i j => .bl (decide (j < i))) := cm_ints fun _ _ => rfl
theorem cm_ge : CmT c .ge (rI0 fun i j => .bl (decide (j ≤ i))) := cm_ints fun _ _ => rfl
theorem rp_non {M : Addr → Prop} {H : Hp} {x : PV} {v : V} (h : c.RP M H x v) : decide (v = .non) = x.isNon := by
  cases x with
  | non => simp only [Cn.RP, RepP, RepM, Rep] at h; subst h; rfl
  | bl _ => simp only [Cn.RP, RepP, RepM, Rep] at h; subst h; rfl
  | int _ => simp only [Cn.RP, RepP, RepM, Rep] at h; subst h; rfl
  | str _ => simp only [Cn.RP, RepP, RepM, Rep] at h; subst h; rfl
  | tup _ => obtain ⟨a, vs, rfl, _⟩ := rp_tup h; rfl
  | lst _ => obtain ⟨a, vs, rfl, _⟩ := rp_lst h; rfl
  | dct _ _ => simp only [Cn.RP, RepP, RepM, Rep] at h
  | ins _ _ _ => simp only [Cn.RP, RepP, RepM, Rep] at h; obtain ⟨a, _, _, rfl, _⟩ := h; rfl
  | ref _ => simp only [Cn.RP, RepP, RepM, Rep] at h; obtain ⟨a, rfl, _⟩ := h; rfl
theorem isNo_some {x y : PV} {k : Bool} (h : isNo x y = some k) : y = .non ∧ k = x.isNon := by
  unfold isNo at h
  split at h
  · exact ⟨rfl, (Option.some.inj h).symm⟩
  · cases h
theorem cm_isN : CmT c .isN (fun x y H Q => y = .non ∧ Q (.bl (decide (x = .non))) H) := by
  intro M H x y k v w q e r1 r2 h
  obtain ⟨rfl, rfl⟩ := isNo_some e
  refine ⟨by simpa only [Cn.RP, RepP, RepM, Rep] using r2, ?_⟩
  rw [rp_non r1]; exact h
theorem cm_notN : CmT c .notN (fun x y H Q => y = .non ∧ Q (.bl (!decide (x = .non))) H) := by
  intro M H x y k v w q e r1 r2 h
  obtain ⟨j, e', rfl⟩ := map_not e
  obtain ⟨rfl, rfl⟩ := isNo_some e'
  refine ⟨by simpa only [Cn.RP, RepP, RepM, Rep] using r2, ?_⟩
  rw [rp_non r1]; exact h
theorem cmB_some {f : Bool → Bool → Bool} {x y : PV} {k : Bool} (h : cmB f x y = some k) : ∃ a b, x = .bl a ∧ y = .bl b ∧ k = f a b := by
  unfold cmB at h
  split at h
  · exact ⟨_, _, rfl, rfl, (Option.some.inj h).symm⟩
  · exact nomatch h
theorem cm_isBl : CmT c .isBl rIsB := by
  intro M H x y k v w q e r1 r2 h
  obtain ⟨a, b, rfl, rfl, rfl⟩ := cmB_some e
  exact ⟨_, _, rp_bl r1, rp_bl r2, h⟩
theorem cm_notBl : CmT c .notBl rNotB := by
  intro M H x y k v w q e r1 r2 h
  obtain ⟨a, b, rfl, rfl, rfl⟩ := cmB_some e
  exact ⟨_, _, rp_bl r1, rp_bl r2, h⟩

/-! ### rules -/
theorem PoE.of {α β : Type} {M : Addr → Prop} {S : Sto} {H : Hp} {o : Option α} {R : Hp → α → β → Prop} {q : β → Hp → Prop} (h : PoE c M H (Re.of o S) R q) : ∃ t, o = some t ∧ ∀ v H', Kp c.r H H' → c.St M S H' → R H' t v → q v H' := by
  cases o with
  | none => exact h.elim
  | some t => exact ⟨t, rfl, h⟩
theorem bt_cm {op : CmpOp} {o : Cm} {r : R2} (ht : CmT c o r) (hr : OpR X (compareOp op) r) (ha : PE X a (LP c ma)) (hb : PE X b (LP c mb)) (hm : behindInMarks op b = false) : PT X (.Compare a [op] [b] pos) (LB c (bCm o ma mb)) :=
  (pt_cmpR hr ha hb hm).w fun s H q ⟨M, S, fr, rs, h⟩ => by
    refine ⟨M, S, fr, rs, PoE.bind h fun x S1 v H1 k1 st1 r1 h1 => ?_⟩
    have rs1 := rs.step k1 st1
    refine ⟨M, S1, fr, rs1, PoE.bind h1 fun y S2 w H2 k2 st2 r2 h2 => ?_⟩
    obtain ⟨k, e, h3⟩ := h2.of
    exact ht M H2 x y k v w _ e (r1.k k2 rs.rb) r2 ⟨k, rfl, h3 k H2 .refl st2 rfl⟩
theorem be_cm {op : CmpOp} {o : Cm} {r : R2} (ht : CmT c o r) (hr : OpR X (compareOp op) r) (ha : PE X a (LP c ma)) (hb : PE X b (LP c mb)) (hm : behindInMarks op b = false) : PE X (.Compare a [op] [b] pos) (LE c (eB (bCm o ma mb))) :=
  (pe_cmpR hr ha hb hm).w fun s H q ⟨M, S, fr, rs, h⟩ => by
    simp only [eB, bCm, Re.bind_assoc] at h
    refine ⟨M, S, fr, rs, PoE.bind h fun x S1 v H1 k1 st1 r1 h1 => ?_⟩
    have rs1 := rs.step k1 st1
    refine ⟨M, S1, fr, rs1, PoE.bind h1 fun y S2 w H2 k2 st2 r2 h2 => ?_⟩
    cases e : o.on x y with
    | none => rw [e] at h2; exact h2.elim
    | some k =>
      rw [e] at h2
      exact ht M H2 x y k v w _ e (r1.k k2 rs.rb) r2 (h2 _ H2 .refl st2 (.flat rfl))
end
end Q
/-! Qf: chains, and, or, not, if; displays; subscripts; built-ins. -/
namespace Q
open PySem PySem.Spec PyProof.Rows L2
section
variable {X : Cx} {c : Cn} {e a b d : Expr} {es rest : List Expr} {ma mb md : SE} {ba bb : SB} {m : SA} {pos : Pos}

theorem be_ch {op op' : CmpOp} {o o' : Cm} {r r' : R2} (ht : CmT c o r) (ht' : CmT c o' r') (hr : OpR X (compareOp op) r) (hr' : OpR X (compareOp op') r') (ha : PE X a (LP c ma)) (hb : PE X b (LP c mb)) (hd : PE X d (LP c md))
    (hm : lastMarks [op, op'] [b, d] = false) : PE X (.Compare a [op, op'] [b, d] pos) (LE c (eB (bCh o o' ma mb md))) :=
  (pe_chain hr hr' ha hb hd hm).w fun s H q ⟨M, S, fr, rs, h⟩ => by
    simp only [eB, bCh, Re.bind_assoc] at h
    refine ⟨M, S, fr, rs, PoE.bind h fun x S1 v H1 k1 st1 r1 h1 => ?_⟩
    have rs1 := rs.step k1 st1
    refine ⟨M, S1, fr, rs1, PoE.bind h1 fun y S2 w H2 k2 st2 r2 h2 => ?_⟩
    have rs2 := rs1.step k2 st2
    cases e : o.on x y with
    | none => rw [e] at h2; exact h2.elim
    | some k =>
      rw [e] at h2
      refine ht M H2 x y k v w _ e (r1.k k2 rs.rb) r2 ⟨k, rfl, ?_⟩
      cases k with
      | false =>
        rw [if_neg (by decide)]
        exact h2 (.bl false) H2 .refl st2 (.flat rfl)
      | true =>
        rw [if_pos rfl]
        simp only [Re.of_some, Re.bind_ok, if_true] at h2
        rw [Re.bind_assoc] at h2
        refine ⟨M, S2, fr, rs2, PoE.bind h2 fun z S3 u H3 k3 st3 r3 h3 => ?_⟩
        cases e : o'.on y z with
        | none => rw [e] at h3; exact h3.elim
        | some k =>
          rw [e] at h3
          exact ht' M H3 y z k w u _ e (r2.k k3 rs.rb) r3 (h3 _ H3 .refl st3 (.flat rfl))
theorem bt_ch {op op' : CmpOp} {o o' : Cm} {r r' : R2} (ht : CmT c o r) (ht' : CmT c o' r') (hr : OpR X (compareOp op) r) (hr' : OpR X (compareOp op') r') (ha : PE X a (LP c ma)) (hb : PE X b (LP c mb)) (hd : PE X d (LP c md))
    (hm : lastMarks [op, op'] [b, d] = false) : PT X (.Compare a [op, op'] [b, d] pos) (LB c (bCh o o' ma mb md)) :=
  (pt_chain hr hr' ha hb hd hm).w fun s H q ⟨M, S, fr, rs, h⟩ => by
    simp only [bCh] at h
    refine ⟨M, S, fr, rs, PoE.bind h fun x S1 v H1 k1 st1 r1 h1 => ?_⟩
    have rs1 := rs.step k1 st1
    refine ⟨M, S1, fr, rs1, PoE.bind h1 fun y S2 w H2 k2 st2 r2 h2 => ?_⟩
    have rs2 := rs1.step k2 st2
    cases e : o.on x y with
    | none => rw [e] at h2; exact h2.elim
    | some k =>
      rw [e] at h2
      refine ht M H2 x y k v w _ e (r1.k k2 rs.rb) r2 ⟨k, rfl, ?_⟩
      cases k with
      | false =>
        rw [if_neg (by decide)]
        exact ⟨false, rfl, h2 false H2 .refl st2 rfl⟩
      | true =>
        rw [if_pos rfl]
        simp only [Re.of_some, Re.bind_ok, if_true] at h2
        refine ⟨M, S2, fr, rs2, PoE.bind h2 fun z S3 u H3 k3 st3 r3 h3 => ?_⟩
        obtain ⟨k, e, h4⟩ := h3.of
        exact ht' M H3 y z k w u _ e (r2.k k3 rs.rb) r3 ⟨k, rfl, h4 k H3 .refl st3 rfl⟩

/-! ### and, or, not -/
theorem bt_and1 (ha : PT X a (LB c ba)) : PW X (.BoolOp .And [a] pos) (LB c ba) := pw_and1 ha
theorem bt_or1 (ha : PT X a (LB c ba)) : PW X (.BoolOp .Or [a] pos) (LB c ba) := pw_or1 ha
theorem bt_and (ha : PT X a (LB c ba)) (hb : PW X (.BoolOp .And (b :: rest) pos) (LB c bb)) : PW X (.BoolOp .And (a :: b :: rest) pos) (LB c (bAnd ba bb)) :=
  (pw_and ha hb).w fun s H q ⟨M, S, fr, rs, h⟩ => ⟨M, S, fr, rs, PoE.bind h fun k S1 k' H1 k1 st1 r1 h1 => by
    subst r1
    cases k' with
    | true => exact ⟨M, S1, fr, rs.step k1 st1, h1⟩
    | false => exact h1 false H1 .refl st1 rfl⟩
theorem bt_or (ha : PT X a (LB c ba)) (hb : PW X (.BoolOp .Or (b :: rest) pos) (LB c bb)) : PW X (.BoolOp .Or (a :: b :: rest) pos) (LB c (bOr ba bb)) :=
  (pw_or ha hb).w fun s H q ⟨M, S, fr, rs, h⟩ => ⟨M, S, fr, rs, PoE.bind h fun k S1 k' H1 k1 st1 r1 h1 => by
    subst r1
    cases k' with
    | false => exact ⟨M, S1, fr, rs.step k1 st1, h1⟩
    | true => exact h1 true H1 .refl st1 rfl⟩
theorem bt_not (ha : PT X a (LB c ba)) : PT X (.UnaryOp .Not a pos) (LB c (bNot ba)) :=
  (pt_not ha).w fun s H q ⟨M, S, fr, rs, h⟩ => ⟨M, S, fr, rs, PoE.bind h fun k S1 k' H1 k1 st1 r1 h1 => by
    subst r1
    exact h1 (!k') H1 .refl st1 rfl⟩
theorem bt_val (h : PE X e (LE c ma)) (he : ∀ whole, isTrue e X.env whole = (do let v ← whole; standAt e.pos; holding [v] (truthy v))) : PT X e (LB c (bE ma)) :=
  (pt_val h he).w fun s H q ⟨M, S, fr, rs, h⟩ => ⟨M, S, fr, rs, PoE.bind h fun x S1 v H1 k1 st1 r1 h1 => by
    cases x with
    | bl k => exact ⟨k, rp_bl (Rep.p rs.rb r1), h1 k H1 .refl st1 rfl⟩
    | _ => exact h1.elim⟩
theorem be_one {op} (h : PE X a (LE c ma)) : PE X (.BoolOp op [a] pos) (LE c ma) := pe_one h
theorem be_and (ha : PE X a (LE c ma)) (hb : PE X (.BoolOp .And (b :: rest) pos) (LE c mb)) : PE X (.BoolOp .And (a :: b :: rest) pos) (LE c (eAnd (bE ma) mb)) :=
  (pe_and ha hb).w fun s H q ⟨M, S, fr, rs, h⟩ => by
    simp only [eAnd, bE, Re.bind_assoc] at h
    exact ⟨M, S, fr, rs, PoE.bind h fun x S1 v H1 k1 st1 r1 h1 => by
      cases x with
      | bl k =>
        refine ⟨k, rp_bl (Rep.p rs.rb r1), ?_⟩
        cases k with
        | true => exact ⟨M, S1, fr, rs.step k1 st1, h1⟩
        | false => exact h1 _ H1 .refl st1 (.flat rfl)
      | _ => exact h1.elim⟩
theorem be_or (ha : PE X a (LE c ma)) (hb : PE X (.BoolOp .Or (b :: rest) pos) (LE c mb)) : PE X (.BoolOp .Or (a :: b :: rest) pos) (LE c (eOr (bE ma) mb)) :=
  (pe_or ha hb).w fun s H q ⟨M, S, fr, rs, h⟩ => by
    simp only [eOr, bE, Re.bind_assoc] at h
    exact ⟨M, S, fr, rs, PoE.bind h fun x S1 v H1 k1 st1 r1 h1 => by
      cases x with
      | bl k =>
        refine ⟨k, rp_bl (Rep.p rs.rb r1), ?_⟩
        cases k with
        | false => exact ⟨M, S1, fr, rs.step k1 st1, h1⟩
        | true => exact h1 _ H1 .refl st1 (.flat rfl)
      | _ => exact h1.elim⟩
theorem be_not (ha : PE X a (LE c ma)) : PE X (.UnaryOp .Not a pos) (LE c (eB (bNot (bE ma)))) :=
  (pe_not ha).w fun s H q ⟨M, S, fr, rs, h⟩ => by
    simp only [eB, bNot, bE, Re.bind_assoc] at h
    exact ⟨M, S, fr, rs, PoE.bind h fun x S1 v H1 k1 st1 r1 h1 => by
      cases x with
      | bl k => exact ⟨k, rp_bl (Rep.p rs.rb r1), h1 _ H1 .refl st1 (.flat rfl)⟩
      | _ => exact h1.elim⟩
theorem be_if (hc : PT X d (LB c ba)) (ha : PE X a (LE c ma)) (hb : PE X b (LE c mb)) : PE X (.IfExp d a b pos) (LE c (eIf ba ma mb)) :=
  (pe_ifExp hc ha hb).w fun s H q ⟨M, S, fr, rs, h⟩ => ⟨M, S, fr, rs, PoE.bind h fun k S1 k' H1 k1 st1 r1 h1 => by
    subst r1
    cases k' with
    | true => exact ⟨M, S1, fr, rs.step k1 st1, h1⟩
    | false => exact ⟨M, S1, fr, rs.step k1 st1, h1⟩⟩

/-! ### displays -/
theorem ok_aN : PA X [] (LA c aN) := pa_nil.w fun s H q ⟨M, S, fr, rs, h⟩ => h [] H .refl rs.st .nil
theorem ok_aC (ha : PE X e (LE c ma)) (hr : PA X es (LA c m)) (hs : starEach (e :: es) X.env = (false, eval e X.env) :: starEach es X.env) : PA X (e :: es) (LA c (aC ma m)) :=
  (pa_cons ha hr hs).w fun s H q ⟨M, S, fr, rs, h⟩ => ⟨M, S, fr, rs, PoE.bind h fun x S1 v H1 k1 st1 r1 h1 => ⟨M, S1, fr, rs.step k1 st1, PoE.bind h1 fun xs S2 vs H2 k2 st2 r2 h2 =>
    h2 (v :: vs) H2 .refl st2 (.cons (r1.k k2 rs.rb) r2)⟩⟩
theorem ok_pN : PA X [] (LAp c aN) := pa_nil.w fun s H q ⟨M, S, fr, rs, h⟩ => h [] H .refl rs.st rfl
theorem ok_pC (ha : PE X e (LP c ma)) (hr : PA X es (LAp c m)) (hs : starEach (e :: es) X.env = (false, eval e X.env) :: starEach es X.env) : PA X (e :: es) (LAp c (aC ma m)) :=
  (pa_cons ha hr hs).w fun s H q ⟨M, S, fr, rs, h⟩ => ⟨M, S, fr, rs, PoE.bind h fun x S1 v H1 k1 st1 r1 h1 => ⟨M, S1, fr, rs.step k1 st1, PoE.bind h1 fun xs S2 vs H2 k2 st2 r2 h2 =>
    h2 (v :: vs) H2 .refl st2 ⟨v, vs, rfl, r1.k k2 rs.rb, r2⟩⟩⟩
theorem ok_tup {k} (h : PA X es (LA c m)) : PE X (.Tuple es k pos) (LE c (eTup m)) :=
  (pe_tup h).w fun s H q ⟨M, S, fr, rs, h⟩ => ⟨M, S, fr, rs, PoE.bind h fun xs S1 vs H1 k1 st1 r1 h1 => by
    by_cases z : fits xs.length = true
    · simp only [z, if_true] at h1
      exact ⟨by rw [← r1.len]; exact fits_le z, fun p n => h1 _ _ (Kp.upd_new n) (st1.k (Kp.upd_new n) rs.rb (upd_keeps n)) (R.tup_new rs.rb n r1)⟩
    · simp only [z] at h1
      exact h1.elim⟩
theorem ok_lst (h : PA X es (LA c m)) : PE X (.List es pos) (LE c (eLst m)) :=
  (pe_lst h).w fun s H q ⟨M, S, fr, rs, h⟩ => ⟨M, S, fr, rs, PoE.bind h fun xs S1 vs H1 k1 st1 r1 h1 => by
    by_cases z : fits xs.length = true
    · simp only [z, if_true] at h1
      exact ⟨by rw [← r1.len]; exact fits_le z, fun p n => h1 _ _ (Kp.upd_new n) (st1.k (Kp.upd_new n) rs.rb (upd_keeps n)) (R.lst_new rs.rb (rs.step k1 st1).bn n r1)⟩
    · simp only [z] at h1
      exact h1.elim⟩
theorem ok_neg (ha : PE X a (LP c ma)) : PE X (.UnaryOp .USub a pos) (LE c (eNeg ma)) :=
  (pe_un un_neg ha).w fun s H q ⟨M, S, fr, rs, h⟩ => ⟨M, S, fr, rs, PoE.bind h fun x S1 v H1 k1 st1 r1 h1 => by
    cases x with
    | int i => exact ⟨i, rp_int r1, h1 _ H1 .refl st1 (.flat rfl)⟩
    | _ => exact h1.elim⟩

/-! ### subscripts -/
theorem ixN_eq (n : Nat) (i : Int) : ixN n i = L2.ixN n i := rfl
theorem ixV_at {C : RC} {B : Addr → Prop} {r : List Addr} {H : Hp} {xs : List PV} {vs : List V} {i : Int} {x : PV} (h : Reps C B r H xs vs) (e : ixV xs i = some x) : ∃ v, atI vs i = some v ∧ Rep C B r H x v := by
  unfold ixV at e
  unfold atI
  rw [ixN_eq, h.len] at e
  cases q : L2.ixN vs.length i with
  | none => rw [q] at e; exact nomatch e
  | some j =>
    rw [q] at e
    exact h.get e
theorem ok_ix (hk : X.K = c.C.K) (ha : PE X a (LP c ma)) (hb : PE X b (LP c mb)) (hs : PlainIx b) : PE X (.Subscript a b pos) (LE c (eIx ma mb)) :=
  (pe_ix (ix_list.or ix_tup) ha hb hs).w fun s H q ⟨M, S, fr, rs, h⟩ => ⟨M, S, fr, rs, PoE.bind h fun x S1 v H1 k1 st1 r1 h1 => ⟨M, S1, fr, rs.step k1 st1, PoE.bind h1 fun y S2 w H2 k2 st2 r2 h2 => by
    obtain ⟨z, e, h3⟩ := h2.of
    unfold PV.at_ at e
    split at e
    · obtain ⟨p, vs, rfl, sq, q1⟩ := rp_tup (r1.k k2 rs.rb)
      obtain ⟨u, e1, r3⟩ := ixV_at q1 e
      exact .inr ⟨p, vs, _, u, rfl, rp_int r2, hk ▸ sq, e1, h3 _ _ .refl st2 r3⟩
    · obtain ⟨p, vs, rfl, sq, _, q1⟩ := rp_lst (r1.k k2 rs.rb)
      obtain ⟨u, e1, r3⟩ := ixV_at q1 e
      exact .inl ⟨p, vs, _, u, rfl, rp_int r2, .of sq, e1, h3 _ _ .refl st2 r3⟩
    · exact nomatch e⟩⟩
/-- x[i], x in the store -/
theorem ok_ixS (ha : PE X a (LP c ma)) (hb : PE X b (LP c mb)) (hs : PlainIx b) : PE X (.Subscript a b pos) (LE c (eIxS ma mb)) :=
  (pe_ix ix_list ha hb hs).w fun s H q ⟨M, S, fr, rs, h⟩ => ⟨M, S, fr, rs, PoE.bind h fun x S1 v H1 k1 st1 r1 h1 => ⟨M, S1, fr, rs.step k1 st1, PoE.bind h1 fun y S2 w H2 k2 st2 r2 h2 => by
    obtain ⟨z, e, h3⟩ := h2.of
    unfold stAt at e
    split at e
    · rename_i k
      split at e
      · rename_i t et
        have r1' : ∃ p, v = .ref p ∧ c.r[k]? = some p := by simpa only [Cn.RP, RepP, RepM, Rep] using r1
        obtain ⟨p, rfl, ep⟩ := r1'
        have q := st2.at_ k p t ep et
        unfold PV.at_ at e
        split at e
        · exact q.elim
        · obtain ⟨vs, e1, q1⟩ := q
          obtain ⟨u, e2, r3⟩ := ixV_at q1 e
          exact ⟨p, vs, _, u, rfl, rp_int r2, .of e1, e2, h3 _ _ .refl st2 r3⟩
        · exact nomatch e
      · exact nomatch e
    · exact nomatch e⟩⟩
theorem ok_oN : PO X none (LO c oN) := po_none.w fun s H q ⟨M, S, fr, rs, h⟩ => h none H .refl rs.st rfl
theorem ok_oS (h : PE X e (LP c ma)) : PO X (some e) (LO c (oS ma)) := (po_some h).w fun s H q ⟨M, S, fr, rs, h⟩ => ⟨M, S, fr, rs, PoE.bind h fun x S1 v H1 k1 st1 r1 h1 => by
    cases x with
    | int i => exact ⟨i, rp_int r1, h1 (some i) H1 .refl st1 rfl⟩
    | _ => exact h1.elim⟩
theorem sIx_eq (n d : Nat) (o : Option Int) : sIx n d o = HT.sIx n d o := by cases o <;> rfl
theorem cut_reps {C : RC} {B : Addr → Prop} {r : List Addr} {H : Hp} {xs : List PV} {vs : List V} (lo hi : Option Int) (h : Reps C B r H xs vs) : Reps C B r H (cut xs lo hi) (cutV vs lo hi) := by
  unfold cut cutV
  rw [sIx_eq, sIx_eq, h.len]
  exact (h.drop _).take _
theorem cutV_whole {vs : List V} {lo hi : Option Int} (h : HT.sIx vs.length 0 lo = 0 ∧ HT.sIx vs.length vs.length hi = vs.length) : cutV vs lo hi = vs := by
  unfold cutV
  rw [h.1, h.2]
  simp
theorem ok_sl {lo hi : Option Expr} {ml mh : SO} {p2 : Pos} (hk : X.K = c.C.K) (he : PE X e (LP c ma)) (hl : PO X lo (LO c ml)) (hu : PO X hi (LO c mh)) : PE X (.Subscript e (.Slice lo hi none p2) pos) (LE c (eSl ma ml mh)) :=
  (pe_slice (sl_tupA.or sl_list) he hl hu).w fun s H q ⟨M, S, fr, rs, h⟩ => ⟨M, S, fr, rs, PoE.bind h fun x S1 v H1 k1 st1 r1 h1 => ⟨M, S1, fr, rs.step k1 st1, PoE.bind h1 fun l S2 l' H2 k2 st2 r2 h2 =>
    ⟨M, S2, fr, (rs.step k1 st1).step k2 st2, PoE.bind h2 fun u S3 u' H3 k3 st3 r3 h3 => by
      subst r2 r3
      obtain ⟨z, e, h4⟩ := h3.of
      have rs3 := ((rs.step k1 st1).step k2 st2).step k3 st3
      unfold PV.cut_ at e
      split at e
      · cases e
        have r1' := (r1.k k2 rs.rb).k k3 rs.rb
        obtain ⟨p, vs, rfl, sq, q1⟩ := rp_tup r1'
        refine .inl ⟨p, vs, rfl, hk ▸ sq, fun hw => h4 _ _ .refl st3 ?_, fun _ t n => h4 _ _ (Kp.upd_new n) (st3.k (Kp.upd_new n) rs.rb (upd_keeps n)) (R.tup_new rs.rb n (cut_reps _ _ q1))⟩
        show Rep _ _ _ _ _ _
        simp only [Rep]
        refine ⟨p, vs, rfl, sq, ?_⟩
        have := cut_reps l' u' q1
        rwa [cutV_whole hw] at this
      · cases e
        obtain ⟨p, vs, rfl, sq, _, q1⟩ := rp_lst ((r1.k k2 rs.rb).k k3 rs.rb)
        exact .inr ⟨p, vs, rfl, .of sq, fun t n => h4 _ _ (Kp.upd_new n) (st3.k (Kp.upd_new n) rs.rb (upd_keeps n)) (R.lst_new rs.rb rs3.bn n (cut_reps _ _ q1))⟩
      · exact nomatch e⟩⟩⟩
end
end Q
/-! Qg: built-ins. -/
namespace Q
open PySem PySem.Spec PyProof.Rows L2
section
variable {X : Cx} {c : Cn} {e a b d : Expr} {es rest : List Expr} {ma mb md : SE} {ba bb : SB} {m : SA} {pos p : Pos} {x : Str}
/-- what a built-in's rule asks, for trees -/
def BiT (c : Cn) (f : List PV → Option PV) (r : List V → Hp → VK → Prop) : Prop :=
  ∀ (M : Addr → Prop) (H : Hp) (xs : List PV) (z : PV) (vs : List V) (q : VK), (∀ a ∈ c.r, c.B M a) → (∀ a, c.B M a → H a ≠ none) → f xs = some z → c.RPs M H xs vs → (∀ u H', Kp c.r H H' → (∀ b o, H b = some o → H' b = some o) → c.R M H' z u → q u H') → r vs H q
theorem BiT.of {f : List PV → Option PV} {r : List V → Hp → VK → Prop} (ht : BiT c f r) {s : L2.St} {H : Hp} {q : VK} (h : LE c (eBi f m) s H q) : tCB r (LAp c m) s H q := by
  obtain ⟨M, S, fr, rs, h⟩ := h
  refine ⟨M, S, fr, rs, PoE.bind h fun xs S1 vs H1 k1 st1 r1 h1 => ?_⟩
  cases e : f xs with
  | none => rw [e] at h1; exact h1.elim
  | some z =>
    rw [e] at h1
    exact ht M H1 xs z vs q rs.rb (rs.step k1 st1).bn e r1 fun u H' k hk r => h1 u H' k (st1.k k rs.rb hk) r
theorem ok_bi {f : List PV → Option PV} {id : String} {r : List V → Hp → VK → Prop} (ht : BiT c f r) (hc : CallR X (.builtin id) r) (hv : bootBuiltins x = some (.builtin id)) (hg : Gl X x) (hm : X.mg x = none) (ha : PA X (e :: es) (LAp c m))
    (hn : x ≠ "__name__") (hdb : (x == ("__debug__" : Str)) = false) (he : starEach (e :: es) X.env = (false, eval e X.env) :: starEach es X.env) (hpl : (backTo pos (starEach es X.env)).any (·.1) = false) : PE X (.Call (.Name x p) (e :: es) [] pos) (LE c (eBi f m)) :=
  (pe_callB hc hg hm hv ha hn hdb he hpl).w fun s H q h => ht.of h
theorem ok_ty {f : List PV → Option PV} {T : String} {r : List V → Hp → VK → Prop} (ht : BiT c f r) (hc : CallR X (.type T) r) (hv : bootBuiltins x = some (.type T)) (hg : Gl X x) (hm : X.mg x = none) (ha : PA X (e :: es) (LAp c m))
    (hn : x ≠ "__name__") (hdb : (x == ("__debug__" : Str)) = false) (he : starEach (e :: es) X.env = (false, eval e X.env) :: starEach es X.env) (hpl : (backTo pos (starEach es X.env)).any (·.1) = false) : PE X (.Call (.Name x p) (e :: es) [] pos) (LE c (eBi f m)) :=
  (pe_callTy hc hg hm hv ha hn hdb he hpl).w fun s H q h => ht.of h
theorem rps1 {M : Addr → Prop} {H : Hp} {t : PV} {vs : List V} (h : c.RPs M H [t] vs) : ∃ v, vs = [v] ∧ c.RP M H t v := by
  obtain ⟨v, vr, rfl, h1, rfl⟩ := h
  exact ⟨v, rfl, h1⟩
theorem rps2 {M : Addr → Prop} {H : Hp} {t u : PV} {vs : List V} (h : c.RPs M H [t, u] vs) : ∃ v w, vs = [v, w] ∧ c.RP M H t v ∧ c.RP M H u w := by
  obtain ⟨v, vr, rfl, h1, w, wr, rfl, h2, rfl⟩ := h
  exact ⟨v, w, rfl, h1, h2⟩
theorem bi_len (hk : X.K = c.C.K) : BiT c bLen (fun xs H Q => ∃ x n, xs = [x] ∧ LenV X.K x H n ∧ Q (.int n) H) := by
  intro M H xs z vs q rb bn e r k
  unfold bLen at e
  split at e <;> try (cases e; done)
  · cases e
    obtain ⟨v, rfl, r1⟩ := rps1 r
    obtain ⟨a, ws, rfl, s, r2⟩ := rp_tup r1
    refine ⟨_, _, rfl, .inr ⟨ws, hk ▸ s, r2.len⟩, k _ H .refl (fun _ _ z => z) (.flat rfl)⟩
  · cases e
    obtain ⟨v, rfl, r1⟩ := rps1 r
    obtain ⟨a, ws, rfl, s, _, r2⟩ := rp_lst r1
    refine ⟨_, _, rfl, .inl ⟨ws, .of s, r2.len⟩, k _ H .refl (fun _ _ z => z) (.flat rfl)⟩
theorem allBl_reps {C : RC} {B : Addr → Prop} {r : List Addr} {H : Hp} : ∀ {xs : List PV} {bs : List Bool} {vs : List V}, allBl xs = some bs → Reps C B r H xs vs → vs = bs.map V.bl
  | [], _, _, h, q => by
    simp only [allBl, Option.some.injEq] at h
    simp only [Reps] at q
    subst h q; rfl
  | x :: xs, bs, _, h, q => by
    simp only [Reps] at q
    obtain ⟨v, vr, rfl, h1, h2⟩ := q
    cases x <;> simp only [allBl, reduceCtorEq, Option.map_eq_some_iff] at h
    obtain ⟨cs, hc, rfl⟩ := h
    simp only [Rep] at h1
    rw [h1, allBl_reps hc h2]; rfl
theorem allInt_reps {C : RC} {B : Addr → Prop} {r : List Addr} {H : Hp} : ∀ {xs : List PV} {bs : List Int} {vs : List V}, allInt xs = some bs → Reps C B r H xs vs → vs = bs.map V.int
  | [], _, _, h, q => by
    simp only [allInt, Option.some.injEq] at h
    simp only [Reps] at q
    subst h q; rfl
  | x :: xs, bs, _, h, q => by
    simp only [Reps] at q
    obtain ⟨v, vr, rfl, h1, h2⟩ := q
    cases x <;> simp only [allInt, reduceCtorEq, Option.map_eq_some_iff] at h
    obtain ⟨cs, hc, rfl⟩ := h
    simp only [Rep] at h1
    rw [h1, allInt_reps hc h2]; rfl
theorem bi_all : BiT c bAll (rAll c.C.K) := by
  intro M H xs z vs q rb bn e r k
  unfold bAll at e
  split at e <;> try (cases e; done)
  · rw [Option.map_eq_some_iff] at e
    obtain ⟨bs, hb, rfl⟩ := e
    obtain ⟨v, rfl, r1⟩ := rps1 r
    obtain ⟨a, ws, rfl, s, _, r2⟩ := rp_lst r1
    exact ⟨a, bs, rfl, .of (by rw [s, allBl_reps hb r2]), k _ H .refl (fun _ _ z => z) (.flat rfl)⟩
theorem bi_any : BiT c bAny (rAny c.C.K) := by
  intro M H xs z vs q rb bn e r k
  unfold bAny at e
  split at e <;> try (cases e; done)
  · rw [Option.map_eq_some_iff] at e
    obtain ⟨bs, hb, rfl⟩ := e
    obtain ⟨v, rfl, r1⟩ := rps1 r
    obtain ⟨a, ws, rfl, s, _, r2⟩ := rp_lst r1
    exact ⟨a, bs, rfl, .of (by rw [s, allBl_reps hb r2]), k _ H .refl (fun _ _ z => z) (.flat rfl)⟩
theorem bi_sum : BiT c bSum (rSum c.C.K) := by
  intro M H xs z vs q rb bn e r k
  unfold bSum at e
  split at e <;> try (cases e; done)
  · rw [Option.map_eq_some_iff] at e
    obtain ⟨bs, hb, rfl⟩ := e
    obtain ⟨v, rfl, r1⟩ := rps1 r
    obtain ⟨a, ws, rfl, s, _, r2⟩ := rp_lst r1
    exact ⟨a, bs, rfl, .of (by rw [s, allInt_reps hb r2]), k _ H .refl (fun _ _ z => z) (.flat rfl)⟩
theorem leastI_spec : ∀ (l : List Int) (m : Int), (leastI m l = m ∨ leastI m l ∈ l) ∧ leastI m l ≤ m ∧ ∀ x ∈ l, leastI m l ≤ x
  | [], m => ⟨.inl rfl, Int.le_refl _, fun x h => absurd h (by simp)⟩
  | x :: r, m => by
    simp only [leastI]
    obtain ⟨h1, h2, h3⟩ := leastI_spec r (if x < m then x else m)
    by_cases hx : x < m
    · rw [if_pos hx] at h1 h2 h3 ⊢
      exact ⟨.inr (h1.elim (fun e => by rw [e]; simp) (fun e => by simp [e])), by omega, fun y hy => (List.mem_cons.mp hy).elim (fun e => by subst e; exact h2) (h3 y)⟩
    · rw [if_neg hx] at h1 h2 h3 ⊢
      exact ⟨h1.elim .inl (fun e => .inr (by simp [e])), h2, fun y hy => (List.mem_cons.mp hy).elim (fun e => by subst e; omega) (h3 y)⟩
theorem greatestI_spec : ∀ (l : List Int) (m : Int), (greatestI m l = m ∨ greatestI m l ∈ l) ∧ m ≤ greatestI m l ∧ ∀ x ∈ l, x ≤ greatestI m l
  | [], m => ⟨.inl rfl, Int.le_refl _, fun x h => absurd h (by simp)⟩
  | x :: r, m => by
    simp only [greatestI]
    obtain ⟨h1, h2, h3⟩ := greatestI_spec r (if m < x then x else m)
    by_cases hx : m < x
    · rw [if_pos hx] at h1 h2 h3 ⊢
      exact ⟨.inr (h1.elim (fun e => by rw [e]; simp) (fun e => by simp [e])), by omega, fun y hy => (List.mem_cons.mp hy).elim (fun e => by subst e; exact h2) (h3 y)⟩
    · rw [if_neg hx] at h1 h2 h3 ⊢
      exact ⟨h1.elim .inl (fun e => .inr (by simp [e])), h2, fun y hy => (List.mem_cons.mp hy).elim (fun e => by subst e; omega) (h3 y)⟩
theorem bi_min : BiT c bMin (rMin c.C.K) := by
  intro M H xs z vs q rb bn e r k
  unfold bMin at e
  split at e <;> try (cases e; done)
  · rw [Option.bind_eq_some_iff] at e
    obtain ⟨l0, hb, e⟩ := e
    cases l0 with
    | nil => exact nomatch e
    | cons n l =>
    cases e
    obtain ⟨v, rfl, r1⟩ := rps1 r
    obtain ⟨a, ws, rfl, s, _, r2⟩ := rp_lst r1
    refine ⟨a, n :: l, rfl, .of (by rw [s, allInt_reps hb r2]), Nat.succ_pos _, fun m hm hl => ?_⟩
    obtain ⟨h1, h2, h3⟩ := leastI_spec l n
    have h4 : leastI n l ∈ n :: l := h1.elim (fun e => by rw [e]; simp) (fun e => by simp [e])
    have h5 := hl _ h4
    have h6 : leastI n l ≤ m := (List.mem_cons.mp hm).elim (fun e => by subst e; exact h2) (h3 m)
    have : m = leastI n l := by omega
    subst this
    exact k _ H .refl (fun _ _ z => z) (.flat rfl)
theorem bi_max : BiT c bMax (rMax c.C.K) := by
  intro M H xs z vs q rb bn e r k
  unfold bMax at e
  split at e <;> try (cases e; done)
  · rw [Option.bind_eq_some_iff] at e
    obtain ⟨l0, hb, e⟩ := e
    cases l0 with
    | nil => exact nomatch e
    | cons n l =>
    cases e
    obtain ⟨v, rfl, r1⟩ := rps1 r
    obtain ⟨a, ws, rfl, s, _, r2⟩ := rp_lst r1
    refine ⟨a, n :: l, rfl, .of (by rw [s, allInt_reps hb r2]), Nat.succ_pos _, fun m hm hl => ?_⟩
    obtain ⟨h1, h2, h3⟩ := greatestI_spec l n
    have h4 : greatestI n l ∈ n :: l := h1.elim (fun e => by rw [e]; simp) (fun e => by simp [e])
    have h5 := hl _ h4
    have h6 : m ≤ greatestI n l := (List.mem_cons.mp hm).elim (fun e => by subst e; exact h2) (h3 m)
    have : m = greatestI n l := by omega
    subst this
    exact k _ H .refl (fun _ _ z => z) (.flat rfl)
theorem bi_min2 : BiT c bMin2 (fun xs H Q => ∃ i j, xs = [.int i, .int j] ∧ Q (.int (if j < i then j else i)) H) := by
  intro M H xs z vs q rb bn e r k
  unfold bMin2 at e
  split at e <;> try (cases e; done)
  cases e
  obtain ⟨v, w, rfl, r1, r2⟩ := rps2 r
  rw [rp_int r1, rp_int r2]
  exact ⟨_, _, rfl, k _ H .refl (fun _ _ z => z) (.flat rfl)⟩
theorem bi_max2 : BiT c bMax2 (fun xs H Q => ∃ i j, xs = [.int i, .int j] ∧ Q (.int (if j > i then j else i)) H) := by
  intro M H xs z vs q rb bn e r k
  unfold bMax2 at e
  split at e <;> try (cases e; done)
  cases e
  obtain ⟨v, w, rfl, r1, r2⟩ := rps2 r
  rw [rp_int r1, rp_int r2]
  exact ⟨_, _, rfl, k _ H .refl (fun _ _ z => z) (.flat rfl)⟩
theorem bi_int : BiT c bInt (fun xs H Q => (∃ i, xs = [.int i] ∧ Q (.int i) H) ∨ ∃ k, xs = [.bl k] ∧ Q (.int (if k then 1 else 0)) H) := by
  intro M H xs z vs q rb bn e r k
  unfold bInt at e
  split at e <;> try (cases e; done)
  · cases e
    obtain ⟨v, rfl, r1⟩ := rps1 r
    rw [rp_int r1]
    exact .inl ⟨_, rfl, k _ H .refl (fun _ _ z => z) (.flat rfl)⟩
  · cases e
    obtain ⟨v, rfl, r1⟩ := rps1 r
    rw [rp_bl r1]
    exact .inr ⟨_, rfl, k _ H .refl (fun _ _ z => z) (.flat rfl)⟩
theorem bi_abs : BiT c bAbs (fun xs H Q => ∃ i, xs = [.int i] ∧ Q (.int (if i < 0 then -i else i)) H) := by
  intro M H xs z vs q rb bn e r k
  unfold bAbs at e
  split at e <;> try (cases e; done)
  cases e
  obtain ⟨v, rfl, r1⟩ := rps1 r
  rw [rp_int r1]
  exact ⟨_, rfl, k _ H .refl (fun _ _ z => z) (.flat rfl)⟩
theorem bi_tuple : BiT c bTuple (fun xs H Q => ∃ p ys, xs = [.ref p] ∧ ((SqL c.C.K H p ys ∧ ∀ l, H l = none → Q (.ref l) (upd H l (.tup ys))) ∨ (SqT c.C.K H p ys ∧ Q (.ref p) H))) := by
  intro M H xs z vs q rb bn e r k
  unfold bTuple at e
  split at e <;> try (cases e; done)
  · cases e
    obtain ⟨v, rfl, r1⟩ := rps1 r
    obtain ⟨a, ws, rfl, s, r2⟩ := rp_tup r1
    exact ⟨a, ws, rfl, .inr ⟨s, k _ H .refl (fun _ _ z => z) r1⟩⟩
  · cases e
    obtain ⟨v, rfl, r1⟩ := rps1 r
    obtain ⟨a, ws, rfl, s, _, r2⟩ := rp_lst r1
    exact ⟨a, ws, rfl, .inl ⟨.of s, fun p n => k _ _ (Kp.upd_new n) (upd_keeps n) (R.tup_new rb n r2)⟩⟩
theorem bi_list : BiT c bList (fun xs H Q => ∃ p ys, xs = [.ref p] ∧ (SqL c.C.K H p ys ∨ SqT c.C.K H p ys) ∧ ∀ l, H l = none → Q (.ref l) (upd H l (.lst ys))) := by
  intro M H xs z vs q rb bn e r k
  unfold bList at e
  split at e <;> try (cases e; done)
  · cases e
    obtain ⟨v, rfl, r1⟩ := rps1 r
    obtain ⟨a, ws, rfl, s, r2⟩ := rp_tup r1
    exact ⟨a, ws, rfl, .inr s, fun p n => k _ _ (Kp.upd_new n) (upd_keeps n) (R.lst_new rb bn n r2)⟩
  · cases e
    obtain ⟨v, rfl, r1⟩ := rps1 r
    obtain ⟨a, ws, rfl, s, _, r2⟩ := rp_lst r1
    exact ⟨a, ws, rfl, .inl (.of s), fun p n => k _ _ (Kp.upd_new n) (upd_keeps n) (R.lst_new rb bn n r2)⟩

/-! ### isinstance -/
def Ty.nm : Ty → String
  | .int => "int" | .bool => "bool" | .str => "str" | .tuple => "tuple" | .list => "list" | .dict => "dict"
theorem tyX_of {M : Addr → Prop} {H : Hp} {t : PV} {v : V} {T : String} (e : t.tyName = some T) (r : c.RP M H t v) : TyX c.C.K H v (.type T) := by
  unfold PV.tyName at e
  split at e <;> try (cases e; done)
  all_goals (cases e)
  · simp only [Cn.RP, RepP, RepM, Rep] at r; subst r; exact .base .non
  · rw [rp_bl r]; exact .base (.bl _)
  · rw [rp_int r]; exact .base (.int _)
  · rw [rp_str r]; exact .base (.str _)
  · obtain ⟨a, vs, rfl, s, _⟩ := rp_tup r
    rcases s with (s | ⟨o, s⟩) | ⟨o, its, n, h1, h2, _⟩
    · exact .base (.tup s)
    · exact .fTuple s
    · exact .kTuple h1 h2
  · obtain ⟨a, vs, rfl, s, _⟩ := rp_lst r
    exact .base (.lst s)
theorem kit_pv (K : PySem.W.Frag) {t : PV} {T : String} (e : t.tyName = some T) (y : Ty) : PySem.W.kitOne K (.type T) (.type y.nm) = some (t.ofTy y) := by
  unfold PV.tyName at e
  split at e <;> try (cases e; done)
  all_goals (cases e; cases y <;> first | exact kit_ty (show kitB _ _ = some true from by decide +kernel) | exact kit_ty (show kitB _ _ = some false from by decide +kernel))
theorem kit_any (K : PySem.W.Frag) {t : PV} {T : String} (e : t.tyName = some T) : ∀ ys : List Ty, PySem.W.kitAny K (.type T) (ys.map fun y => .type y.nm) = some (ys.any t.ofTy)
  | [] => rfl
  | y :: ys => kitAny_cons (kit_pv K e y) (fun h => by rw [kit_any K e ys]; simp [h]) (fun h => by simp [h])
theorem isV_some {t : PV} {ts : List Ty} {k : Bool} (h : isV t ts = some k) : ∃ T, t.tyName = some T ∧ k = ts.any t.ofTy := by
  unfold isV at h
  cases e : t.tyName with
  | none => rw [e] at h; exact nomatch h
  | some T => rw [e] at h; exact ⟨T, rfl, (Option.some.inj h).symm⟩
/-- isinstance(a, T) -/
theorem ok_is1 {y : Ty} {yn : Str} {py : Pos} (hk : X.K = c.C.K) (hg : Gl X "isinstance") (hm : X.mg "isinstance" = none) (hgy : Gl X yn) (hmy : X.mg yn = none) (hy : bootBuiltins yn = some (.type y.nm)) (ha : PE X a (LP c ma))
    (hn : yn ≠ "__name__") (hd : (yn == ("__debug__" : Str)) = false) (hs1 : starEach [a, .Name yn py] X.env = (false, eval a X.env) :: starEach [.Name yn py] X.env) (hs2 : starEach [.Name yn py] X.env = [(false, eval (.Name yn py) X.env)])
    (hpl : (backTo pos (starEach [.Name yn py] X.env)).any (·.1) = false) : PE X (.Call (.Name "isinstance" p) [a, .Name yn py] [] pos) (LE c (eB (bIs ma [y]))) :=
  (pe_callB call_isi hg hm (by decide +kernel) (pa_cons ha (pa_cons (pe_bltn (v := .ty y.nm) hgy hmy hy rfl hn hd) pa_nil hs2) hs1) (by decide) (by decide) hs1 hpl).w fun s H q ⟨M, S, fr, rs, h⟩ => by
    simp only [eB, bIs, Re.bind_assoc] at h
    refine ⟨M, S, fr, rs, PoE.bind h fun x S1 v H1 k1 st1 r1 h1 => ?_⟩
    cases e : isV x [y] with
    | none => rw [e] at h1; exact h1.elim
    | some k =>
      rw [e] at h1
      obtain ⟨T, e1, e2⟩ := isV_some e
      refine ⟨v, .ty y.nm, .type T, .type y.nm, k, rfl, .ty _, hk ▸ tyX_of e1 r1, ?_, h1 _ H1 .refl st1 (.flat rfl)⟩
      rw [kit_pv _ e1 y, e2]; simp
/-- isinstance(a, (T, U)) -/
theorem ok_is2 {y z : Ty} {yn zn : Str} {py pz pt : Pos} {kt} (hk : X.K = c.C.K) (hg : Gl X "isinstance") (hm : X.mg "isinstance" = none) (hgy : Gl X yn) (hmy : X.mg yn = none) (hy : bootBuiltins yn = some (.type y.nm))
    (hgz : Gl X zn) (hmz : X.mg zn = none) (hz : bootBuiltins zn = some (.type z.nm)) (ha : PE X a (LP c ma))
    (hn : yn ≠ "__name__") (hd : (yn == ("__debug__" : Str)) = false) (hn' : zn ≠ "__name__") (hd' : (zn == ("__debug__" : Str)) = false)
    (ht1 : starEach [.Name yn py, .Name zn pz] X.env = (false, eval (.Name yn py) X.env) :: starEach [.Name zn pz] X.env) (ht2 : starEach [.Name zn pz] X.env = [(false, eval (.Name zn pz) X.env)])
    (hs1 : starEach [a, .Tuple [.Name yn py, .Name zn pz] kt pt] X.env = (false, eval a X.env) :: starEach [.Tuple [.Name yn py, .Name zn pz] kt pt] X.env)
    (hs2 : starEach [.Tuple [.Name yn py, .Name zn pz] kt pt] X.env = [(false, eval (.Tuple [.Name yn py, .Name zn pz] kt pt) X.env)])
    (hpl : (backTo pos (starEach [.Tuple [.Name yn py, .Name zn pz] kt pt] X.env)).any (·.1) = false) : PE X (.Call (.Name "isinstance" p) [a, .Tuple [.Name yn py, .Name zn pz] kt pt] [] pos) (LE c (eB (bIs ma [y, z]))) :=
  (pe_callB call_isiT hg hm (by decide +kernel) (pa_cons ha (pa_cons (pe_tup (pa_cons (pe_bltn (v := .ty y.nm) hgy hmy hy rfl hn hd) (pa_cons (pe_bltn (v := .ty z.nm) hgz hmz hz rfl hn' hd') pa_nil ht2) ht1)) pa_nil hs2) hs1) (by decide) (by decide) hs1 hpl).w fun s H q ⟨M, S, fr, rs, h⟩ => by
    simp only [eB, bIs, Re.bind_assoc] at h
    refine ⟨M, S, fr, rs, PoE.bind h fun x S1 v H1 k1 st1 r1 h1 => ?_⟩
    cases e : isV x [y, z] with
    | none => rw [e] at h1; exact h1.elim
    | some k =>
      rw [e] at h1
      obtain ⟨T, e1, e2⟩ := isV_some e
      refine ⟨by show 2 ≤ sizeLine; decide, fun t n => ?_⟩
      refine ⟨v, t, [.ty y.nm, .ty z.nm], .type T, [.type y.nm, .type z.nm], k, rfl, upd_same, .cons (.ty _) (.cons (.ty _) .nil), hk ▸ tyX_of e1 (r1.k (Kp.upd_new n) rs.rb), ?_, h1 _ _ (Kp.upd_new n) (st1.k (Kp.upd_new n) rs.rb (upd_keeps n)) (.flat rfl)⟩
      rw [e2]
      exact kit_any _ e1 [y, z]
end
end Q
/-! Qh: what is walked, targets, comprehensions. -/
namespace Q
open PySem PySem.Spec PyProof.Rows L2

/-! ### what stays while statements run -/
structure Kq (M : Addr → Prop) (H : Hp) (M1 : Addr → Prop) (H1 : Hp) : Prop where
  keep : ∀ a o, H a = some o → ¬ M a → (∀ ps, o ≠ .tbl ps) → H1 a = some o
  tups : ∀ a xs, H a = some (.tup xs) → H1 a = some (.tup xs)
  frzs : ∀ a o u, H a = some (.frz o u) → H1 a = some (.frz o u)
  tbls : ∀ a ps, H a = some (.tbl ps) → ∃ more, H1 a = some (.tbl (ps ++ more))
  mx : ∀ a, M1 a → M a ∨ H a = none
section
variable {M M1 M2 B B1 : Addr → Prop} {H H1 H2 : Hp} {r : List Addr} {c : Cn} {S S1 : Sto} {s s1 : L2.St} {fr fr1 : Fr}
theorem Kq.kb (k : Kq M H M1 H1) (hM : ∀ a, M a → B a) : Kb B H H1 := ⟨fun a o e n t => k.keep a o e (fun z => n (hM a z)) t, k.tups, k.frzs⟩
theorem Kq.refl : Kq M H M H := ⟨fun _ _ h _ _ => h, fun _ _ h => h, fun _ _ _ h => h, fun _ ps h => ⟨#[], by rw [h]; simp⟩, fun _ z => .inl z⟩
theorem Kp.kq (k : Kp r H H1) (hr : ∀ a ∈ r, M a) : Kq M H M H1 := ⟨fun a o e n t => k.keep a o e (fun z => n (hr a z)) t, k.tups, k.frzs, k.tbls, fun _ z => .inl z⟩
theorem Kq.there (k : Kq M H M1 H1) {a : Addr} (h : H a ≠ none) (n : ¬ M a) : H1 a ≠ none := by
  cases e : H a with
  | none => exact absurd e h
  | some o =>
    by_cases t : ∃ ps, o = .tbl ps
    · obtain ⟨ps, rfl⟩ := t
      obtain ⟨m, e'⟩ := k.tbls a ps e
      rw [e']; exact fun z => nomatch z
    · rw [k.keep a o e n (fun ps z => t ⟨ps, z⟩)]; exact fun z => nomatch z
theorem Kq.trans (a : Kq M H M1 H1) (b : Kq M1 H1 M2 H2) : Kq M H M2 H2 :=
  have n1 : ∀ c o, H c = some o → ¬ M c → ¬ M1 c := fun c o e n z => (a.mx c z).elim n fun z => by rw [e] at z; exact nomatch z
  ⟨fun c o e n t => b.keep c o (a.keep c o e n t) (n1 c o e n) t, fun c xs h => b.tups c xs (a.tups c xs h), fun c o u h => b.frzs c o u (a.frzs c o u h), fun c ps h => by
    obtain ⟨m1, e1⟩ := a.tbls c ps h
    obtain ⟨m2, e2⟩ := b.tbls c _ e1
    exact ⟨m1 ++ m2, by rw [e2, Array.append_assoc]⟩, fun c z => by
      rcases b.mx c z with z | z
      · exact a.mx c z
      · by_cases m : M c
        · exact .inl m
        · refine .inr ?_
          cases e : H c with
          | none => rfl
          | some o => exact absurd z (a.there (by rw [e]; exact fun z => nomatch z) m)⟩
/-- what is known of a value, later -/
theorem Rep.kq {t : PV} {v : V} (h : c.R M H t v) (k : Kq M H M1 H1) : c.R M1 H1 t v :=
  Rep.kb (k.kb fun _ z => .inr z) (fun a z => by
    rcases z with z | z
    · exact .inl (.inl z)
    · exact (k.mx a z).imp .inr id) h
theorem Reps.kq {t : List PV} {v : List V} (h : c.Rs M H t v) (k : Kq M H M1 H1) : c.Rs M1 H1 t v :=
  Reps.kb (k.kb fun _ z => .inr z) (fun a z => by
    rcases z with z | z
    · exact .inl (.inl z)
    · exact (k.mx a z).imp .inr id) h

/-! ### targets -/
/-- slots alike but for some -/
def Alike (is : List Nat) (s s1 : L2.St) : Prop := s1.length = s.length ∧ ∀ j, j ∉ is → s1[j]? = s[j]?
def TgOk (c : Cn) (is : List Nat) (g : TG) (tg : TgS) : Prop :=
  ∀ (M : Addr → Prop) (S : Sto) (H : Hp) (s : L2.St) (fr : Fr) (x : PV) (v : V) (fr1 : Fr) (q : L2.St → Hp → Prop), c.RS M S H s fr → c.R M H x v → tg x fr = some fr1 →
    (∀ s1, c.RS M S H s1 fr1 → Alike is s s1 → q s1 H) → g v s H q
theorem RS.set {t : PV} {v : V} (rs : c.RS M S H s fr) (i : Nat) (r : c.R M H t v) : c.RS M S H (s.set i (some v)) (fr.set i (.va t)) :=
  ⟨rs.kp, rs.ut, rs.mt, rs.mn, rs.ru, rs.rm, rs.st, by rw [List.length_set, List.length_set]; exact rs.len, fun j a e o e' => by
    by_cases ij : i = j
    · subst ij
      obtain ⟨l1, e1⟩ := List.getElem?_eq_some_iff.mp e
      obtain ⟨l2, e2⟩ := List.getElem?_eq_some_iff.mp e'
      rw [List.getElem_set_self] at e1 e2
      subst e1 e2
      exact r
    · rw [List.getElem?_set_ne ij] at e e'
      exact rs.sl j a e o e', fun j k t' u p e1 e2 e3 e4 => by
    have nj : i ≠ j := fun z => by
      subst z
      obtain ⟨_, z⟩ := List.getElem?_eq_some_iff.mp e1
      rw [List.getElem_set_self] at z
      exact nomatch z
    have nk : i ≠ k := fun z => by
      subst z
      obtain ⟨_, z⟩ := List.getElem?_eq_some_iff.mp e2
      rw [List.getElem_set_self] at z
      exact nomatch z
    rw [List.getElem?_set_ne nj] at e1 e3
    rw [List.getElem?_set_ne nk] at e2 e4
    exact rs.inj j k t' u p e1 e2 e3 e4⟩
theorem Alike.refl {is : List Nat} : Alike is s s := ⟨rfl, fun _ _ => rfl⟩
theorem Alike.set {is : List Nat} {i : Nat} {o : Option V} (h : i ∈ is) (a : Alike is s s1) : Alike is s (s1.set i o) := ⟨by rw [List.length_set]; exact a.1, fun j n => by
  rw [List.getElem?_set_ne (fun z => n (by rw [← z]; exact h))]; exact a.2 j n⟩
theorem tg_name {i : Nat} : TgOk c [i] (gName i) (tN i) := fun M S H s fr x v fr1 q rs r e k => by
  cases e
  exact k _ (rs.set i r) (Alike.refl.set (by simp))
/-- names one by one -/
def gNames : List Nat → TGs
  | [] => gNil
  | i :: is => gCons (gName i) (gNames is)
theorem setAll_ok (q : L2.St → Hp → Prop) (js : List Nat) : ∀ (is : List Nat) (xs : List PV) (vs : List V) (s s0 : L2.St) (fr fr1 : Fr), (∀ i ∈ is, i ∈ js) → c.RS M S H s fr → c.Rs M H xs vs → setAll is xs fr = some fr1 → Alike js s0 s → (∀ s1, c.RS M S H s1 fr1 → Alike js s0 s1 → q s1 H) → gNames is vs s H q
  | [], [], vs, s, s0, fr, fr1, hj, rs, r, e, al, k => by
    simp only [Reps] at r
    cases e
    exact ⟨r, k s rs al⟩
  | [], x :: xs, vs, s, s0, fr, fr1, hj, rs, r, e, al, k => nomatch e
  | i :: is, [], vs, s, s0, fr, fr1, hj, rs, r, e, al, k => nomatch e
  | i :: is, x :: xs, vs, s, s0, fr, fr1, hj, rs, r, e, al, k => by
    simp only [Reps] at r
    obtain ⟨v, vr, rfl, r1, r2⟩ := r
    exact ⟨v, vr, rfl, setAll_ok q js is xs vr _ s0 _ fr1 (fun i z => hj i (by simp [z])) (rs.set i r1) r2 e (al.set (hj i (by simp))) k⟩
theorem setAll_len : ∀ {is : List Nat} {xs : List PV} {fr fr1 : Fr}, setAll is xs fr = some fr1 → xs.length = is.length
  | [], [], _, _, _ => rfl
  | [], x :: xs, _, _, e => nomatch e
  | i :: is, [], _, _, e => nomatch e
  | i :: is, x :: xs, fr, fr1, e => by
    have h : setAll is xs (fr.set i (.va x)) = some fr1 := e
    simp only [List.length_cons, setAll_len h]
theorem tg_tup {is : List Nat} {n : Nat} (hn : is.length = n) : TgOk c is (gTup c.C.K n (gNames is)) (tT is) := fun M S H s fr x v fr1 q rs r e k => by
  cases x with
  | tup xs =>
    obtain ⟨a, vs, rfl, sq, r1⟩ := rp_tup (Rep.p rs.rb r)
    have e : setAll is xs fr = some fr1 := e
    exact ⟨a, vs, rfl, sq, by rw [← r1.len, setAll_len e, hn], setAll_ok q is is xs vs s s fr fr1 (fun _ z => z) rs r1 e .refl k⟩
  | _ => exact nomatch e

/-! ### walks -/
structure WalkR (c : Cn) (M : Addr → Prop) (H : Hp) (xs : List PV) (J : It) : Prop where
  sz : xs.length ≤ sizeLine
  run : ∃ G Y, Walk J xs.length G Y ∧ ∀ M1 H1, Kq M H M1 H1 → (∀ a ∈ c.r, c.B M1 a) → G H1 ∧ ∀ i x H2, i < xs.length → Y i H1 x H2 → (∀ b o, H1 b = some o → H2 b = some o) ∧ ∃ t, xs[i]? = some t ∧ c.R M1 H2 t x
theorem walkR_list {K : PySem.W.Frag} {a : Addr} {xs : List PV} {vs : List V} (e : H a = some (.lst vs)) (n : ¬ M a) (r : c.Rs M H xs vs) (hz : vs.length ≤ sizeLine) : WalkR c M H xs (Itl K a) :=
  ⟨by rw [r.len]; exact hz, _, _, by rw [r.len]; exact walk_list (K := K) (a := a) (xs := vs), fun M1 H1 k rb => ⟨SqL.of (K := K) (k.keep _ _ e n (fun _ z => nomatch z)), fun i x H2 hi y => by
    obtain ⟨rfl, ex⟩ := y
    obtain ⟨t, e1, r1⟩ := (r.kq k).get' ex
    exact ⟨fun _ _ z => z, t, e1, r1⟩⟩⟩
theorem walkR_tup {a : Addr} {xs : List PV} {vs : List V} (e : SqT c.C.K H a vs) (r : c.Rs M H xs vs) (hz : vs.length ≤ sizeLine) : WalkR c M H xs (Itt c.C.K a) :=
  ⟨by rw [r.len]; exact hz, _, _, by rw [r.len]; exact walk_tup (K := c.C.K) (a := a) (xs := vs), fun M1 H1 k rb => ⟨SqT.kb e (k.kb (B := M) fun _ z => z), fun i x H2 hi y => by
    obtain ⟨rfl, ex⟩ := y
    obtain ⟨t, e1, r1⟩ := (r.kq k).get' ex
    exact ⟨fun _ _ z => z, t, e1, r1⟩⟩⟩
theorem rangeV_len {lo : Int} {n : Nat} : (rangeV lo n).length = n := by unfold rangeV; rw [List.length_map, List.length_range]
theorem rangeV_get {lo : Int} {n i : Nat} (h : i < n) : (rangeV lo n)[i]? = some (.int (lo + i)) := by
  unfold rangeV
  rw [List.getElem?_map, List.getElem?_range h]; rfl
theorem walkR_range {lo : Int} {n : Nat} (hz : n ≤ 16777216) : WalkR c M H (rangeV lo n) (Itr lo n) :=
  ⟨by rw [rangeV_len, sizeLine_eq]; exact hz, _, _, by rw [rangeV_len]; exact walk_range (lo := lo) (n := n), fun M1 H1 k rb => ⟨True.intro, fun i x H2 hi y => by
    obtain ⟨rfl, rfl⟩ := y
    rw [rangeV_len] at hi
    exact ⟨fun _ _ z => z, _, rangeV_get hi, .flat rfl⟩⟩⟩
end
def LI (c : Cn) (m : SI) : TI := fun s H R => ∃ M S fr, c.RS M S H s fr ∧ PoE c M H (m fr S) (fun H' xs J => WalkR c M H' xs J) R
section
variable {X : Cx} {c : Cn} {e a b d l tg : Expr} {es rest : List Expr} {ma mb md : SE} {ba bb : SB} {m : SA} {pos p : Pos} {x : Str}
def iSq (K : PySem.W.Frag) (t : TE) : TI := fun s H R => t s H fun x H1 => ∃ a, x = .ref a ∧ ((∃ xs, SqL K H1 a xs ∧ (xs.length ≤ sizeLine → R (Itl K a) H1)) ∨ ∃ xs, SqT K H1 a xs ∧ (xs.length ≤ sizeLine → R (Itt K a) H1))
/-- a list or a tuple, whichever it is -/
theorem pi_sq {t : TE} (hl : PE X l t) : PI X tg l (iSq X.K t) := ⟨fun pins s σ H R I h => by
  refine thn (hl.run pins s σ H _ I h) fun v s1 ⟨x, H1, J, r1, a, ex, q⟩ => ?_
  subst ex
  cases r1
  have new : ∀ (ob : Obj) (b u : _), s1.heap.get? b = some u → (s1.heap.push ob).get? b = some u := fun ob b u z => Heap.get?_push_of_some _ z
  have fp : ∀ b ∈ [s1.heap.objs.size], FpOk X pins H1 b := fun b hb => by
    rw [List.mem_singleton.mp hb]
    exact J.fpOk (Nat.le_refl _) (J.hok.fresh (Nat.le_refl _))
  rcases q with ⟨xs, hq, q⟩ | ⟨xs, hq, q⟩
  · obtain ⟨its, rv, pl, hz⟩ := J.list hq
    exact wpAny_pyIter_list pl.isList ⟨_, _, _, _, H1, rfl, J.kept (t' := s1.toks) (new _), turn_list a _, ⟨_, Heap.get?_push_size _ rfl, rfl, rfl⟩, fp, q hz⟩
  · obtain ⟨its, rv, pl, hz⟩ := J.tuple hq
    exact wpAny_pyIter_tuple (show s1.heap.IsTuple a its.toArray from pl) ⟨_, _, _, _, H1, rfl, J.kept (t' := s1.toks) (new _), turn_tuple a _, ⟨_, Heap.get?_push_size _ rfl, rfl, rfl⟩, fp, q hz⟩⟩
theorem items_some {x : PV} {xs : List PV} (h : x.items = some xs) : x = .tup xs ∨ x = .lst xs := by
  cases x <;> first | (cases h; done) | (cases h; exact .inl rfl) | (cases h; exact .inr rfl)
/-- over a plain value -/
theorem ok_iSeq (hk : X.K = c.C.K) (h : PE X l (LE c ma)) : PI X tg l (LI c (iSeq ma)) := (pi_sq h).w fun s H R ⟨M, S, fr, rs, h⟩ => ⟨M, S, fr, rs, PoE.bind h fun x S1 v H1 k1 st1 r1 h1 => by
  obtain ⟨xs, e, h2⟩ := h1.of
  rcases items_some e with rfl | rfl
  · obtain ⟨a, vs, rfl, sq, r2⟩ := rp_tup (Rep.p rs.rb r1)
    exact ⟨a, rfl, .inr ⟨vs, hk ▸ sq, fun hz => hk ▸ h2 _ H1 .refl st1 (walkR_tup sq r2 hz)⟩⟩
  · have r1 : c.R M H1 (.lst xs) v := r1
    simp only [Cn.R, Rep] at r1
    obtain ⟨a, vs, rfl, sq, r2⟩ := r1
    exact ⟨a, rfl, .inl ⟨vs, .of sq.1, fun hz => h2 _ H1 .refl st1 (walkR_list sq.1 (fun z => sq.2 (.inr z)) r2 hz)⟩⟩⟩
theorem ok_iRng1 (hg : Gl X "range") (hm : X.mg "range" = none) (ha : PE X a (LP c ma)) (hs : starEach [a] X.env = [(false, eval a X.env)]) : PI X tg (.Call (.Name "range" p) [a] [] pos) (LI c (iRng1 ma)) :=
  (pi_range1 hg hm (pa_cons ha pa_nil hs) hs).w fun s H R ⟨M, S, fr, rs, h⟩ => ⟨M, S, fr, rs, PoE.bind h fun x S1 v H1 k1 st1 r1 h1 => by
    obtain ⟨xs, e, h2⟩ := h1.of
    unfold rng1 at e
    split at e
    · obtain ⟨z, rfl⟩ := if_some e
      simp only [Bool.and_eq_true, decide_eq_true_eq] at z
      exact ⟨_, by rw [rp_int r1], z.2, by omega, h2 _ H1 .refl st1 (walkR_range (by omega))⟩
    · exact nomatch e⟩
theorem ok_iRng2 (hg : Gl X "range") (hm : X.mg "range" = none) (ha : PE X a (LP c ma)) (hb : PE X b (LP c mb)) (hs : starEach [a, b] X.env = [(false, eval a X.env), (false, eval b X.env)]) (hs2 : starEach [b] X.env = [(false, eval b X.env)]) : PI X tg (.Call (.Name "range" p) [a, b] [] pos) (LI c (iRng2 ma mb)) :=
  (pi_range2 hg hm (pa_cons ha (pa_cons hb pa_nil hs2) (by rw [hs, hs2])) hs hs2).w fun s H R ⟨M, S, fr, rs, h⟩ => ⟨M, S, fr, rs, PoE.bind h fun x S1 v H1 k1 st1 r1 h1 => ⟨M, S1, fr, rs.step k1 st1, PoE.bind h1 fun y S2 w H2 k2 st2 r2 h2 => by
    obtain ⟨xs, e, h3⟩ := h2.of
    unfold rng2 at e
    split at e
    · obtain ⟨z, rfl⟩ := if_some e
      simp only [Bool.and_eq_true, decide_eq_true_eq] at z
      exact ⟨_, _, by rw [rp_int r1, rp_int r2], ⟨z.1.1.1.1, z.1.1.1.2, z.1.1.2, z.1.2⟩, h3 _ H2 .refl st2 (walkR_range (by omega))⟩
    · exact nomatch e⟩⟩
end
end Q
/-! Qi: zip and enumerate over lists and tuples in any mix. -/
namespace Q
open PySem PySem.Spec PyProof.Rows L2

inductive Kd | l | t
def SqK (k : Kd) (K : PySem.W.Frag) (H : Hp) (a : Addr) (xs : List V) : Prop := match k with
  | .l => SqL K H a xs
  | .t => SqT K H a xs
def IterK (k : Kd) (h : Heap) (it a : Addr) (i : Nat) : Prop := match k with
  | .l => h.IsListIter it a i
  | .t => h.IsTupleIter it a i
def PlK (k : Kd) (h : Heap) (a : Addr) (its : Array Value) : Prop := match k with
  | .l => h.IsList a its
  | .t => h.IsTuple a its
def objK (k : Kd) (a : Addr) : Obj := match k with
  | .l => { cls := .type "list_iterator", data := .fields #[.ref a, .int 0 0] }
  | .t => { cls := .type "tuple_iterator", data := .fields #[.ref a, .int 0 0] }
section
variable {X : Cx} {pins : List (Addr × Obj)} {s : L2.St} {H : Hp} {S : Shared} {k : Kd} {a it : Addr} {xs ys : List V}
theorem seqK (I : Inv X pins s H S) (h : SqK k X.K H a xs) : ∃ its : List Value, Vals xs its ∧ PlK k S.heap a its.toArray ∧ xs.length ≤ sizeLine := by
  cases k with
  | l => obtain ⟨its, r, p, z⟩ := I.list h; exact ⟨its, r, p.isList, z⟩
  | t => obtain ⟨its, r, p, z⟩ := I.tuple h; exact ⟨its, r, p, z⟩
theorem seqK_inj (I : Inv X pins s H S) (h : SqK k X.K H a xs) (h' : SqK k X.K H a ys) : xs = ys := by
  cases k with
  | l => exact I.list_inj h h'
  | t => exact I.tuple_inj h h'
theorem drawsK {prog : Program} {w : World} {A : Around} (hh : A.handled = none) (hne : a ≠ it) (its : Array Value) :
    Draws prog w A it [it, a] its.size (fun i v => its[i]? = some v) (fun i h => IterK k h it a i ∧ PlK k h a its) := by
  cases k with
  | l => exact Draws.list hh it a hne its
  | t => exact Draws.tuple hh it a hne its
theorem begK (its : Array Value) : Begins (.ref a) (objK k a) (fun h => PlK k h a its) := by
  cases k with
  | l => exact begins_list a its
  | t => exact begins_tuple a its
theorem iterK_0 {h : Heap} (e : h.get? it = some (objK k a)) : IterK k h it a 0 := by
  cases k with
  | l => exact ⟨_, e, rfl, rfl⟩
  | t => exact ⟨_, e, rfl, rfl⟩
theorem iterK_at {h h' : Heap} {i : Nat} (st : IterK k h it a i) (f : ∀ o, h.get? it = some o → h'.get? it = some o) : IterK k h' it a i := by
  cases k with
  | l => exact (show h.IsListIter it a i from st).at f
  | t => exact (show h.IsTupleIter it a i from st).at f
theorem iterK_obj {h : Heap} {i : Nat} (st : IterK k h it a i) : ∃ o, h.get? it = some o ∧ ∀ v, o.data ≠ .cell v := by
  cases k with
  | l => obtain ⟨o, e, _, d⟩ := (show h.IsListIter it a i from st); exact ⟨o, e, fun v z => by rw [d] at z; cases z⟩
  | t => obtain ⟨o, e, _, d⟩ := (show h.IsTupleIter it a i from st); exact ⟨o, e, fun v z => by rw [d] at z; cases z⟩
theorem plK_lt {h : Heap} {its : Array Value} (p : PlK k h a its) : a < h.objs.size := by
  cases k with
  | l => obtain ⟨o, e, _⟩ := (show h.IsList a its from p); exact Heap.lt_size e
  | t => obtain ⟨o, e, _⟩ := (show h.IsTuple a its from p); exact Heap.lt_size e
end

/-! ### zip -/
def Jz (j k : Kd) (K : PySem.W.Frag) (a b : Addr) : It where
  go := fun i H => ∃ xs ys : List V, SqK j K H a xs ∧ SqK k K H b ys ∧ i < min xs.length ys.length
  yld := fun i H v H' => ∃ T x y, v = .ref T ∧ H T = none ∧ H' = upd H T (.tup [x, y]) ∧ (∀ xs, SqK j K H a xs → xs[i]? = some x) ∧ ∀ ys, SqK k K H b ys → ys[i]? = some y
  stop := fun i H => ∃ xs ys : List V, SqK j K H a xs ∧ SqK k K H b ys ∧ i = min xs.length ys.length
theorem turn_zm {P : Program} {w : World} {K : PySem.W.Frag} {elts : List Expr} {kk : Nat} {tpos : Pos} {j k : Kd} {a b z TI TO i1 i2 : Addr} (D : ZipSep2 z TI TO i1 i2 [i1, a] [i2, b]) (n1 : a ≠ i1) (n2 : b ≠ i2) :
    Turn P w K (.Tuple elts kk tpos) (Jz j k K a b) [z, TI, TO, i1, i2] z (fun i h => IsZip h z TI TO .none ∧ IsTupOf2 h TI (.ref i1) (.ref i2) ∧ (∃ a1 a2, IsTupOf2 h TO a1 a2) ∧ IterK j h i1 a i ∧ IterK k h i2 b i) where
  mem := by simp
  obj := fun i h st c hc => by
    obtain ⟨hz, hTI, ⟨a1, a2, hTO⟩, q1, q2⟩ := st
    simp only [List.mem_cons, List.not_mem_nil, or_false] at hc
    rcases hc with rfl | rfl | rfl | rfl | rfl
    · exact ⟨_, hz, fun v q => nomatch q⟩
    · exact ⟨_, hTI, fun v q => nomatch q⟩
    · exact ⟨_, hTO, fun v q => nomatch q⟩
    · exact iterK_obj q1
    · exact iterK_obj q2
  keep := fun i h h' ⟨hz, hTI, ⟨a1, a2, hTO⟩, q1, q2⟩ f => ⟨f z (by simp) _ hz, f TI (by simp) _ hTI, ⟨a1, a2, f TO (by simp) _ hTO⟩, iterK_at q1 (f i1 (by simp)), iterK_at q2 (f i2 (by simp))⟩
  item := by
    intro X hP hw hK hc i pins s σ H E I hf st hg
    subst hP hw hK
    obtain ⟨hz, hTI, hTO, q1, q2⟩ := st
    obtain ⟨xs, ys, hx, hy, hi⟩ := hg
    obtain ⟨us, rx, px, zx⟩ := seqK I hx
    obtain ⟨ws, ry, py, _⟩ := seqK I hy
    have hh : X.A.in1.handled = none := I.ok.hd hc
    have W := GoesN.zip2 (prog := X.prog) (w := X.w) (A := X.A) (elts := elts) (x1 := kk) (pos := tpos) D (drawsK (k := j) hh n1 us.toArray) (drawsK (k := k) hh n2 ws.toArray)
    refine W.goes i s _ E (by rw [List.size_toArray, List.size_toArray, ← rx.length, ← ry.length]; exact hi) ⟨hz, hTI, hTO, ⟨q1, px⟩, ⟨q2, py⟩⟩ fun v h' tk hY st' hk _ => ?_
    obtain ⟨T, u, t, rfl, hT, eu, et, hI⟩ := hY
    obtain ⟨hz', hTI', hTO', ⟨q1', _⟩, ⟨q2', _⟩⟩ := st'
    have hi' : i < xs.length ∧ i < ys.length := by omega
    have ex : xs[i]? = some xs[i] := List.getElem?_eq_getElem hi'.1
    have ey : ys[i]? = some ys[i] := List.getElem?_eq_getElem hi'.2
    obtain ⟨u', eu', ru⟩ := rx.get ex
    obtain ⟨t', et', rt⟩ := ry.get ey
    have zu : u' = u := by simpa [eu'] using eu
    have zt : t' = t := by simpa [et'] using et
    subst zu zt
    have nT : H T = none := I.hok.fresh hT
    have old : ∀ c ∈ [z, TI, TO, i1, i2], c < s.heap.objs.size := fun c hc => by
      obtain ⟨_, _⟩ := hTO
      simp only [List.mem_cons, List.not_mem_nil, or_false] at hc
      rcases hc with rfl | rfl | rfl | rfl | rfl
      · exact Heap.lt_size hz
      · exact Heap.lt_size hTI
      · rename_i q; obtain ⟨_, q⟩ := q; exact Heap.lt_size q
      · obtain ⟨_, q, _⟩ := iterK_obj q1; exact Heap.lt_size q
      · obtain ⟨_, q, _⟩ := iterK_obj q2; exact Heap.lt_size q
    have I1 : Inv X pins σ (upd H T (.tup [xs[i], ys[i]])) { s with heap := h', toks := tk } :=
      I.turnedNew (ch := [z, TO, i1, i2]) hk (fun c hc => hf c (by simp only [List.mem_cons, List.not_mem_nil, or_false] at hc ⊢; rcases hc with h | h | h | h <;> simp [h])) hT ⟨by show 2 ≤ sizeLine; decide, [u', t'], .cons ru (.cons rt .nil), hI⟩
    refine ⟨.ref T, _, I1, rfl, ⟨T, _, _, rfl, nT, rfl, fun zs hz => by rw [seqK_inj I hz hx]; exact ex, fun zs hz => by rw [seqK_inj I hz hy]; exact ey⟩, ⟨hz', hTI', hTO', q1', q2'⟩, fun c hc => ?_⟩
    rw [upd_ne (Nat.ne_of_lt (Nat.lt_of_lt_of_le (old c hc) hT))]
    exact (hf c hc).1
  done := by
    intro X hP hw hK hc i pins s σ H E I hf st hg
    subst hP hw hK
    obtain ⟨hz, hTI, hTO, q1, q2⟩ := st
    obtain ⟨xs, ys, hx, hy, hi⟩ := hg
    obtain ⟨us, rx, px, zx⟩ := seqK I hx
    obtain ⟨ws, ry, py, _⟩ := seqK I hy
    have hh : X.A.in1.handled = none := I.ok.hd hc
    have W := GoesN.zip2 (prog := X.prog) (w := X.w) (A := X.A) (elts := elts) (x1 := kk) (pos := tpos) D (drawsK (k := j) hh n1 us.toArray) (drawsK (k := k) hh n2 ws.toArray)
    have en : min us.toArray.size ws.toArray.size = i := by rw [List.size_toArray, List.size_toArray, ← rx.length, ← ry.length]; exact hi.symm
    refine W.stops s _ E (by rw [en]; exact ⟨hz, hTI, hTO, ⟨q1, px⟩, ⟨q2, py⟩⟩) fun h' tk hk _ => ?_
    exact I.turnedL (ch := [z, TO, i1, i2]) hk fun c hc => hf c (by simp only [List.mem_cons, List.not_mem_nil, or_false] at hc ⊢; rcases hc with h | h | h | h <;> simp [h])
  self := fun A i s Q E st h => wpAny_pyIter_zip st.1 h
def iZm (K : PySem.W.Frag) (ta tb : TE) : TI := fun s H R => ta s H fun x H1 => tb s H1 fun y H2 => ∃ a b j k xs ys, [x, y] = [V.ref a, V.ref b] ∧ SqK j K H2 a xs ∧ SqK k K H2 b ys ∧ (xs.length ≤ sizeLine → R (Jz j k K a b) H2)
theorem pi_zm {X : Cx} {e f : Expr} {ta tb : TE} {p pos tpos : Pos} {elts : List Expr} {kk : Nat} (hg : Gl X "zip") (hm : X.mg "zip" = none) (ha : PE X e ta) (hb : PE X f tb)
    (hs : starEach [e, f] X.env = (false, eval e X.env) :: starEach [f] X.env) (hs2 : starEach [f] X.env = (false, eval f X.env) :: starEach [] X.env) (hpl : (backTo pos (starEach [f] X.env)).any (·.1) = false) :
    PI X (.Tuple elts kk tpos) (.Call (.Name "zip" p) [e, f] [] pos) (iZm X.K ta tb) := ⟨fun pins s σ H R I h => by
  refine Call_ (ld_blt I hg hm boot_zip (callWith_type1 (thn ((pa_cons ha (pa_cons hb pa_nil hs2) hs).run pos pins s σ H (fun vs H2 => ∃ a b j k xs ys, vs = [V.ref a, V.ref b] ∧ SqK j X.K H2 a xs ∧ SqK k X.K H2 b ys ∧ (xs.length ≤ sizeLine → R (Jz j k X.K a b) H2)) I h) fun us s1 ⟨vs, H1, J, r1, a, b, j, k, xs, ys, ev, hx, hy, q⟩ => ?_) hs hpl))
  subst ev
  cases r1 with
  | cons r rr =>
    cases rr with
    | cons r' rr =>
      cases rr
      cases r
      cases r'
      obtain ⟨us, rx, px, zx⟩ := seqK J hx
      obtain ⟨ws, ry, py, _⟩ := seqK J hy
      have la := plK_lt px
      have lb := plK_lt py
      refine zip_begins2 (begK (k := j) us.toArray) (begK (k := k) ws.toArray) px py fun h' hz hTI hTO h1 h2 hsz hk => wpAny_pyIter_zip hz ?_
      have I2 : Inv X pins σ H1 { s1 with heap := h' } := J.kept (t' := s1.toks) hk
      have sep := zip_sep2 (N := s1.heap.objs.size) (fp1 := [a]) (fp2 := [b]) (fun c hc => by rw [List.mem_singleton.mp hc]; exact la) (fun c hc => by rw [List.mem_singleton.mp hc]; exact lb)
      refine ⟨s1.heap.objs.size + 4, _, _, _, H1, rfl, I2, turn_zm sep (Nat.ne_of_lt la) (Nat.ne_of_lt (Nat.lt_succ_of_lt lb)), ⟨hz, hTI, ⟨_, _, hTO⟩, iterK_0 h1, iterK_0 h2⟩, fun c hc => ?_, q zx⟩
      have hle : s1.heap.objs.size ≤ c := by
        simp only [List.mem_cons, List.not_mem_nil, or_false] at hc
        rcases hc with z | z | z | z | z <;> rw [z] <;> first | exact Nat.le_refl _ | exact Nat.le_add_right _ _
      exact J.fpOk hle (J.hok.fresh hle)⟩
/-! ### enumerate -/
def Je (k : Kd) (K : PySem.W.Frag) (a : Addr) : It where
  go := fun i H => ∃ xs : List V, SqK k K H a xs ∧ i < xs.length
  yld := fun i H v H' => ∃ T x, v = .ref T ∧ H T = none ∧ H' = upd H T (.tup [.int (i : Nat), x]) ∧ ∀ xs, SqK k K H a xs → xs[i]? = some x
  stop := fun i H => ∃ xs : List V, SqK k K H a xs ∧ i = xs.length
theorem turn_em {P : Program} {w : World} {K : PySem.W.Frag} {elts : List Expr} {kk : Nat} {tpos : Pos} {k : Kd} {a e it : Addr} (n1 : a ≠ it) (n2 : e ≠ it) (n3 : e ≠ a) :
    Turn P w K (.Tuple elts kk tpos) (Je k K a) [e, it] e (fun i h => (∃ old, IsEnum h e it (0 + (i : Int)) old) ∧ IterK k h it a i) where
  mem := by simp
  obj := fun i h ⟨⟨old, he⟩, q⟩ c hc => by
    simp only [List.mem_cons, List.not_mem_nil, or_false] at hc
    rcases hc with rfl | rfl
    · exact ⟨_, he, fun v q => nomatch q⟩
    · exact iterK_obj q
  keep := fun i h h' ⟨⟨old, he⟩, q⟩ f => ⟨⟨old, f e (by simp) _ he⟩, iterK_at q (f it (by simp))⟩
  item := by
    intro X hP hw hK hc i pins s σ H E I hf st hg
    subst hP hw hK
    obtain ⟨⟨old, he⟩, q⟩ := st
    obtain ⟨xs, hx, hi⟩ := hg
    obtain ⟨us, rx, px, zx⟩ := seqK I hx
    have hh : X.A.in1.handled = none := I.ok.hd hc
    have W := GoesN.enumFrom (prog := X.prog) (w := X.w) (A := X.A) (elts := elts) (x1 := kk) (pos := tpos) 0 (drawsK (k := k) hh n1 us.toArray) e n2 (by simp [n2, n3]) (by simp)
    refine W.goes i s _ E (by rw [List.size_toArray, ← rx.length]; exact hi) ⟨⟨old, he⟩, q, px⟩ fun v h' tk hY st' hk _ => ?_
    obtain ⟨T, t, u, rfl, hT, eu, hI⟩ := hY
    obtain ⟨⟨old', he'⟩, q', _⟩ := st'
    have ex : xs[i]? = some xs[i] := List.getElem?_eq_getElem hi
    obtain ⟨u', eu', ru⟩ := rx.get ex
    have zu : u' = u := by simpa [eu'] using eu
    subst zu
    have nT : H T = none := I.hok.fresh hT
    have I1 : Inv X pins σ (upd H T (.tup [.int (i : Nat), xs[i]])) { s with heap := h', toks := tk } :=
      I.turnedNew (ch := [e, it]) hk hf hT ⟨by show 2 ≤ sizeLine; decide, [.int (0 + (i : Int)) t, u'], .cons ⟨t, by rw [Int.zero_add]⟩ (.cons ru .nil), hI⟩
    refine ⟨.ref T, _, I1, rfl, ⟨T, _, rfl, nT, rfl, fun zs hz => by rw [seqK_inj I hz hx]; exact ex⟩, ⟨⟨old', he'⟩, q'⟩, fun c hc => ?_⟩
    have old : c < s.heap.objs.size := by
      simp only [List.mem_cons, List.not_mem_nil, or_false] at hc
      rcases hc with rfl | rfl
      · exact Heap.lt_size he
      · obtain ⟨_, z, _⟩ := iterK_obj q; exact Heap.lt_size z
    rw [upd_ne (Nat.ne_of_lt (Nat.lt_of_lt_of_le old hT))]
    exact (hf c hc).1
  done := by
    intro X hP hw hK hc i pins s σ H E I hf st hg
    subst hP hw hK
    obtain ⟨⟨old, he⟩, q⟩ := st
    obtain ⟨xs, hx, hi⟩ := hg
    obtain ⟨us, rx, px, zx⟩ := seqK I hx
    have hh : X.A.in1.handled = none := I.ok.hd hc
    have W := GoesN.enumFrom (prog := X.prog) (w := X.w) (A := X.A) (elts := elts) (x1 := kk) (pos := tpos) 0 (drawsK (k := k) hh n1 us.toArray) e n2 (by simp [n2, n3]) (by simp)
    have en : us.toArray.size = i := by rw [List.size_toArray, ← rx.length]; exact hi.symm
    refine W.stops s _ E (by rw [en]; exact ⟨⟨old, he⟩, q, px⟩) fun h' tk hk _ => ?_
    exact I.turnedL (ch := [e, it]) hk hf
  self := fun A i s Q E st h => let ⟨⟨_, he⟩, _⟩ := st; wpAny_pyIter_enum he h
theorem meets_enum1 {v : Value} {ob : Obj} {G : Heap → Prop} (B : Begins v ob G) : Meets (Builtin.«enumerate.__new__» ⟨[.type "enumerate", v], []⟩) (fun _ R s => G s.heap ∧
      R (.ok (.ret (.ref (s.heap.push ob).objs.size))) { s with heap := (s.heap.push ob).push { cls := .type "enumerate", data := .fields #[.none, .bool false, .ref s.heap.objs.size, rawInt 0, .none, .none] } }) := .of_wp fun prog w A R s hh => by
  obtain ⟨hp, gs, dr, tks, os⟩ := s
  obtain ⟨hG, hR⟩ := hh
  have sb := sub_enumerate
  have it1 : ∀ {A' : Around} {E : Value → Shared → Prop} {Q : Value → Shared → Prop}, Q (.ref hp.objs.size) ⟨hp.push ob, gs, dr, tks, os⟩ → wpAny (model prog w) A' (pyIter v) Q E ⟨hp, gs, dr, tks, os⟩ := fun q => B.iter prog w _ _ ⟨hp, gs, dr, tks, os⟩ _ hG q
  wp_walk
  refine wpAny_stack_any fun stk => wpAny_pure ?_
  split
  · rename_i cc _ _ _ _ _
    cases (cc == Value.type "enumerate") <;> (wp_walk using it1; exact ⟨_, rfl, hR⟩)
  · wp_walk using it1
    exact ⟨_, rfl, hR⟩
/-- enumerate of a list, of a tuple begins -/
theorem enum1_begins {prog : Program} {w : World} {A : Around} {E : Value → Shared → Prop} {s : Shared} {k : Kd} {a : Addr} {its : List Value} {Q : Value → Shared → Prop} (p : PlK k s.heap a its.toArray)
    (h : ∀ h', IsEnum h' (s.heap.objs.size + 1) s.heap.objs.size 0 .none → IterK k h' s.heap.objs.size a 0 → (∀ b o, s.heap.get? b = some o → h'.get? b = some o) → Q (.ref (s.heap.objs.size + 1)) { s with heap := h' }) :
    wpAny (model prog w) A (call (.type "enumerate") [.ref a]) Q E s := by
  refine callType_new F.called_enumerate (by decide) (F.typeCall_enumerate_1 _) (F.newCall_enumerate_1 _) (fun obj => F.args_object_init_2 obj _) F.entry_enumerate_new (meets_enum1 (begK its.toArray)) ⟨p, ?_⟩
  have hz : (s.heap.push (objK k a)).objs.size = s.heap.objs.size + 1 := Heap.size_push ..
  have fr : (objK k a).isFreed = false := by cases k <;> rfl
  show _ ∧ _
  rw [hz]
  have he := Heap.get?_push_size (s.heap.push (objK k a)) (o := { cls := .type "enumerate", data := .fields #[.none, .bool false, .ref s.heap.objs.size, rawInt 0, .none, .none] }) rfl
  rw [hz] at he
  exact ⟨⟨_, he, rfl⟩, h _ he (iterK_0 (Heap.get?_push_of_some _ (Heap.get?_push_size _ fr))) fun b o z => Heap.get?_push_of_some _ (Heap.get?_push_of_some _ z)⟩
def iEm (K : PySem.W.Frag) (ta : TE) : TI := fun s H R => ta s H fun x H1 => ∃ a k xs, [x] = [V.ref a] ∧ SqK k K H1 a xs ∧ (xs.length ≤ sizeLine → R (Je k K a) H1)
theorem pi_em {X : Cx} {e : Expr} {ta : TE} {p pos tpos : Pos} {elts : List Expr} {kk : Nat} (hg : Gl X "enumerate") (hm : X.mg "enumerate" = none) (ha : PE X e ta) (hs : starEach [e] X.env = (false, eval e X.env) :: starEach [] X.env) :
    PI X (.Tuple elts kk tpos) (.Call (.Name "enumerate" p) [e] [] pos) (iEm X.K ta) := ⟨fun pins s σ H R I h => by
  refine Call_ (ld_blt I hg hm boot_enumerate (callWith_type1 (thn ((pa_cons ha pa_nil hs).run pos pins s σ H (fun vs H2 => ∃ a k xs, vs = [V.ref a] ∧ SqK k X.K H2 a xs ∧ (xs.length ≤ sizeLine → R (Je k X.K a) H2)) I h) fun us s1 ⟨vs, H1, J, r1, a, k, xs, ev, hx, q⟩ => ?_) hs rfl))
  subst ev
  cases r1 with
  | cons r rr =>
    cases rr
    cases r
    obtain ⟨us, rx, px, zx⟩ := seqK J hx
    have la := plK_lt px
    refine enum1_begins px fun h' he h1 hk => wpAny_pyIter_enum he ?_
    have I2 : Inv X pins σ H1 { s1 with heap := h' } := J.kept (t' := s1.toks) hk
    refine ⟨s1.heap.objs.size + 1, _, _, _, H1, rfl, I2, turn_em (it := s1.heap.objs.size) (Nat.ne_of_lt la) (Nat.succ_ne_self _) (Nat.ne_of_gt (Nat.lt_succ_of_lt la)), ⟨⟨_, he⟩, h1⟩, fun c hc => ?_, q zx⟩
    have hle : s1.heap.objs.size ≤ c := by
      simp only [List.mem_cons, List.not_mem_nil, or_false] at hc
      rcases hc with z | z <;> rw [z] <;> first | exact Nat.le_refl _ | exact Nat.le_add_right _ _
    exact J.fpOk hle (J.hok.fresh hle)⟩
end Q
/-! Qj: zip, enumerate as readings; comprehensions. -/
namespace Q
open PySem PySem.Spec PyProof.Rows L2
section
variable {M M1 M2 B B1 : Addr → Prop} {H H1 H2 : Hp} {r : List Addr} {c : Cn} {S S1 : Sto} {s s1 : L2.St} {fr fr1 : Fr}
/-- the items of a list or tuple that stands still -/
theorem items_sq {x : PV} {xs : List PV} {v : V} (e : x.items = some xs) (r1 : c.R M H x v) : ∃ a k vs, v = .ref a ∧ SqK k c.C.K H a vs ∧ c.Rs M H xs vs ∧ ∀ M1 H1, Kq M H M1 H1 → SqK k c.C.K H1 a vs := by
  rcases items_some e with rfl | rfl
  · simp only [Cn.R, Rep] at r1
    obtain ⟨a, vs, rfl, sq, r2⟩ := r1
    exact ⟨a, .t, vs, rfl, sq, r2, fun M1 H1 k => SqT.kb sq (k.kb (B := M) fun _ z => z)⟩
  · simp only [Cn.R, Rep] at r1
    obtain ⟨a, vs, rfl, sq, r2⟩ := r1
    exact ⟨a, .l, vs, rfl, .of sq.1, r2, fun M1 H1 k => .of (k.keep _ _ sq.1 (fun z => sq.2 (.inr z)) (fun _ z => nomatch z))⟩
theorem zipV_get {xs ys : List PV} {i : Nat} {x y : PV} (h1 : xs[i]? = some x) (h2 : ys[i]? = some y) : (zipV xs ys)[i]? = some (.tup [x, y]) := by
  unfold zipV
  rw [List.getElem?_zipWith, h1, h2]
theorem zipV_len {xs ys : List PV} : (zipV xs ys).length = min xs.length ys.length := by unfold zipV; rw [List.length_zipWith]
theorem enumV_len : ∀ (xs : List PV) (n : Nat), (enumV n xs).length = xs.length
  | [], _ => rfl
  | x :: r, n => by simp only [enumV, List.length_cons, enumV_len r]
theorem enumV_get : ∀ {xs : List PV} {n i : Nat} {x : PV}, xs[i]? = some x → (enumV n xs)[i]? = some (.tup [.int ((n + i : Nat) : Int), x])
  | [], _, _, _, h => by simp at h
  | y :: r, n, 0, x, h => by
    simp at h
    subst h
    simp [enumV]
  | y :: r, n, i + 1, x, h => by
    have := enumV_get (n := n + 1) (i := i) (x := x) (xs := r) (by simpa using h)
    simp only [enumV, List.getElem?_cons_succ]
    rw [this]
    congr 4
    omega
theorem R.pair {x y : PV} {v w : V} {T : Addr} (rb : ∀ a ∈ c.r, c.B M a) (n : H T = none) (h1 : c.R M H x v) (h2 : c.R M H y w) : c.R M (upd H T (.tup [v, w])) (.tup [x, y]) (.ref T) := R.tup_new rb n (.cons h1 (.cons h2 .nil))
theorem walkR_zip {j k : Kd} {a b : Addr} {xs ys : List PV} {vs ws : List V} (f1 : ∀ M1 H1, Kq M H M1 H1 → SqK j c.C.K H1 a vs) (f2 : ∀ M1 H1, Kq M H M1 H1 → SqK k c.C.K H1 b ws) (r1 : c.Rs M H xs vs) (r2 : c.Rs M H ys ws) (hz : vs.length ≤ sizeLine) :
    WalkR c M H (zipV xs ys) (Jz j k c.C.K a b) :=
  ⟨by rw [zipV_len, r1.len]; exact Nat.le_trans (Nat.min_le_left _ _) hz, fun H => SqK j c.C.K H a vs ∧ SqK k c.C.K H b ws, (Jz j k c.C.K a b).yld, ⟨fun i H hi q => ⟨vs, ws, q.1, q.2, by rw [zipV_len] at hi; rw [← r1.len, ← r2.len]; exact hi⟩, fun H q => ⟨vs, ws, q.1, q.2, by rw [zipV_len, r1.len, r2.len]⟩, fun i H x H' hi q y => y⟩,
    fun M1 H1 k rb => ⟨⟨f1 M1 H1 k, f2 M1 H1 k⟩, fun i x H2 hi y => by
      obtain ⟨T, u, t, rfl, n, rfl, g1, g2⟩ := y
      obtain ⟨x1, e1, q1⟩ := (r1.kq k).get' (g1 _ (f1 M1 H1 k))
      obtain ⟨y1, e2, q2⟩ := (r2.kq k).get' (g2 _ (f2 M1 H1 k))
      exact ⟨upd_keeps n, _, zipV_get e1 e2, R.pair rb n q1 q2⟩⟩⟩
theorem walkR_enum {k : Kd} {a : Addr} {xs : List PV} {vs : List V} (f1 : ∀ M1 H1, Kq M H M1 H1 → SqK k c.C.K H1 a vs) (r1 : c.Rs M H xs vs) (hz : vs.length ≤ sizeLine) : WalkR c M H (enumV 0 xs) (Je k c.C.K a) :=
  ⟨by rw [enumV_len, r1.len]; exact hz, fun H => SqK k c.C.K H a vs, (Je k c.C.K a).yld, ⟨fun i H hi q => ⟨vs, q, by rw [enumV_len] at hi; rw [← r1.len]; exact hi⟩, fun H q => ⟨vs, q, by rw [enumV_len, r1.len]⟩, fun i H x H' hi q y => y⟩,
    fun M1 H1 k rb => ⟨f1 M1 H1 k, fun i x H2 hi y => by
      obtain ⟨T, u, rfl, n, rfl, g1⟩ := y
      obtain ⟨x1, e1, q1⟩ := (r1.kq k).get' (g1 _ (f1 M1 H1 k))
      refine ⟨upd_keeps n, _, enumV_get (n := 0) e1, ?_⟩
      rw [Nat.zero_add]
      exact R.pair rb n (.flat rfl) q1⟩⟩
end
section
variable {X : Cx} {c : Cn} {e a b d l tg : Expr} {es rest : List Expr} {ma mb md : SE} {ba bb : SB} {m : SA} {pos p tpos : Pos} {x : Str} {elts : List Expr} {kk : Nat}
theorem ok_iZip (hk : X.K = c.C.K) (hg : Gl X "zip") (hm : X.mg "zip" = none) (ha : PE X a (LE c ma)) (hb : PE X b (LE c mb)) (hs : starEach [a, b] X.env = (false, eval a X.env) :: starEach [b] X.env) (hs2 : starEach [b] X.env = (false, eval b X.env) :: starEach [] X.env)
    (hpl : (backTo pos (starEach [b] X.env)).any (·.1) = false) : PI X (.Tuple elts kk tpos) (.Call (.Name "zip" p) [a, b] [] pos) (LI c (iZip ma mb)) :=
  (pi_zm hg hm ha hb hs hs2 hpl).w fun s H R ⟨M, S, fr, rs, h⟩ => ⟨M, S, fr, rs, PoE.bind h fun x S1 v H1 k1 st1 r1 h1 => ⟨M, S1, fr, rs.step k1 st1, PoE.bind h1 fun y S2 w H2 k2 st2 r2 h2 => by
    obtain ⟨zs, e, h3⟩ := h2.of
    unfold zipO at e
    rw [Option.bind_eq_some_iff] at e
    obtain ⟨xs, ex, e⟩ := e
    rw [Option.map_eq_some_iff] at e
    obtain ⟨ys, ey, rfl⟩ := e
    obtain ⟨a, j, vs, rfl, sq1, q1, f1⟩ := items_sq ex (Rep.k k2 rs.rb r1)
    obtain ⟨b, k, ws, rfl, sq2, q2, f2⟩ := items_sq ey r2
    refine ⟨a, b, j, k, vs, ws, rfl, hk ▸ sq1, hk ▸ sq2, fun hz => ?_⟩
    rw [hk]
    exact h3 _ H2 .refl st2 (walkR_zip f1 f2 q1 q2 hz)⟩⟩
theorem ok_iEnum (hk : X.K = c.C.K) (hg : Gl X "enumerate") (hm : X.mg "enumerate" = none) (ha : PE X a (LE c ma)) (hs : starEach [a] X.env = (false, eval a X.env) :: starEach [] X.env) : PI X (.Tuple elts kk tpos) (.Call (.Name "enumerate" p) [a] [] pos) (LI c (iEnum ma)) :=
  (pi_em hg hm ha hs).w fun s H R ⟨M, S, fr, rs, h⟩ => ⟨M, S, fr, rs, PoE.bind h fun x S1 v H1 k1 st1 r1 h1 => by
    obtain ⟨zs, e, h3⟩ := h1.of
    unfold enumO at e
    rw [Option.map_eq_some_iff] at e
    obtain ⟨xs, ex, rfl⟩ := e
    obtain ⟨a, j, vs, rfl, sq1, q1, f1⟩ := items_sq ex r1
    refine ⟨a, j, vs, rfl, hk ▸ sq1, fun hz => ?_⟩
    rw [hk]
    exact h3 _ H1 .refl st1 (walkR_enum f1 q1 hz)⟩

/-! ### comprehensions -/
theorem wipeF_get : ∀ {vs : List Nat} {fr : Fr} {i : Nat} {a : Sl}, (wipeF fr vs)[i]? = some a → a ≠ .no → fr[i]? = some a ∧ i ∉ vs
  | [], _, _, _, h, _ => ⟨h, by simp⟩
  | v :: vs, fr, i, a, h, n => by
    rw [wipeF_cons] at h
    by_cases hi : v = i
    · subst hi
      obtain ⟨l, z⟩ := List.getElem?_eq_some_iff.mp h
      rw [List.getElem_set_self] at z
      exact absurd z.symm n
    · rw [List.getElem?_set_ne hi] at h
      obtain ⟨h1, h2⟩ := wipeF_get h n
      exact ⟨h1, by simp only [List.mem_cons, not_or]; exact ⟨fun e => hi e.symm, h2⟩⟩
theorem wipeF_len : ∀ {vs : List Nat} {fr : Fr}, (wipeF fr vs).length = fr.length
  | [], _ => rfl
  | v :: vs, fr => by rw [wipeF_cons, List.length_set, wipeF_len]
theorem wipe_get : ∀ {vs : List Nat} {s : L2.St} {i : Nat}, i ∉ vs → (wipe s vs)[i]? = s[i]?
  | [], _, _, _ => rfl
  | v :: vs, s, i, h => by
    simp only [List.mem_cons, not_or] at h
    unfold wipe
    rw [List.getElem?_set_ne (fun z => h.1 z.symm), wipe_get h.2]
theorem wipe_alike : ∀ {vs : List Nat} {s s1 : L2.St}, s1.length = s.length → (∀ j, j ∉ vs → s1[j]? = s[j]?) → wipe s1 vs = wipe s vs
  | vs, s, s1, hl, h => by
    refine List.ext_getElem? fun j => ?_
    by_cases hj : j ∈ vs
    · have : ∀ (vs : List Nat) (s : L2.St), j ∈ vs → (wipe s vs)[j]? = if j < s.length then some none else none := fun vs s => by
        induction vs with
        | nil => intro z; simp at z
        | cons v vs ih =>
          intro z
          unfold wipe
          by_cases e : v = j
          · subst e
            by_cases l : v < s.length
            · rw [if_pos l, List.getElem?_set_self (by rw [wipe_length]; exact l)]
            · rw [if_neg l]
              exact List.getElem?_eq_none (by rw [List.length_set, wipe_length]; omega)
          · rw [List.getElem?_set_ne e]
            exact ih ((List.mem_cons.mp z).resolve_left fun q => e q.symm)
      rw [this vs s1 hj, this vs s hj, hl]
    · rw [wipe_get hj, wipe_get hj]
      exact h j hj
/-- a new list of the comprehension's own, at D -/
abbrev plusD (M : Addr → Prop) (D : Addr) : Addr → Prop := fun a => M a ∨ a = D
section
variable {M : Addr → Prop} {S : Sto} {H H1 : Hp} {s : L2.St} {fr : Fr} {D : Addr}
theorem St.mono {M1 : Addr → Prop} (h : c.St M S H) (k : Kb (c.B M) H H1) (hB : ∀ a, c.B M1 a → c.B M a ∨ H a = none) (hr : ∀ p ∈ c.r, ∀ o, H p = some o → H1 p = some o) : c.St M1 S H1 :=
  ⟨h.len, h.nd, fun i p t e1 e2 => by
    have q := h.at_ i p t e1 e2
    cases t with
    | lst xs =>
      obtain ⟨vs, e, q⟩ := q
      exact ⟨vs, hr p (List.mem_of_getElem? e1) _ e, q.kb k hB⟩
    | _ => exact q⟩
theorem SlotR.mono {M1 : Addr → Prop} {a : Sl} {o : Option V} (h : SlotR c.C (c.B M) M c.r H a o) (k : Kb (c.B M) H H1) (km : Kb M H H1) (hB : ∀ a, c.B M1 a → c.B M a ∨ H a = none) (hM : ∀ a, M1 a → M a ∨ H a = none) (h0 : ∀ a, M a → M1 a)
    (hn : ∀ p o, M p → p ∉ c.r → (∀ ps, o ≠ .tbl ps) → H p = some o → H1 p = some o) (kc : ∀ v F, c.C.cl c.r H v F → c.C.cl c.r H1 v F) : SlotR c.C (c.B M1) M1 c.r H1 a o := by
  cases a with
  | no => exact True.intro
  | va t =>
    cases o with
    | none => exact h
    | some v => exact Rep.kb k hB h
  | ow t =>
    cases o with
    | none => exact h
    | some v =>
      obtain ⟨p, e, m, n, q⟩ := h
      refine ⟨p, e, h0 p m, n, ?_⟩
      cases t with
      | lst xs =>
        obtain ⟨vs, e, q⟩ := q
        exact ⟨vs, hn p _ m n (fun _ z => nomatch z) e, q.kb k hB⟩
      | _ => exact q
  | bo t =>
    cases o with
    | none => exact h
    | some v => exact RepM.kb k km hB hM h
  | cl F =>
    cases o with
    | none => exact h
    | some v => exact kc v F h
/-- one more list that is nobody's yet -/
theorem RS.plus (rs : c.RS M S H s fr) (n : H D = none) (o : HO) : c.RS (plusD M D) S (upd H D o) s fr :=
  have nr : D ∉ c.r := fun z => rs.mt D (rs.rm D z) n
  have k : Kp c.r H (upd H D o) := Kp.upd_new n
  have mx : ∀ a, plusD M D a → M a ∨ H a = none := fun a z => z.imp id fun e => by rw [e]; exact n
  have bx : ∀ a, c.B (plusD M D) a → c.B M a ∨ H a = none := fun a z => z.elim (fun z => .inl (.inl z)) fun z => (mx a z).imp .inr id
  ⟨rs.kp.trans k, rs.ut, fun a z => by
      rcases z with z | z
      · cases e : H a with
        | none => exact absurd e (rs.mt a z)
        | some q => rw [upd_keeps n a q e]; exact fun z => nomatch z
      · rw [z, upd_same]; exact (fun z => nomatch z),
    fun a z na => by
      rcases z with z | z
      · exact rs.mn a z na
      · rw [z]
        cases e : c.H0 D with
        | none => rfl
        | some q => exact absurd n (rs.kp.there (by rw [e]; exact fun z => nomatch z) nr),
    rs.ru, fun a z => .inl (rs.rm a z), St.mono rs.st (k.kb rs.rb) bx (fun p _ o e => upd_keeps n p o e), rs.len,
    fun i a e q e' => SlotR.mono (rs.sl i a e q e') (k.kb rs.rb) (k.kb rs.rm) bx mx (fun a z => .inl z) (fun p o _ _ _ e => upd_keeps n p o e) (fun v F z => c.C.clk z k), rs.inj⟩
/-- that list is changed -/
theorem RS.put (rs : c.RS (plusD M D) S H s fr) (hM : ¬ M D) (nr : D ∉ c.r) (ns : ∀ (i : Nat) (t : PV), fr[i]? = some (.ow t) → s[i]? ≠ some (some (.ref D))) {vs : List V} (e : H D = some (.lst vs)) (ws : List V) : c.RS (plusD M D) S (upd H D (.lst ws)) s fr :=
  have ne : ∀ b o, b ≠ D → H b = some o → upd H D (.lst ws) b = some o := fun b o z e => by rw [upd_ne z]; exact e
  have k : Kb (plusD M D) H (upd H D (.lst ws)) := ⟨fun a o e n _ => ne a o (fun z => n (.inr z)) e, fun a xs q => ne a _ (fun z => by rw [z, e] at q; exact nomatch q) q, fun a o u q => ne a _ (fun z => by rw [z, e] at q; exact nomatch q) q⟩
  have kB : Kb (c.B (plusD M D)) H (upd H D (.lst ws)) := ⟨fun a o e n t => k.keep a o e (fun z => n (.inr z)) t, k.tups, k.frzs⟩
  have hn : ∀ a, H a ≠ none → upd H D (.lst ws) a ≠ none := fun a h => by
    by_cases z : a = D
    · rw [z, upd_same]; exact fun z => nomatch z
    · rw [upd_ne z]; exact h
  have nD : c.H0 D = none := rs.mn D (.inr rfl) nr
  have kc : Kp c.r c.H0 (upd H D (.lst ws)) := ⟨fun a o q n t => ne a o (fun z => by rw [z, nD] at q; exact nomatch q) (rs.kp.keep a o q n t), fun a xs q => ne a _ (fun z => by rw [z, nD] at q; exact nomatch q) (rs.kp.tups a xs q), fun a o u q => ne a _ (fun z => by rw [z, nD] at q; exact nomatch q) (rs.kp.frzs a o u q), fun a ps q => by
      obtain ⟨m, z⟩ := rs.kp.tbls a ps q
      exact ⟨m, ne a _ (fun y => by rw [y, e] at z; exact nomatch z) z⟩⟩
  ⟨kc, rs.ut, fun a z => hn a (rs.mt a z), rs.mn, rs.ru, rs.rm, St.mono rs.st kB (fun _ z => .inl z) (fun p hp o e => ne p o (fun z => nr (z ▸ hp)) e), rs.len,
    fun i a ea q e' => by
      have h := rs.sl i a ea q e'
      cases a with
      | no => exact True.intro
      | va t =>
        cases q with
        | none => exact h
        | some v => exact Rep.kb kB (fun _ z => .inl z) h
      | ow t =>
        cases q with
        | none => exact h
        | some v =>
          obtain ⟨p, rfl, m, n, q⟩ := h
          refine ⟨p, rfl, m, n, ?_⟩
          cases t with
          | lst xs =>
            obtain ⟨us, eu, q⟩ := q
            exact ⟨us, ne p _ (fun z => ns i _ ea (by rw [e', z])) eu, q.kb kB (fun _ z => .inl z)⟩
          | _ => exact q
      | bo t =>
        cases q with
        | none => exact h
        | some v => exact RepM.kb kB k (fun _ z => .inl z) (fun _ z => .inl z) h
      | cl F =>
        cases q with
        | none => exact h
        | some v => exact c.C.clD h e, rs.inj⟩
theorem RS.wipe (rs : c.RS M S H s fr) (vs : List Nat) : c.RS M S H (L2.wipe s vs) (wipeF fr vs) :=
  ⟨rs.kp, rs.ut, rs.mt, rs.mn, rs.ru, rs.rm, rs.st, by rw [wipe_length, wipeF_len]; exact rs.len, fun i a e o e' => by
    by_cases n : a = .no
    · subst n; exact True.intro
    · obtain ⟨h1, h2⟩ := wipeF_get e n
      rw [wipe_get h2] at e'
      exact rs.sl i a h1 o e', fun i j t u p e1 e2 e3 e4 => by
    obtain ⟨h1, h2⟩ := wipeF_get e1 (fun z => nomatch z)
    obtain ⟨h3, h4⟩ := wipeF_get e2 (fun z => nomatch z)
    rw [wipe_get h2] at e3
    rw [wipe_get h4] at e4
    exact rs.inj i j t u p h1 h3 e3 e4⟩
end
end
end Q
/-! Qk: comprehensions. -/
namespace Q
open PySem PySem.Spec PyProof.Rows L2
section
variable {X : Cx} {c : Cn} {elt tg iter : Expr} {ifs : List Expr} {ma mb md me : SE} {cb : SB} {m : SA} {mi : SI} {pos p : Pos} {x : Str} {is vs : List Nat} {g : TG} {tgm : TgS}
theorem lcGo_cons {fr : Fr} {x : PV} {r : List PV} {S : Sto} : lcGo tgm cb me fr (x :: r) S = match tgm x fr with
    | none => .bad
    | some fr1 => match cb fr1 S with
      | .ok k S1 => if k then
          match me fr1 S1 with
          | .ok y S2 => (lcGo tgm cb me fr r S2).bind fun ys S3 => .ok (y :: ys) S3
          | _ => .bad
        else lcGo tgm cb me fr r S1
      | _ => .bad := rfl
/-- behind the turns: the new list at D -/
def PoL (c : Cn) (M : Addr → Prop) (D : Addr) (H : Hp) (res : Re (List PV)) (q : VK) : Prop := match res with
  | .ok ys S' => ∀ ws H', Kp c.r H H' → c.St (plusD M D) S' H' → H' D = some (.lst ws) → c.Rs (plusD M D) H' ys ws → q (.ref D) H'
  | _ => False
/-- the turns -/
theorem lc_read {M : Addr → Prop} {S : Sto} {H H1 : Hp} {s : L2.St} {fr : Fr} {J : It} {xs : List PV} {q : VK} {D : Addr} (hv : ∀ i ∈ is, i ∈ vs) (tgo : TgOk c is g tgm) (rs : c.RS M S H1 s fr) (w : WalkR c M H1 xs J) (n : H1 D = none)
    (h : PoL c M D H1 (lcGo tgm cb me (wipeF fr vs) xs S) q) :
    ∃ W : Nat → Nat → Hp → Prop, (∃ m, W 0 m (upd H1 D (.lst []))) ∧ ∀ i m H, W i m H →
      (J.stop i H ∧ q (.ref D) H) ∨ (J.go i H ∧ ∃ Nx : Hp → Prop, (∀ H', Nx H' → ∃ m', m' < m ∧ W (i + 1) m' H') ∧ ∀ x H', J.yld i H x H' → g x (L2.wipe s vs) H' fun σ2 H2 => L2.wipe σ2 vs = L2.wipe s vs ∧ LB c cb σ2 H2 fun b H3 =>
        if b = true then LE c me σ2 H3 fun y H4 => ∃ acc, H4 D = some (.lst acc) ∧ acc.length < sizeLine ∧ Nx (upd H4 D (.lst (acc ++ [y]))) else Nx H3) := by
  obtain ⟨hz, G, Y, wk, wr⟩ := w
  have nM : ¬ M D := fun z => rs.mt D z n
  have nU : ¬ c.B M D := fun z => rs.bn D z n
  have nr : D ∉ c.r := fun z => nM (rs.rm D z)
  have ns : ∀ (i : Nat) (t : PV), (wipeF fr vs)[i]? = some (.ow t) → (L2.wipe s vs)[i]? ≠ some (some (.ref D)) := fun i t e z => by
    obtain ⟨v, e1, p, rfl, mp, _⟩ := (rs.wipe vs).at e (fun z => nomatch z)
    rw [e1] at z
    cases z
    exact nM mp
  -- a heap of the turns, seen from ahead of them
  have kq : ∀ H', Kp c.r H1 H' → Kq M H1 (plusD M D) H' := fun H' k => ⟨(k.kq rs.rm).keep, k.tups, k.frzs, k.tbls, fun a z => z.imp id fun e => by rw [e]; exact n⟩
  refine lc_it wk (fun i H' => ∃ S ws acc, Kp c.r H1 H' ∧ c.RS (plusD M D) S H' (L2.wipe s vs) (wipeF fr vs) ∧ H' D = some (.lst ws) ∧ c.Rs (plusD M D) H' acc ws ∧ acc.length ≤ i ∧
    PoL c M D H1 ((lcGo tgm cb me (wipeF fr vs) (xs.drop i) S).bind fun ys S2 => .ok (acc ++ ys) S2) q)
    ⟨S, [], [], Kp.upd_new n, (rs.plus n _).wipe vs, upd_same, .nil, Nat.le_refl _, ?_⟩ (fun i H' _ ⟨S, ws, acc, k, rs', _⟩ => (wr _ _ (kq H' k) rs'.rb).1) (fun i x H' H2 hi ⟨S, ws, acc, k, rs', eD, rw_, hl, hp⟩ y => ?_) (fun H' ⟨S, ws, acc, k, rs', eD, rw_, hl, hp⟩ => ?_)
  · rw [List.drop_zero]
    revert h
    cases lcGo tgm cb me (wipeF fr vs) xs S with
    | ok ys S2 => exact fun h => h
    | _ => exact fun h => h
  · obtain ⟨kk, t, et, rt⟩ := (wr _ _ (kq H' k) rs'.rb).2 i x H2 hi y
    have kH : Kp c.r H' H2 := Kp.of_all kk
    have rs2 := rs'.step kH (rs'.st.k kH rs'.rb kk)
    have ex : xs.drop i = t :: xs.drop (i + 1) := by
      obtain ⟨l, e⟩ := List.getElem?_eq_some_iff.mp et
      rw [List.drop_eq_getElem_cons l, e]
    rw [ex, lcGo_cons] at hp
    cases e1 : tgm t (wipeF fr vs) with
    | none => simp only [e1] at hp; exact hp.elim
    | some fr1 =>
      simp only [e1] at hp
      refine tgo _ S H2 _ _ t x fr1 _ rs2 rt e1 fun s1 rs3 al => ⟨?_, ?_⟩
      · have := wipe_alike (vs := vs) al.1 fun j hj => al.2 j fun z => hj (hv j z)
        rw [this]
        refine wipe_alike (vs := vs) (wipe_length _ _) fun j hj => wipe_get hj
      · refine ⟨plusD M D, S, fr1, rs3, ?_⟩
        cases e2 : cb fr1 S with
        | bad => simp only [e2] at hp; exact hp.elim
        | ex _ _ _ => simp only [e2] at hp; exact hp.elim
        | ok b S1 =>
          simp only [e2] at hp
          intro b' H3 k3 st3 eb
          subst eb
          have rs4 := rs3.step k3 st3
          have kD : ∀ {Ha Hb : Hp}, Kp c.r Ha Hb → ∀ {us}, Ha D = some (.lst us) → Hb D = some (.lst us) := fun k _ e => k.keep _ _ e nr (fun _ z => nomatch z)
          cases b' with
          | false =>
            rw [if_neg (by decide)]
            rw [if_neg (by decide)] at hp
            exact ⟨S1, ws, acc, (k.trans kH).trans k3, rs2.step k3 st3, kD k3 (kD kH eD), (Reps.k k3 rs3.rb (Reps.k kH rs'.rb rw_)), Nat.le_succ_of_le hl, hp⟩
          | true =>
            rw [if_pos rfl]
            rw [if_pos rfl] at hp
            refine ⟨plusD M D, S1, fr1, rs4, ?_⟩
            cases e3 : me fr1 S1 with
            | bad => simp only [e3] at hp; exact hp.elim
            | ex _ _ _ => simp only [e3] at hp; exact hp.elim
            | ok y' S2 =>
              simp only [e3] at hp
              intro yv H4 k4 st4 ry
              have e4 : H4 D = some (.lst ws) := kD k4 (kD k3 (kD kH eD))
              have rs5 := rs2.step (k3.trans k4) st4
              have rw4 := Reps.k k4 rs3.rb (Reps.k k3 rs3.rb (Reps.k kH rs'.rb rw_))
              refine ⟨ws, e4, ?_, ?_⟩
              · rw [← rw_.len]
                exact Nat.lt_of_le_of_lt hl (Nat.lt_of_lt_of_le hi hz)
              · have kb : Kb (c.B (plusD M D)) H4 (upd H4 D (.lst (ws ++ [yv]))) :=
                  ⟨fun a o e n _ => by rw [upd_ne (fun z => n (.inr (.inr z)))]; exact e, fun a xs q => by rw [upd_ne (fun z => by rw [z, e4] at q; exact nomatch q)]; exact q, fun a o u q => by rw [upd_ne (fun z => by rw [z, e4] at q; exact nomatch q)]; exact q⟩
                refine ⟨S2, ws ++ [yv], acc ++ [y'], ?_, rs5.put nM nr ns e4 _, upd_same, ?_, ?_, ?_⟩
                · have ka := ((k.trans kH).trans k3).trans k4
                  refine ⟨fun a o e m t => ?_, fun a xs e => ?_, fun a o u e => ?_, fun a ps e => ?_⟩
                  · rw [upd_ne (ne_of_none e n)]; exact ka.keep a o e m t
                  · rw [upd_ne (ne_of_none e n)]; exact ka.tups a xs e
                  · rw [upd_ne (ne_of_none e n)]; exact ka.frzs a o u e
                  · rw [upd_ne (ne_of_none e n)]; exact ka.tbls a ps e
                · exact Reps.kb kb (fun _ z => .inl z) (rw4.append (.cons ry .nil))
                · rw [List.length_append]; exact Nat.succ_le_succ hl
                · rw [Re.bind_assoc] at hp
                  simpa only [Re.bind_ok, List.append_assoc, List.cons_append, List.nil_append] using hp
  · rw [List.drop_length] at hp
    have hp : PoL c M D H1 (.ok (acc ++ []) S) q := hp
    rw [List.append_nil] at hp
    exact hp ws H' k rs'.st eD rw_

theorem PTs.w {X : Cx} {e : List Expr} {t t' : TT} (h : PTs X e t) (i : ∀ σ H Q, t' σ H Q → t σ H Q) : PTs X e t' := ⟨fun pins s σ H Q I q => h.run pins s σ H Q I (i _ _ _ q)⟩
theorem ts_nil : PTs X [] (LB c bT) := PTs.w pts_nil fun s H q ⟨M, S, fr, rs, h⟩ => h true H .refl rs.st rfl
theorem ts_one {a : Expr} {ba : SB} (h : PT X a (LB c ba)) : PTs X [a] (LB c ba) := pts_one h
/-- from the reading of the things walked to the reading of the list -/
theorem lc_of {σ : L2.St} {H : Hp} {q : VK} (hv : ∀ i ∈ is, i ∈ vs) (tgo : TgOk c is g tgm) (h : LE c (eLc vs mi tgm cb me) σ H q) : tLc (LI c mi) g (LB c cb) (LE c me) vs σ H q := by
  obtain ⟨M, S, fr, rs, h⟩ := h
  refine ⟨M, S, fr, rs, PoE.bind h fun xs S1 J H1 k1 st1 w h1 => fun D n => lc_read (H := H1) hv tgo (rs.step k1 st1) w n ?_⟩
  have rs1 := rs.step k1 st1
  revert h1
  cases lcGo tgm cb me (wipeF fr vs) xs S1 with
  | ok ys S2 =>
    intro h1 ws H' k st e r
    refine h1 (.ref D) H' k (St.mono st ⟨fun a o e _ _ => e, fun a xs q => q, fun a o u q => q⟩ (fun a z => .inl (z.imp id .inl)) (fun _ _ _ e => e)) ?_
    simp only [Cn.R, Rep]
    exact ⟨D, ws, rfl, ⟨e, fun z => rs1.bn D z n⟩, Reps.kb ⟨fun a o e _ _ => e, fun a xs q => q, fun a o u q => q⟩ (fun a z => .inl (z.imp id .inl)) r⟩
  | _ => exact fun h => h
theorem ok_lc {scope : Scope} {own : List (Str × Nat)} (hc : X.calm = true) (hN : X.N.Nodup) (hi : PI X tg iter (LI c mi)) (ok : BlkOk X.N X.env.scope scope own) (hv : ∀ i ∈ is, i ∈ own.map (·.2)) (tgo : TgOk c is g tgm)
    (hg : ∀ (s : Shared) (H : Hp) (C : Addr) (cl : List (Str × Addr)) (fp : List Addr), PG (X.blk s H scope (compEnvC scope cl C X.env) fp) tg g) (ht : ∀ (s : Shared) (H : Hp) (C : Addr) (cl : List (Str × Addr)) (fp : List Addr), PTs (X.blk s H scope (compEnvC scope cl C X.env) fp) ifs (LB c cb))
    (he : ∀ (s : Shared) (H : Hp) (C : Addr) (cl : List (Str × Addr)) (fp : List Addr), PE (X.blk s H scope (compEnvC scope cl C X.env) fp) elt (LE c me)) (hs : ∀ x, foldedSetIterable iter X.env x = pure x := by intro _; rfl) :
    PE X (.ListComp elt [⟨tg, iter, ifs, 0⟩] scope pos) (LE c (eLc (own.map (·.2)) mi tgm cb me)) :=
  (pe_lc hc hN hi ok hg ht he hs).w fun _ _ _ h => lc_of hv tgo h
end
end Q
/-! Ql: new lists, statements. -/
namespace Q
open PySem PySem.Spec PyProof.Rows L2
section
variable {c : Cn} {M M' : Addr → Prop} {S S' : Sto} {H H' : Hp} {s s' : L2.St} {fr fr' : Fr} {D : Addr}
theorem Kb.refl {B : Addr → Prop} : Kb B H H := ⟨fun _ _ e _ _ => e, fun _ _ e => e, fun _ _ _ e => e⟩
/-- more is kept apart -/
theorem RS.grow (rs : c.RS M S H s fr) (k : Kp c.r H H') (st : c.St M' S' H') (h0 : ∀ a, M a → M' a) (h1 : ∀ a, M' a → M a ∨ H a = none) (h2 : ∀ a, M' a → H' a ≠ none) : c.RS M' S' H' s fr :=
  ⟨rs.kp.trans k, rs.ut, h2, fun a m n => (h1 a m).elim (fun z => rs.mn a z n) fun z => by
      cases e : c.H0 a with
      | none => rfl
      | some o => exact absurd z (rs.kp.there (by rw [e]; exact fun z => nomatch z) n), rs.ru, fun a m => h0 a (rs.rm a m), st, rs.len,
    fun i a e o e' => SlotR.mono (rs.sl i a e o e') (k.kb rs.rb) (k.kb rs.rm) (fun a z => z.elim (fun z => .inl (.inl z)) fun z => (h1 a z).imp .inr id) h1 h0
      (fun p o _ n t e => k.keep p o e n t) (fun v F z => c.C.clk z k), rs.inj⟩
/-- one more slot, a list of one's own -/
theorem RS.own {p : Addr} {t : PV} (rs : c.RS M S H s fr) (i : Nat) (m : M p) (nr : p ∉ c.r) (q : Cnt c.C (c.B M) c.r H t p) (nw : ∀ (j : Nat) (u : PV), j ≠ i → fr[j]? = some (.ow u) → s[j]? ≠ some (some (.ref p))) : c.RS M S H (s.set i (some (.ref p))) (fr.set i (.ow t)) :=
  ⟨rs.kp, rs.ut, rs.mt, rs.mn, rs.ru, rs.rm, rs.st, by rw [List.length_set, List.length_set]; exact rs.len, fun j a e o e' => by
    by_cases ij : i = j
    · subst ij
      obtain ⟨l1, e1⟩ := List.getElem?_eq_some_iff.mp e
      obtain ⟨l2, e2⟩ := List.getElem?_eq_some_iff.mp e'
      rw [List.getElem_set_self] at e1 e2
      subst e1 e2
      exact ⟨p, rfl, m, nr, q⟩
    · rw [List.getElem?_set_ne ij] at e e'
      exact rs.sl j a e o e', fun j k t' u p' e1 e2 e3 e4 => by
    by_cases ij : i = j
    · subst ij
      obtain ⟨_, e3'⟩ := List.getElem?_eq_some_iff.mp e3
      rw [List.getElem_set_self] at e3'
      cases e3'
      by_cases ik : i = k
      · exact ik
      · rw [List.getElem?_set_ne ik] at e2 e4
        exact absurd e4 (nw k u (fun z => ik z.symm) e2)
    · rw [List.getElem?_set_ne ij] at e1 e3
      by_cases ik : i = k
      · subst ik
        obtain ⟨_, e4'⟩ := List.getElem?_eq_some_iff.mp e4
        rw [List.getElem_set_self] at e4'
        cases e4'
        exact absurd e3 (nw j t' (fun z => ij z.symm) e1)
      · rw [List.getElem?_set_ne ik] at e2 e4
        exact rs.inj j k t' u p' e1 e2 e3 e4⟩
/-- no slot's list is at an address that M has not -/
theorem RS.far {p : Addr} (rs : c.RS M S H s fr) (n : ¬ M p) (j : Nat) (u : PV) (e : fr[j]? = some (.ow u)) : s[j]? ≠ some (some (.ref p)) := fun z => by
  obtain ⟨v, e1, p', rfl, m, _⟩ := rs.at e (fun z => nomatch z)
  rw [e1] at z
  cases z
  exact n m
/-- a slot of a list of one's own: the list is changed -/
theorem RS.chg {p : Addr} {i : Nat} {t t' : PV} {vs ws : List V} {xs : List PV} (rs : c.RS M S H s fr) (ei : fr[i]? = some (.ow t)) (es : s[i]? = some (some (.ref p))) (e : H p = some (.lst vs)) (et : t' = .lst xs) (r : c.Rs M H xs ws) : c.RS M S (upd H p (.lst ws)) s (fr.set i (.ow t')) := by
  subst et
  obtain ⟨v, e1, p', rfl, m, nr, _⟩ := rs.at ei (fun z => nomatch z)
  rw [es] at e1
  cases e1
  have ne : ∀ b o, b ≠ p → H b = some o → upd H p (.lst ws) b = some o := fun b o z e => by rw [upd_ne z]; exact e
  have k : Kb M H (upd H p (.lst ws)) := ⟨fun a o e n _ => ne a o (fun z => n (by rw [z]; exact m)) e, fun a xs q => ne a _ (fun z => by rw [z, e] at q; exact nomatch q) q, fun a o u q => ne a _ (fun z => by rw [z, e] at q; exact nomatch q) q⟩
  have kB : Kb (c.B M) H (upd H p (.lst ws)) := ⟨fun a o e n t => k.keep a o e (fun z => n (.inr z)) t, k.tups, k.frzs⟩
  have hn : ∀ a, H a ≠ none → upd H p (.lst ws) a ≠ none := fun a h => by
    by_cases z : a = p
    · rw [z, upd_same]; exact fun z => nomatch z
    · rw [upd_ne z]; exact h
  have nD : c.H0 p = none := rs.mn p m nr
  have kc : Kp c.r c.H0 (upd H p (.lst ws)) := ⟨fun a o q n t => ne a o (fun z => by rw [z, nD] at q; exact nomatch q) (rs.kp.keep a o q n t), fun a xs q => ne a _ (fun z => by rw [z, nD] at q; exact nomatch q) (rs.kp.tups a xs q), fun a o u q => ne a _ (fun z => by rw [z, nD] at q; exact nomatch q) (rs.kp.frzs a o u q), fun a ps q => by
      obtain ⟨m, z⟩ := rs.kp.tbls a ps q
      exact ⟨m, ne a _ (fun y => by rw [y, e] at z; exact nomatch z) z⟩⟩
  refine ⟨kc, rs.ut, fun a z => hn a (rs.mt a z), rs.mn, rs.ru, rs.rm, St.mono rs.st kB (fun _ z => .inl z) (fun q hq o e => ne q o (fun z => nr (z ▸ hq)) e), by rw [List.length_set]; exact rs.len, fun j a ea o e' => ?_, fun j k t' u p' e1 e2 e3 e4 => ?_⟩
  · by_cases ij : i = j
    · subst ij
      obtain ⟨l1, e1⟩ := List.getElem?_eq_some_iff.mp ea
      rw [List.getElem_set_self] at e1
      rw [es] at e'
      cases e1
      cases e'
      exact ⟨p, rfl, m, nr, ws, upd_same, Reps.kb kB (fun _ z => .inl z) r⟩
    · rw [List.getElem?_set_ne ij] at ea
      have h := rs.sl j a ea o e'
      cases a with
      | no => exact True.intro
      | va t =>
        cases o with
        | none => exact h
        | some v => exact Rep.kb kB (fun _ z => .inl z) h
      | ow u =>
        cases o with
        | none => exact h
        | some v =>
          obtain ⟨q, rfl, m1, n1, q1⟩ := h
          refine ⟨q, rfl, m1, n1, ?_⟩
          have nq : q ≠ p := fun z => by
            subst z
            exact ij (rs.inj i j t u q ei ea es e')
          cases u with
          | lst xs =>
            obtain ⟨us, eu, q1⟩ := q1
            exact ⟨us, ne q _ nq eu, q1.kb kB (fun _ z => .inl z)⟩
          | _ => exact q1
      | bo t =>
        cases o with
        | none => exact h
        | some v => exact RepM.kb kB k (fun _ z => .inl z) (fun _ z => .inl z) h
      | cl F =>
        cases o with
        | none => exact h
        | some v => exact c.C.clD h e
  · have g : ∀ (j : Nat) (t' : PV), (fr.set i (.ow (.lst xs)))[j]? = some (.ow t') → ∃ t2, fr[j]? = some (.ow t2) := fun j t' e => by
      by_cases ij : i = j
      · subst ij; exact ⟨t, ei⟩
      · rw [List.getElem?_set_ne ij] at e; exact ⟨t', e⟩
    obtain ⟨t1, f1⟩ := g j t' e1
    obtain ⟨t2, f2⟩ := g k u e2
    exact rs.inj j k t1 t2 p' f1 f2 e3 e4
/-- some lists of one's own are one's own no longer -/
theorem RS.frz {f : Nat → Bool} {N : Addr → Prop} (rs : c.RS M S H s fr) (hN : ∀ a, N a ↔ M a ∧ ∀ (i : Nat) (t : PV), f i = true → fr[i]? = some (.ow t) → s[i]? ≠ some (some (.ref a))) :
    c.RS N S H s (fr.mapIdx fun i a => if f i then a.froz else a) :=
  have hM : ∀ a, N a → M a := fun a z => ((hN a).mp z).1
  have kN : ∀ a ∈ c.r, N a := fun a z => (hN a).mpr ⟨rs.rm a z, fun i t _ e e' => by
    obtain ⟨v, e1, p, rfl, m, nr, _⟩ := rs.at e (fun z => nomatch z)
    rw [e1] at e'
    cases e'
    exact nr z⟩
  have hB : ∀ a, c.B N a → c.B M a ∨ H a = none := fun a z => .inl (z.imp id (hM a))
  have key : ∀ (i : Nat) (a : Sl), (fr.mapIdx fun i a => if f i then a.froz else a)[i]? = some a → ∃ b, fr[i]? = some b ∧ a = (if f i then b.froz else b) := fun i a e => by
    rw [List.getElem?_mapIdx, Option.map_eq_some_iff] at e
    obtain ⟨b, e1, rfl⟩ := e
    exact ⟨b, e1, rfl⟩
  ⟨rs.kp, rs.ut, fun a z => rs.mt a (hM a z), fun a z n => rs.mn a (hM a z) n, rs.ru, kN, St.mono rs.st .refl hB (fun _ _ _ e => e), by rw [List.length_mapIdx]; exact rs.len, fun i a e o e' => by
    obtain ⟨b, e1, rfl⟩ := key i a e
    have h := rs.sl i b e1 o e'
    cases b with
    | no => cases f i <;> exact True.intro
    | va t =>
      cases o with
      | none => cases f i <;> exact h
      | some v => cases f i <;> exact Rep.kb .refl hB h
    | ow t =>
      cases o with
      | none => cases f i <;> exact h
      | some v =>
        obtain ⟨p, rfl, m, n, q⟩ := h
        cases hf : f i with
        | true =>
          show Rep _ _ _ _ _ _
          cases t with
          | lst xs =>
            obtain ⟨vs, e, q⟩ := q
            simp only [Rep]
            refine ⟨p, vs, rfl, ⟨e, fun z => ?_⟩, q.kb .refl hB⟩
            rcases z with z | z
            · exact absurd (rs.mn p m n) (rs.ut p z)
            · exact ((hN p).mp z).2 i _ hf e1 e'
          | _ => exact q.elim
        | false =>
          refine ⟨p, rfl, (hN p).mpr ⟨m, fun j t' fj ej z => ?_⟩, n, ?_⟩
          · have := rs.inj i j _ t' p e1 ej e' z
            subst this
            rw [hf] at fj
            exact nomatch fj
          · cases t with
            | lst xs =>
              obtain ⟨vs, e, q⟩ := q
              exact ⟨vs, e, q.kb .refl hB⟩
            | _ => exact q
    | bo t =>
      cases o with
      | none => cases f i <;> exact h
      | some v => cases f i <;> exact RepM.kb .refl .refl hB (fun a z => .inl (hM a z)) h
    | cl F =>
      cases o with
      | none => cases f i <;> exact h
      | some v => cases f i <;> exact h, fun i j t u p e1 e2 e3 e4 => by
    obtain ⟨b, f1, g1⟩ := key i _ e1
    obtain ⟨d, f2, g2⟩ := key j _ e2
    have : ∀ (b : Sl) (k : Bool) (t : PV), Sl.ow t = (if k then b.froz else b) → b = .ow t := fun b k t e => by
      cases k
      · exact e.symm
      · cases b <;> exact nomatch e
    have g1 := this _ _ _ g1
    have g2 := this _ _ _ g2
    subst g1 g2
    exact rs.inj i j t u p f1 f2 e3 e4⟩
end
end Q
/-! Qm: new lists; statements. -/
namespace Q
open PySem PySem.Spec PyProof.Rows L2
/-! ### new lists -/
def PoF (c : Cn) (M : Addr → Prop) (H : Hp) (res : Re PV) (q : VK) : Prop := match res with
  | .ok t S' => t.isC = true ∧ ∀ p H', Kp c.r H H' → H p = none → H' p ≠ none → c.St (plusD M p) S' H' → Cnt c.C (c.B (plusD M p)) c.r H' t p → q (.ref p) H'
  | _ => False
def LF (c : Cn) (m : SE) : TE := fun s H q => ∃ M S fr, c.RS M S H s fr ∧ PoF c M H (m fr S) q
section
variable {X : Cx} {c : Cn} {M M' : Addr → Prop} {S S' : Sto} {H H' : Hp} {s s' : L2.St} {fr fr' : Fr} {D : Addr} {q : VK} {res : Re PV}
theorem mono_down {B B' : Addr → Prop} (h : ∀ a, B' a → B a) : ∀ a, B' a → B a ∨ H a = none := fun a z => .inl (h a z)
theorem St.down (st : c.St M' S H) (h : ∀ a, M a → M' a) : c.St M S H := St.mono st .refl (mono_down fun a z => z.imp id (h a)) fun _ _ _ e => e
theorem StoR.there {C : RC} {B : Addr → Prop} {r : List Addr} (st : StoR C B r S H) {a : Addr} (z : a ∈ r) : H a ≠ none := by
  obtain ⟨i, hi, e⟩ := List.getElem_of_mem z
  have l : i < S.length := by rw [← st.len]; exact hi
  have q := st.at_ i a S[i] (by rw [List.getElem?_eq_getElem hi, e]) (List.getElem?_eq_getElem l)
  revert q
  cases S[i] with
  | lst xs => rintro ⟨vs, e, _⟩; rw [e]; exact fun z => nomatch z
  | _ => exact fun z => z.elim
theorem new_back (k : Kp c.r H H') (st : c.St M S H') {p : Addr} (n : H' p = none) : H p = none := by
  cases e : H p with
  | none => rfl
  | some o => exact absurd n (by
    by_cases z : p ∈ c.r
    · exact st.there z
    · exact k.there (by rw [e]; exact fun z => nomatch z) z)
/-- behind a piece -/
theorem PoF.bind {α β : Type} {x : Re α} {f : α → Sto → Re PV} {R : Hp → α → β → Prop} {q' : β → Hp → Prop}
    (h : PoF c M H (x.bind f) q) (g : ∀ t S' v H', Kp c.r H H' → c.St M S' H' → R H' t v → PoF c M H' (f t S') q → q' v H') : PoE c M H x R q' := by
  cases x with
  | ok t S' =>
    intro v H' k st r
    refine g t S' v H' k st r ?_
    have h : PoF c M H (f t S') q := h
    revert h
    cases f t S' with
    | ok u S2 => exact fun h => ⟨h.1, fun p H2 k2 n n2 st2 r2 => h.2 p H2 (k.trans k2) (new_back k st n) n2 st2 r2⟩
    | ex c as S2 => exact fun h => h
    | bad => exact fun h => h
  | ex c as S' => exact h
  | bad => exact h
/-- a list is laid -/
theorem PoF.new {xs : List PV} {vs : List V} (rb : ∀ a ∈ c.r, c.B M a) (h : PoF c M H (.ok (.lst xs) S) q) (st : c.St M S H) (r : c.Rs M H xs vs) (p : Addr) (n : H p = none) : q (.ref p) (upd H p (.lst vs)) :=
  have k : Kp c.r H (upd H p (.lst vs)) := Kp.upd_new n
  have bx : ∀ a, c.B (plusD M p) a → c.B M a ∨ H a = none := fun a z => z.elim (fun z => .inl (.inl z)) fun z => z.elim (fun z => .inl (.inr z)) fun e => .inr (by rw [e]; exact n)
  h.2 p _ k n (by rw [upd_same]; exact fun z => nomatch z) (St.mono st (k.kb rb) bx fun _ _ _ e => upd_keeps n _ _ e) ⟨vs, upd_same, Reps.kb (k.kb rb) bx r⟩
section
variable {e a b d : Expr} {es rest : List Expr} {ma mb md : SE} {ba bb : SB} {m : SA} {pos p : Pos} {x : Str}
theorem fits_le' {n : Nat} (h : fits n = true) : n ≤ sizeLine := by rw [sizeLine_eq]; exact of_decide_eq_true h
theorem f_lst (h : PA X es (LA c m)) : PE X (.List es pos) (LF c (eLst m)) :=
  (pe_lst h).w fun s H q ⟨M, S, fr, rs, h⟩ => ⟨M, S, fr, rs, PoF.bind h fun xs S1 vs H1 k1 st1 r1 h1 => by
    by_cases z : fits xs.length = true
    · simp only [z, if_true] at h1
      exact ⟨by rw [← Reps.len r1]; exact fits_le' z, fun p n => h1.new rs.rb st1 r1 p n⟩
    · simp only [z] at h1
      exact h1.elim⟩
theorem f_list (hv : bootBuiltins x = some (.type "list")) (hc : CallR X (.type "list") (fun xs H Q => ∃ p ys, xs = [.ref p] ∧ (SqL c.C.K H p ys ∨ SqT c.C.K H p ys) ∧ ∀ l, H l = none → Q (.ref l) (upd H l (.lst ys)))) (hg : Gl X x) (hm : X.mg x = none) (ha : PA X (e :: es) (LAp c m))
    (hn : x ≠ "__name__") (hdb : (x == ("__debug__" : Str)) = false) (he : starEach (e :: es) X.env = (false, eval e X.env) :: starEach es X.env) (hpl : (backTo pos (starEach es X.env)).any (·.1) = false) : PE X (.Call (.Name x p) (e :: es) [] pos) (LF c (eBi bList m)) :=
  (pe_callTy hc hg hm hv ha hn hdb he hpl).w fun s H q ⟨M, S, fr, rs, h⟩ => ⟨M, S, fr, rs, PoF.bind h fun xs S1 vs H1 k1 st1 r1 h1 => by
    cases e : bList xs with
    | none => rw [e] at h1; exact h1.elim
    | some z =>
      rw [e] at h1
      unfold bList at e
      split at e
      · cases e
        obtain ⟨v, rfl, r3⟩ := rps1 r1
        obtain ⟨a, ws, rfl, s, r2⟩ := rp_tup r3
        exact ⟨a, ws, rfl, .inr s, fun p n => h1.new rs.rb st1 r2 p n⟩
      · cases e
        obtain ⟨v, rfl, r3⟩ := rps1 r1
        obtain ⟨a, ws, rfl, s, _, r2⟩ := rp_lst r3
        exact ⟨a, ws, rfl, .inl (.of s), fun p n => h1.new rs.rb st1 r2 p n⟩
      · exact nomatch e⟩
/-- list + list, list * int, as new lists -/
@[simp] def eCatL (a b : SE) : SE := fun fr S => (a fr S).bind fun x S1 => (b fr S1).bind fun y S2 => .of (catL x y) S2
@[simp] def eRepL (a b : SE) : SE := fun fr S => (a fr S).bind fun x S1 => (b fr S1).bind fun y S2 => .of (repL x y) S2
theorem f_cat (ha : PE X a (LP c ma)) (hb : PE X b (LP c mb)) : PE X (.BinOp a .Add b pos) (LF c (eCatL ma mb)) :=
  (pe_op op_cat ha hb).w fun s H q ⟨M, S, fr, rs, h⟩ => ⟨M, S, fr, rs, PoF.bind h fun x S1 v H1 k1 st1 r1 h1 => ⟨M, S1, fr, rs.step k1 st1, PoF.bind h1 fun y S2 w H2 k2 st2 r2 h2 => by
    cases e : catL x y with
    | none => rw [e] at h2; exact h2.elim
    | some z =>
      rw [e] at h2
      unfold catL at e
      split at e
      · split at e
        · rename_i hf
          cases e
          obtain ⟨a, vs, rfl, s1, _, q1⟩ := rp_lst (RepP.k k2 rs.rb r1)
          obtain ⟨b, ws, rfl, s2, _, q2⟩ := rp_lst r2
          exact ⟨a, b, vs, ws, rfl, rfl, s1, s2, by rw [← q1.len, ← q2.len]; exact fits_le' hf, fun p n => h2.new rs.rb st2 (q1.append q2) p n⟩
        · exact nomatch e
      · exact nomatch e⟩⟩
theorem f_rep (ha : PE X a (LP c ma)) (hb : PE X b (LP c mb)) : PE X (.BinOp a .Mult b pos) (LF c (eRepL ma mb)) :=
  (pe_op op_rep ha hb).w fun s H q ⟨M, S, fr, rs, h⟩ => ⟨M, S, fr, rs, PoF.bind h fun x S1 v H1 k1 st1 r1 h1 => ⟨M, S1, fr, rs.step k1 st1, PoF.bind h1 fun y S2 w H2 k2 st2 r2 h2 => by
    cases e : repL x y with
    | none => rw [e] at h2; exact h2.elim
    | some z =>
      rw [e] at h2
      unfold repL at e
      split at e
      · split at e
        · rename_i hf
          cases e
          simp only [Bool.and_eq_true, decide_eq_true_eq] at hf
          obtain ⟨⟨h1, h2'⟩, h3⟩ := hf
          obtain ⟨a, vs, rfl, s1, _, q1⟩ := rp_lst (RepP.k k2 rs.rb r1)
          exact ⟨a, _, vs, rfl, rp_int r2, s1, h3, h2', by rw [← q1.len, sizeLine_eq]; exact h1, fun p n => h2.new rs.rb st2 (q1.rep _) p n⟩
        · exact nomatch e
      · exact nomatch e⟩⟩
end

section
variable {elt tg iter : Expr} {ifs : List Expr} {me : SE} {cb : SB} {mi : SI} {pos p : Pos} {is vs : List Nat} {g : TG} {tgm : TgS}
theorem lc_ofF {σ : L2.St} {H : Hp} {q : VK} (hv : ∀ i ∈ is, i ∈ vs) (tgo : TgOk c is g tgm) (h : LF c (eLc vs mi tgm cb me) σ H q) : tLc (LI c mi) g (LB c cb) (LE c me) vs σ H q := by
  obtain ⟨M, S, fr, rs, h⟩ := h
  refine ⟨M, S, fr, rs, PoF.bind h fun xs S1 J H1 k1 st1 w h1 => fun D n => lc_read (H := H1) hv tgo (rs.step k1 st1) w n ?_⟩
  have rs1 := rs.step k1 st1
  revert h1
  cases lcGo tgm cb me (wipeF fr vs) xs S1 with
  | ok ys S2 => exact fun h1 ws H' k st e r => h1.2 D H' k n (by rw [e]; exact fun z => nomatch z) st ⟨ws, e, r⟩
  | _ => exact fun h => h
theorem f_lc {scope : Scope} {own : List (Str × Nat)} (hc : X.calm = true) (hN : X.N.Nodup) (hi : PI X tg iter (LI c mi)) (ok : BlkOk X.N X.env.scope scope own) (hv : ∀ i ∈ is, i ∈ own.map (·.2)) (tgo : TgOk c is g tgm)
    (hg : ∀ (s : Shared) (H : Hp) (C : Addr) (cl : List (Str × Addr)) (fp : List Addr), PG (X.blk s H scope (compEnvC scope cl C X.env) fp) tg g) (ht : ∀ (s : Shared) (H : Hp) (C : Addr) (cl : List (Str × Addr)) (fp : List Addr), PTs (X.blk s H scope (compEnvC scope cl C X.env) fp) ifs (LB c cb))
    (he : ∀ (s : Shared) (H : Hp) (C : Addr) (cl : List (Str × Addr)) (fp : List Addr), PE (X.blk s H scope (compEnvC scope cl C X.env) fp) elt (LE c me)) (hs : ∀ x, foldedSetIterable iter X.env x = pure x := by intro _; rfl) :
    PE X (.ListComp elt [⟨tg, iter, ifs, 0⟩] scope pos) (LF c (eLc (own.map (·.2)) mi tgm cb me)) :=
  (pe_lc hc hN hi ok hg ht he hs).w fun _ _ _ h => lc_ofF hv tgo h
end
end
end Q
/-! Qn: statements. -/
namespace Q
open PySem PySem.Spec PyProof.Rows L2
def PoS (c : Cn) (M : Addr → Prop) (H : Hp) (res : Ou) (D : Ends) : Prop := match res with
  | .nx fr S => ∀ M' s' H', Kq M H M' H' → c.RS M' S H' s' fr → D.nx s' H'
  | .bk fr S => ∀ M' s' H', Kq M H M' H' → c.RS M' S H' s' fr → D.bk s' H'
  | .ct fr S => ∀ M' s' H', Kq M H M' H' → c.RS M' S H' s' fr → D.ct s' H'
  | .rt t S => ∀ v H', Kp c.r c.H0 H' → StoR c.C c.U c.r S H' → Rep c.C c.U c.r H' t v → D.rt v H'
  | _ => False
def LS (c : Cn) (m : SS) : TS := fun D s H => ∃ M S fr, c.RS M S H s fr ∧ PoS c M H (m fr S) D
section
variable {X : Cx} {c : Cn} {M M' M1 : Addr → Prop} {S S' : Sto} {H H' H1 : Hp} {s s' : L2.St} {fr fr' : Fr} {D : Ends} {q : VK} {res : Ou}
theorem PoS.trans (k : Kq M H M1 H1) (h : PoS c M H res D) : PoS c M1 H1 res D := by
  cases res with
  | nx fr S => exact fun M' s' H' k' rs => h M' s' H' (k.trans k') rs
  | bk fr S => exact fun M' s' H' k' rs => h M' s' H' (k.trans k') rs
  | ct fr S => exact fun M' s' H' k' rs => h M' s' H' (k.trans k') rs
  | _ => exact h
theorem PoS.bind {α β : Type} {x : Re α} {f : α → Sto → Ou} {R : Hp → α → β → Prop} {q' : β → Hp → Prop} (rm : ∀ a ∈ c.r, M a)
    (h : PoS c M H (x.thn f) D) (g : ∀ t S' v H', Kp c.r H H' → c.St M S' H' → R H' t v → PoS c M H' (f t S') D → q' v H') : PoE c M H x R q' := by
  cases x with
  | ok t S' => exact fun v H' k st r => g t S' v H' k st r (PoS.trans (k.kq rm) (show PoS c M H (f t S') D from h))
  | ex c as S' => exact h
  | bad => exact h
theorem Kq.plus (k : Kp c.r H H') (rm : ∀ a ∈ c.r, M a) {p : Addr} (n : H p = none) : Kq M H (plusD M p) H' :=
  ⟨(k.kq rm).keep, k.tups, k.frzs, k.tbls, fun a z => z.imp id fun e => by rw [e]; exact n⟩
theorem RS.plusG (rs : c.RS M S H s fr) (k : Kp c.r H H') {p : Addr} (n : H p = none) (n2 : H' p ≠ none) (st : c.St (plusD M p) S' H') : c.RS (plusD M p) S' H' s fr :=
  rs.grow k st (fun _ z => .inl z) (fun a z => z.imp id fun e => by rw [e]; exact n) fun a z => by
    rcases z with z | z
    · by_cases r : a ∈ c.r
      · exact st.there r
      · exact k.there (rs.mt a z) r
    · rw [z]; exact n2
theorem PoS.bindF {x : Re PV} {f : PV → Sto → Ou} {q' : VK} (rs : c.RS M S H s fr)
    (h : PoS c M H (x.thn f) D) (hc : ∀ t S', PoS c M H (f t S') D → t.isC = true) (g : ∀ t S' p H', t.isC = true → H p = none → c.RS (plusD M p) S' H' s fr → Cnt c.C (c.B (plusD M p)) c.r H' t p → PoS c (plusD M p) H' (f t S') D → q' (.ref p) H') : PoF c M H x q' := by
  cases x with
  | ok t S' =>
    have h : PoS c M H (f t S') D := h
    exact ⟨hc t S' h, fun p H' k n n2 st r => g t S' p H' (hc t S' h) n (rs.plusG k n n2 st) r (h.trans (Kq.plus k rs.rm n))⟩
  | ex c as S' => exact h
  | bad => exact h
section
variable {st : Stmt} {rest sts sts' : List Stmt} {a b : SS} {e e2 tg : Expr} {m m2 m3 mk : SE} {cb : SB} {mi : SI} {pos : Pos} {i j : Nat} {x : Str}
theorem s_nil : PSs X [] (LS c sNil) := pss_nil.w fun D s H ⟨M, S, fr, rs, h⟩ => h M s H .refl rs
theorem s_cons (h1 : PS X st (LS c a)) (h2 : PSs X rest (LS c b)) : PSs X (st :: rest) (LS c (sSeq a b)) :=
  (pss_cons h1 h2).w fun D s H ⟨M, S, fr, rs, h⟩ => ⟨M, S, fr, rs, by
    simp only [sSeq] at h
    revert h
    cases a fr S with
    | nx fr1 S1 => exact fun h M' s' H' k rs' => ⟨M', S1, fr1, rs', h.trans k⟩
    | _ => exact fun h => h⟩
theorem s_one (h1 : PS X st (LS c a)) : PSs X [st] (LS c a) := pss_one h1
theorem s_frz (h1 : PS X st (LS c a)) : PS X st (LS c (sFrz i a)) := h1.w fun D s H ⟨M, S, fr, rs, h⟩ => by
  simp only [sFrz] at h
  split at h
  · rename_i b e
    have e2 : fr.set i b.froz = fr.mapIdx fun j a => if (j == i) then a.froz else a := by
      refine List.ext_getElem? fun j => ?_
      rw [List.getElem?_mapIdx]
      by_cases ij : i = j
      · subst ij
        obtain ⟨l, e'⟩ := List.getElem?_eq_some_iff.mp e
        rw [List.getElem?_set_self l, e]
        simp
      · rw [List.getElem?_set_ne ij]
        have : (j == i) = false := by simpa using fun z => ij z.symm
        cases fr[j]? <;> simp [this]
    rw [e2] at h
    have rs' := rs.frz (f := fun j => j == i) (N := fun a => M a ∧ ∀ (k : Nat) (t : PV), (k == i) = true → fr[k]? = some (.ow t) → s[k]? ≠ some (some (.ref a))) fun a => Iff.rfl
    exact ⟨_, S, _, rs', h.trans ⟨fun a o e n _ => by
      exact e, fun _ _ e => e, fun _ _ _ e => e, fun a ps e => ⟨#[], by rw [e]; simp⟩, fun a z => .inl z.1⟩⟩
  · exact h.elim
/-- the reading of a value that goes into a name -/
theorem asg_set (h : LS c (sSet i m) D s H) : LE c m s H fun v H1 => gName i v s H1 D.nx := by
  obtain ⟨M, S, fr, rs, h⟩ := h
  exact ⟨M, S, fr, rs, PoS.bind rs.rm h fun t S1 v H1 k st r h1 => h1 M _ H1 .refl ((rs.step k st).set i r)⟩
theorem asg_own (h : LS c (sOwn i m) D s H) : LF c m s H fun v H1 => gName i v s H1 D.nx := by
  obtain ⟨M, S, fr, rs, h⟩ := h
  refine ⟨M, S, fr, rs, PoS.bindF rs h (fun t S' h => ?_) fun t S1 p H1 tc n rs1 r h1 => ?_⟩
  · split at h
    · assumption
    · exact h.elim
  · rw [if_pos tc] at h1
    exact h1 _ _ H1 .refl (rs1.own i (.inr rfl) (fun z => rs.mt p (rs.rm p z) n) r fun j u _ e => rs.far (fun z => rs.mt p z n) j u e)
theorem s_set {px : Pos} (he : PE X e (LE c m)) (hN : X.N.Nodup) (hi : X.N[i]? = some x) (hx : Loc X.env.scope x) (hf : X.fn x = true ∨ X.env.scope.names.lookup x = some .local) (hs : swapsWith e (some (.Name x px)) pos.line X.env = pure false) : PS X (.Assign [.Name x px] e pos) (LS c (sSet i m)) :=
  (ps_set hN hi hx he hs hf).w fun D s H h => asg_set h
theorem s_own {px : Pos} (he : PE X e (LF c m)) (hN : X.N.Nodup) (hi : X.N[i]? = some x) (hx : Loc X.env.scope x) (hf : X.fn x = true ∨ X.env.scope.names.lookup x = some .local) (hs : swapsWith e (some (.Name x px)) pos.line X.env = pure false) : PS X (.Assign [.Name x px] e pos) (LS c (sOwn i m)) :=
  (ps_set hN hi hx he hs hf).w fun D s H h => asg_own h
section
variable {elt iter : Expr} {ifs : List Expr} {me : SE} {spos py : Pos} {is : List Nat} {g : TG} {tgm : TgS} {y : Str}
theorem s_setLc {scope : Scope} {own : List (Str × Nat)} (hc : X.calm = true) (hN : X.N.Nodup) (hy : X.N[i]? = some y) (hyl : X.env.scope.names.lookup y = some .local) (hsw : swapsWith (.ListComp elt [⟨tg, iter, ifs, 0⟩] scope pos) (some (.Name y py)) spos.line X.env = pure true)
    (hi : PI X tg iter (LI c mi)) (ok : BlkOk X.N X.env.scope scope own) (hv : ∀ i ∈ is, i ∈ own.map (·.2)) (tgo : TgOk c is g tgm)
    (hg : ∀ (s : Shared) (H : Hp) (C : Addr) (cl : List (Str × Addr)) (fp : List Addr), PG (X.blk s H scope (compEnvC scope cl C X.env) fp) tg g) (ht : ∀ (s : Shared) (H : Hp) (C : Addr) (cl : List (Str × Addr)) (fp : List Addr), PTs (X.blk s H scope (compEnvC scope cl C X.env) fp) ifs (LB c cb))
    (he : ∀ (s : Shared) (H : Hp) (C : Addr) (cl : List (Str × Addr)) (fp : List Addr), PE (X.blk s H scope (compEnvC scope cl C X.env) fp) elt (LE c me)) (hs : ∀ x, foldedSetIterable iter X.env x = pure x := by intro _; rfl) :
    PS X (.Assign [.Name y py] (.ListComp elt [⟨tg, iter, ifs, 0⟩] scope pos) spos) (LS c (sSet i (eLc (own.map (·.2)) mi tgm cb me))) :=
  (ps_setLc hc hN hy hyl hsw hi ok hg ht he hs).w fun D s H h => lc_of hv tgo (asg_set h)
theorem s_ownLc {scope : Scope} {own : List (Str × Nat)} (hc : X.calm = true) (hN : X.N.Nodup) (hy : X.N[i]? = some y) (hyl : X.env.scope.names.lookup y = some .local) (hsw : swapsWith (.ListComp elt [⟨tg, iter, ifs, 0⟩] scope pos) (some (.Name y py)) spos.line X.env = pure true)
    (hi : PI X tg iter (LI c mi)) (ok : BlkOk X.N X.env.scope scope own) (hv : ∀ i ∈ is, i ∈ own.map (·.2)) (tgo : TgOk c is g tgm)
    (hg : ∀ (s : Shared) (H : Hp) (C : Addr) (cl : List (Str × Addr)) (fp : List Addr), PG (X.blk s H scope (compEnvC scope cl C X.env) fp) tg g) (ht : ∀ (s : Shared) (H : Hp) (C : Addr) (cl : List (Str × Addr)) (fp : List Addr), PTs (X.blk s H scope (compEnvC scope cl C X.env) fp) ifs (LB c cb))
    (he : ∀ (s : Shared) (H : Hp) (C : Addr) (cl : List (Str × Addr)) (fp : List Addr), PE (X.blk s H scope (compEnvC scope cl C X.env) fp) elt (LE c me)) (hs : ∀ x, foldedSetIterable iter X.env x = pure x := by intro _; rfl) :
    PS X (.Assign [.Name y py] (.ListComp elt [⟨tg, iter, ifs, 0⟩] scope pos) spos) (LS c (sOwn i (eLc (own.map (·.2)) mi tgm cb me))) :=
  (ps_setLc hc hN hy hyl hsw hi ok hg ht he hs).w fun D s H h => lc_ofF hv tgo (asg_own h)
end
theorem s_expr (he : PE X e (LE c m)) (hs : swapsWith e none pos.line X.env = pure false) : PS X (.Expr e pos) (LS c (sExpr m)) :=
  (ps_expr he hs).w fun D s H ⟨M, S, fr, rs, h⟩ => ⟨M, S, fr, rs, PoS.bind rs.rm h fun t S1 v H1 k st r h1 => h1 M s H1 .refl (rs.step k st)⟩
theorem s_unp {is : List Nat} {n : Nat} (hk : X.K = c.C.K) (he : PE X e (LE c m)) (hg : PG X tg (gTup X.K n (gNames is))) (hn : is.length = n) (hs : swapsWithSole [tg] e pos.line X.env = pure false) (hw : swappedStores [tg] e X.env = pure none) (h1 : (assignEach [tg] X.env).map (·.2) = [assign tg X.env]) : PS X (.Assign [tg] e pos) (LS c (sUnp is m)) :=
  (ps_asg he hg hs hw h1).w fun D s H ⟨M, S, fr, rs, h⟩ => ⟨M, S, fr, rs, PoS.bind rs.rm h fun t S1 v H1 k st r h1 => by
    cases e1 : tT is t fr with
    | none => simp only [e1] at h1; exact h1.elim
    | some fr1 =>
      simp only [e1] at h1
      rw [hk]
      exact tg_tup hn M S1 H1 s fr t v fr1 _ (rs.step k st) r e1 fun s1 rs1 _ => h1 M s1 H1 .refl rs1⟩
theorem s_ret (he : PE X e (LE c m)) : PS X (.Return (some e) pos) (LS c (sRet m)) :=
  (ps_ret he).w fun D s H ⟨M, S, fr, rs, h⟩ => by
    have e2 : fr.map Sl.froz = fr.mapIdx fun j a => if (fun _ => true) j then a.froz else a := by
      refine List.ext_getElem? fun j => ?_
      rw [List.getElem?_mapIdx, List.getElem?_map]
      cases fr[j]? <;> simp
    simp only [sRet] at h
    rw [e2] at h
    have rs' := rs.frz (f := fun _ => true) (N := fun a => M a ∧ ∀ (k : Nat) (t : PV), true = true → fr[k]? = some (.ow t) → s[k]? ≠ some (some (.ref a))) fun a => Iff.rfl
    refine ⟨_, S, _, rs', PoS.bind rs'.rm (h.trans ⟨fun a o e n _ => e, fun _ _ e => e, fun _ _ _ e => e, fun a ps e => ⟨#[], by rw [e]; simp⟩, fun a z => .inl z.1⟩) fun t S1 v H1 k st r h1 => ?_⟩
    refine h1 v H1 (rs.kp.trans k) ?_ (Rep.kb .refl (mono_down fun a z => .inl z) r)
    exact ⟨st.len, st.nd, fun i p t e1 e2 => by
      have q := st.at_ i p t e1 e2
      cases t with
      | lst xs =>
        obtain ⟨vs, e, q⟩ := q
        exact ⟨vs, e, q.kb .refl (mono_down fun a z => .inl z)⟩
      | _ => exact q⟩
theorem StoR.up (st : c.St M S H) : StoR c.C c.U c.r S H := ⟨st.len, st.nd, fun i p t e1 e2 => by
      have q := st.at_ i p t e1 e2
      cases t with
      | lst xs =>
        obtain ⟨vs, e, q⟩ := q
        exact ⟨vs, e, q.kb .refl (mono_down fun a z => .inl z)⟩
      | _ => exact q⟩
theorem s_retN : PS X (.Return none pos) (LS c sRetN) := ps_retN.w fun D s H ⟨M, S, fr, rs, h⟩ => h .non H rs.kp (StoR.up rs.st) (.flat rfl)
theorem s_if {d : Expr} (hc : PT X d (LB c cb)) (ha : PSs X sts (LS c a)) (hb : PSs X sts' (LS c b)) : PS X (.If d sts sts' pos) (LS c (sIf cb a b)) :=
  (ps_if hc ha hb).w fun D s H ⟨M, S, fr, rs, h⟩ => ⟨M, S, fr, rs, PoS.bind rs.rm h fun k S1 v H1 kp st r h1 => by
    have r : v = k := r
    subst r
    cases v with
    | true => exact ⟨M, S1, fr, rs.step kp st, h1⟩
    | false => exact ⟨M, S1, fr, rs.step kp st, h1⟩⟩
theorem s_brk : PS X (.Break pos) (LS c sBrk) := ps_break.w fun D s H ⟨M, S, fr, rs, h⟩ => h M s H .refl rs
theorem s_cnt : PS X (.Continue pos) (LS c sCnt) := ps_continue.w fun D s H ⟨M, S, fr, rs, h⟩ => h M s H .refl rs
theorem s_pass : PS X (.Pass pos) (LS c sNil) := ps_pass.w fun D s H ⟨M, S, fr, rs, h⟩ => h M s H .refl rs
/-- what is never come to -/
theorem s_bad : PS X st (LS c sBad) := ps_never.w fun D s H ⟨M, S, fr, rs, h⟩ => h
theorem ss_bad : PSs X sts (LS c sBad) := pss_never.w fun D s H ⟨M, S, fr, rs, h⟩ => h
theorem forGo_cons {tgm : TgS} {x : PV} {r : List PV} : forGo tgm b (x :: r) fr S = match tgm x fr with
    | none => .bad
    | some fr1 => match b fr1 S with
      | .nx fr2 S2 => forGo tgm b r fr2 S2
      | .ct fr2 S2 => forGo tgm b r fr2 S2
      | .bk fr2 S2 => .nx fr2 S2
      | .rt t S2 => .rt t S2
      | .ex c as S2 => .ex c as S2
      | .bad => .bad := rfl
theorem s_for {iter : Expr} {is : List Nat} {g : TG} {tgm : TgS} (hp : PassesOwn (model X.prog X.w) X.A X.env X.xe) (hc : X.calm = true) (hi : PI X tg iter (LI c mi)) (hg : PG X tg g) (tgo : TgOk c is g tgm) (hb : PSs X sts (LS c b)) (hs : ∀ x, foldedSetIterable iter X.env x = pure x) : PS X (.For tg iter sts [] pos) (LS c (sFor mi tgm b)) :=
  (ps_for hp hc hi hg hb hs).w fun D s H ⟨M, S, fr, rs, h⟩ => ⟨M, S, fr, rs, PoS.bind rs.rm h fun xs S1 J H1 k st w h1 => by
    obtain ⟨hz, G, Y, wk, wr⟩ := w
    refine for_it wk (fun i s' H' => ∃ M' S fr, Kq M H1 M' H' ∧ c.RS M' S H' s' fr ∧ PoS c M' H' (forGo tgm b (xs.drop i) fr S) D) ⟨M, S1, fr, .refl, rs.step k st, by rw [List.drop_zero]; exact h1⟩ (fun i s' H' _ ⟨M', S, fr, kq, rs', _⟩ => (wr _ _ kq rs'.rb).1) (fun i x s' H' H2 hi ⟨M', S, fr, kq, rs', hp⟩ y => ?_) fun s' H' ⟨M', S, fr, kq, rs', hp⟩ => ?_
    · obtain ⟨kk, t, et, rt⟩ := (wr _ _ kq rs'.rb).2 i x H2 hi y
      have kH : Kp c.r H' H2 := Kp.of_all kk
      have rs2 := rs'.step kH (rs'.st.k kH rs'.rb kk)
      have ex : xs.drop i = t :: xs.drop (i + 1) := by
        obtain ⟨l, e⟩ := List.getElem?_eq_some_iff.mp et
        rw [List.drop_eq_getElem_cons l, e]
      rw [ex, forGo_cons] at hp
      cases e1 : tgm t fr with
      | none => simp only [e1] at hp; exact hp.elim
      | some fr1 =>
        simp only [e1] at hp
        refine tgo _ S H2 _ _ t x fr1 _ rs2 rt e1 fun s1 rs3 _ => ⟨M', S, fr1, rs3, ?_⟩
        have hp := hp.trans (kH.kq rs'.rm)
        cases e2 : b fr1 S with
        | nx fr2 S2 => simp only [e2] at hp; exact fun M2 s2 H3 k2 rs4 => ⟨M2, S2, fr2, (kq.trans (kH.kq rs'.rm)).trans k2, rs4, hp.trans k2⟩
        | ct fr2 S2 => simp only [e2] at hp; exact fun M2 s2 H3 k2 rs4 => ⟨M2, S2, fr2, (kq.trans (kH.kq rs'.rm)).trans k2, rs4, hp.trans k2⟩
        | bk fr2 S2 => simp only [e2] at hp; exact hp
        | rt t S2 => simp only [e2] at hp; exact hp
        | _ => simp only [e2] at hp; exact hp.elim
    · rw [List.drop_length] at hp
      exact hp M' s' H' .refl rs'⟩
theorem whGo_succ {n : Nat} : whGo cb b (n + 1) fr S = match cb fr S with
    | .ok k S1 => if k then
        match b fr S1 with
        | .nx fr2 S2 => whGo cb b n fr2 S2
        | .ct fr2 S2 => whGo cb b n fr2 S2
        | .bk fr2 S2 => .nx fr2 S2
        | .rt t S2 => .rt t S2
        | .ex c as S2 => .ex c as S2
        | .bad => .bad
      else .nx fr S1
    | .ex c as S1 => .ex c as S1
    | .bad => .bad := rfl
theorem s_wh {d : Expr} {n : Nat} (hp : PassesOwn (model X.prog X.w) X.A X.env X.xe) (hc : PT X d (LB c cb)) (hb : PSs X sts (LS c b)) : PS X (.While d sts [] pos) (LS c (sWh n cb b)) :=
  (ps_while hp hc hb).w fun D s H ⟨M, S, fr, rs, h⟩ => by
    refine ⟨fun m s' H' => ∃ M' S fr, c.RS M' S H' s' fr ∧ PoS c M' H' (whGo cb b m fr S) D, ⟨n, M, S, fr, rs, h⟩, fun m s' H' ⟨M', S, fr, rs', hp⟩ => ?_⟩
    cases m with
    | zero => exact hp.elim
    | succ m =>
      rw [whGo_succ] at hp
      refine ⟨M', S, fr, rs', ?_⟩
      cases e1 : cb fr S with
      | bad => simp only [e1] at hp; exact hp.elim
      | ex _ _ _ => simp only [e1] at hp; exact hp.elim
      | ok k S1 =>
        simp only [e1] at hp
        intro v H2 kp st ev
        have ev : v = k := ev
        subst ev
        have hp := hp.trans (kp.kq rs'.rm)
        have rs2 := rs'.step kp st
        cases v with
        | false =>
          rw [if_neg (by decide)] at hp ⊢
          exact hp M' s' H2 .refl rs2
        | true =>
          rw [if_pos rfl] at hp ⊢
          refine ⟨fun s2 H3 => ∃ M' S fr, c.RS M' S H3 s2 fr ∧ PoS c M' H3 (whGo cb b m fr S) D, fun s2 H3 w => ⟨m, Nat.lt_succ_self m, w⟩, M', S1, fr, rs2, ?_⟩
          cases e2 : b fr S1 with
          | nx fr2 S2 => simp only [e2] at hp; exact fun M2 s2 H3 k2 rs4 => ⟨M2, S2, fr2, rs4, hp.trans k2⟩
          | ct fr2 S2 => simp only [e2] at hp; exact fun M2 s2 H3 k2 rs4 => ⟨M2, S2, fr2, rs4, hp.trans k2⟩
          | bk fr2 S2 => simp only [e2] at hp; exact hp
          | rt t S2 => simp only [e2] at hp; exact hp
          | _ => simp only [e2] at hp; exact hp.elim
end
end
end Q
/-! Qo: several names at once; a list of one's own, of the store, changed. -/
namespace Q
open PySem PySem.Spec PyProof.Rows L2
def SlF (c : Cn) (M : Addr → Prop) (Hs H : Hp) (a : Sl) (v : V) : Prop := match a with
  | .va t => c.R M H t v
  | .ow t => ∃ p, v = .ref p ∧ M p ∧ p ∉ c.r ∧ Hs p = none ∧ H p ≠ none ∧ Cnt c.C (c.B M) c.r H t p
  | _ => False
def SlFs (c : Cn) (M : Addr → Prop) (Hs H : Hp) : List Sl → List V → Prop
  | [], vs => vs = []
  | a :: as, vs => ∃ v vr, vs = v :: vr ∧ SlF c M Hs H a v ∧ SlFs c M Hs H as vr ∧ ∀ (t : PV) (j : Nat) (u : PV), a = .ow t → as[j]? = some (.ow u) → vr[j]? ≠ some v
def PoH (c : Cn) (M : Addr → Prop) (H : Hp) (s : L2.St) (fr : Fr) (res : Re (List Sl)) (q : List V → Hp → Prop) : Prop := match res with
  | .ok as S' => ∀ vs H' M', Kp c.r H H' → (∀ a, M a → M' a) → (∀ a, M' a → M a ∨ H a = none) → c.RS M' S' H' s fr → SlFs c M' H H' as vs → q vs H'
  | _ => False
def LH (c : Cn) (m : SH) : TA := fun s H q => ∃ M S fr, c.RS M S H s fr ∧ PoH c M H s fr (m fr S) q
section
variable {X : Cx} {c : Cn} {M M' M1 : Addr → Prop} {S S' : Sto} {Hs H H' H1 : Hp} {s s' : L2.St} {fr fr' : Fr} {D : Ends} {q : VK} {res : Ou}
theorem SlF.k {a : Sl} {v : V} (h : SlF c M Hs H a v) (rb : ∀ a ∈ c.r, c.B M a) (k : Kp c.r H H') (h0 : ∀ a, M a → M' a) (h1 : ∀ a, M' a → M a ∨ H a = none) : SlF c M' Hs H' a v :=
  have hB : ∀ a, c.B M' a → c.B M a ∨ H a = none := fun a z => z.elim (fun z => .inl (.inl z)) fun z => (h1 a z).imp .inr id
  match a, h with
  | .va t, h => Rep.kb (k.kb rb) hB h
  | .ow t, ⟨p, e, m, n, n1, n2, q⟩ => by
    refine ⟨p, e, h0 p m, n, n1, k.there n2 n, ?_⟩
    cases t with
    | lst xs =>
      obtain ⟨vs, e, q⟩ := q
      exact ⟨vs, k.keep _ _ e n (fun _ z => nomatch z), q.kb (k.kb rb) hB⟩
    | _ => exact q
theorem SlF.back {a : Sl} {v : V} (h : SlF c M H1 H a v) (n : ∀ p, H1 p = none → Hs p = none) : SlF c M Hs H a v :=
  match a, h with
  | .va t, h => h
  | .ow t, ⟨p, e, m, n0, n1, n2, q⟩ => ⟨p, e, m, n0, n p n1, n2, q⟩
theorem SlFs.back : ∀ {as : List Sl} {vs : List V}, SlFs c M H1 H as vs → (∀ p, H1 p = none → Hs p = none) → SlFs c M Hs H as vs
  | [], _, h, _ => h
  | a :: as, _, ⟨v, vr, e, h1, h2, h3⟩, n => ⟨v, vr, e, h1.back n, h2.back n, h3⟩
theorem SlFs.new : ∀ {as : List Sl} {vs : List V} {j : Nat} {u : PV}, SlFs c M Hs H as vs → as[j]? = some (.ow u) → ∃ p, vs[j]? = some (.ref p) ∧ Hs p = none
  | [], _, _, _, _, e => by simp at e
  | a :: as, _, j, u, ⟨v, vr, rfl, h1, h2, h3⟩, e => by
    cases j with
    | zero =>
      simp at e
      subst e
      obtain ⟨p, rfl, _, _, n, _⟩ := h1
      exact ⟨p, by simp, n⟩
    | succ j =>
      obtain ⟨p, e1, n⟩ := h2.new (by simpa using e)
      exact ⟨p, by simpa using e1, n⟩
section
variable {e : Expr} {es : List Expr} {m : SE} {r : SH}
theorem h_nil : PA X [] (LH c hN) := pa_nil.w fun s H q ⟨M, S, fr, rs, h⟩ => h [] H M .refl (fun _ z => z) (fun _ z => .inl z) rs rfl
theorem PoH.bind {α β : Type} {x : Re α} {f : α → Sto → Re (List Sl)} {R : Hp → α → β → Prop} {q : List V → Hp → Prop} {q' : β → Hp → Prop}
    (h : PoH c M H s fr (x.bind f) q) (g : ∀ t S' v H', Kp c.r H H' → c.St M S' H' → R H' t v → PoH c M H s fr (f t S') q → q' v H') : PoE c M H x R q' := by
  cases x with
  | ok t S' => exact fun v H' k st r => g t S' v H' k st r h
  | ex c as S' => exact h
  | bad => exact h
theorem h_val (he : PE X e (LE c m)) (hr : PA X es (LH c r)) (hs : starEach (e :: es) X.env = (false, eval e X.env) :: starEach es X.env) : PA X (e :: es) (LH c (hV m r)) :=
  (pa_cons he hr hs).w fun s H q ⟨M, S, fr, rs, h⟩ => ⟨M, S, fr, rs, PoH.bind h fun t S1 v H1 k st rv h1 => by
    have rs1 := rs.step k st
    refine ⟨M, S1, fr, rs1, ?_⟩
    cases e1 : r fr S1 with
    | ok as S2 =>
      rw [e1] at h1
      intro vs H2 M2 k2 h0 hM rs2 fs
      refine h1 (v :: vs) H2 M2 (k.trans k2) h0 (fun a z => (hM a z).imp id fun z => new_back k st z) rs2 ⟨v, vs, rfl, SlF.k (a := .va t) (Hs := H) rv rs.rb k2 h0 hM, fs.back fun p n => new_back k st n, fun t j u e => nomatch e⟩
    | _ => rw [e1] at h1; exact h1.elim⟩
theorem h_own (he : PE X e (LF c m)) (hr : PA X es (LH c r)) (hs : starEach (e :: es) X.env = (false, eval e X.env) :: starEach es X.env) : PA X (e :: es) (LH c (hO m r)) :=
  (pa_cons he hr hs).w fun s H q ⟨M, S, fr, rs, h⟩ => ⟨M, S, fr, rs, by
    simp only [hO] at h
    cases e0 : m fr S with
    | ok t S1 =>
      rw [e0] at h
      simp only [Re.bind_ok] at h
      have tc : t.isC = true := by
        cases z : t.isC with
        | true => rfl
        | false => rw [z] at h; exact h.elim
      rw [if_pos tc] at h
      refine ⟨tc, fun p H1 k n n2 st cn => ?_⟩
      have rs1 := rs.plusG k n n2 st
      have nr : p ∉ c.r := fun z => rs.mt p (rs.rm p z) n
      refine ⟨plusD M p, S1, fr, rs1, ?_⟩
      have nb : ∀ a, H1 a = none → H a = none := fun a z => by
        cases e : H a with
        | none => rfl
        | some o => exact absurd z (by
          by_cases y : a ∈ c.r
          · exact st.there y
          · exact k.there (by rw [e]; exact fun z => nomatch z) y)
      cases e1 : r fr S1 with
      | ok as S2 =>
        rw [e1] at h
        intro vs H2 M2 k2 h0 hM rs2 fs
        refine h (.ref p :: vs) H2 M2 (k.trans k2) (fun a z => h0 a (.inl z)) (fun a z => ?_) rs2 ⟨.ref p, vs, rfl, SlF.k (a := .ow t) (Hs := H) ⟨p, rfl, .inr rfl, nr, n, n2, cn⟩ rs1.rb k2 h0 hM, fs.back nb, fun t' j u _ ej ev => ?_⟩
        · rcases hM a z with z | z
          · exact z.imp id fun e => by rw [e]; exact n
          · exact .inr (nb a z)
        · obtain ⟨p', e2, n'⟩ := fs.new ej
          rw [ev] at e2
          cases e2
          exact n2 n'
      | _ => rw [e1] at h; exact h.elim
    | _ => rw [e0] at h; exact h.elim⟩
end
def setV : List Nat → List V → L2.St → L2.St
  | i :: is, v :: vs, s => setV is vs (s.set i (some v))
  | _, _, s => s
theorem RS.sets : ∀ {is : List Nat} {as : List Sl} {vs : List V} {s : L2.St} {fr fr1 : Fr}, c.RS M S H s fr → SlFs c M Hs H as vs → (∀ (k j : Nat) (t u : PV) (p : Addr), as[k]? = some (.ow t) → vs[k]? = some (.ref p) → fr[j]? = some (.ow u) → s[j]? ≠ some (some (.ref p))) →
    setSl is as fr = some fr1 → c.RS M S H (setV is vs s) fr1
  | [], [], vs, s, fr, fr1, rs, f, nw, e => by
    have f : vs = [] := f
    subst f
    cases e
    exact rs
  | [], a :: as, _, _, _, _, _, _, _, e => nomatch e
  | i :: is, [], _, _, _, _, _, _, _, e => nomatch e
  | i :: is, a :: as, _, s, fr, fr1, rs, ⟨v, vr, rfl, f1, f2, f3⟩, nw, e => by
    have e : setSl is as (fr.set i a) = some fr1 := e
    show c.RS M S H (setV is vr (s.set i (some v))) fr1
    have rs1 : c.RS M S H (s.set i (some v)) (fr.set i a) := by
      cases a with
      | va t => exact rs.set i f1
      | ow t =>
        obtain ⟨p, rfl, m, n, _, _, q⟩ := f1
        exact rs.own i m n q fun j u _ ej => nw 0 j t u p (by simp) (by simp) ej
      | _ => exact f1.elim
    refine RS.sets rs1 f2 (fun k j t u p e1 e2 e3 e4 => ?_) e
    by_cases ij : i = j
    · subst ij
      obtain ⟨_, z⟩ := List.getElem?_eq_some_iff.mp e3
      rw [List.getElem_set_self] at z
      obtain ⟨_, z'⟩ := List.getElem?_eq_some_iff.mp e4
      rw [List.getElem_set_self] at z'
      cases z'
      exact f3 u k t z e1 e2
    · rw [List.getElem?_set_ne ij] at e3 e4
      exact nw (k + 1) j t u p (by simpa using e1) (by simpa using e2) e3 e4
theorem SlFs.len : ∀ {as : List Sl} {vs : List V}, SlFs c M Hs H as vs → vs.length = as.length
  | [], _, h => by rw [show _ = [] from h]; rfl
  | a :: as, _, ⟨v, vr, e, h1, h2, h3⟩ => by rw [e, List.length_cons, List.length_cons, h2.len]
theorem setSl_len : ∀ {is : List Nat} {as : List Sl} {fr fr1 : Fr}, setSl is as fr = some fr1 → as.length = is.length
  | [], [], _, _, _ => rfl
  | [], a :: as, _, _, e => nomatch e
  | i :: is, [], _, _, e => nomatch e
  | i :: is, a :: as, fr, fr1, e => by
    have h : setSl is as (fr.set i a) = some fr1 := e
    simp only [List.length_cons, setSl_len h]
theorem par_of {is : List Nat} {m : SH} (h : LS c (sPar is m) D s H) : LH c m s H fun vs H1 => vs.length = is.length ∧ D.nx (setV is vs s) H1 := by
  obtain ⟨M, S, fr, rs, h⟩ := h
  refine ⟨M, S, fr, rs, ?_⟩
  simp only [sPar] at h
  cases e : m fr S with
  | ok as S1 =>
    rw [e] at h
    simp only [Re.thn_ok] at h
    cases e1 : setSl is as fr with
    | none => rw [e1] at h; exact h.elim
    | some fr1 =>
      rw [e1] at h
      intro vs H' M' k h0 h1 rs' fs
      refine ⟨by rw [fs.len, setSl_len e1], h M' _ H' ⟨(k.kq rs.rm).keep, k.tups, k.frzs, k.tbls, h1⟩ (rs'.sets fs (fun k j t u p e1 e2 e3 e4 => ?_) e1)⟩
      obtain ⟨p', e5, n⟩ := fs.new e1
      rw [e2] at e5
      cases e5
      exact rs.far (fun z => rs.mt p z n) j u e3 e4
  | _ => rw [e] at h; exact h.elim
theorem s_par2 {i j : Nat} {x y : Str} {a b : Expr} {m : SH} {px py pt pos : Pos} {kt k2 pt2} (hc : X.calm = true) (hN : X.N.Nodup) (hi : X.N[i]? = some x) (hj : X.N[j]? = some y) (hij : i ≠ j)
    (hx : X.env.scope.names.lookup x = some .local) (hy : X.env.scope.names.lookup y = some .local) (ha : PA X [a, b] (LH c m))
    (hw : swappedStores [.Tuple [.Name x px, .Name y py] kt pt] (.Tuple [a, b] k2 pt2) X.env = pure (some [x, y]))
    (hs : swapsWithSole [.Tuple [.Name x px, .Name y py] kt pt] (.Tuple [a, b] k2 pt2) pos.line X.env = pure false) :
    PS X (.Assign [.Tuple [.Name x px, .Name y py] kt pt] (.Tuple [a, b] k2 pt2) pos) (LS c (sPar [i, j] m)) :=
  (ps_par hc hN hi hj hij hx hy ha hw hs).w fun D s H h => by
    obtain ⟨M, S, fr, rs, h⟩ := par_of h
    refine ⟨M, S, fr, rs, ?_⟩
    revert h
    cases m fr S with
    | ok as S1 =>
      intro h vs H' M' k h0 h1 rs' fs
      obtain ⟨l, h⟩ := h vs H' M' k h0 h1 rs' fs
      match vs, l, h with
      | [v, w], _, h => exact ⟨v, w, rfl, h⟩
    | _ => exact fun h => h
theorem s_par3 {i j l : Nat} {x y z : Str} {a b d : Expr} {m : SH} {px py pz pt pos : Pos} {kt k2 pt2} (hc : X.calm = true) (hN : X.N.Nodup) (hi : X.N[i]? = some x) (hj : X.N[j]? = some y) (hl : X.N[l]? = some z) (hij : i ≠ j) (hil : i ≠ l) (hjl : j ≠ l)
    (hx : X.env.scope.names.lookup x = some .local) (hy : X.env.scope.names.lookup y = some .local) (hz : X.env.scope.names.lookup z = some .local) (ha : PA X [a, b, d] (LH c m))
    (hw : swappedStores [.Tuple [.Name x px, .Name y py, .Name z pz] kt pt] (.Tuple [a, b, d] k2 pt2) X.env = pure (some [x, y, z]))
    (hs : swapsWithSole [.Tuple [.Name x px, .Name y py, .Name z pz] kt pt] (.Tuple [a, b, d] k2 pt2) pos.line X.env = pure false) :
    PS X (.Assign [.Tuple [.Name x px, .Name y py, .Name z pz] kt pt] (.Tuple [a, b, d] k2 pt2) pos) (LS c (sPar [i, j, l] m)) :=
  (ps_par3 hc hN hi hj hl hij hil hjl hx hy hz ha hw hs).w fun D s H h => by
    obtain ⟨M, S, fr, rs, h⟩ := par_of h
    refine ⟨M, S, fr, rs, ?_⟩
    revert h
    cases m fr S with
    | ok as S1 =>
      intro h vs H' M' k h0 h1 rs' fs
      obtain ⟨l, h⟩ := h vs H' M' k h0 h1 rs' fs
      match vs, l, h with
      | [u, v, w], _, h => exact ⟨u, v, w, rfl, h⟩
    | _ => exact fun h => h
end
end Q
/-! Qp: append, extend, x[k] = e; x[k] = e in the store. -/
namespace Q
open PySem PySem.Spec PyProof.Rows L2
section
variable {X : Cx} {c : Cn} {M M' M1 : Addr → Prop} {S S' : Sto} {H H' H1 : Hp} {s s' : L2.St} {fr fr' : Fr} {D : Ends} {q : VK}
theorem Kq.own {p : Addr} {o o' : HO} (m : M p) (e : H p = some o) (hl : ∃ vs, o = .lst vs) : Kq M H M (upd H p o') := by
  obtain ⟨vs, rfl⟩ := hl
  have ne : ∀ b u, b ≠ p → H b = some u → upd H p o' b = some u := fun b u z e => by rw [upd_ne z]; exact e
  exact ⟨fun a o e n _ => ne a o (fun z => n (by rw [z]; exact m)) e, fun a xs q => ne a _ (fun z => by rw [z, e] at q; exact nomatch q) q, fun a o u q => ne a _ (fun z => by rw [z, e] at q; exact nomatch q) q,
    fun a ps q => ⟨#[], by rw [ne a _ (fun z => by rw [z, e] at q; exact nomatch q) q]; simp⟩, fun _ z => .inl z⟩
/-- a frame's own list -/
theorem RS.ownAt {i : Nat} {xs : List PV} (rs : c.RS M S H s fr) (e : fr[i]? = some (.ow (.lst xs))) : ∃ p vs, s[i]? = some (some (.ref p)) ∧ M p ∧ p ∉ c.r ∧ H p = some (.lst vs) ∧ c.Rs M H xs vs := by
  obtain ⟨v, e1, p, rfl, m, n, vs, e2, r⟩ := rs.at e (fun z => nomatch z)
  exact ⟨p, vs, e1, m, n, e2, r⟩
section
variable {e : Expr} {m mk : SE} {i : Nat} {x : Str} {np ap cp pos : Pos}
/-- what e needs, where a list of one's own is changed behind it -/
theorem own_of {f : List PV → PV → Sto → Ou} (h : PoS c M H ((m fr S).thn fun y S1 => match fr[i]? with
  | some (.ow (.lst xs)) => f xs y S1
  | _ => .bad) D) : ∃ xs, fr[i]? = some (.ow (.lst xs)) ∧ PoS c M H ((m fr S).thn fun y S1 => f xs y S1) D := by
  cases e : m fr S with
  | ok y S1 =>
    rw [e] at h
    simp only [Re.thn_ok] at h ⊢
    split at h
    · exact ⟨_, by assumption, h⟩
    · exact h.elim
  | _ => rw [e] at h; exact h.elim
theorem s_app (hx : PE X (.Name x np) (tVar i)) (he : PE X e (LE c m)) (hs : swapsWith (.Call (.Attribute (.Name x np) "append" ap) [e] [] cp) none pos.line X.env = pure false)
    (hbase : attributeBase (.Name x np) "append" X.env (eval (.Name x np) X.env) = eval (.Name x np) X.env)
    (hfew : ((backTo cp (starEach [e] X.env)).all (fun x => !x.1) && (backToKw cp (keywordEach [] X.env)).all (fun x => x.1.isSome)
      && decide ([e].length + ([] : List Keyword).length + (if ([] : List Keyword).isEmpty then 0 else 1) < 30)) = true)
    (hline : (ap.endLine == cp.line) = true) (hst : starEach [e] X.env = (false, eval e X.env) :: starEach [] X.env) (hplain : (backTo cp (starEach [] X.env)).any (·.1) = false) :
    PS X (.Expr (.Call (.Attribute (.Name x np) "append" ap) [e] [] cp) pos) (LS c (sApp i m)) :=
  (ps_expr (pe_bm PySem.F.plainAttrs_list PySem.F.slot_list_append PySem.F.type_list_append mt_append hx (pa_cons he pa_nil hst) hbase hfew hline hst hplain) hs).w fun D s H ⟨M, S, fr, rs, h⟩ => by
    obtain ⟨xs, ei, h⟩ := own_of (f := fun xs y S1 => if fits (xs.length + 1) then .nx (fr.set i (.ow (.lst (xs ++ [y])))) S1 else .bad) h
    obtain ⟨p, vs, es, mp, nr, eH, r⟩ := rs.ownAt ei
    refine ⟨_, es, .inl ⟨rfl, vs, .of eH⟩, M, S, fr, rs, PoS.bind rs.rm h fun y S1 v H1 k st r1 h1 => ?_⟩
    have rs1 := rs.step k st
    obtain ⟨p', vs', es', _, _, eH', r'⟩ := rs1.ownAt ei
    rw [es] at es'
    cases es'
    split at h1
    · rename_i hf
      refine ⟨p, vs', v, rfl, rfl, eH', ?_, h1 _ _ _ (Kq.own mp eH' ⟨_, rfl⟩) (rs1.chg ei es eH' rfl (r'.append (.cons r1 .nil)))⟩
      have := fits_le' hf
      rw [r'.len] at this
      exact this
    · exact h1.elim

theorem s_ext (hx : PE X (.Name x np) (tVar i)) (he : PE X e (LP c m)) (hs : swapsWith (.Call (.Attribute (.Name x np) "extend" ap) [e] [] cp) none pos.line X.env = pure false)
    (hbase : attributeBase (.Name x np) "extend" X.env (eval (.Name x np) X.env) = eval (.Name x np) X.env)
    (hfew : ((backTo cp (starEach [e] X.env)).all (fun x => !x.1) && (backToKw cp (keywordEach [] X.env)).all (fun x => x.1.isSome)
      && decide ([e].length + ([] : List Keyword).length + (if ([] : List Keyword).isEmpty then 0 else 1) < 30)) = true)
    (hline : (ap.endLine == cp.line) = true) (hst : starEach [e] X.env = (false, eval e X.env) :: starEach [] X.env) (hplain : (backTo cp (starEach [] X.env)).any (·.1) = false) :
    PS X (.Expr (.Call (.Attribute (.Name x np) "extend" ap) [e] [] cp) pos) (LS c (sExt i m)) :=
  (ps_expr (pe_bm PySem.F.plainAttrs_list PySem.F.slot_list_extend PySem.F.type_list_extend mt_extend hx (pa_cons he pa_nil hst) hbase hfew hline hst hplain) hs).w fun D s H ⟨M, S, fr, rs, h⟩ => by
    have h : PoS c M H ((m fr S).thn fun y S1 => match fr[i]? with
      | some (.ow (.lst xs)) => match y with
        | .lst ys => if fits (xs.length + ys.length) then .nx (fr.set i (.ow (.lst (xs ++ ys)))) S1 else .bad
        | _ => .bad
      | _ => .bad) D := by
      simp only [sExt] at h
      revert h
      cases m fr S with
      | ok y S1 =>
        simp only [Re.thn_ok]
        intro h
        split at h
        · rename_i z1 z2
          simp only [z2]
          exact h
        · exact h.elim
      | _ => exact fun h => h
    obtain ⟨xs, ei, h⟩ := own_of (f := fun xs y S1 => match y with
        | .lst ys => if fits (xs.length + ys.length) then .nx (fr.set i (.ow (.lst (xs ++ ys)))) S1 else .bad
        | _ => .bad) h
    obtain ⟨p, vs, es, mp, nr, eH, r⟩ := rs.ownAt ei
    refine ⟨_, es, .inl ⟨rfl, vs, .of eH⟩, M, S, fr, rs, PoS.bind rs.rm h fun y S1 v H1 k st r1 h1 => ?_⟩
    have rs1 := rs.step k st
    obtain ⟨p', vs', es', _, _, eH', r'⟩ := rs1.ownAt ei
    rw [es] at es'
    cases es'
    split at h1
    · rename_i ys
      split at h1
      · rename_i hf
        obtain ⟨b, ws, rfl, e2, _, r2⟩ := rp_lst r1
        refine ⟨p, b, vs', ws, rfl, rfl, eH', e2, ?_, h1 _ _ _ (Kq.own mp eH' ⟨_, rfl⟩) (rs1.chg ei es eH' rfl (r'.append r2))⟩
        have := fits_le' hf
        rw [r'.len, r2.len] at this
        exact this
      · exact h1.elim
    · exact h1.elim
/-- x[k] = e -/
theorem s_put {o k : Expr} {tp : Pos} (hx : PE X o (tVar i)) (hk : PE X k (LP c mk)) (he : PE X e (LE c m)) (hs : swapsWithSole [.Subscript o k tp] e pos.line X.env = pure false) (hw : swappedStores [.Subscript o k tp] e X.env = pure none)
    (h1 : (assignEach [.Subscript o k tp] X.env).map (·.2) = [assign (.Subscript o k tp) X.env])
    (ha : ∀ v, assign (.Subscript o k tp) X.env v = (do
      let ov ← holding [v] (eval o X.env)
      let iv ← holding [v, ov] (eval k X.env)
      standAt tp
      holding [v, ov, iv] (setItem ov iv v)
      release [v, ov, iv] [])) : PS X (.Assign [.Subscript o k tp] e pos) (LS c (sPut i mk m)) :=
  (ps_asg he (pg_sub hx hk set_list ha) hs hw h1).w fun D s H ⟨M, S, fr, rs, h⟩ => ⟨M, S, fr, rs, PoS.bind rs.rm h fun y S1 v H1 kp st r1 h1 => by
    have rs1 := rs.step kp st
    have h1 : PoS c M H1 ((mk fr S1).thn fun z S2 => match fr[i]? with
      | some (.ow (.lst xs)) => match z with
        | .int n => match ixN xs.length n with
          | some j => .nx (fr.set i (.ow (.lst (xs.set j y)))) S2
          | none => .bad
        | _ => .bad
      | _ => .bad) D := by
      revert h1
      cases mk fr S1 with
      | ok y S1 =>
        simp only [Re.thn_ok]
        intro h
        split at h
        · rename_i z1 z2
          simp only [z2]
          exact h
        · exact h.elim
      | _ => exact fun h => h
    obtain ⟨xs, ei, h2⟩ := own_of (f := fun xs z S2 => match z with
        | .int n => match ixN xs.length n with
          | some j => .nx (fr.set i (.ow (.lst (xs.set j y)))) S2
          | none => .bad
        | _ => .bad) h1
    obtain ⟨p, vs, es, mp, nr, eH, r⟩ := rs1.ownAt ei
    refine ⟨_, es, M, S1, fr, rs1, PoS.bind rs.rm h2 fun z S2 w H2 k2 st2 r2 h3 => ?_⟩
    have rs2 := rs1.step k2 st2
    obtain ⟨p', vs', es', _, _, eH', r'⟩ := rs2.ownAt ei
    rw [es] at es'
    cases es'
    split at h3
    · rename_i n
      split at h3
      · rename_i j ej
        refine ⟨p, vs', n, j, rfl, rp_int r2, eH', ?_, h3 _ _ _ (Kq.own mp eH' ⟨_, rfl⟩) (rs2.chg ei es eH' rfl (r'.set j (Rep.k k2 rs.rb r1)))⟩
        rw [← r'.len]
        exact ej
      · exact h3.elim
    · exact h3.elim⟩
/-- a list of the store is changed -/
theorem RS.sto {k : Nat} {p : Addr} {vs ws : List V} {xs : List PV} (rs : c.RS M S H s fr) (ek : c.r[k]? = some p) (e : H p = some (.lst vs)) (r : c.Rs M H xs ws) : c.RS M (S.set k (.lst xs)) (upd H p (.lst ws)) s fr := by
  have pr : p ∈ c.r := List.mem_of_getElem? ek
  have m : M p := rs.rm p pr
  have ne : ∀ b o, b ≠ p → H b = some o → upd H p (.lst ws) b = some o := fun b o z e => by rw [upd_ne z]; exact e
  have k1 : Kb M H (upd H p (.lst ws)) := ⟨fun a o e n _ => ne a o (fun z => n (by rw [z]; exact m)) e, fun a xs q => ne a _ (fun z => by rw [z, e] at q; exact nomatch q) q, fun a o u q => ne a _ (fun z => by rw [z, e] at q; exact nomatch q) q⟩
  have kB : Kb (c.B M) H (upd H p (.lst ws)) := ⟨fun a o e n t => k1.keep a o e (fun z => n (.inr z)) t, k1.tups, k1.frzs⟩
  have hn : ∀ a, H a ≠ none → upd H p (.lst ws) a ≠ none := fun a h => by
    by_cases z : a = p
    · rw [z, upd_same]; exact fun z => nomatch z
    · rw [upd_ne z]; exact h
  have kc : Kp c.r H (upd H p (.lst ws)) := ⟨fun a o q n t => ne a o (fun z => n (by rw [z]; exact pr)) q, k1.tups, k1.frzs, fun a ps q => ⟨#[], by rw [ne a _ (fun z => by rw [z, e] at q; exact nomatch q) q]; simp⟩⟩
  refine ⟨rs.kp.trans kc, rs.ut, fun a z => hn a (rs.mt a z), rs.mn, rs.ru, rs.rm, ?_, rs.len, fun j a ea o e' => ?_, rs.inj⟩
  · refine ⟨by rw [List.length_set]; exact rs.st.len, rs.st.nd, fun j q t e1 e2 => ?_⟩
    by_cases jk : k = j
    · subst jk
      rw [ek] at e1
      cases e1
      obtain ⟨l, z⟩ := List.getElem?_eq_some_iff.mp e2
      rw [List.getElem_set_self] at z
      subst z
      exact ⟨ws, upd_same, r.kb kB (fun _ z => .inl z)⟩
    · rw [List.getElem?_set_ne jk] at e2
      have h := rs.st.at_ j q t e1 e2
      cases t with
      | lst xs =>
        obtain ⟨us, eu, h⟩ := h
        refine ⟨us, ne q _ (fun z => ?_) eu, h.kb kB (fun _ z => .inl z)⟩
        subst z
        obtain ⟨l1, z1⟩ := List.getElem?_eq_some_iff.mp e1
        obtain ⟨l2, z2⟩ := List.getElem?_eq_some_iff.mp ek
        exact jk ((List.getElem_inj rs.st.nd).mp (z2.trans z1.symm))
      | _ => exact h
  · have h := rs.sl j a ea o e'
    cases a with
    | no => exact True.intro
    | va t =>
      cases o with
      | none => exact h
      | some v => exact Rep.kb kB (fun _ z => .inl z) h
    | ow u =>
      cases o with
      | none => exact h
      | some v =>
        obtain ⟨q, rfl, m1, n1, q1⟩ := h
        refine ⟨q, rfl, m1, n1, ?_⟩
        cases u with
        | lst xs =>
          obtain ⟨us, eu, q1⟩ := q1
          exact ⟨us, ne q _ (fun z => n1 (by rw [z]; exact pr)) eu, q1.kb kB (fun _ z => .inl z)⟩
        | _ => exact q1
    | bo t =>
      cases o with
      | none => exact h
      | some v => exact RepM.kb kB k1 (fun _ z => .inl z) (fun _ z => .inl z) h
    | cl F =>
      cases o with
      | none => exact h
      | some v => exact c.C.clD h e
theorem s_putS {o k : Expr} {ma : SE} {tp : Pos} (ho : PE X o (LP c ma)) (hk : PE X k (LP c mk)) (he : PE X e (LE c m)) (hs : swapsWithSole [.Subscript o k tp] e pos.line X.env = pure false) (hw : swappedStores [.Subscript o k tp] e X.env = pure none)
    (h1 : (assignEach [.Subscript o k tp] X.env).map (·.2) = [assign (.Subscript o k tp) X.env])
    (ha : ∀ v, assign (.Subscript o k tp) X.env v = (do
      let ov ← holding [v] (eval o X.env)
      let iv ← holding [v, ov] (eval k X.env)
      standAt tp
      holding [v, ov, iv] (setItem ov iv v)
      release [v, ov, iv] [])) : PS X (.Assign [.Subscript o k tp] e pos) (LS c (sPutS ma mk m)) :=
  (ps_asg he (pg_sub ho hk set_list ha) hs hw h1).w fun D s H ⟨M, S, fr, rs, h⟩ => ⟨M, S, fr, rs, PoS.bind rs.rm h fun y S1 v H1 k1 st1 r1 h1 => ⟨M, S1, fr, rs.step k1 st1, PoS.bind rs.rm h1 fun x S2 xv H2 k2 st2 r2 h2 => ⟨M, S2, fr, (rs.step k1 st1).step k2 st2, PoS.bind rs.rm h2 fun z S3 zv H3 k3 st3 r3 h3 => by
    have rs3 := ((rs.step k1 st1).step k2 st2).step k3 st3
    split at h3
    · rename_i kk n
      split at h3
      · rename_i xs ex
        split at h3
        · rename_i j ej
          have r2 : Rep c.C (c.B M) c.r H2 (.ref kk) xv := r2
          simp only [Rep] at r2
          obtain ⟨p, rfl, ep⟩ := r2
          obtain ⟨vs, eH, r4⟩ := rs3.st.at_ kk p _ ep ex
          have pr : p ∈ c.r := List.mem_of_getElem? ep
          refine ⟨p, vs, n, j, rfl, rp_int r3, eH, by rw [← r4.len]; exact ej, h3 M _ _ (Kq.own (rs.rm p pr) eH ⟨_, rfl⟩) (rs3.sto ep eH (r4.set j (Rep.k k3 rs.rb (Rep.k k2 rs.rb r1))))⟩
        · exact h3.elim
      · exact h3.elim
    · exact h3.elim⟩⟩⟩
end
end
end Q
/-! Qq: calls, defs. -/
namespace Q
open PySem PySem.Spec PyProof.Rows L2
def ArgR (C : RC) (B : Addr → Prop) (r : List Addr) (H : Hp) : Sl → V → Prop
  | .va t, v => Rep C B r H t v
  | .bo t, v => RepP C B r H t v
  | .cl F, v => C.cl r H v F
  | _, _ => False
def ArgsR (C : RC) (B : Addr → Prop) (r : List Addr) (H : Hp) : List Sl → List V → Prop
  | [], vs => vs = []
  | a :: as, vs => ∃ v vr, vs = v :: vr ∧ ArgR C B r H a v ∧ ArgsR C B r H as vr
/-- what a def promises -/
def SpF (C : RC) (F : FN) : Sp := fun vs H Q _ => ∃ (U : Addr → Prop) (r : List Addr) (S : Sto) (as : List Sl), (∀ a, U a → H a ≠ none) ∧ (∀ a ∈ r, U a) ∧ StoR C U r S H ∧ ArgsR C U r H as vs ∧ match F as S with
  | .ok t S' => ∀ v H', Kp r H H' → StoR C U r S' H' → Rep C U r H' t v → Q v H'
  | _ => False
section
variable {C : RC} {B : Addr → Prop} {r : List Addr} {H H' : Hp} {c : Cn} {M : Addr → Prop} {S : Sto} {s : L2.St} {fr : Fr}
theorem ArgR.k {a : Sl} {v : V} (h : ArgR C B r H a v) (k : Kp r H H') (hr : ∀ a ∈ r, B a) : ArgR C B r H' a v := by
  cases a with
  | va t => exact Rep.k k hr h
  | bo t => exact RepP.k k hr h
  | cl F => exact C.clk h k
  | _ => exact h
theorem ArgsR.k : ∀ {as : List Sl} {vs : List V}, ArgsR C B r H as vs → Kp r H H' → (∀ a ∈ r, B a) → ArgsR C B r H' as vs
  | [], _, h, _, _ => h
  | a :: as, _, ⟨v, vr, e, h1, h2⟩, k, hr => ⟨v, vr, e, h1.k k hr, h2.k k hr⟩
theorem ArgsR.len : ∀ {as : List Sl} {vs : List V}, ArgsR C B r H as vs → vs.length = as.length
  | [], _, h => by rw [show _ = [] from h]; rfl
  | a :: as, _, ⟨v, vr, e, h1, h2⟩ => by rw [e, List.length_cons, List.length_cons, h2.len]
theorem ArgsR.get : ∀ {as : List Sl} {vs : List V} {i : Nat} {a : Sl}, ArgsR C B r H as vs → as[i]? = some a → ∃ v, vs[i]? = some v ∧ ArgR C B r H a v
  | [], _, _, _, _, e => by simp at e
  | a :: as, _, i, b, ⟨v, vr, rfl, h1, h2⟩, e => by
    cases i with
    | zero => simp at e; subst e; exact ⟨v, by simp, h1⟩
    | succ i =>
      obtain ⟨w, e1, h3⟩ := h2.get (by simpa using e)
      exact ⟨w, by simpa using e1, h3⟩
end
section
variable {X : Cx} {c : Cn} {e a b d : Expr} {es rest : List Expr} {ma mb md : SE} {m : SG} {pos p : Pos} {x : Str} {k j : Nat}
def LG (c : Cn) (m : SG) : TA := fun s H q => ∃ M S fr, c.RS M S H s fr ∧ PoE c M H (m fr S) (fun H' as vs => ArgsR c.C (c.B M) c.r H' as vs) q
theorem g_nil : PA X [] (LG c gN) := pa_nil.w fun s H q ⟨M, S, fr, rs, h⟩ => h [] H .refl rs.st rfl
theorem g_val (ha : PE X e (LE c ma)) (hr : PA X es (LG c m)) (hs : starEach (e :: es) X.env = (false, eval e X.env) :: starEach es X.env) : PA X (e :: es) (LG c (gV ma m)) :=
  (pa_cons ha hr hs).w fun s H q ⟨M, S, fr, rs, h⟩ => ⟨M, S, fr, rs, PoE.bind h fun t S1 v H1 k1 st1 r1 h1 => ⟨M, S1, fr, rs.step k1 st1, PoE.bind h1 fun as S2 vs H2 k2 st2 r2 h2 =>
    h2 (v :: vs) H2 .refl st2 ⟨v, vs, rfl, ArgR.k (a := .va t) r1 k2 rs.rb, r2⟩⟩⟩
theorem g_lend (ha : PE X e (LP c ma)) (hr : PA X es (LG c m)) (hs : starEach (e :: es) X.env = (false, eval e X.env) :: starEach es X.env) : PA X (e :: es) (LG c (gL ma m)) :=
  (pa_cons ha hr hs).w fun s H q ⟨M, S, fr, rs, h⟩ => ⟨M, S, fr, rs, PoE.bind h fun t S1 v H1 k1 st1 r1 h1 => ⟨M, S1, fr, rs.step k1 st1, PoE.bind h1 fun as S2 vs H2 k2 st2 r2 h2 =>
    h2 (v :: vs) H2 .refl st2 ⟨v, vs, rfl, ArgR.k (a := .bo t) r1 k2 rs.rb, r2⟩⟩⟩
/-- a def that may be called -/
structure Cl (P : Program) (w : World) (K : PySem.W.Frag) (mg : Str → Option Value) (base : Heap) (C : RC) (k : Nat) (x : Str) (F : FN) : Prop where
  ex : ∃ (f : Addr) (fd : FuncData) (ps : List Str), FnOk P w K mg base CX0 k f fd ps (SpF C F) ∧ mg x = some (.ref f) ∧ PySem.W.keepIn K (.ref f) = true ∧ Binds K fd ps []
theorem sp_of {F : FN} {M : Addr → Prop} {S : Sto} {H : Hp} {s : L2.St} {fr : Fr} {as : List Sl} {vs : List V} {q : VK} (rs : c.RS M S H s fr) (r : ArgsR c.C (c.B M) c.r H as vs) (h : PoE c M H (F as S) (c.R M) q) : SpF c.C F (vs ++ []) H q E0 := by
  rw [List.append_nil]
  refine ⟨c.B M, c.r, S, as, rs.bn, rs.rb, rs.st, r, ?_⟩
  revert h
  cases F as S with
  | ok t S' => exact fun h => h
  | _ => exact fun h => h
theorem ok_call {F : FN} (cl : Cl X.prog X.w X.K X.mg X.base c.C k x F) (hr : Room j X.A) (hk : k ≤ j) (hg : Gl X x) (ha : PA X (e :: es) (LG c m)) (hdb : (x == ("__debug__" : Str)) = false) (he : starEach (e :: es) X.env = (false, eval e X.env) :: starEach es X.env) (hpl : (backTo pos (starEach es X.env)).any (·.1) = false) :
    PE X (.Call (.Name x p) (e :: es) [] pos) (LE c (eCall F m)) := by
  obtain ⟨f, fd, ps, G, hm, kp, b⟩ := cl.ex
  exact (pe_call G (hr.mono hk) hg hm kp b .nil pass0 ha hdb he hpl).w fun s H q ⟨M, S, fr, rs, h⟩ => ⟨M, S, fr, rs, PoE.bind h fun as S1 vs H1 k1 st1 r1 h1 => sp_of (rs.step k1 st1) r1 h1⟩
theorem ok_call0 {F : FN} (cl : Cl X.prog X.w X.K X.mg X.base c.C k x F) (hr : Room j X.A) (hk : k ≤ j) (hg : Gl X x) (hdb : (x == ("__debug__" : Str)) = false) : PE X (.Call (.Name x p) [] [] pos) (LE c (eCall F gN)) := by
  obtain ⟨f, fd, ps, G, hm, kp, b⟩ := cl.ex
  exact (pe_call0 G (hr.mono hk) hg hm kp b .nil pass0 hdb).w fun s H q ⟨M, S, fr, rs, h⟩ => sp_of (vs := []) (as := []) rs (show [] = [] from rfl) h
end
section
variable {P : Program} {w : World} {mg : Str → Option Value} {base : Heap} {C : RC}
theorem fn_ok {np ns : Nat} {b : SS} {as : List Sl} {S : Sto} {t : PV} {S' : Sto} (h : fn np ns b as S = .ok t S') : as.length = np := by
  unfold fn at h
  split at h
  · assumption
  · exact nomatch h
theorem start_get {N : List Str} {vs : List V} {i : Nat} {o : Option V} (h : (L2.start N vs)[i]? = some o) : vs[i]? = o := by
  unfold L2.start at h
  by_cases l : i < vs.length
  · rw [List.getElem?_append_left (by rw [List.length_map]; exact l), List.getElem?_map] at h
    cases e : vs[i]? with
    | none => rw [e] at h; exact nomatch h
    | some v => rw [e] at h; cases h; rfl
  · rw [List.getElem?_append_right (by rw [List.length_map]; omega), List.getElem?_replicate] at h
    split at h
    · cases h; exact List.getElem?_eq_none (by omega)
    · exact nomatch h
theorem pad_get {n i : Nat} {as : List Sl} {a : Sl} (h : (pad n as)[i]? = some a) (ha : a ≠ .no) : as[i]? = some a := by
  unfold pad at h
  by_cases l : i < as.length
  · rwa [List.getElem?_append_left l] at h
  · rw [List.getElem?_append_right (by omega), List.getElem?_replicate] at h
    split at h
    · cases h; exact absurd rfl ha
    · exact nomatch h
/-- at a def's entry -/
theorem entry {U : Addr → Prop} {r : List Addr} {S : Sto} {H : Hp} {as : List Sl} {vs : List V} {N : List Str} {ns : Nat} (hns : N.length = ns) (hl : as.length ≤ ns) (ut : ∀ a, U a → H a ≠ none) (ru : ∀ a ∈ r, U a) (st : StoR C U r S H) (ar : ArgsR C U r H as vs) :
    Cn.RS ⟨C, U, H, r⟩ (fun a => a ∈ r) S H (L2.start N vs) (pad ns as) := by
  have hB : ∀ a, (U a ∨ a ∈ r) → U a ∨ H a = none := fun a z => .inl (z.elim id (ru a))
  refine ⟨.refl, ut, fun a z => ut a (ru a z), fun a z n => absurd z n, ru, fun a z => z, ⟨st.len, st.nd, fun k p t e1 e2 => ?_⟩, ?_, fun i a e o e' => ?_, fun i j t u p e1 _ _ _ => ?_⟩
  · have q := st.at_ k p t e1 e2
    cases t with
    | lst xs =>
      obtain ⟨vs, e, q⟩ := q
      exact ⟨vs, e, q.kb .refl hB⟩
    | _ => exact q
  · unfold pad L2.start
    simp only [List.length_append, List.length_replicate, List.length_map]
    rw [ar.len, hns]
  · by_cases ha : a = .no
    · subst ha; exact True.intro
    · obtain ⟨v, ev, h⟩ := ar.get (pad_get e ha)
      have := start_get e'
      rw [ev] at this
      subst this
      cases a with
      | va t => exact Rep.kb .refl hB h
      | bo t => exact RepM.kb .refl .refl hB (fun a z => .inl z) h
      | cl F => exact h
      | _ => exact h.elim
  · obtain ⟨v, ev, h⟩ := ar.get (pad_get e1 (fun z => nomatch z))
    exact h.elim
/-- THE RULE: a def by its body -/
theorem cl_ok {x : Str} {st : Stmt} {f : Addr} {fd : FuncData} {N ps : List Str} {k np ns : Nat} {b : SS} {F : FN} (eF : F = fn np ns b) (G : Fun C.K x x st f fd) (hm : mg x = some (.ref f)) (bi : Binds C.K fd ps []) (Sc : FnScope N ps (defScope st)) (hp : ps.length = np) (hns : N.length = ns)
    (body : ∀ (cdv : Value) (A : Around) (outer : List Env) (s : Shared) (H : Hp) (E : XK) (U : Addr → Prop) (r : List Addr), Room k (A.deeper (envOfC x (defScope st) s.heap.objs.size f cdv)) → PSs (cxOf CX0 P w C.K mg base N x (defScope st) f cdv A outer s H E).nox (defBody st) (LS ⟨C, U, H, r⟩ b)) :
    Cl P w C.K mg base C (k + 1) x F := by
  subst eF
  refine ⟨f, fd, ps, Fun.ok G Sc (fun vs H Q E h => ?_) (fun cdv A outer s H vs Q E hr h => ?_), hm, G.kp, bi⟩
  · obtain ⟨U, r, S, as, _, _, _, ar, q⟩ := h
    cases e : fn np ns b as S with
    | ok t S' => rw [ar.len, fn_ok e, hp]
    | _ => rw [e] at q; exact q.elim
  · obtain ⟨U, r, S, as, ut, ru, st, ar, q⟩ := h
    refine ⟨_, body cdv A outer s H E U r hr, ?_⟩
    have hl : as.length = np := by
      cases e : fn np ns b as S with
      | ok t S' => exact fn_ok e
      | _ => rw [e] at q; exact q.elim
    have hpl : np ≤ ns := by
      have := congrArg List.length Sc.pre
      rw [List.length_take] at this
      omega
    refine ⟨_, S, _, entry hns (by omega) ut ru st ar, ?_⟩
    unfold fn at q
    rw [if_pos hl] at q
    revert q
    cases b (pad ns as) S with
    | nx fr S1 => exact fun q M' s' H' k rs => q .non H' rs.kp (StoR.up rs.st) (.flat rfl)
    | rt t S1 => exact fun q => q
    | bk fr S1 => exact fun q => q.elim
    | ct fr S1 => exact fun q => q.elim
    | ex c as S1 => exact fun q => q.elim
    | bad => exact fun q => q.elim
/-- a def that is not come to -/
theorem cl_bad {x : Str} {st : Stmt} {f : Addr} {fd : FuncData} {N ps : List Str} {k : Nat} (G : Fun C.K x x st f fd) (hm : mg x = some (.ref f)) (bi : Binds C.K fd ps []) : Cl P w C.K mg base C k x (fun _ _ => .bad) := by
  refine ⟨f, fd, ps, ⟨fun vs H Q E h => ?_, fun A outer s H args us vs Q E hr e0 hb rv h => ?_⟩, hm, G.kp, bi⟩
  · obtain ⟨U, r, S, as, _, _, _, ar, q⟩ := h
    exact q.elim
  · obtain ⟨U, r, S, as, _, _, _, ar, q⟩ := h
    exact q.elim
theorem Cl.mono {K : PySem.W.Frag} {x : Str} {j k : Nat} {F : FN} (c : Cl P w K mg base C j x F) (h : j ≤ k) : Cl P w K mg base C k x F := by
  obtain ⟨f, fd, ps, G, hm, kp, b⟩ := c.ex
  exact ⟨f, fd, ps, G.mono h, hm, kp, b⟩
end
end Q
/-! Qr: the rules in short, with what rfl shows. -/
namespace Q
open PySem PySem.Spec PyProof.Rows L2

/-! ### what the module holds -/
mutual
def KRep (K : PySem.W.Frag) : PV → V → Prop
  | .non, v => v = .non
  | .bl b, v => v = .bl b
  | .int i, v => v = .int i
  | .str s, v => v = .str s
  | .tup xs, v => ∃ a vs, v = .ref a ∧ (∃ (o : Obj) (its : Array Value) (n : Nat), K.lookup a = some o ∧ o.cls = .type "tuple" ∧ o.data = .seq its n ∧ its.size ≤ sizeLine ∧ Vals vs its.toList) ∧ KReps K xs vs
  | _, _ => False
def KReps (K : PySem.W.Frag) : List PV → List V → Prop
  | [], vs => vs = []
  | x :: xs, vs => ∃ v vr, vs = v :: vr ∧ KRep K x v ∧ KReps K xs vr
end
mutual
theorem KRep.rep {C : RC} {B : Addr → Prop} {r : List Addr} {H : Hp} : ∀ {t : PV} {v : V}, KRep C.K t v → Rep C B r H t v
  | .non, _, h => by simpa only [KRep, Rep] using h
  | .bl _, _, h => by simpa only [KRep, Rep] using h
  | .int _, _, h => by simpa only [KRep, Rep] using h
  | .str _, _, h => by simpa only [KRep, Rep] using h
  | .tup xs, _, h => by
    simp only [KRep, Rep] at h ⊢
    obtain ⟨a, vs, e, s, q⟩ := h
    exact ⟨a, vs, e, .inr s, KReps.rep q⟩
  | .lst _, _, h => by simp only [KRep] at h
  | .dct _ _, _, h => by simp only [KRep] at h
  | .ins _ _ _, _, h => by simp only [KRep] at h
  | .ref _, _, h => by simp only [KRep] at h
theorem KReps.rep {C : RC} {B : Addr → Prop} {r : List Addr} {H : Hp} : ∀ {t : List PV} {v : List V}, KReps C.K t v → Reps C B r H t v
  | [], _, h => by simpa only [KReps, Reps] using h
  | x :: xs, _, h => by
    simp only [KReps, Reps] at h ⊢
    obtain ⟨v, vr, e, h1, h2⟩ := h
    exact ⟨v, vr, e, KRep.rep h1, KReps.rep h2⟩
end
/-- a name of the module that stands for t -/
def GlC (K : PySem.W.Frag) (mg : Str → Option Value) (x : Str) (t : PV) : Prop := ∃ u v, mg x = some u ∧ RelV v u ∧ KRep K t v
/-- a dict of the module with texts as keys -/
def GlD (K : PySem.W.Frag) (w : World) (mg : Str → Option Value) (x : Str) (tb : List (Str × PV)) : Prop := ∃ a, mg x = some (.ref a) ∧ ∀ s t, tb.lookup s = some t → ∃ v, KDct K w a s v ∧ KRep K t v
def dkAt (tb : List (Str × PV)) : PV → Option PV
  | .str s => tb.lookup s
  | _ => none
@[simp] theorem dkAt_str {tb : List (Str × PV)} {s : Str} : dkAt tb (.str s) = tb.lookup s := rfl
/-- D[k] of such a dict -/
@[simp] def eDk (tb : List (Str × PV)) (k : SE) : SE := fun fr S => (k fr S).bind fun x S1 => .of (dkAt tb x) S1
section
variable {X : Cx} {c : Cn} {e a b d tg : Expr} {es rest : List Expr} {ma mb md m : SE} {ba bb : SB} {mA : SA} {mH : SH} {mG : SG} {mi : SI} {pos p : Pos} {x : Str} {st : Stmt} {sts sts' : List Stmt}
/-! ### names, constants -/
theorem xv (i : Nat) (hN : X.N[i]? = some x := by rfl) (hv : Vis X.env.scope x := by first | exact Or.inl rfl | exact Or.inr (Or.inl rfl) | exact Or.inr (Or.inr rfl)) (hd : (x == ("__debug__" : Str)) = false := by decide) (hcd : (x == ("__classdict__" : Str)) = false := by decide) : PE X (.Name x p) (LE c (eV i)) := ok_V (pe_var hN hv hd hcd)
theorem xp (i : Nat) (hN : X.N[i]? = some x := by rfl) (hv : Vis X.env.scope x := by first | exact Or.inl rfl | exact Or.inr (Or.inl rfl) | exact Or.inr (Or.inr rfl)) (hd : (x == ("__debug__" : Str)) = false := by decide) (hcd : (x == ("__classdict__" : Str)) = false := by decide) : PE X (.Name x p) (LP c (eP i)) := ok_P (pe_var hN hv hd hcd)
theorem xg {t : PV} (h : GlC c.C.K X.mg x t) (hg : Gl X x := by rfl) (hd : (x == ("__debug__" : Str)) = false := by decide) : PE X (.Name x p) (LE c (eC t)) := by
  obtain ⟨u, v, hm, r, kr⟩ := h
  exact (pe_glob hg hm r hd).w fun s H q ⟨M, S, fr, rs, h⟩ => h v H .refl rs.st kr.rep
theorem xdk {tb : List (Str × PV)} (hk : X.K = c.C.K) (h : GlD X.K X.w X.mg x tb) (hb : PE X b (LP c mb)) (hg : Gl X x := by rfl) (hd : (x == ("__debug__" : Str)) = false := by decide) (hs : PlainIx b := by exact fun _ _ => rfl) : PE X (.Subscript (.Name x p) b pos) (LE c (eDk tb mb)) := by
  obtain ⟨a, hm, hT⟩ := h
  exact (pe_ix ix_kdict (pe_glob (v := .ref a) hg hm rfl hd) hb hs).w fun s H q ⟨M, S, fr, rs, h⟩ => ⟨M, S, fr, rs, PoE.bind h fun y S1 w H1 k1 st1 r1 h1 => by
    obtain ⟨t, e, h2⟩ := h1.of
    cases y with
    | str z =>
      have r1 : w = .str z := by
        simp only [Cn.RP, RepP, RepM, Rep] at r1
        exact r1
      subst r1
      obtain ⟨v, kd, kr⟩ := hT z t e
      exact ⟨a, z, v, rfl, rfl, kd, h2 v H1 .refl st1 (KRep.rep (hk ▸ kr))⟩
    | _ => exact nomatch e⟩
/-! ### built-ins -/
theorem x_bi {f : List PV → Option PV} {id : String} {r : List V → Hp → VK → Prop} (ht : BiT c f r) (hc : CallR X (.builtin id) r) (hm : X.mg x = none) (hv : bootBuiltins x = some (.builtin id)) (ha : PA X (e :: es) (LAp c mA))
    (hg : Gl X x := by rfl) (hn : x ≠ "__name__" := by decide) (hdb : (x == ("__debug__" : Str)) = false := by decide) (he : starEach (e :: es) X.env = (false, eval e X.env) :: starEach es X.env := by rfl) (hpl : (backTo pos (starEach es X.env)).any (·.1) = false := by rfl) : PE X (.Call (.Name x p) (e :: es) [] pos) (LE c (eBi f mA)) := ok_bi ht hc hv hg hm ha hn hdb he hpl
theorem x_ty {f : List PV → Option PV} {T : String} {r : List V → Hp → VK → Prop} (ht : BiT c f r) (hc : CallR X (.type T) r) (hm : X.mg x = none) (hv : bootBuiltins x = some (.type T)) (ha : PA X (e :: es) (LAp c mA))
    (hg : Gl X x := by rfl) (hn : x ≠ "__name__" := by decide) (hdb : (x == ("__debug__" : Str)) = false := by decide) (he : starEach (e :: es) X.env = (false, eval e X.env) :: starEach es X.env := by rfl) (hpl : (backTo pos (starEach es X.env)).any (·.1) = false := by rfl) : PE X (.Call (.Name x p) (e :: es) [] pos) (LE c (eBi f mA)) := ok_ty ht hc hv hg hm ha hn hdb he hpl
theorem xpN : PA X [] (LAp c aN) := ok_pN
theorem xpC (ha : PE X e (LP c ma)) (hr : PA X es (LAp c mA)) (hs : starEach (e :: es) X.env = (false, eval e X.env) :: starEach es X.env := by rfl) : PA X (e :: es) (LAp c (aC ma mA)) := ok_pC ha hr hs
theorem xaC (ha : PE X e (LE c ma)) (hr : PA X es (LA c mA)) (hs : starEach (e :: es) X.env = (false, eval e X.env) :: starEach es X.env := by rfl) : PA X (e :: es) (LA c (aC ma mA)) := ok_aC ha hr hs
theorem xgV (ha : PE X e (LE c ma)) (hr : PA X es (LG c mG)) (hs : starEach (e :: es) X.env = (false, eval e X.env) :: starEach es X.env := by rfl) : PA X (e :: es) (LG c (gV ma mG)) := g_val ha hr hs
theorem xgL (ha : PE X e (LP c ma)) (hr : PA X es (LG c mG)) (hs : starEach (e :: es) X.env = (false, eval e X.env) :: starEach es X.env := by rfl) : PA X (e :: es) (LG c (gL ma mG)) := g_lend ha hr hs
theorem xhV (ha : PE X e (LE c ma)) (hr : PA X es (LH c mH)) (hs : starEach (e :: es) X.env = (false, eval e X.env) :: starEach es X.env := by rfl) : PA X (e :: es) (LH c (hV ma mH)) := h_val ha hr hs
theorem xhO (ha : PE X e (LF c ma)) (hr : PA X es (LH c mH)) (hs : starEach (e :: es) X.env = (false, eval e X.env) :: starEach es X.env := by rfl) : PA X (e :: es) (LH c (hO ma mH)) := h_own ha hr hs
theorem x_len (hm : X.mg "len" = none) (hk : X.K = c.C.K) (ha : PA X (e :: es) (LAp c mA)) (hg : Gl X "len" := by rfl) (he : starEach (e :: es) X.env = (false, eval e X.env) :: starEach es X.env := by rfl) (hpl : (backTo pos (starEach es X.env)).any (·.1) = false := by rfl) : PE X (.Call (.Name "len" p) (e :: es) [] pos) (LE c (eBi bLen mA)) := x_bi (bi_len hk) call_len hm PySem.boot_len ha hg (by decide) (by decide) he hpl
theorem x_int (hm : X.mg "int" = none) (ha : PA X (e :: es) (LAp c mA)) (hg : Gl X "int" := by rfl) (he : starEach (e :: es) X.env = (false, eval e X.env) :: starEach es X.env := by rfl) (hpl : (backTo pos (starEach es X.env)).any (·.1) = false := by rfl) : PE X (.Call (.Name "int" p) (e :: es) [] pos) (LE c (eBi bInt mA)) := x_ty bi_int call_int1 hm (by decide +kernel) ha hg (by decide) (by decide) he hpl
theorem x_abs (hm : X.mg "abs" = none) (ha : PA X (e :: es) (LAp c mA)) (hg : Gl X "abs" := by rfl) (he : starEach (e :: es) X.env = (false, eval e X.env) :: starEach es X.env := by rfl) (hpl : (backTo pos (starEach es X.env)).any (·.1) = false := by rfl) : PE X (.Call (.Name "abs" p) (e :: es) [] pos) (LE c (eBi bAbs mA)) := x_bi bi_abs call_abs hm (by decide +kernel) ha hg (by decide) (by decide) he hpl
theorem x_tuple (hm : X.mg "tuple" = none) (hk : X.K = c.C.K) (ha : PA X (e :: es) (LAp c mA)) (hg : Gl X "tuple" := by rfl) (he : starEach (e :: es) X.env = (false, eval e X.env) :: starEach es X.env := by rfl) (hpl : (backTo pos (starEach es X.env)).any (·.1) = false := by rfl) : PE X (.Call (.Name "tuple" p) (e :: es) [] pos) (LE c (eBi bTuple mA)) := x_ty (hk ▸ bi_tuple) call_tuple_of hm (by decide +kernel) ha hg (by decide) (by decide) he hpl
theorem x_list (hm : X.mg "list" = none) (hk : X.K = c.C.K) (ha : PA X (e :: es) (LAp c mA)) (hg : Gl X "list" := by rfl) (he : starEach (e :: es) X.env = (false, eval e X.env) :: starEach es X.env := by rfl) (hpl : (backTo pos (starEach es X.env)).any (·.1) = false := by rfl) : PE X (.Call (.Name "list" p) (e :: es) [] pos) (LE c (eBi bList mA)) := x_ty (hk ▸ bi_list) call_list_of hm (by decide +kernel) ha hg (by decide) (by decide) he hpl
theorem xf_list (hm : X.mg "list" = none) (hk : X.K = c.C.K) (ha : PA X (e :: es) (LAp c mA)) (hg : Gl X "list" := by rfl) (he : starEach (e :: es) X.env = (false, eval e X.env) :: starEach es X.env := by rfl) (hpl : (backTo pos (starEach es X.env)).any (·.1) = false := by rfl) : PE X (.Call (.Name "list" p) (e :: es) [] pos) (LF c (eBi bList mA)) := f_list (by decide +kernel) (hk ▸ call_list_of) hg hm ha (by decide) (by decide) he hpl
theorem x_all (hm : X.mg "all" = none) (hk : X.K = c.C.K) (ha : PA X (e :: es) (LAp c mA)) (hc : X.calm = true := by rfl) (hg : Gl X "all" := by rfl) (he : starEach (e :: es) X.env = (false, eval e X.env) :: starEach es X.env := by rfl) (hpl : (backTo pos (starEach es X.env)).any (·.1) = false := by rfl) : PE X (.Call (.Name "all" p) (e :: es) [] pos) (LE c (eBi bAll mA)) := x_bi (hk ▸ bi_all) (cr_all hc) hm (by decide +kernel) ha hg (by decide) (by decide) he hpl
theorem x_any (hm : X.mg "any" = none) (hk : X.K = c.C.K) (ha : PA X (e :: es) (LAp c mA)) (hc : X.calm = true := by rfl) (hg : Gl X "any" := by rfl) (he : starEach (e :: es) X.env = (false, eval e X.env) :: starEach es X.env := by rfl) (hpl : (backTo pos (starEach es X.env)).any (·.1) = false := by rfl) : PE X (.Call (.Name "any" p) (e :: es) [] pos) (LE c (eBi bAny mA)) := x_bi (hk ▸ bi_any) (cr_any hc) hm (by decide +kernel) ha hg (by decide) (by decide) he hpl
theorem x_sum (hm : X.mg "sum" = none) (hk : X.K = c.C.K) (ha : PA X (e :: es) (LAp c mA)) (hc : X.calm = true := by rfl) (hg : Gl X "sum" := by rfl) (he : starEach (e :: es) X.env = (false, eval e X.env) :: starEach es X.env := by rfl) (hpl : (backTo pos (starEach es X.env)).any (·.1) = false := by rfl) : PE X (.Call (.Name "sum" p) (e :: es) [] pos) (LE c (eBi bSum mA)) := x_bi (hk ▸ bi_sum) (cr_sum hc) hm (by decide +kernel) ha hg (by decide) (by decide) he hpl
theorem x_min (hm : X.mg "min" = none) (hk : X.K = c.C.K) (ha : PA X (e :: es) (LAp c mA)) (hc : X.calm = true := by rfl) (hg : Gl X "min" := by rfl) (he : starEach (e :: es) X.env = (false, eval e X.env) :: starEach es X.env := by rfl) (hpl : (backTo pos (starEach es X.env)).any (·.1) = false := by rfl) : PE X (.Call (.Name "min" p) (e :: es) [] pos) (LE c (eBi bMin mA)) := x_bi (hk ▸ bi_min) (cr_min hc) hm (by decide +kernel) ha hg (by decide) (by decide) he hpl
theorem x_max (hm : X.mg "max" = none) (hk : X.K = c.C.K) (ha : PA X (e :: es) (LAp c mA)) (hc : X.calm = true := by rfl) (hg : Gl X "max" := by rfl) (he : starEach (e :: es) X.env = (false, eval e X.env) :: starEach es X.env := by rfl) (hpl : (backTo pos (starEach es X.env)).any (·.1) = false := by rfl) : PE X (.Call (.Name "max" p) (e :: es) [] pos) (LE c (eBi bMax mA)) := x_bi (hk ▸ bi_max) (cr_max hc) hm (by decide +kernel) ha hg (by decide) (by decide) he hpl
theorem x_min2 (hm : X.mg "min" = none) (ha : PA X (e :: es) (LAp c mA)) (hc : X.calm = true := by rfl) (hg : Gl X "min" := by rfl) (he : starEach (e :: es) X.env = (false, eval e X.env) :: starEach es X.env := by rfl) (hpl : (backTo pos (starEach es X.env)).any (·.1) = false := by rfl) : PE X (.Call (.Name "min" p) (e :: es) [] pos) (LE c (eBi bMin2 mA)) := x_bi bi_min2 (call_min2 hc) hm (by decide +kernel) ha hg (by decide) (by decide) he hpl
theorem x_max2 (hm : X.mg "max" = none) (ha : PA X (e :: es) (LAp c mA)) (hc : X.calm = true := by rfl) (hg : Gl X "max" := by rfl) (he : starEach (e :: es) X.env = (false, eval e X.env) :: starEach es X.env := by rfl) (hpl : (backTo pos (starEach es X.env)).any (·.1) = false := by rfl) : PE X (.Call (.Name "max" p) (e :: es) [] pos) (LE c (eBi bMax2 mA)) := x_bi bi_max2 (call_max2 hc) hm (by decide +kernel) ha hg (by decide) (by decide) he hpl

theorem x_is1 {y : Ty} {yn : Str} {py : Pos} (hm : X.mg "isinstance" = none) (hmy : X.mg yn = none) (hy : bootBuiltins yn = some (.type y.nm)) (hk : X.K = c.C.K) (ha : PE X a (LP c ma)) (hg : Gl X "isinstance" := by rfl) (hgy : Gl X yn := by rfl)
    (hn : yn ≠ "__name__" := by decide) (hd : (yn == ("__debug__" : Str)) = false := by decide) (hs1 : starEach [a, .Name yn py] X.env = (false, eval a X.env) :: starEach [.Name yn py] X.env := by rfl) (hs2 : starEach [.Name yn py] X.env = [(false, eval (.Name yn py) X.env)] := by rfl)
    (hpl : (backTo pos (starEach [.Name yn py] X.env)).any (·.1) = false := by rfl) : PE X (.Call (.Name "isinstance" p) [a, .Name yn py] [] pos) (LE c (eB (bIs ma [y]))) := ok_is1 hk hg hm hgy hmy hy ha hn hd hs1 hs2 hpl
theorem x_is2 {y z : Ty} {yn zn : Str} {py pz pt : Pos} {kt} (hm : X.mg "isinstance" = none) (hmy : X.mg yn = none) (hy : bootBuiltins yn = some (.type y.nm)) (hmz : X.mg zn = none) (hz : bootBuiltins zn = some (.type z.nm)) (hk : X.K = c.C.K) (ha : PE X a (LP c ma)) (hg : Gl X "isinstance" := by rfl) (hgy : Gl X yn := by rfl) (hgz : Gl X zn := by rfl)
    (hn : yn ≠ "__name__" := by decide) (hd : (yn == ("__debug__" : Str)) = false := by decide) (hn' : zn ≠ "__name__" := by decide) (hd' : (zn == ("__debug__" : Str)) = false := by decide)
    (ht1 : starEach [.Name yn py, .Name zn pz] X.env = (false, eval (.Name yn py) X.env) :: starEach [.Name zn pz] X.env := by rfl) (ht2 : starEach [.Name zn pz] X.env = [(false, eval (.Name zn pz) X.env)] := by rfl)
    (hs1 : starEach [a, .Tuple [.Name yn py, .Name zn pz] kt pt] X.env = (false, eval a X.env) :: starEach [.Tuple [.Name yn py, .Name zn pz] kt pt] X.env := by rfl)
    (hs2 : starEach [.Tuple [.Name yn py, .Name zn pz] kt pt] X.env = [(false, eval (.Tuple [.Name yn py, .Name zn pz] kt pt) X.env)] := by rfl) (hpl : (backTo pos (starEach [.Tuple [.Name yn py, .Name zn pz] kt pt] X.env)).any (·.1) = false := by rfl) :
    PE X (.Call (.Name "isinstance" p) [a, .Tuple [.Name yn py, .Name zn pz] kt pt] [] pos) (LE c (eB (bIs ma [y, z]))) := by
  first
  | exact ok_is2 hk hg hm hgy hmy hy hgz hmz hz ha hn hd hn' hd' ht1 ht2 hs1 hs2 hpl
/-! ### operators, subscripts -/
theorem x_ix (hk : X.K = c.C.K) (ha : PE X a (LP c ma)) (hb : PE X b (LP c mb)) (hs : PlainIx b := by exact fun _ _ => rfl) : PE X (.Subscript a b pos) (LE c (eIx ma mb)) := ok_ix hk ha hb hs
theorem x_ixS (ha : PE X a (LP c ma)) (hb : PE X b (LP c mb)) (hs : PlainIx b := by exact fun _ _ => rfl) : PE X (.Subscript a b pos) (LE c (eIxS ma mb)) := ok_ixS ha hb hs
theorem x_bcm {op : CmpOp} {o : Cm} {r : R2} (ht : CmT c o r) (hr : OpR X (compareOp op) r) (ha : PE X a (LP c ma)) (hb : PE X b (LP c mb)) (hm : behindInMarks op b = false := by first | exact nomark _ | with_unfolding_all rfl) : PT X (.Compare a [op] [b] pos) (LB c (bCm o ma mb)) := bt_cm ht hr ha hb hm
theorem x_ecm {op : CmpOp} {o : Cm} {r : R2} (ht : CmT c o r) (hr : OpR X (compareOp op) r) (ha : PE X a (LP c ma)) (hb : PE X b (LP c mb)) (hm : behindInMarks op b = false := by first | exact nomark _ | with_unfolding_all rfl) : PE X (.Compare a [op] [b] pos) (LE c (eB (bCm o ma mb))) := be_cm ht hr ha hb hm
theorem x_val (h : PE X e (LE c ma)) (he : ∀ whole, isTrue e X.env whole = (do let v ← whole; standAt e.pos; holding [v] (truthy v)) := by intro _; rfl) : PT X e (LB c (bE ma)) := bt_val h he
/-! ### calls -/
theorem x_call {k j : Nat} {F : FN} (cl : Cl X.prog X.w X.K X.mg X.base c.C k x F) (hr : Room j X.A) (hk : k ≤ j) (ha : PA X (e :: es) (LG c mG)) (hg : Gl X x := by rfl) (hdb : (x == ("__debug__" : Str)) = false := by decide) (he : starEach (e :: es) X.env = (false, eval e X.env) :: starEach es X.env := by rfl) (hpl : (backTo pos (starEach es X.env)).any (·.1) = false := by rfl) :
    PE X (.Call (.Name x p) (e :: es) [] pos) (LE c (eCall F mG)) := ok_call cl hr hk hg ha hdb he hpl
theorem x_call0 {k j : Nat} {F : FN} (cl : Cl X.prog X.w X.K X.mg X.base c.C k x F) (hr : Room j X.A) (hk : k ≤ j) (hg : Gl X x := by rfl) (hdb : (x == ("__debug__" : Str)) = false := by decide) : PE X (.Call (.Name x p) [] [] pos) (LE c (eCall F gN)) := ok_call0 cl hr hk hg hdb
/-! ### what is walked -/
section
variable {elts : List Expr} {kk : Nat} {tpos : Pos}
theorem xi_rng1 (hm : X.mg "range" = none) (ha : PE X a (LP c ma)) (hg : Gl X "range" := by rfl) (hs : starEach [a] X.env = [(false, eval a X.env)] := by rfl) : PI X tg (.Call (.Name "range" p) [a] [] pos) (LI c (iRng1 ma)) := ok_iRng1 hg hm ha hs
theorem xi_rng2 (hm : X.mg "range" = none) (ha : PE X a (LP c ma)) (hb : PE X b (LP c mb)) (hg : Gl X "range" := by rfl) (hs : starEach [a, b] X.env = [(false, eval a X.env), (false, eval b X.env)] := by rfl) (hs2 : starEach [b] X.env = [(false, eval b X.env)] := by rfl) : PI X tg (.Call (.Name "range" p) [a, b] [] pos) (LI c (iRng2 ma mb)) := ok_iRng2 hg hm ha hb hs hs2
theorem xi_zip (hm : X.mg "zip" = none) (hk : X.K = c.C.K) (ha : PE X a (LE c ma)) (hb : PE X b (LE c mb)) (hg : Gl X "zip" := by rfl) (hs : starEach [a, b] X.env = (false, eval a X.env) :: starEach [b] X.env := by rfl) (hs2 : starEach [b] X.env = (false, eval b X.env) :: starEach [] X.env := by rfl)
    (hpl : (backTo pos (starEach [b] X.env)).any (·.1) = false := by rfl) : PI X (.Tuple elts kk tpos) (.Call (.Name "zip" p) [a, b] [] pos) (LI c (iZip ma mb)) := ok_iZip hk hg hm ha hb hs hs2 hpl
theorem xi_enum (hm : X.mg "enumerate" = none) (hk : X.K = c.C.K) (ha : PE X a (LE c ma)) (hg : Gl X "enumerate" := by rfl) (hs : starEach [a] X.env = (false, eval a X.env) :: starEach [] X.env := by rfl) : PI X (.Tuple elts kk tpos) (.Call (.Name "enumerate" p) [a] [] pos) (LI c (iEnum ma)) := ok_iEnum hk hg hm ha hs
end
/-! ### comprehensions -/
section
variable {elt iter : Expr} {ifs : List Expr} {me : SE} {cb : SB} {is : List Nat} {g : TG} {tgm : TgS} {y : Str} {py spos : Pos} {i : Nat}
theorem x_lc {scope : Scope} {own : List (Str × Nat)} {vs : List Nat} (hN : X.N.Nodup) (ok : BlkOk X.N X.env.scope scope own) (hi : PI X tg iter (LI c mi)) (tgo : TgOk c is g tgm)
    (hg : ∀ (s : Shared) (H : Hp) (C : Addr) (cl : List (Str × Addr)) (fp : List Addr), PG (X.blk s H scope (compEnvC scope cl C X.env) fp) tg g) (ht : ∀ (s : Shared) (H : Hp) (C : Addr) (cl : List (Str × Addr)) (fp : List Addr), PTs (X.blk s H scope (compEnvC scope cl C X.env) fp) ifs (LB c cb))
    (he : ∀ (s : Shared) (H : Hp) (C : Addr) (cl : List (Str × Addr)) (fp : List Addr), PE (X.blk s H scope (compEnvC scope cl C X.env) fp) elt (LE c me)) (hc : X.calm = true := by rfl) (hvs : own.map (·.2) = vs := by rfl) (hv : ∀ i ∈ is, i ∈ vs := by decide) (hs : ∀ x, foldedSetIterable iter X.env x = pure x := by intro _; rfl) :
    PE X (.ListComp elt [⟨tg, iter, ifs, 0⟩] scope pos) (LE c (eLc vs mi tgm cb me)) := by
  subst hvs
  exact ok_lc hc hN hi ok hv tgo hg ht he hs
theorem xf_lc {scope : Scope} {own : List (Str × Nat)} {vs : List Nat} (hN : X.N.Nodup) (ok : BlkOk X.N X.env.scope scope own) (hi : PI X tg iter (LI c mi)) (tgo : TgOk c is g tgm)
    (hg : ∀ (s : Shared) (H : Hp) (C : Addr) (cl : List (Str × Addr)) (fp : List Addr), PG (X.blk s H scope (compEnvC scope cl C X.env) fp) tg g) (ht : ∀ (s : Shared) (H : Hp) (C : Addr) (cl : List (Str × Addr)) (fp : List Addr), PTs (X.blk s H scope (compEnvC scope cl C X.env) fp) ifs (LB c cb))
    (he : ∀ (s : Shared) (H : Hp) (C : Addr) (cl : List (Str × Addr)) (fp : List Addr), PE (X.blk s H scope (compEnvC scope cl C X.env) fp) elt (LE c me)) (hc : X.calm = true := by rfl) (hvs : own.map (·.2) = vs := by rfl) (hv : ∀ i ∈ is, i ∈ vs := by decide) (hs : ∀ x, foldedSetIterable iter X.env x = pure x := by intro _; rfl) :
    PE X (.ListComp elt [⟨tg, iter, ifs, 0⟩] scope pos) (LF c (eLc vs mi tgm cb me)) := by
  subst hvs
  exact f_lc hc hN hi ok hv tgo hg ht he hs
theorem x_setLc {scope : Scope} {own : List (Str × Nat)} {vs : List Nat} (hN : X.N.Nodup) (ok : BlkOk X.N X.env.scope scope own) (hi : PI X tg iter (LI c mi)) (tgo : TgOk c is g tgm)
    (hg : ∀ (s : Shared) (H : Hp) (C : Addr) (cl : List (Str × Addr)) (fp : List Addr), PG (X.blk s H scope (compEnvC scope cl C X.env) fp) tg g) (ht : ∀ (s : Shared) (H : Hp) (C : Addr) (cl : List (Str × Addr)) (fp : List Addr), PTs (X.blk s H scope (compEnvC scope cl C X.env) fp) ifs (LB c cb))
    (he : ∀ (s : Shared) (H : Hp) (C : Addr) (cl : List (Str × Addr)) (fp : List Addr), PE (X.blk s H scope (compEnvC scope cl C X.env) fp) elt (LE c me)) (hc : X.calm = true := by rfl) (hy : X.N[i]? = some y := by rfl) (hyl : X.env.scope.names.lookup y = some .local := by rfl) (hvs : own.map (·.2) = vs := by rfl) (hv : ∀ i ∈ is, i ∈ vs := by decide) (hs : ∀ x, foldedSetIterable iter X.env x = pure x := by intro _; rfl)
    (hsw : swapsWith (.ListComp elt [⟨tg, iter, ifs, 0⟩] scope pos) (some (.Name y py)) spos.line X.env = pure true := by exact sw_true rfl rfl rfl (by decide +kernel)) :
    PS X (.Assign [.Name y py] (.ListComp elt [⟨tg, iter, ifs, 0⟩] scope pos) spos) (LS c (sSet i (eLc vs mi tgm cb me))) := by
  subst hvs
  exact s_setLc hc hN hy hyl hsw hi ok hv tgo hg ht he hs
theorem x_ownLc {scope : Scope} {own : List (Str × Nat)} {vs : List Nat} (hN : X.N.Nodup) (ok : BlkOk X.N X.env.scope scope own) (hi : PI X tg iter (LI c mi)) (tgo : TgOk c is g tgm)
    (hg : ∀ (s : Shared) (H : Hp) (C : Addr) (cl : List (Str × Addr)) (fp : List Addr), PG (X.blk s H scope (compEnvC scope cl C X.env) fp) tg g) (ht : ∀ (s : Shared) (H : Hp) (C : Addr) (cl : List (Str × Addr)) (fp : List Addr), PTs (X.blk s H scope (compEnvC scope cl C X.env) fp) ifs (LB c cb))
    (he : ∀ (s : Shared) (H : Hp) (C : Addr) (cl : List (Str × Addr)) (fp : List Addr), PE (X.blk s H scope (compEnvC scope cl C X.env) fp) elt (LE c me)) (hc : X.calm = true := by rfl) (hy : X.N[i]? = some y := by rfl) (hyl : X.env.scope.names.lookup y = some .local := by rfl) (hvs : own.map (·.2) = vs := by rfl) (hv : ∀ i ∈ is, i ∈ vs := by decide) (hs : ∀ x, foldedSetIterable iter X.env x = pure x := by intro _; rfl)
    (hsw : swapsWith (.ListComp elt [⟨tg, iter, ifs, 0⟩] scope pos) (some (.Name y py)) spos.line X.env = pure true := by exact sw_true rfl rfl rfl (by decide +kernel)) :
    PS X (.Assign [.Name y py] (.ListComp elt [⟨tg, iter, ifs, 0⟩] scope pos) spos) (LS c (sOwn i (eLc vs mi tgm cb me))) := by
  subst hvs
  exact s_ownLc hc hN hy hyl hsw hi ok hv tgo hg ht he hs
/-! ### statements -/
theorem x_set (i : Nat) {px : Pos} (hN : X.N.Nodup) (he : PE X e (LE c m)) (hi : X.N[i]? = some x := by rfl) (hx : Loc X.env.scope x := by first | exact Or.inl rfl | exact Or.inr rfl) (hf : X.fn x = true ∨ X.env.scope.names.lookup x = some .local := by first | exact .inl rfl | exact .inr rfl) (hs : swapsWith e (some (.Name x px)) pos.line X.env = pure false := by rfl) : PS X (.Assign [.Name x px] e pos) (LS c (sSet i m)) := s_set he hN hi hx hf hs
theorem x_own (i : Nat) {px : Pos} (hN : X.N.Nodup) (he : PE X e (LF c m)) (hi : X.N[i]? = some x := by rfl) (hx : Loc X.env.scope x := by first | exact Or.inl rfl | exact Or.inr rfl) (hf : X.fn x = true ∨ X.env.scope.names.lookup x = some .local := by first | exact .inl rfl | exact .inr rfl) (hs : swapsWith e (some (.Name x px)) pos.line X.env = pure false := by rfl) : PS X (.Assign [.Name x px] e pos) (LS c (sOwn i m)) := s_own he hN hi hx hf hs
theorem x_expr (he : PE X e (LE c m)) (hs : swapsWith e none pos.line X.env = pure false := by rfl) : PS X (.Expr e pos) (LS c (sExpr m)) := s_expr he hs
theorem x_unp {is : List Nat} {n : Nat} (hk : X.K = c.C.K) (he : PE X e (LE c m)) (hg : PGs X es (gNames is)) {kk : Nat} {tpos : Pos} (hn : is.length = n := by rfl) (hl : (assignEach es X.env).length = n := by rfl) (hst : (assignEach es X.env).findIdx? (·.1) = none := by rfl) (hc : X.calm = true := by rfl) (hs : swapsWithSole [.Tuple es kk tpos] e pos.line X.env = pure false := by rfl) (hw : swappedStores [.Tuple es kk tpos] e X.env = pure none := by rfl) (h1 : (assignEach [.Tuple es kk tpos] X.env).map (·.2) = [assign (.Tuple es kk tpos) X.env] := by rfl) : PS X (.Assign [.Tuple es kk tpos] e pos) (LS c (sUnp is m)) := s_unp hk he (pg_tup hc hg hl hst) hn hs hw h1
theorem x_for (hi : PI X tg iter (LI c mi)) (hg : PG X tg g) (tgo : TgOk c is g tgm) {b : SS} (hb : PSs X sts (LS c b)) (hp : PassesOwn (model X.prog X.w) X.A X.env X.xe := by exact PassesOwn.never) (hc : X.calm = true := by rfl) (hs : ∀ x, foldedSetIterable iter X.env x = pure x := by intro _; rfl) : PS X (.For tg iter sts [] pos) (LS c (sFor mi tgm b)) := s_for hp hc hi hg tgo hb hs
theorem x_wh {d : Expr} {n : Nat} {b : SS} (hc : PT X d (LB c cb)) (hb : PSs X sts (LS c b)) (hp : PassesOwn (model X.prog X.w) X.A X.env X.xe := by exact PassesOwn.never) : PS X (.While d sts [] pos) (LS c (sWh n cb b)) := s_wh hp hc hb
theorem x_par2 {j : Nat} {a b : Expr} {px pt : Pos} {kt k2 pt2} (hN : X.N.Nodup) (ha : PA X [a, b] (LH c mH)) (hi : X.N[i]? = some x := by rfl) (hj : X.N[j]? = some y := by rfl) (hij : i ≠ j := by decide)
    (hx : X.env.scope.names.lookup x = some .local := by rfl) (hy : X.env.scope.names.lookup y = some .local := by rfl) (hc : X.calm = true := by rfl)
    (hw : swappedStores [.Tuple [.Name x px, .Name y py] kt pt] (.Tuple [a, b] k2 pt2) X.env = pure (some [x, y]) := by rfl)
    (hs : swapsWithSole [.Tuple [.Name x px, .Name y py] kt pt] (.Tuple [a, b] k2 pt2) pos.line X.env = pure false := by rfl) :
    PS X (.Assign [.Tuple [.Name x px, .Name y py] kt pt] (.Tuple [a, b] k2 pt2) pos) (LS c (sPar [i, j] mH)) := s_par2 hc hN hi hj hij hx hy ha hw hs
theorem x_par3 {j l : Nat} {z : Str} {a b d : Expr} {px pz pt : Pos} {kt k2 pt2} (hN : X.N.Nodup) (ha : PA X [a, b, d] (LH c mH)) (hi : X.N[i]? = some x := by rfl) (hj : X.N[j]? = some y := by rfl) (hl : X.N[l]? = some z := by rfl) (hij : i ≠ j := by decide) (hil : i ≠ l := by decide) (hjl : j ≠ l := by decide)
    (hx : X.env.scope.names.lookup x = some .local := by rfl) (hy : X.env.scope.names.lookup y = some .local := by rfl) (hz : X.env.scope.names.lookup z = some .local := by rfl) (hc : X.calm = true := by rfl)
    (hw : swappedStores [.Tuple [.Name x px, .Name y py, .Name z pz] kt pt] (.Tuple [a, b, d] k2 pt2) X.env = pure (some [x, y, z]) := by rfl)
    (hs : swapsWithSole [.Tuple [.Name x px, .Name y py, .Name z pz] kt pt] (.Tuple [a, b, d] k2 pt2) pos.line X.env = pure false := by rfl) :
    PS X (.Assign [.Tuple [.Name x px, .Name y py, .Name z pz] kt pt] (.Tuple [a, b, d] k2 pt2) pos) (LS c (sPar [i, j, l] mH)) := s_par3 hc hN hi hj hl hij hil hjl hx hy hz ha hw hs
theorem x_app (i : Nat) {np ap cp : Pos} (he : PE X e (LE c m)) (hN : X.N[i]? = some x := by rfl) (hv : Vis X.env.scope x := by first | exact Or.inl rfl | exact Or.inr (Or.inl rfl) | exact Or.inr (Or.inr rfl)) (hd : (x == ("__debug__" : Str)) = false := by decide) (hcd : (x == ("__classdict__" : Str)) = false := by decide) (hs : swapsWith (.Call (.Attribute (.Name x np) "append" ap) [e] [] cp) none pos.line X.env = pure false := by rfl)
    (hbase : attributeBase (.Name x np) "append" X.env (eval (.Name x np) X.env) = eval (.Name x np) X.env := by rfl)
    (hfew : ((backTo cp (starEach [e] X.env)).all (fun x => !x.1) && (backToKw cp (keywordEach [] X.env)).all (fun x => x.1.isSome)
      && decide ([e].length + ([] : List Keyword).length + (if ([] : List Keyword).isEmpty then 0 else 1) < 30)) = true := by rfl)
    (hline : (ap.endLine == cp.line) = true := by rfl) (hst : starEach [e] X.env = (false, eval e X.env) :: starEach [] X.env := by rfl) (hplain : (backTo cp (starEach [] X.env)).any (·.1) = false := by rfl) :
    PS X (.Expr (.Call (.Attribute (.Name x np) "append" ap) [e] [] cp) pos) (LS c (sApp i m)) := s_app (pe_var hN hv hd hcd) he hs hbase hfew hline hst hplain
theorem x_ext (i : Nat) {np ap cp : Pos} (he : PE X e (LP c m)) (hN : X.N[i]? = some x := by rfl) (hv : Vis X.env.scope x := by first | exact Or.inl rfl | exact Or.inr (Or.inl rfl) | exact Or.inr (Or.inr rfl)) (hd : (x == ("__debug__" : Str)) = false := by decide) (hcd : (x == ("__classdict__" : Str)) = false := by decide) (hs : swapsWith (.Call (.Attribute (.Name x np) "extend" ap) [e] [] cp) none pos.line X.env = pure false := by rfl)
    (hbase : attributeBase (.Name x np) "extend" X.env (eval (.Name x np) X.env) = eval (.Name x np) X.env := by rfl)
    (hfew : ((backTo cp (starEach [e] X.env)).all (fun x => !x.1) && (backToKw cp (keywordEach [] X.env)).all (fun x => x.1.isSome)
      && decide ([e].length + ([] : List Keyword).length + (if ([] : List Keyword).isEmpty then 0 else 1) < 30)) = true := by rfl)
    (hline : (ap.endLine == cp.line) = true := by rfl) (hst : starEach [e] X.env = (false, eval e X.env) :: starEach [] X.env := by rfl) (hplain : (backTo cp (starEach [] X.env)).any (·.1) = false := by rfl) :
    PS X (.Expr (.Call (.Attribute (.Name x np) "extend" ap) [e] [] cp) pos) (LS c (sExt i m)) := s_ext (pe_var hN hv hd hcd) he hs hbase hfew hline hst hplain
theorem x_put (i : Nat) {k : Expr} {np tp : Pos} {mk : SE} (hk : PE X k (LP c mk)) (he : PE X e (LE c m)) (hN : X.N[i]? = some x := by rfl) (hv : Vis X.env.scope x := by first | exact Or.inl rfl | exact Or.inr (Or.inl rfl) | exact Or.inr (Or.inr rfl)) (hd : (x == ("__debug__" : Str)) = false := by decide) (hcd : (x == ("__classdict__" : Str)) = false := by decide) (hs : swapsWithSole [.Subscript (.Name x np) k tp] e pos.line X.env = pure false := by rfl) (hw : swappedStores [.Subscript (.Name x np) k tp] e X.env = pure none := by rfl)
    (h1 : (assignEach [.Subscript (.Name x np) k tp] X.env).map (·.2) = [assign (.Subscript (.Name x np) k tp) X.env] := by rfl)
    (ha : ∀ v, assign (.Subscript (.Name x np) k tp) X.env v = (do
      let ov ← holding [v] (eval (.Name x np) X.env)
      let iv ← holding [v, ov] (eval k X.env)
      standAt tp
      holding [v, ov, iv] (setItem ov iv v)
      release [v, ov, iv] []) := by intro _; rfl) : PS X (.Assign [.Subscript (.Name x np) k tp] e pos) (LS c (sPut i mk m)) := s_put (pe_var hN hv hd hcd) hk he hs hw h1 ha
theorem x_putS {o k : Expr} {ma mk : SE} {tp : Pos} (ho : PE X o (LP c ma)) (hk : PE X k (LP c mk)) (he : PE X e (LE c m)) (hs : swapsWithSole [.Subscript o k tp] e pos.line X.env = pure false := by rfl) (hw : swappedStores [.Subscript o k tp] e X.env = pure none := by rfl)
    (h1 : (assignEach [.Subscript o k tp] X.env).map (·.2) = [assign (.Subscript o k tp) X.env] := by rfl)
    (ha : ∀ v, assign (.Subscript o k tp) X.env v = (do
      let ov ← holding [v] (eval o X.env)
      let iv ← holding [v, ov] (eval k X.env)
      standAt tp
      holding [v, ov, iv] (setItem ov iv v)
      release [v, ov, iv] []) := by intro _; rfl) : PS X (.Assign [.Subscript o k tp] e pos) (LS c (sPutS ma mk m)) := s_putS ho hk he hs hw h1 ha
end
end
end Q
/-! Qs: the rules in short, the rest; defs of the text. -/
namespace Q
open PySem PySem.Spec PyProof.Rows L2
section
variable {X : Cx} {c : Cn} {e a b d : Expr} {ma mb md : SE} {pos : Pos} {k : Nat}
theorem Room.units1 (r : Room k X.A) : X.A.units + 65 < cLine := by have := r.un; omega
theorem xo_eq (r : Room k X.A) : OpR X (compareOp .Eq) (rEqD X.K) := op_eqD r.units
theorem xo_ne (r : Room k X.A) : OpR X (compareOp .NotEq) (rNeD X.K) := op_neD r.units
theorem xo_in (r : Room k X.A) : OpR X (compareOp .In) (rInA X.K false) := op_inA (Room.units1 r)
theorem xo_nin (r : Room k X.A) : OpR X (compareOp .NotIn) (rInA X.K true) := op_ninA (Room.units1 r)
theorem x_ech {op op' : CmpOp} {o o' : Cm} {r r' : R2} (ht : CmT c o r) (ht' : CmT c o' r') (hr : OpR X (compareOp op) r) (hr' : OpR X (compareOp op') r') (ha : PE X a (LP c ma)) (hb : PE X b (LP c mb)) (hd : PE X d (LP c md))
    (hm : lastMarks [op, op'] [b, d] = false := by with_unfolding_all rfl) : PE X (.Compare a [op, op'] [b, d] pos) (LE c (eB (bCh o o' ma mb md))) := be_ch ht ht' hr hr' ha hb hd hm
theorem x_bch {op op' : CmpOp} {o o' : Cm} {r r' : R2} (ht : CmT c o r) (ht' : CmT c o' r') (hr : OpR X (compareOp op) r) (hr' : OpR X (compareOp op') r') (ha : PE X a (LP c ma)) (hb : PE X b (LP c mb)) (hd : PE X d (LP c md))
    (hm : lastMarks [op, op'] [b, d] = false := by with_unfolding_all rfl) : PT X (.Compare a [op, op'] [b, d] pos) (LB c (bCh o o' ma mb md)) := bt_ch ht ht' hr hr' ha hb hd hm
theorem s_doc {x j pos pos'} : PS X (.Expr (.Constant (.str x) j pos) pos') (LS c sNil) := ps_doc.w fun D s H ⟨M, S, fr, rs, h⟩ => h M s H .refl rs
end
section
variable {X : Cx} {c : Cn} {M M' : Addr → Prop} {S S' : Sto} {Hs H H' : Hp} {s : L2.St} {fr : Fr} {D : Ends}
theorem SlFs.k : ∀ {as : List Sl} {vs : List V}, SlFs c M Hs H as vs → (∀ a ∈ c.r, c.B M a) → Kp c.r H H' → SlFs c M Hs H' as vs
  | [], _, h, _, _ => h
  | a :: as, _, ⟨v, vr, e, h1, h2, h3⟩, rb, k => ⟨v, vr, e, h1.k rb k (fun _ z => z) (fun _ z => .inl z), h2.k rb k, h3⟩
theorem gNames_of {Q : L2.St → Hp → Prop} : ∀ {is : List Nat} {vs : List V} {s : L2.St}, vs.length = is.length → Q (setV is vs s) H → gNames is vs s H Q
  | [], [], _, _, h => ⟨rfl, h⟩
  | [], v :: vs, _, e, _ => by simp at e
  | i :: is, [], _, e, _ => by simp at e
  | i :: is, v :: vs, s, e, h => ⟨v, vs, rfl, gNames_of (by simpa using e) h⟩
theorem parT_of {is : List Nat} {m : SH} (h : LS c (sPar is m) D s H) : LH c m s H fun vs H1 => vs.length = is.length ∧ ∀ p, H1 p = none → D.nx (setV is vs s) (upd H1 p (.tup vs)) := by
  obtain ⟨M, S, fr, rs, h⟩ := h
  refine ⟨M, S, fr, rs, ?_⟩
  simp only [sPar] at h
  cases e : m fr S with
  | ok as S1 =>
    rw [e] at h
    simp only [Re.thn_ok] at h
    cases e1 : setSl is as fr with
    | none => rw [e1] at h; exact h.elim
    | some fr1 =>
      rw [e1] at h
      intro vs H' M' k h0 h1 rs' fs
      refine ⟨by rw [fs.len, setSl_len e1], fun p n => ?_⟩
      have kn : Kp c.r H' (upd H' p (.tup vs)) := Kp.upd_new n
      have rs2 := rs'.step kn (rs'.st.k kn rs'.rb (upd_keeps n))
      have k2 := k.trans kn
      refine h M' _ _ ⟨(k2.kq rs.rm).keep, k2.tups, k2.frzs, k2.tbls, h1⟩ (rs2.sets (fs.k rs'.rb kn) (fun k j t u p e1 e2 e3 e4 => ?_) e1)
      obtain ⟨p', e5, n⟩ := fs.new e1
      rw [e2] at e5
      cases e5
      exact rs.far (fun z => rs.mt p z n) j u e3 e4
  | _ => rw [e] at h; exact h.elim
theorem x_parT {is : List Nat} {n : Nat} {es vs : List Expr} {kk k2 : Nat} {tpos p2 pos : Pos} {mH : SH} (hk : X.K = c.C.K) (ha : PA X vs (LH c mH)) (hg : PGs X es (gNames is)) (hn : is.length = n := by rfl) (hn2 : n ≤ 100 := by decide) (hl : (assignEach es X.env).length = n := by rfl) (hst : (assignEach es X.env).findIdx? (·.1) = none := by rfl) (hc : X.calm = true := by rfl)
    (hs : swapsWithSole [.Tuple es kk tpos] (.Tuple vs k2 p2) pos.line X.env = pure false := by rfl) (hw : swappedStores [.Tuple es kk tpos] (.Tuple vs k2 p2) X.env = pure none := by rfl) (h1 : (assignEach [.Tuple es kk tpos] X.env).map (·.2) = [assign (.Tuple es kk tpos) X.env] := by rfl) :
    PS X (.Assign [.Tuple es kk tpos] (.Tuple vs k2 p2) pos) (LS c (sPar is mH)) :=
  (ps_asg (pe_tup ha) (pg_tup hc hg hl hst) hs hw h1).w fun D s H h => by
    obtain ⟨M, S, fr, rs, h⟩ := parT_of h
    refine ⟨M, S, fr, rs, ?_⟩
    revert h
    cases mH fr S with
    | ok as S1 =>
      intro h vs H' M' k h0 h1 rs' fs
      obtain ⟨l, h⟩ := h vs H' M' k h0 h1 rs' fs
      exact ⟨by rw [l, sizeLine_eq]; omega, fun p n => ⟨p, vs, rfl, .of upd_same, by rw [l, hn], gNames_of l (h p n)⟩⟩
    | _ => exact fun h => h
end
/-- a def of the text under its name -/
def DefI (K : PySem.W.Frag) (mg : Str → Option Value) (x : Str) (st : Stmt) (ps : List Str) : Prop := ∃ f fd, Fun K x x st f fd ∧ mg x = some (.ref f) ∧ Binds K fd ps []
section
variable {P : Program} {w : World} {mg : Str → Option Value} {base : Heap} {C : RC}
theorem cl_okD {x : Str} {st : Stmt} {N ps : List Str} {k np ns : Nat} {b : SS} {F : FN} (eF : F = fn np ns b) (D : DefI C.K mg x st ps) (Sc : FnScope N ps (defScope st)) (hp : ps.length = np) (hns : N.length = ns)
    (body : ∀ {f : Addr} (cdv : Value) (A : Around) (outer : List Env) (s : Shared) (H : Hp) (E : XK) (U : Addr → Prop) (r : List Addr), Room k (A.deeper (envOfC x (defScope st) s.heap.objs.size f cdv)) → PSs (cxOf CX0 P w C.K mg base N x (defScope st) f cdv A outer s H E).nox (defBody st) (LS ⟨C, U, H, r⟩ b)) :
    Cl P w C.K mg base C (k + 1) x F := by
  obtain ⟨f, fd, G, hm, bi⟩ := D
  exact cl_ok eF G hm bi Sc hp hns fun cdv A outer s H E U r hr => body cdv A outer s H E U r hr
theorem cl_bad0 {x : Str} {st : Stmt} {ps : List Str} {k : Nat} (D : DefI C.K mg x st ps) : Cl P w C.K mg base C k x (fun _ _ => .bad) := by
  obtain ⟨f, fd, G, hm, bi⟩ := D
  exact cl_bad (N := []) G hm bi
end
end Q
/-! Qt: the law's hand; the law's end. -/
namespace Q
open PySem PySem.Spec PyProof.Rows L2
def absI (n : Int) : Int := if n < 0 then -n else n
/-- what _law_hand makes -/
def hand0 (n4 : Nat → Int) (ns : List Int) : PV := .lst [.lst (ns.map fun n => .int (absI n)), .int 0, .int 0, .int (n4 ns.length), .int 0]
def spHand (K : PySem.W.Frag) (n4 : Nat → Int) : Sp := fun vs H Q _ => ∃ (a : Addr) (ns : List Int), vs = [.ref a] ∧ SqL K H a (ns.map V.int) ∧ ns.length ≤ 63 ∧ ∀ H' p c, (∀ b o, H b = some o → H' b = some o) → H p = none → H c = none → p ≠ c →
  H' c = some (.lst (ns.map fun n => .int (absI n))) → H' p = some (.lst [.ref c, .int 0, .int 0, .int (n4 ns.length), .int 0]) → Q (.ref p) H'
abbrev rAbs : List V → Hp → VK → Prop := fun xs H Q => ∃ i, xs = [.int i] ∧ Q (.int (if i < 0 then -i else i)) H
abbrev rInt1 : List V → Hp → VK → Prop := fun xs H Q => (∃ i, xs = [.int i] ∧ Q (.int i) H) ∨ ∃ k, xs = [.bl k] ∧ Q (.int (if k then 1 else 0)) H
abbrev rLenS (K : PySem.W.Frag) : List V → Hp → VK → Prop := fun xs H Q => ∃ p ys, xs = [.ref p] ∧ (SqL K H p ys ∨ SqT K H p ys) ∧ Q (.int ys.length) H
abbrev tLen1 (K : PySem.W.Frag) : TE := tCB (rLenS K) (tCons (tVar 1) tNil)
/-- the reading of _law_hand's body; t4 its fourth item's -/
abbrev tHand (K : PySem.W.Frag) (t4 : TE) : TS := tSeq (tAsg (tLc (iList K (tSl (rSlL K) (tVar 0) tNoPart (tPart (tC (.int 63))))) (gName 2) tYes (tCB rAbs (tCons (tCB rInt1 (tCons (tVar 2) tNil)) tNil)) [2]) (gName 1))
  (tSeq (tRet (tLst (tCons (tVar 1) (tCons (tC (.int 0)) (tCons (tC (.int 0)) (tCons t4 (tCons (tC (.int 0)) tNil))))))) tNext)
theorem cut63 {xs : List V} (h : xs.length ≤ 63) : cutV xs none (some 63) = xs := by
  apply cutV_whole
  refine ⟨rfl, ?_⟩
  show min (63 : Int).toNat xs.length = xs.length
  omega
theorem hand_read {K : PySem.W.Frag} {t4 : TE} {n4 : Nat → Int} {a : Addr} {ns : List Int} {H : Hp} {Q : VK} (hS : SqL K H a (ns.map V.int)) (hl : ns.length ≤ 63)
    (h4 : ∀ (σ : L2.St) (H : Hp) (q : VK) (c : Addr) (ys : List V), σ[1]? = some (some (.ref c)) → SqL K H c ys → q (.int (n4 ys.length)) H → t4 σ H q)
    (h : ∀ H' p c, (∀ b o, H b = some o → H' b = some o) → H p = none → H c = none → p ≠ c → H' c = some (.lst (ns.map fun n => .int (absI n))) → H' p = some (.lst [.ref c, .int 0, .int 0, .int (n4 ns.length), .int 0]) → Q (.ref p) H') :
    tHand K t4 { nx := fun _ H' => Q .non H', rt := Q } (L2.start ["script", "cells", "cell"] [.ref a]) H := by
  have hlen : (ns.map V.int).length ≤ 63 := by rw [List.length_map]; exact hl
  refine ⟨.ref a, rfl, 63, rfl, a, ns.map V.int, rfl, hS, fun b nb => ?_⟩
  rw [cut63 hlen]
  refine ⟨b, rfl, ⟨_, .of upd_same⟩, fun D nD => ?_⟩
  have nbD : D ≠ b := fun e => by rw [e, upd_same] at nD; exact nomatch nD
  have nD' : H D = none := by rw [upd_ne nbD] at nD; exact nD
  refine lc_list (xs := ns.map V.int) (fun i H3 => (∀ b o, H b = some o → H3 b = some o) ∧ H3 b = some (.lst (ns.map V.int)) ∧ H3 D = some (.lst ((ns.take i).map fun n => .int (absI n)))) ⟨fun c o e => ?_, ?_, ?_⟩ (fun i H3 _ p => .of p.2.1) (fun i x H3 ex p => ?_) (fun H3 p => ?_)
  · rw [upd_ne (ne_of_none e nD'), upd_ne (ne_of_none e nb)]; exact e
  · rw [upd_ne nbD.symm, upd_same]
  · rw [upd_same]; rfl
  · rw [List.getElem?_map, Option.map_eq_some_iff] at ex
    obtain ⟨n, en, rfl⟩ := ex
    refine ⟨rfl, ?_⟩
    unfold tYes
    dsimp only
    simp only [if_true]
    refine ⟨.int n, rfl, .inl ⟨n, rfl, n, rfl, _, p.2.2, ?_, fun c o e => ?_, ?_, ?_⟩⟩
    · rw [List.length_map, List.length_take]
      exact Nat.lt_of_le_of_lt (Nat.min_le_right _ _) (Nat.lt_of_le_of_lt hl (by decide))
    · rw [upd_ne (ne_of_none e nD')]; exact p.1 c o e
    · rw [upd_ne nbD.symm]; exact p.2.1
    · rw [upd_same, List.take_add_one, en, List.map_append]
      rfl
  · obtain ⟨p1, p2, p3⟩ := p
    rw [List.length_map, List.take_length] at p3
    refine ⟨.ref D, rfl, h4 _ _ _ D _ rfl (.of p3) ⟨by show 5 ≤ sizeLine; decide, fun p np => ?_⟩⟩
    have npD : p ≠ D := fun e => by rw [e, p3] at np; exact nomatch np
    refine h _ p D (fun c o e => ?_) ?_ nD' npD ?_ ?_
    · rw [upd_ne (ne_of_none (p1 c o e) np)]; exact p1 c o e
    · cases e : H p with
      | none => rfl
      | some o => rw [p1 p o e] at np; exact nomatch np
    · rw [upd_ne npD.symm]; exact p3
    · rw [upd_same, List.length_map]
theorem ints_reps {C : RC} {B : Addr → Prop} {r : List Addr} {H : Hp} {f : Int → Int} : ∀ {ns : List Int}, Reps C B r H (ns.map fun n => .int (f n)) (ns.map fun n => .int (f n))
  | [] => .nil
  | n :: ns => .cons (by simp only [Rep]) ints_reps
section
variable {P : Program} {w : World} {mg : Str → Option Value} {base : Heap} {C : RC} {K : PySem.W.Frag}
/-- _law_hand -/
structure ClH (P : Program) (w : World) (K : PySem.W.Frag) (mg : Str → Option Value) (base : Heap) (n4 : Nat → Int) : Prop where
  ex : ∃ (f : Addr) (fd : FuncData) (ps : List Str), FnOk P w K mg base CX0 1 f fd ps (spHand K n4) ∧ mg "_law_hand" = some (.ref f) ∧ PySem.W.keepIn K (.ref f) = true ∧ Binds K fd ps []
theorem hand_ok {st : Stmt} {t4 : TE} {n4 : Nat → Int} (Df : DefI K mg "_law_hand" st ["script"]) (Sc : FnScope ["script", "cells", "cell"] ["script"] (defScope st))
    (h4 : ∀ (σ : L2.St) (H : Hp) (q : VK) (c : Addr) (ys : List V), σ[1]? = some (some (.ref c)) → SqL K H c ys → q (.int (n4 ys.length)) H → t4 σ H q)
    (body : ∀ {f : Addr} (cdv : Value) (A : Around) (outer : List Env) (s : Shared) (H : Hp) (E : XK), PSs (cxOf CX0 P w K mg base ["script", "cells", "cell"] "_law_hand" (defScope st) f cdv A outer s H E).nox (defBody st) (tHand K t4)) : ClH P w K mg base n4 := by
  obtain ⟨f, fd, G, hm, bi⟩ := Df
  refine ⟨f, fd, _, Fun.ok G Sc (fun vs H Q E h => ?_) (fun cdv A outer s H vs Q E hr h => ?_), hm, G.kp, bi⟩
  · obtain ⟨a, ns, rfl, _⟩ := h
    rfl
  · obtain ⟨a, ns, rfl, hS, hl, q⟩ := h
    exact ⟨_, body cdv A outer s H E, hand_read hS hl h4 q⟩
def LSx (C : RC) (m : SS) : TS := fun D s H => ∃ c : Cn, c.C = C ∧ LS c m D s H
theorem pss_x {X : Cx} {sts : List Stmt} {m : SS} (h : ∀ c : Cn, c.C = C → PSs X sts (LS c m)) : PSs X sts (LSx C m) := ⟨fun pins s σ H D I ⟨c, e, q⟩ => (h c e).run pins s σ H D I q⟩
def spLaw (K : PySem.W.Frag) : Sp := fun vs H Q _ => ∃ (a : Addr) (ns : List Int), vs = [.ref a] ∧ SqL K H a (ns.map V.int) ∧ ns.length ≤ 63 ∧ ∀ H', Q (.bl true) H'
/-- behind hand = _law_hand(script) -/
def fr0 (n i : Nat) : Fr := (List.replicate n .no).set i (.va (.ref 0))
theorem law_ok {st : Stmt} {m : SS} {N : List Str} {i n : Nat} {n4 : Nat → Int} {k : Nat} {f : Addr} {fd : FuncData} (G : Fun C.K "law" "law" st f fd) (Sc : FnScope N ["script"] (defScope st)) (hn : N.length = n) (hi : i < n) (ch : ClH P w C.K mg base n4)
    (body : ∀ {g : Addr} (cdv : Value) (A : Around) (outer : List Env) (s : Shared) (H : Hp) (E : XK), Room k (A.deeper (envOfC "law" (defScope st) s.heap.objs.size f cdv)) → PSs (cxOf CX0 P w C.K mg base N "law" (defScope st) f cdv A outer s H E).nox (defBody st) (tSeq (tAsg (tCall (spHand C.K n4) [] E0 (tCons (tVar 0) tNil)) (gName i)) (LSx C m)))
    (plain : ∀ ns : List Int, ns.length ≤ 63 → ∃ S', m (fr0 n i) [hand0 n4 ns] = .rt (.bl true) S') : FnOk P w C.K mg base CX0 (k + 1) f fd ["script"] (spLaw C.K) := by
  refine Fun.ok G Sc (fun vs H Q E h => ?_) (fun cdv A outer s H vs Q E hr h => ?_)
  · obtain ⟨a, ns, rfl, _⟩ := h
    rfl
  · obtain ⟨a, ns, rfl, hS, hl, q⟩ := h
    refine ⟨_, body (g := f) cdv A outer s H E hr, ?_⟩
    have e0 : (L2.start N [.ref a])[0]? = some (some (.ref a)) := rfl
    refine ⟨.ref a, e0, a, ns, rfl, hS, hl, fun H' p c kp np nc npc ec ep => ?_⟩
    refine ⟨⟨C, fun b => b = p, H', [p]⟩, rfl, fun b => b = p, [hand0 n4 ns], fr0 n i, ?_, ?_⟩
    · have hlen : (L2.start N [.ref a]).length = n := by
        unfold L2.start
        simp only [List.length_append, List.length_map, List.length_replicate, List.length_cons, List.length_nil]
        omega
      refine ⟨.refl, fun b z => (by rw [show b = p from z]; show H' p ≠ none; rw [ep]; exact (fun z => nomatch z)), fun b z => (by rw [show b = p from z, ep]; exact (fun z => nomatch z)), fun b z nz => absurd (by rw [z]; simp) nz, fun b z => by simpa using z, fun b z => by simpa using z, ⟨rfl, by simp, fun j b t e1 e2 => ?_⟩, ?_, fun j b e o e' => ?_, fun j k t u b e _ _ _ => ?_⟩
      · match j, e1, e2 with
        | 0, e1, e2 =>
          cases e1
          cases e2
          refine ⟨_, ep, .cons ?_ (.cons (by simp only [Rep]) (.cons (by simp only [Rep]) (.cons (by simp only [Rep]) (.cons (by simp only [Rep]) .nil))))⟩
          simp only [Rep]
          refine ⟨c, _, rfl, ⟨ec, fun z => z.elim (fun e => npc e.symm) fun e => npc e.symm⟩, ?_⟩
          exact ints_reps
      · unfold fr0
        rw [List.length_set, List.length_replicate, List.length_set, hlen]
      · unfold fr0 at e
        by_cases ij : i = j
        · subst ij
          rw [List.getElem?_set_self (by rw [List.length_replicate]; exact hi)] at e
          rw [List.getElem?_set_self (by rw [hlen]; exact hi)] at e'
          cases e
          cases e'
          show Rep _ _ _ _ _ _
          simp only [Rep]
          exact ⟨p, rfl, rfl⟩
        · rw [List.getElem?_set_ne ij, List.getElem?_replicate] at e
          split at e
          · cases e; exact True.intro
          · exact nomatch e
      · unfold fr0 at e
        by_cases ij : i = j
        · subst ij
          rw [List.getElem?_set_self (by rw [List.length_replicate]; exact hi)] at e
          exact nomatch e
        · rw [List.getElem?_set_ne ij, List.getElem?_replicate] at e
          split at e <;> exact nomatch e
    · obtain ⟨S', e⟩ := plain ns hl
      rw [e]
      intro v H2 _ _ rv
      simp only [Rep] at rv
      subst rv
      exact q H2
end

/-! ### the head's facts -/
theorem relV_of : ∀ {v : V} {u : Value}, absV u = some v → RelV v u
  | v, .none, h => by cases h; rfl
  | v, .bool _, h => by cases h; rfl
  | v, .int i t, h => by cases h; exact ⟨t, rfl⟩
  | v, .str x t, h => by cases h; exact ⟨t, rfl⟩
  | v, .bytes x t, h => by cases h; exact ⟨t, rfl⟩
  | v, .float x t, h => by cases h; exact ⟨t, rfl⟩
  | v, .ref _, h => by cases h; rfl
  | v, .type _, h => by cases h; rfl
theorem vals_abs : ∀ {vs : List V} {us : List Value}, us.map absV = vs.map some → Vals vs us
  | [], [], _ => .nil
  | [], _ :: _, h => by simp at h
  | _ :: _, [], h => by simp at h
  | v :: vs, u :: us, h => by
    simp only [List.map_cons, List.cons.injEq] at h
    exact .cons (relV_of h.1) (vals_abs h.2)
theorem kt_flat {K : PySem.W.Frag} {a : Addr} {od : Option Addr} {its : Array Value} {n : Nat} {sl : Array (Option Value)} {vs : List V} {ts : List PV} (l : K.lookup a = some ⟨.type "tuple", od, .seq its n, sl⟩) (e : its.toList.map absV = vs.map some) (hz : vs.length ≤ 1000) (h : KReps K ts vs) : KRep K (.tup ts) (.ref a) := by
  simp only [KRep]
  refine ⟨a, vs, rfl, ⟨_, its, n, l, rfl, rfl, ?_, vals_abs e⟩, h⟩
  have := congrArg List.length e
  simp only [List.length_map, Array.length_toList] at this
  rw [this, sizeLine_eq]
  omega
theorem gd_cons {s k : Str} {t x : PV} {r : List (Str × PV)} {p : Str → PV → Prop} (e : List.lookup s ((k, x) :: r) = some t) (h : p k x) (n : List.lookup s r = some t → p s t) : p s t := by
  rw [List.lookup_cons] at e
  split at e
  · rename_i z
    cases e
    rw [show s = k from eq_of_beq z]
    exact h
  · exact n e
/-- nothing but what is written -/
def RC0 (K : PySem.W.Frag) : RC := ⟨K, fun _ => 0, fun _ _ _ _ => False, fun h _ => h, fun h _ => h⟩
end Q
/-! Qu: what the combinators give, as rows for simp; loops and comprehensions by lemma. -/
namespace Q
open PySem
def Sl.val : Sl → Option PV
  | .va t => some t
  | _ => none
def Sl.peek : Sl → Option PV
  | .va t => some t
  | .ow t => some t
  | .bo t => some t
  | _ => none
def PV.bool : PV → Option Bool
  | .bl b => some b
  | _ => none
def PV.intv : PV → Option Int
  | .int b => some b
  | _ => none
def Sl.app : Sl → PV → Option Sl
  | .ow (.lst xs), y => if fits (xs.length + 1) then some (.ow (.lst (xs ++ [y]))) else none
  | _, _ => none
def Sl.ext : Sl → PV → Option Sl
  | .ow (.lst xs), .lst ys => if fits (xs.length + ys.length) then some (.ow (.lst (xs ++ ys))) else none
  | _, _ => none
def Sl.putAt : Sl → PV → PV → Option Sl
  | .ow (.lst xs), .int n, y => (ixN xs.length n).map fun j => .ow (.lst (xs.set j y))
  | _, _, _ => none
def stPut (S : Sto) : PV → PV → PV → Option Sto
  | .ref r, .int n, y => (S[r]?).bind fun t => t.items.bind fun xs => if t.isC then (ixN xs.length n).map fun j => S.set r (.lst (xs.set j y)) else none
  | _, _, _ => none
def Ou.ret : Ou → Re PV
  | .nx _ S => .ok .non S
  | .rt t S => .ok t S
  | .ex c as S => .ex c as S
  | _ => .bad
def Ou.turn : Ou → SS → Ou
  | .nx fr S, k => k fr S
  | .ct fr S, k => k fr S
  | .bk fr S, _ => .nx fr S
  | .rt t S, _ => .rt t S
  | .ex c as S, _ => .ex c as S
  | .bad, _ => .bad
def Re.nox {α : Type} : Re α → Re α
  | .ok a S => .ok a S
  | _ => .bad
section
variable {α : Type} {x y t : PV} {b : Bool} {i j : Nat} {n : Int} {s : Str} {xs ys : List PV} {fr : Fr} {S S' : Sto} {a c : SE} {k : SS} {F : List PV → Sto → Re PV} {tg : TgS} {cb : SB} {m : SE} {ex : Nat} {as : List PV} {sl : Sl}
@[simp] theorem val_va : (Sl.va t).val = some t := rfl
@[simp] theorem val_no : Sl.no.val = none := rfl
@[simp] theorem val_ow : (Sl.ow t).val = none := rfl
@[simp] theorem val_bo : (Sl.bo t).val = none := rfl
@[simp] theorem peek_va : (Sl.va t).peek = some t := rfl
@[simp] theorem peek_ow : (Sl.ow t).peek = some t := rfl
@[simp] theorem peek_bo : (Sl.bo t).peek = some t := rfl
@[simp] theorem peek_no : Sl.no.peek = none := rfl
@[simp] theorem froz_va : (Sl.va t).froz = .va t := rfl
@[simp] theorem froz_ow : (Sl.ow t).froz = .va t := rfl
@[simp] theorem froz_bo : (Sl.bo t).froz = .bo t := rfl
@[simp] theorem froz_no : Sl.no.froz = .no := rfl
@[simp] theorem bool_bl : (PV.bl b).bool = some b := rfl
@[simp] theorem intv_int : (PV.int n).intv = some n := rfl
@[simp] theorem app_ow : (Sl.ow (.lst xs)).app y = if fits (xs.length + 1) then some (.ow (.lst (xs ++ [y]))) else none := rfl
@[simp] theorem ext_ow : (Sl.ow (.lst xs)).ext (.lst ys) = if fits (xs.length + ys.length) then some (.ow (.lst (xs ++ ys))) else none := rfl
@[simp] theorem putAt_ow : (Sl.ow (.lst xs)).putAt (.int n) y = (ixN xs.length n).map fun j => .ow (.lst (xs.set j y)) := rfl
@[simp] theorem stPut_ref {r : Nat} : stPut S (.ref r) (.int n) y = (S[r]?).bind fun t => t.items.bind fun xs => if t.isC then (ixN xs.length n).map fun j => S.set r (.lst (xs.set j y)) else none := rfl
@[simp] theorem isC_tup : (PV.tup xs).isC = false := rfl
@[simp] theorem isC_int : (PV.int n).isC = false := rfl
@[simp] theorem stAt_ref {r : Nat} : stAt S (.ref r) y = (S[r]?).bind fun t => t.at_ y := by
  show (match S[r]? with | some t => t.at_ y | none => none) = _
  cases S[r]? <;> rfl
@[simp] theorem at_tup : (PV.tup xs).at_ (.int n) = ixV xs n := rfl
@[simp] theorem at_lst : (PV.lst xs).at_ (.int n) = ixV xs n := rfl
@[simp] theorem cut_tup {lo hi : Option Int} : (PV.tup xs).cut_ lo hi = some (.tup (cut xs lo hi)) := rfl
@[simp] theorem cut_lst {lo hi : Option Int} : (PV.lst xs).cut_ lo hi = some (.lst (cut xs lo hi)) := rfl
@[simp] theorem allBl_nil : allBl [] = some [] := rfl
@[simp] theorem allBl_cons : allBl (.bl b :: xs) = (allBl xs).map (b :: ·) := rfl
@[simp] theorem allInt_nil : allInt [] = some [] := rfl
@[simp] theorem allInt_cons : allInt (.int n :: xs) = (allInt xs).map (n :: ·) := rfl
@[simp] theorem ret_nx : (Ou.nx fr S).ret = .ok .non S := rfl
@[simp] theorem ret_rt : (Ou.rt t S).ret = .ok t S := rfl
@[simp] theorem ret_bad : Ou.bad.ret = .bad := rfl
@[simp] theorem ret_ex : (Ou.ex ex as S).ret = .ex ex as S := rfl
@[simp] theorem turn_nx : (Ou.nx fr S).turn k = k fr S := rfl
@[simp] theorem turn_ct : (Ou.ct fr S).turn k = k fr S := rfl
@[simp] theorem turn_bk : (Ou.bk fr S).turn k = .nx fr S := rfl
@[simp] theorem turn_rt : (Ou.rt t S).turn k = .rt t S := rfl
@[simp] theorem turn_bad : Ou.bad.turn k = .bad := rfl
@[simp] theorem turn_ex : (Ou.ex ex as S).turn k = .ex ex as S := rfl
@[simp] theorem nox_ok {v : α} : (Re.ok v S).nox = .ok v S := rfl
@[simp] theorem nox_bad : (Re.bad : Re α).nox = .bad := rfl
@[simp] theorem eV_ap : eV i fr S = .of ((fr[i]?).bind Sl.val) S := by
  unfold eV; cases e : fr[i]? with
  | none => rfl
  | some a => cases a <;> rfl
@[simp] theorem eP_ap : eP i fr S = .of ((fr[i]?).bind Sl.peek) S := by
  unfold eP; cases e : fr[i]? with
  | none => rfl
  | some a => cases a <;> rfl
@[simp] theorem bE_ap : bE a fr S = (a fr S).bind fun x S1 => .of x.bool S1 := by
  unfold bE; congr; funext x S1; cases x <;> rfl
@[simp] theorem eNeg_ap : eNeg a fr S = (a fr S).bind fun x S1 => .of (x.intv.map fun i => .int (-i)) S1 := by
  unfold eNeg; congr; funext x S1; cases x <;> rfl
@[simp] theorem oS_ap : oS a fr S = (a fr S).bind fun x S1 => .of (x.intv.map some) S1 := by
  unfold oS; congr; funext x S1; cases x <;> rfl
@[simp] theorem tT_tup {is : List Nat} : tT is (.tup xs) fr = setAll is xs fr := rfl
@[simp] theorem setAll_nil : setAll [] [] fr = some fr := rfl
@[simp] theorem setAll_cons {is : List Nat} : setAll (i :: is) (x :: xs) fr = setAll is xs (fr.set i (.va x)) := rfl
@[simp] theorem sUnp_ap {is : List Nat} : sUnp is a fr S = (a fr S).thn fun x S1 => .nxO (tT is x fr) S1 := by
  unfold sUnp; congr; funext x S1; cases tT is x fr <;> rfl
@[simp] theorem sFrz_ap : sFrz i k fr S = (fr[i]?).elim .bad fun a => k (fr.set i a.froz) S := by
  unfold sFrz; cases fr[i]? <;> rfl
@[simp] theorem sApp_ap : sApp i a fr S = (a fr S).thn fun y S1 => .nxO ((fr[i]?).bind fun z => (z.app y).map fun w => fr.set i w) S1 := by
  unfold sApp; congr; funext y S1; cases e : fr[i]? with
  | none => rfl
  | some z =>
    cases z with
    | ow t =>
      cases t with
      | lst xs =>
        simp only [Option.bind_some, app_ow]
        split <;> rfl
      | _ => rfl
    | _ => rfl
@[simp] theorem sExt_ap : sExt i a fr S = (a fr S).thn fun y S1 => .nxO ((fr[i]?).bind fun z => (z.ext y).map fun w => fr.set i w) S1 := by
  unfold sExt; congr; funext y S1; cases e : fr[i]? with
  | none => rfl
  | some z =>
    cases z with
    | ow t =>
      cases t with
      | lst xs =>
        cases y with
        | lst ys =>
          simp only [Option.bind_some, ext_ow]
          split <;> rfl
        | _ => rfl
      | _ => rfl
    | _ => rfl
@[simp] theorem sPut_ap : sPut i c a fr S = (a fr S).thn fun y S1 => (c fr S1).thn fun z S2 => .nxO ((fr[i]?).bind fun u => (u.putAt z y).map fun w => fr.set i w) S2 := by
  unfold sPut; congr; funext y S1; congr; funext z S2; cases e : fr[i]? with
  | none => rfl
  | some u =>
    cases u with
    | ow t =>
      cases t with
      | lst xs =>
        cases z with
        | int n =>
          simp only [Option.bind_some, putAt_ow]
          cases ixN xs.length n <;> rfl
        | _ => rfl
      | _ => rfl
    | _ => rfl
def Ou.nxS : Option Sto → Fr → Ou
  | some S, fr => .nx fr S
  | none, _ => .bad
@[simp] theorem nxS_some : Ou.nxS (some S) fr = .nx fr S := rfl
@[simp] theorem nxS_none : Ou.nxS none fr = .bad := rfl
@[simp] theorem sPutS_ap {d : SE} : sPutS d c a fr S = (a fr S).thn fun y S1 => (d fr S1).thn fun x S2 => (c fr S2).thn fun z S3 => .nxS (stPut S3 x z y) fr := by
  unfold sPutS; congr; funext y S1; congr; funext x S2; congr; funext z S3
  cases x with
  | ref r =>
    cases z with
    | int n =>
      simp only [stPut_ref]
      cases e : S3[r]? with
      | none => rfl
      | some t =>
        cases t with
        | lst xs =>
          simp only [Option.bind_some, items_lst, isC_lst, if_true]
          cases ixN xs.length n <;> rfl
        | tup xs => rfl
        | _ => rfl
    | _ => rfl
  | _ => rfl
@[simp] theorem sOwn_ap : sOwn i a fr S = (a fr S).thn fun x S1 => if x.isC then .nx (fr.set i (.ow x)) S1 else .bad := rfl
@[simp] theorem hO_ap {r : SH} : hO a r fr S = (a fr S).bind fun x S1 => if x.isC then (r fr S1).bind fun xs S2 => .ok (.ow x :: xs) S2 else .bad := rfl
@[simp] theorem eTup_ap {r : SA} : eTup r fr S = (r fr S).bind fun xs S1 => if fits xs.length then .ok (.tup xs) S1 else .bad := rfl
@[simp] theorem eLst_ap {r : SA} : eLst r fr S = (r fr S).bind fun xs S1 => if fits xs.length then .ok (.lst xs) S1 else .bad := rfl
@[simp] theorem fn_ap {ps ns : Nat} {args : List Sl} : fn ps ns k args S = if args.length = ps then (k (pad ns args) S).ret else .bad := by
  unfold fn; split
  · cases k (pad ns args) S <;> rfl
  · rfl
@[simp] theorem forGo_nil : forGo tg k [] fr S = .nx fr S := rfl
@[simp] theorem forGo_con : forGo tg k (x :: xs) fr S = (tg x fr).elim .bad fun fr1 => (k fr1 S).turn (forGo tg k xs) := by
  show (match tg x fr with | none => Ou.bad | some fr1 => _) = _
  cases tg x fr with
  | none => rfl
  | some fr1 =>
    show (match k fr1 S with | .nx fr2 S2 => forGo tg k xs fr2 S2 | .ct fr2 S2 => forGo tg k xs fr2 S2 | .bk fr2 S2 => .nx fr2 S2 | .rt t S2 => .rt t S2 | .ex c as S2 => .ex c as S2 | .bad => .bad) = (k fr1 S).turn (forGo tg k xs)
    cases k fr1 S <;> rfl
@[simp] theorem lcGo_nil : lcGo tg cb m fr [] S = .ok [] S := rfl
@[simp] theorem lcGo_con : lcGo tg cb m fr (x :: xs) S = (tg x fr).elim .bad fun fr1 => (cb fr1 S).nox.bind fun b S1 => if b then (m fr1 S1).nox.bind fun y S2 => (lcGo tg cb m fr xs S2).bind fun ys S3 => .ok (y :: ys) S3 else lcGo tg cb m fr xs S1 := by
  show (match tg x fr with | none => Re.bad | some fr1 => _) = _
  cases tg x fr with
  | none => rfl
  | some fr1 =>
    show (match cb fr1 S with | .ok k S1 => if k then (match m fr1 S1 with | .ok y S2 => (lcGo tg cb m fr xs S2).bind fun ys S3 => .ok (y :: ys) S3 | _ => .bad) else lcGo tg cb m fr xs S1 | _ => .bad) = _
    simp only [Option.elim_some]
    cases cb fr1 S with
    | ok b S1 =>
      cases b with
      | true =>
        simp only [if_true, nox_ok, Re.bind_ok]
        cases m fr1 S1 <;> rfl
      | false => rfl
    | ex _ _ _ => rfl
    | bad => rfl
/-- a comprehension whose pieces leave the store as it is -/
theorem lc_map {f : PV → PV} (h : ∀ x ∈ xs, ∃ fr1, tg x fr = some fr1 ∧ m fr1 S = .ok (f x) S) : lcGo tg bT m fr xs S = .ok (xs.map f) S := by
  induction xs with
  | nil => rfl
  | cons x xs ih =>
    obtain ⟨fr1, e1, e2⟩ := h x (by simp)
    rw [lcGo_con, e1]
    simp [e2, ih fun y hy => h y (by simp [hy])]
theorem lc_filt {f : PV → PV} {p : PV → Bool} (h : ∀ x ∈ xs, ∃ fr1, tg x fr = some fr1 ∧ cb fr1 S = .ok (p x) S ∧ (p x = true → m fr1 S = .ok (f x) S)) : lcGo tg cb m fr xs S = .ok ((xs.filter p).map f) S := by
  induction xs with
  | nil => rfl
  | cons x xs ih =>
    obtain ⟨fr1, e1, e2, e3⟩ := h x (by simp)
    rw [lcGo_con, e1]
    have ih := ih fun y hy => h y (by simp [hy])
    cases hp : p x with
    | true => simp [e2, hp, e3 hp, ih]
    | false => simp [e2, hp, ih]
/-- .. over the images of a list -/
theorem lc_mapI {α : Type} {l : List α} {g : α → PV} {f : α → PV} (h : ∀ x ∈ l, ∃ fr1, tg (g x) fr = some fr1 ∧ m fr1 S = .ok (f x) S) : lcGo tg bT m fr (l.map g) S = .ok (l.map f) S := by
  induction l with
  | nil => rfl
  | cons x xs ih =>
    obtain ⟨fr1, e1, e2⟩ := h x (by simp)
    rw [List.map_cons, lcGo_con, e1]
    simp [e2, ih fun y hy => h y (by simp [hy])]
theorem lc_filtI {α : Type} {l : List α} {g : α → PV} {f : α → PV} {p : α → Bool} (h : ∀ x ∈ l, ∃ fr1, tg (g x) fr = some fr1 ∧ cb fr1 S = .ok (p x) S ∧ (p x = true → m fr1 S = .ok (f x) S)) : lcGo tg cb m fr (l.map g) S = .ok ((l.filter p).map f) S := by
  induction l with
  | nil => rfl
  | cons x xs ih =>
    obtain ⟨fr1, e1, e2, e3⟩ := h x (by simp)
    rw [List.map_cons, lcGo_con, e1]
    have ih := ih fun y hy => h y (by simp [hy])
    cases hp : p x with
    | true => simp [e2, hp, e3 hp, ih]
    | false => simp [e2, hp, ih]
theorem allBl_map {α : Type} {l : List α} {p : α → Bool} : allBl (l.map fun x => .bl (p x)) = some (l.map p) := by
  induction l with
  | nil => rfl
  | cons x l ih => simp [ih]
theorem allInt_map {α : Type} {l : List α} {p : α → Int} : allInt (l.map fun x => .int (p x)) = some (l.map p) := by
  induction l with
  | nil => rfl
  | cons x l ih => simp [ih]
@[simp] theorem ite_ok {α : Type} {S : Sto} {p : Prop} [Decidable p] {a b : α} : (if p then Re.ok a S else Re.ok b S) = Re.ok (if p then a else b) S := by split <;> rfl
@[simp] theorem ite_rt {S : Sto} {p : Prop} [Decidable p] {a b : PV} : (if p then Ou.rt a S else Ou.rt b S) = Ou.rt (if p then a else b) S := by split <;> rfl
@[simp] theorem ite_blT {b c : Bool} : (if b = true then PV.bl true else PV.bl c) = PV.bl (b || c) := by cases b <;> rfl
@[simp] theorem ite_blF {b c : Bool} : (if b = true then PV.bl c else PV.bl false) = PV.bl (b && c) := by cases b <;> rfl
end
/-! indices, slices -/
section
variable {xs : List PV} {i j k : Nat} {x : PV}
theorem ixN_nat {n : Nat} : ixN n (k : Int) = if k < n then some k else none := by
  unfold ixN
  rw [if_pos (by omega)]
  by_cases h : k < n
  · rw [if_pos (by omega), if_pos h]; simp
  · rw [if_neg (by omega), if_neg h]
@[simp] theorem ixV_nat : ixV xs (k : Int) = xs[k]? := by
  unfold ixV
  rw [ixN_nat]
  split
  · rfl
  · simp; omega
@[simp] theorem ixV_0 : ixV xs 0 = xs[0]? := ixV_nat (k := 0)
@[simp] theorem ixV_1 : ixV xs 1 = xs[1]? := ixV_nat (k := 1)
@[simp] theorem ixV_2 : ixV xs 2 = xs[2]? := ixV_nat (k := 2)
@[simp] theorem ixV_3 : ixV xs 3 = xs[3]? := ixV_nat (k := 3)
@[simp] theorem ixV_4 : ixV xs 4 = xs[4]? := ixV_nat (k := 4)
@[simp] theorem ixN_0 {n : Nat} : ixN n 0 = if 0 < n then some 0 else none := ixN_nat (k := 0)
@[simp] theorem ixN_1 {n : Nat} : ixN n 1 = if 1 < n then some 1 else none := ixN_nat (k := 1)
@[simp] theorem ixN_2 {n : Nat} : ixN n 2 = if 2 < n then some 2 else none := ixN_nat (k := 2)
@[simp] theorem ixN_3 {n : Nat} : ixN n 3 = if 3 < n then some 3 else none := ixN_nat (k := 3)
@[simp] theorem ixN_4 {n : Nat} : ixN n 4 = if 4 < n then some 4 else none := ixN_nat (k := 4)
theorem sIx_nat {n d : Nat} : sIx n d (some (k : Int)) = min k n := by
  unfold sIx
  simp only
  rw [if_neg (by omega)]
  simp
theorem sIx_none {n d : Nat} : sIx n d none = d := rfl
@[simp] theorem cut_from : cut xs (some (k : Int)) none = xs.drop k := by
  unfold cut
  rw [sIx_nat, sIx_none]
  by_cases h : k ≤ xs.length
  · rw [Nat.min_eq_left h]
    exact List.take_of_length_le (by simp)
  · rw [Nat.min_eq_right (by omega), List.drop_eq_nil_of_le (by omega), List.drop_eq_nil_of_le (by omega)]; simp
@[simp] theorem cut_to : cut xs none (some (k : Int)) = xs.take k := by
  unfold cut
  rw [sIx_nat, sIx_none]
  simp only [List.drop_zero, Nat.sub_zero]
  by_cases h : k ≤ xs.length
  · rw [Nat.min_eq_left h]
  · rw [Nat.min_eq_right (by omega), List.take_of_length_le (Nat.le_refl _), List.take_of_length_le (by omega)]
@[simp] theorem cut_1 : cut xs (some 1) none = xs.drop 1 := cut_from (k := 1)
@[simp] theorem cut_2 : cut xs (some 2) none = xs.drop 2 := cut_from (k := 2)
@[simp] theorem cut_3 : cut xs (some 3) none = xs.drop 3 := cut_from (k := 3)
@[simp] theorem cut_t1 : cut xs none (some 1) = xs.take 1 := cut_to (k := 1)
@[simp] theorem cut_t2 : cut xs none (some 2) = xs.take 2 := cut_to (k := 2)
@[simp] theorem cut_m1 : cut xs none (some (-1)) = xs.dropLast := by
  unfold cut
  rw [sIx_none]
  simp only [List.drop_zero, Nat.sub_zero]
  have : sIx xs.length xs.length (some (-1)) = xs.length - 1 := by
    unfold sIx
    simp only
    rw [if_pos (by omega)]
    omega
  rw [this, List.dropLast_eq_take]
@[simp] theorem cut_l1 : cut xs (some (-1)) none = xs.drop (xs.length - 1) := by
  unfold cut
  have : sIx xs.length 0 (some (-1)) = xs.length - 1 := by
    unfold sIx
    simp only
    rw [if_pos (by omega)]
    omega
  rw [this, sIx_none]
  exact List.take_of_length_le (by simp)
end
/-! runs told by what they end in -/
def Ou.wp (o : Ou) (N : Fr → Sto → Prop) (R : PV → Sto → Prop) : Prop := match o with
  | .nx fr S => N fr S
  | .rt t S => R t S
  | _ => False
section
variable {N N' : Fr → Sto → Prop} {R R' : PV → Sto → Prop} {fr : Fr} {S : Sto} {t x : PV} {a b : SS} {o : Ou} {xs : List PV} {tg : TgS}
@[simp] theorem wp_nx : (Ou.nx fr S).wp N R = N fr S := rfl
@[simp] theorem wp_rt : (Ou.rt t S).wp N R = R t S := rfl
@[simp] theorem wp_bad : Ou.bad.wp N R = False := rfl
theorem wp_mono (h : o.wp N R) (hN : ∀ fr S, N fr S → N' fr S) (hR : ∀ t S, R t S → R' t S) : o.wp N' R' := by
  cases o with
  | nx fr S => exact hN _ _ h
  | rt t S => exact hR _ _ h
  | _ => exact h
theorem wp_seq {o : Ou} {b : SS} (h : o.wp (fun fr S => (b fr S).wp N R) R) : (o.seq b).wp N R := by
  cases o with
  | nx fr S => exact h
  | rt t S => exact h
  | _ => exact h.elim
theorem wp_turn {o : Ou} {b : SS} (h : o.wp (fun fr S => (b fr S).wp N R) R) : (o.turn b).wp N R := by
  cases o with
  | nx fr S => exact h
  | rt t S => exact h
  | _ => exact h.elim
theorem wp_for (I : Nat → Fr → Sto → Prop) : ∀ {xs : List PV} {fr : Fr} {S : Sto} (k : Nat), I k fr S → (∀ j x fr S, I (k + j) fr S → xs[j]? = some x → ∃ fr1, tg x fr = some fr1 ∧ (b fr1 S).wp (I (k + j + 1)) R) → (forGo tg b xs fr S).wp (I (k + xs.length)) R
  | [], fr, S, k, h, _ => h
  | x :: xs, fr, S, k, h, st => by
    rw [forGo_con]
    obtain ⟨fr1, e, w⟩ := st 0 x fr S h rfl
    rw [e]
    simp only [Option.elim_some]
    cases e2 : b fr1 S with
    | nx fr2 S2 =>
      rw [e2] at w
      have := wp_for I (xs := xs) (k + 1) w fun j y fr S i ey => by
        have := st (j + 1) y fr S (by rw [show k + (j + 1) = k + 1 + j by omega]; exact i) (by simpa using ey)
        rw [show k + 1 + j + 1 = k + (j + 1) + 1 by omega]
        exact this
      rw [List.length_cons, show k + (xs.length + 1) = k + 1 + xs.length by omega]
      exact this
    | rt t S2 => rw [e2] at w; exact w
    | _ => rw [e2] at w; exact w.elim
theorem fn_wp {ps ns : Nat} {k : SS} {as : List Sl} (hl : as.length = ps) (h : (k (pad ns as) S).wp (fun _ S1 => R .non S1) R) : ∃ t S1, fn ps ns k as S = .ok t S1 ∧ R t S1 := by
  rw [fn_ap, if_pos hl]
  cases e : k (pad ns as) S with
  | nx fr S1 => rw [e] at h; exact ⟨_, _, rfl, h⟩
  | rt t S1 => rw [e] at h; exact ⟨_, _, rfl, h⟩
  | _ => rw [e] at h; exact h.elim
/-- the first that p holds of is given back -/
theorem for_find {i : Nat} {p : PV → Bool} {f : PV → PV} (h : ∀ x ∈ xs, b (fr.set i (.va x)) S = if p x then .rt (f x) S else .nx (fr.set i (.va x)) S) :
    ∃ fr', forGo (tN i) b xs fr S = match xs.find? p with | some x => .rt (f x) S | none => .nx fr' S := by
  have key : ∀ (xs : List PV) (fr0 : Fr), (∀ y, fr0.set i (.va y) = fr.set i (.va y)) → (∀ x ∈ xs, b (fr.set i (.va x)) S = if p x then .rt (f x) S else .nx (fr.set i (.va x)) S) → ∃ fr', forGo (tN i) b xs fr0 S = match xs.find? p with | some x => .rt (f x) S | none => .nx fr' S := by
    intro xs
    induction xs with
    | nil => exact fun fr0 _ _ => ⟨fr0, rfl⟩
    | cons x xs ih =>
      intro fr0 e h
      rw [forGo_con]
      simp only [tN, Option.elim_some, e x]
      rw [h x (by simp)]
      cases hp : p x with
      | true => exact ⟨fr, by simp [hp]⟩
      | false =>
        simp only [Bool.false_eq_true, if_false, turn_nx]
        obtain ⟨fr', e'⟩ := ih (fr.set i (.va x)) (fun y => by rw [List.set_set]) fun y hy => h y (by simp [hy])
        exact ⟨fr', by rw [e']; simp [hp]⟩
  exact key xs fr (fun _ => rfl) h
theorem for_findI {α : Type} {l : List α} {g : α → PV} {i : Nat} {p : α → Bool} {f : α → PV} (h : ∀ x ∈ l, b (fr.set i (.va (g x))) S = if p x then .rt (f x) S else .nx (fr.set i (.va (g x))) S) :
    ∃ fr', forGo (tN i) b (l.map g) fr S = match l.find? p with | some x => .rt (f x) S | none => .nx fr' S := by
  have key : ∀ (l : List α) (fr0 : Fr), (∀ y, fr0.set i (.va y) = fr.set i (.va y)) → (∀ x ∈ l, b (fr.set i (.va (g x))) S = if p x then .rt (f x) S else .nx (fr.set i (.va (g x))) S) → ∃ fr', forGo (tN i) b (l.map g) fr0 S = match l.find? p with | some x => .rt (f x) S | none => .nx fr' S := by
    intro l
    induction l with
    | nil => exact fun fr0 _ _ => ⟨fr0, rfl⟩
    | cons x xs ih =>
      intro fr0 e h
      rw [List.map_cons, forGo_con]
      simp only [tN, Option.elim_some, e (g x)]
      rw [h x (by simp)]
      cases hp : p x with
      | true => exact ⟨fr, by simp [hp]⟩
      | false =>
        simp only [Bool.false_eq_true, if_false, turn_nx]
        obtain ⟨fr', e'⟩ := ih (fr.set i (.va (g x))) (fun y => by rw [List.set_set]) fun y hy => h y (by simp [hy])
        exact ⟨fr', by rw [e']; simp [hp]⟩
  exact key l fr (fun _ => rfl) h
end
end Q
/-! Qv: the law's draws (the hand of 81..99). -/
namespace Q
open PySem
/-- the hand, whatever it holds -/
def HOk (S : Sto) : Prop := ∃ (cs : List Int) (i : Nat) (b h n : Int), S = [.lst [.lst (cs.map .int), .int (i : Int), .int b, .int h, .int n]] ∧ (∀ c ∈ cs, 0 ≤ c) ∧ 0 ≤ b
theorem small_mod {a m : Int} (h : 0 < m) (hm : m < 2 ^ 64) : small (a.fmod m) = true := by
  unfold small
  have h1 := Int.fmod_nonneg_of_pos a h
  have h2 := Int.fmod_lt_of_pos a h
  simp
  omega
theorem small_r {a b : Int} (h : small b = true) : (small a || small b) = true := by rw [h, Bool.or_true]
theorem small_l {a b : Int} (h : small a = true) : (small a || small b) = true := by rw [h, Bool.true_or]
def drawA : SS := (sIf (bAnd (bCm .eq (eIxS (eP 0) (eC (.int 2))) (eC (.int 0))) (bCm .lt (eIxS (eP 0) (eC (.int 1))) (eBi bLen (aC (eIxS (eP 0) (eC (.int 0))) aN)))) (sSeq (sSet 3 (eIx (eIxS (eP 0) (eC (.int 0))) (eIxS (eP 0) (eC (.int 1))))) (sSeq (sPutS (eP 0) (eC (.int 1)) (eOp .add (eIxS (eP 0) (eC (.int 1))) (eC (.int 1)))) (sSeq (sPutS (eP 0) (eC (.int 3)) (eOp .mod (eBi bInt (aC (eOp .add (eOp .add (eOp .mul (eIxS (eP 0) (eC (.int 3))) (eC (.int 69621))) (eOp .mul (eP 3) (eC (.int 16)))) (eC (.int 29))) aN)) (eC (.int 2147483629)))) (sSeq (sIf (bCm .ge (eP 3) (eOp .pow (eC (.int 10)) (eC (.int 18)))) (sSeq (sPutS (eP 0) (eC (.int 2)) (eV 3)) sNil) sNil) sNil)))) sNil)
def drawB : SS := (sSeq (sIf (bCm .gt (eIxS (eP 0) (eC (.int 2))) (eC (.int 0))) (sSeq (sSet 4 (eOp .mod (eBi bInt (aC (eIxS (eP 0) (eC (.int 2))) aN)) (eP 1))) (sSeq (sPutS (eP 0) (eC (.int 2)) (eOp .fdiv (eIxS (eP 0) (eC (.int 2))) (eP 1))) (sSeq (sRet (eV 4)) sNil))) sNil) (sSeq (sPutS (eP 0) (eC (.int 4)) (eOp .add (eIxS (eP 0) (eC (.int 4))) (eC (.int 1)))) (sSeq (sSet 2 (eOp .mod (eBi bInt (aC (eOp .mul (eBi bInt (aC (eOp .add (eIxS (eP 0) (eC (.int 3))) (eOp .mul (eC (.int 7919)) (eIxS (eP 0) (eC (.int 4))))) aN)) (eC (.int 48271))) aN)) (eC (.int 2147483647)))) (sSeq (sSet 2 (eOp .mod (eBi bInt (aC (eOp .mul (eP 2) (eOp .add (eOp .fdiv (eP 2) (eC (.int 1009))) (eC (.int 69621)))) aN)) (eC (.int 2147483647)))) (sSeq (sSet 2 (eOp .mod (eBi bInt (aC (eOp .mul (eP 2) (eOp .add (eOp .fdiv (eP 2) (eC (.int 2003))) (eC (.int 40692)))) aN)) (eC (.int 2147483399)))) (sSeq (sRet (eOp .mod (eBi bInt (aC (eOp .fdiv (eP 2) (eC (.int 16))) aN)) (eP 1))) sNil))))))
def F_draw : FN := fn 2 5 (sSeq drawA drawB)
def F_any : FN := fn 2 2 (sSeq (sRet (eIx (eP 1) (eCall F_draw (gV (eV 0) (gV (eBi bLen (aC (eP 1) aN)) gN))))) sNil)
@[simp] theorem sm1 : small 69621 = true := by decide
@[simp] theorem sm2 : small 16 = true := by decide
@[simp] theorem sm3 : small 7919 = true := by decide
@[simp] theorem sm4 : small 48271 = true := by decide
@[simp] theorem sm5 {a : Int} : small (a.fmod 2147483647) = true := small_mod (by decide) (by decide)
theorem drawA_ok {S : Sto} {m : Int} (h : HOk S) : ∃ x3 S1, drawA [.va (.ref 0), .va (.int m), .no, .no, .no] S = .nx [.va (.ref 0), .va (.int m), .no, x3, .no] S1 ∧ HOk S1 := by
  obtain ⟨cs, i, b, h, n, rfl, hc, hb⟩ := h
  by_cases c1 : b = 0
  · subst c1
    by_cases c2 : i < cs.length
    · have e : (cs.map PV.int)[i]? = some (.int cs[i]) := by simp [c2]
      by_cases c3 : 1000000000000000000 ≤ cs[i]
      · simp [drawA, PV.isD, peq, c2, small, c3]
        exact ⟨_, _, ⟨rfl, rfl⟩, cs, i + 1, _, _, n, rfl, hc, hc _ (List.getElem_mem c2)⟩
      · simp [drawA, PV.isD, peq, c2, small, c3]
        exact ⟨_, _, ⟨rfl, rfl⟩, cs, i + 1, _, _, n, rfl, hc, hb⟩
    · simp [drawA, PV.isD, peq, c2]
      exact ⟨_, _, ⟨rfl, rfl⟩, cs, i, _, _, n, rfl, hc, hb⟩
  · simp [drawA, PV.isD, peq, c1]
    exact ⟨_, _, ⟨rfl, rfl⟩, cs, i, b, h, n, rfl, hc, hb⟩
theorem drawB_ok {S : Sto} {m : Int} {x3 : Sl} (h : HOk S) (hm : 0 < m) (hm2 : m < 1073741824) : ∃ d S1, drawB [.va (.ref 0), .va (.int m), .no, x3, .no] S = .rt (.int d) S1 ∧ 0 ≤ d ∧ d < m ∧ HOk S1 := by
  obtain ⟨cs, i, b, h, n, rfl, hc, hb⟩ := h
  have m0 : m ≠ 0 := by omega
  have m1 : m.natAbs < 1073741824 := by omega
  by_cases c1 : 0 < b
  · simp [drawB, PV.isD, peq, c1, m0, m1]
    exact ⟨_, _, ⟨rfl, rfl⟩, Int.fmod_nonneg_of_pos _ hm, Int.fmod_lt_of_pos _ hm, cs, i, _, _, _, rfl, hc, Int.fdiv_nonneg hb (by omega)⟩
  · simp [drawB, PV.isD, peq, c1, m0, m1]
    exact ⟨_, _, ⟨rfl, rfl⟩, Int.fmod_nonneg_of_pos _ hm, Int.fmod_lt_of_pos _ hm, cs, i, _, _, _, rfl, hc, hb⟩
/-- a draw -/
theorem draw_ok {S : Sto} {m : Int} (h : HOk S) (hm : 0 < m) (hm2 : m < 1073741824) : ∃ d S', F_draw [.va (.ref 0), .va (.int m)] S = .ok (.int d) S' ∧ 0 ≤ d ∧ d < m ∧ HOk S' := by
  obtain ⟨x3, S1, e1, h1⟩ := drawA_ok (m := m) h
  obtain ⟨d, S2, e2, a, b, h2⟩ := drawB_ok (x3 := x3) h1 hm hm2
  refine ⟨d, S2, ?_, a, b, h2⟩
  simp [F_draw, pad, e1, e2]
theorem hand_ok0 (f : Nat → Int) (ns : List Int) : HOk [.lst [.lst ((ns.map fun n => if n < 0 then -n else n).map .int), .int 0, .int 0, .int (f ns.length), .int 0]] := by
  refine ⟨_, 0, 0, _, 0, rfl, fun c hc => ?_, by decide⟩
  obtain ⟨n, _, rfl⟩ := List.mem_map.mp hc
  split <;> omega
end Q
namespace Law81
open PySem PySem.Spec PyProof.Rows L2 Q
/-! the defs as functions on trees -/
def k_DEEPEST : PV := (.int 12)
def k_JOINS : PV := (.tup [(.str "and"), (.str "or"), (.str "xor"), (.str "then"), (.str "same")])
def k_MOST_LETTERS : PV := (.int 5)
def k_MOST_SIDE : PV := (.int 8)
def k_MOST_TOGETHER : PV := (.int 8)
def k_MOST_WORDS : PV := (.int 12)
def k_WORDS_proofs : PV := (.tup [(.str "not"), (.str "and"), (.str "or"), (.str "then")])
def d_WORDS_changing : List (Str × PV) := [("and", (.tup [(.int 0), (.int 0), (.int 0), (.int 1)])), ("or", (.tup [(.int 0), (.int 1), (.int 1), (.int 1)])), ("xor", (.tup [(.int 0), (.int 1), (.int 1), (.int 0)])), ("then", (.tup [(.int 1), (.int 1), (.int 0), (.int 1)])), ("same", (.tup [(.int 1), (.int 0), (.int 0), (.int 1)])), ("nand", (.tup [(.int 1), (.int 1), (.int 1), (.int 0)])), ("nor", (.tup [(.int 1), (.int 0), (.int 0), (.int 0)]))]
def m_is_tuple : SS := (sSeq (sRet (eAnd (bE (eB (bIs (eP 0) [.tuple]))) (eB (bCh .le .le (eP 1) (eBi bLen (aC (eP 0) aN)) (eP 2))))) sNil)
def F_is_tuple : FN := fn 3 3 m_is_tuple
def m_words_in (R : FN) : SS := (sSeq (sIf (bCm .eq (eIx (eP 0) (eC (.int 0))) (eC (.str "letter"))) (sSeq (sRet (eC (.int 0))) sNil) sNil) (sSeq (sIf (bCm .notin (eIx (eP 0) (eC (.int 0))) (eC k_WORDS_proofs)) (sSeq (sRet (eC .non)) sNil) sNil) (sSeq (sSet 1 (eLc [2] (iSeq (eSl (eP 0) (oS (eC (.int 1))) oN)) (tN 2) bT (eCall R (gV (eV 2) gN)))) (sSeq (sRet (eIf (bCm .isin (eC .non) (eP 1)) (eC .non) (eOp .add (eC (.int 1)) (eBi bSum (aC (eP 1) aN))))) sNil))))
def F_words_in : Nat → FN
  | 0 => fun _ _ => .bad
  | n + 1 => fn 1 3 (m_words_in (F_words_in n))
def m_is_integer : SS := (sSeq (sRet (eAnd (bE (eB (bIs (eP 0) [.int]))) (eB (bNot (bE (eB (bIs (eP 0) [.bool]))))))) sNil)
def F_is_integer : FN := fn 1 1 m_is_integer
def m_is_within : SS := (sSeq (sRet (eAnd (bE (eCall F_is_integer (gV (eV 0) gN))) (eB (bCh .le .le (eP 1) (eP 0) (eP 2))))) sNil)
def F_is_within : FN := fn 3 3 m_is_within
def m_is_bit : SS := (sSeq (sRet (eCall F_is_within (gV (eV 0) (gV (eC (.int 0)) (gV (eC (.int 1)) gN))))) sNil)
def F_is_bit : FN := fn 1 1 m_is_bit
def m_shaped (R : FN) : SS := (sSeq (sIf (bOr (bCm .eq (eP 2) (eC (.int 0))) (bOr (bNot (bE (eCall F_is_tuple (gV (eV 1) (gV (eC (.int 2)) (gV (eC (.int 3)) gN)))))) (bNot (bE (eB (bIs (eIx (eP 1) (eC (.int 0))) [.str])))))) (sSeq (sRet (eC (.bl false))) sNil) sNil) (sSeq (sIf (bCm .eq (eBi bLen (aC (eP 1) aN)) (eC (.int 3))) (sSeq (sRet (eAnd (bE (eB (bCm .isin (eIx (eP 1) (eC (.int 0))) (eC k_JOINS)))) (eBi bAll (aC (eLc [3] (iSeq (eSl (eP 1) (oS (eC (.int 1))) oN)) (tN 3) bT (eCall R (gV (eV 0) (gV (eV 3) (gV (eOp .sub (eP 2) (eC (.int 1))) gN))))) aN)))) sNil) sNil) (sSeq (sIf (bCm .eq (eIx (eP 1) (eC (.int 0))) (eC (.str "bit"))) (sSeq (sRet (eCall F_is_bit (gV (eIx (eP 1) (eC (.int 1))) gN))) sNil) sNil) (sSeq (sIf (bCm .eq (eIx (eP 1) (eC (.int 0))) (eC (.str "letter"))) (sSeq (sRet (eCall F_is_within (gV (eIx (eP 1) (eC (.int 1))) (gV (eC (.int 0)) (gV (eOp .sub (eP 0) (eC (.int 1))) gN))))) sNil) sNil) (sSeq (sRet (eAnd (bE (eB (bCm .eq (eIx (eP 1) (eC (.int 0))) (eC (.str "not"))))) (eCall R (gV (eV 0) (gV (eIx (eP 1) (eC (.int 1))) (gV (eOp .sub (eP 2) (eC (.int 1))) gN)))))) sNil)))))
def F_shaped : Nat → FN
  | 0 => fun _ _ => .bad
  | n + 1 => fn 3 4 (m_shaped (F_shaped n))
def m_formula_in : SS := (sSeq (sRet (eCall (F_shaped 20) (gV (eV 0) (gV (eV 1) (gV (eC k_DEEPEST) gN))))) sNil)
def F_formula_in : FN := fn 2 2 m_formula_in
def m_is_side : SS := (sSeq (sIf (bOr (bNot (bE (eCall F_is_tuple (gV (eV 0) (gV (eC (.int 0)) (gV (eC k_MOST_SIDE) gN)))))) (bNot (bE (eBi bAll (aC (eLc [1] (iSeq (eV 0)) (tN 1) bT (eCall F_formula_in (gV (eC k_MOST_LETTERS) (gV (eV 1) gN)))) aN))))) (sSeq (sRet (eC (.bl false))) sNil) sNil) (sSeq (sRet (eBi bAll (aC (eLc [1] (iSeq (eV 0)) (tN 1) bT (eB (bCm .notN (eCall (F_words_in 20) (gV (eV 1) gN)) (eC .non)))) aN))) sNil))
def F_is_side : FN := fn 1 2 m_is_side
def m_is_sequent : SS := (sSeq (sIf (bOr (bNot (bE (eCall F_is_tuple (gV (eV 0) (gV (eC (.int 2)) (gV (eC (.int 2)) gN)))))) (bOr (bNot (bE (eCall F_is_side (gV (eIx (eP 0) (eC (.int 0))) gN)))) (bNot (bE (eCall F_is_side (gV (eIx (eP 0) (eC (.int 1))) gN)))))) (sSeq (sRet (eC (.bl false))) sNil) sNil) (sSeq (sRet (eB (bCm .le (eBi bSum (aC (eLc [1] (iSeq (eOp .add (eIx (eP 0) (eC (.int 0))) (eIx (eP 0) (eC (.int 1))))) (tN 1) bT (eCall (F_words_in 20) (gV (eV 1) gN))) aN)) (eC k_MOST_WORDS)))) sNil))
def F_is_sequent : FN := fn 1 2 m_is_sequent
def m_check_sequent : SS := (sSeq (sIf (bNot (bE (eCall F_is_sequent (gV (eV 0) gN)))) (sSeq sBad sNil) sNil) sNil)
def F_check_sequent : FN := fn 1 1 m_check_sequent
def m_rows : SS := (sSeq (sSet 1 (eLst (aC (eTup aN) aN))) (sSeq (sFor (iRng1 (eP 0)) (tN 2) (sSeq (sOwn 3 (eLst aN)) (sSeq (sFor (iSeq (eV 1)) (tN 4) (sSeq (sExt 3 (eLst (aC (eOp .add (eP 4) (eTup (aC (eC (.int 0)) aN))) (aC (eOp .add (eP 4) (eTup (aC (eC (.int 1)) aN))) aN)))) sNil)) (sSeq (sFrz 3 (sSet 1 (eV 3))) sNil)))) (sSeq (sRet (eV 1)) sNil)))
def F_rows : FN := fn 1 5 m_rows
def m_told_at (R : FN) : SS := (sSeq (sIf (bCm .eq (eIx (eP 0) (eC (.int 0))) (eC (.str "bit"))) (sSeq (sRet (eIx (eP 0) (eC (.int 1)))) sNil) sNil) (sSeq (sIf (bCm .eq (eIx (eP 0) (eC (.int 0))) (eC (.str "letter"))) (sSeq (sRet (eIx (eP 1) (eIx (eP 0) (eC (.int 1))))) sNil) sNil) (sSeq (sIf (bCm .eq (eIx (eP 0) (eC (.int 0))) (eC (.str "not"))) (sSeq (sRet (eOp .sub (eC (.int 1)) (eCall R (gV (eIx (eP 0) (eC (.int 1))) (gV (eV 1) gN))))) sNil) sNil) (sSeq (sRet (eIx (eDk d_WORDS_changing (eIx (eP 0) (eC (.int 0)))) (eOp .add (eOp .mul (eC (.int 2)) (eCall R (gV (eIx (eP 0) (eC (.int 1))) (gV (eV 1) gN)))) (eCall R (gV (eIx (eP 0) (eC (.int 2))) (gV (eV 1) gN)))))) sNil))))
def F_told_at : Nat → FN
  | 0 => fun _ _ => .bad
  | n + 1 => fn 2 2 (m_told_at (F_told_at n))
def m_holds_at : SS := (sSeq (sUnp [2, 3] (eV 0)) (sSeq (sRet (eOr (bE (eBi bAny (aC (eLc [4] (iSeq (eV 2)) (tN 4) bT (eB (bCm .eq (eCall (F_told_at 20) (gV (eV 4) (gV (eV 1) gN))) (eC (.int 0))))) aN))) (eBi bAny (aC (eLc [4] (iSeq (eV 3)) (tN 4) bT (eB (bCm .eq (eCall (F_told_at 20) (gV (eV 4) (gV (eV 1) gN))) (eC (.int 1))))) aN)))) sNil))
def F_holds_at : FN := fn 2 5 m_holds_at
def m_first_failing : SS := (sSeq (sFor (iSeq (eCall F_rows (gV (eC k_MOST_LETTERS) gN))) (tN 1) (sSeq (sIf (bNot (bE (eCall F_holds_at (gV (eV 0) (gV (eV 1) gN))))) (sSeq (sRet (eV 1)) sNil) sNil) sNil)) (sSeq (sRet (eC .non)) sNil))
def F_first_failing : FN := fn 1 2 m_first_failing
def m_shared : SS := (sSeq (sFor (iEnum (eIx (eP 0) (eC (.int 0)))) (tT [1, 2]) (sSeq (sFor (iEnum (eIx (eP 0) (eC (.int 1)))) (tT [3, 4]) (sSeq (sIf (bCm .eq (eP 2) (eP 4)) (sSeq (sRet (eTup (aC (eV 1) (aC (eV 3) aN)))) sNil) sNil) sNil)) sNil)) (sSeq (sRet (eC .non)) sNil))
def F_shared : FN := fn 1 5 m_shared
def m_step_at : SS := (sSeq (sFor (iZip (eTup (aC (eC (.str "left")) (aC (eC (.str "right")) aN))) (eV 0)) (tT [1, 2]) (sSeq (sFor (iEnum (eV 2)) (tT [3, 4]) (sSeq (sIf (bCm .ne (eIx (eP 4) (eC (.int 0))) (eC (.str "letter"))) (sSeq (sRet (eTup (aC (eV 1) (aC (eV 3) aN)))) sNil) sNil) sNil)) sNil)) (sSeq (sRet (eC .non)) sNil))
def F_step_at : FN := fn 1 5 m_step_at
def m_without : SS := (sSeq (sRet (eOp .add (eSl (eP 0) oN (oS (eP 1))) (eSl (eP 0) (oS (eOp .add (eP 1) (eC (.int 1)))) oN))) sNil)
def F_without : FN := fn 2 2 m_without
def m_parts_put : SS := (sSeq (sSet 2 (eIx (eP 0) (eC (.int 0)))) (sSeq (sIf (bCm .eq (eP 2) (eC (.str "not"))) (sSeq (sRet (eIf (bCm .eq (eP 1) (eC (.str "left"))) (eLst (aC (eTup (aC (eTup aN) (aC (eTup (aC (eIx (eP 0) (eC (.int 1))) aN)) aN))) aN)) (eLst (aC (eTup (aC (eTup (aC (eIx (eP 0) (eC (.int 1))) aN)) (aC (eTup aN) aN))) aN)))) sNil) sNil) (sSeq (sPar [3, 4] (hV (eIx (eP 0) (eC (.int 1))) (hV (eIx (eP 0) (eC (.int 2))) hN))) (sSeq (sIf (bCm .eq (eP 2) (eC (.str "then"))) (sSeq (sRet (eIf (bCm .eq (eP 1) (eC (.str "left"))) (eLst (aC (eTup (aC (eTup aN) (aC (eTup (aC (eV 3) aN)) aN))) (aC (eTup (aC (eTup (aC (eV 4) aN)) (aC (eTup aN) aN))) aN))) (eLst (aC (eTup (aC (eTup (aC (eV 3) aN)) (aC (eTup (aC (eV 4) aN)) aN))) aN)))) sNil) sNil) (sSeq (sIf (bCm .eq (eB (bCm .eq (eP 2) (eC (.str "and")))) (eB (bCm .eq (eP 1) (eC (.str "left"))))) (sSeq (sSet 5 (eTup (aC (eV 3) (aC (eV 4) aN)))) (sSeq (sRet (eIf (bCm .eq (eP 1) (eC (.str "left"))) (eLst (aC (eTup (aC (eV 5) (aC (eTup aN) aN))) aN)) (eLst (aC (eTup (aC (eTup aN) (aC (eV 5) aN))) aN)))) sNil)) sNil) (sSeq (sRet (eLc [6] (iSeq (eTup (aC (eV 3) (aC (eV 4) aN)))) (tN 6) bT (eIf (bCm .eq (eP 1) (eC (.str "left"))) (eTup (aC (eTup (aC (eV 6) aN)) (aC (eTup aN) aN))) (eTup (aC (eTup aN) (aC (eTup (aC (eV 6) aN)) aN)))))) sNil))))))
def F_parts_put : FN := fn 2 7 m_parts_put
def m_behind : SS := (sSeq (sUnp [5, 6] (eV 0)) (sSeq (sSet 3 (eIf (bCm .eq (eP 1) (eC (.str "left"))) (eIx (eP 5) (eP 2)) (eIx (eP 6) (eP 2)))) (sSeq (sSet 4 (eIf (bCm .eq (eP 1) (eC (.str "left"))) (eTup (aC (eCall F_without (gV (eV 5) (gV (eV 2) gN))) (aC (eV 6) aN))) (eTup (aC (eV 5) (aC (eCall F_without (gV (eV 6) (gV (eV 2) gN))) aN))))) (sSeq (sRet (eLc [7, 8] (iSeq (eCall F_parts_put (gV (eV 3) (gV (eV 1) gN)))) (tT [7, 8]) bT (eTup (aC (eOp .add (eIx (eP 4) (eC (.int 0))) (eP 7)) (aC (eOp .add (eIx (eP 4) (eC (.int 1))) (eP 8)) aN))))) sNil))))
def F_behind : FN := fn 3 9 m_behind
def m_proof_of (R : FN) : SS := (sSeq (sSet 1 (eCall F_shared (gV (eV 0) gN))) (sSeq (sIf (bCm .notN (eP 1) (eC .non)) (sSeq (sRet (eOp .add (eTup (aC (eC (.str "same")) aN)) (eP 1))) sNil) sNil) (sSeq (sUnp [2, 3] (eCall F_step_at (gV (eV 0) gN))) (sSeq (sRet (eOp .add (eTup (aC (eV 2) (aC (eV 3) aN))) (eBi bTuple (aC (eLc [4] (iSeq (eCall F_behind (gV (eV 0) (gV (eV 2) (gV (eV 3) gN))))) (tN 4) bT (eCall R (gV (eV 4) gN))) aN)))) sNil))))
def F_proof_of : Nat → FN
  | 0 => fun _ _ => .bad
  | n + 1 => fn 1 5 (m_proof_of (F_proof_of n))
def m_proved : SS := (sSeq (sExpr (eCall F_check_sequent (gV (eV 0) gN))) (sSeq (sSet 1 (eCall F_first_failing (gV (eV 0) gN))) (sSeq (sRet (eIf (bCm .isN (eP 1) (eC .non)) (eTup (aC (eC (.str "proof")) (aC (eCall (F_proof_of 20) (gV (eV 0) gN)) aN))) (eTup (aC (eC (.str "row")) (aC (eV 1) aN))))) sNil)))
def F_proved : FN := fn 1 2 m_proved
def m_holds : SS := (sSeq (sExpr (eCall F_check_sequent (gV (eV 0) gN))) (sSeq (sRet (eB (bCm .isN (eCall F_first_failing (gV (eV 0) gN)) (eC .non)))) sNil))
def F_holds : FN := fn 1 1 m_holds
def m__law_draw : SS := (sSeq (sIf (bAnd (bCm .eq (eIxS (eP 0) (eC (.int 2))) (eC (.int 0))) (bCm .lt (eIxS (eP 0) (eC (.int 1))) (eBi bLen (aC (eIxS (eP 0) (eC (.int 0))) aN)))) (sSeq (sSet 3 (eIx (eIxS (eP 0) (eC (.int 0))) (eIxS (eP 0) (eC (.int 1))))) (sSeq (sPutS (eP 0) (eC (.int 1)) (eOp .add (eIxS (eP 0) (eC (.int 1))) (eC (.int 1)))) (sSeq (sPutS (eP 0) (eC (.int 3)) (eOp .mod (eBi bInt (aC (eOp .add (eOp .add (eOp .mul (eIxS (eP 0) (eC (.int 3))) (eC (.int 69621))) (eOp .mul (eP 3) (eC (.int 16)))) (eC (.int 29))) aN)) (eC (.int 2147483629)))) (sSeq (sIf (bCm .ge (eP 3) (eOp .pow (eC (.int 10)) (eC (.int 18)))) (sSeq (sPutS (eP 0) (eC (.int 2)) (eV 3)) sNil) sNil) sNil)))) sNil) (sSeq (sIf (bCm .gt (eIxS (eP 0) (eC (.int 2))) (eC (.int 0))) (sSeq (sSet 4 (eOp .mod (eBi bInt (aC (eIxS (eP 0) (eC (.int 2))) aN)) (eP 1))) (sSeq (sPutS (eP 0) (eC (.int 2)) (eOp .fdiv (eIxS (eP 0) (eC (.int 2))) (eP 1))) (sSeq (sRet (eV 4)) sNil))) sNil) (sSeq (sPutS (eP 0) (eC (.int 4)) (eOp .add (eIxS (eP 0) (eC (.int 4))) (eC (.int 1)))) (sSeq (sSet 2 (eOp .mod (eBi bInt (aC (eOp .mul (eBi bInt (aC (eOp .add (eIxS (eP 0) (eC (.int 3))) (eOp .mul (eC (.int 7919)) (eIxS (eP 0) (eC (.int 4))))) aN)) (eC (.int 48271))) aN)) (eC (.int 2147483647)))) (sSeq (sSet 2 (eOp .mod (eBi bInt (aC (eOp .mul (eP 2) (eOp .add (eOp .fdiv (eP 2) (eC (.int 1009))) (eC (.int 69621)))) aN)) (eC (.int 2147483647)))) (sSeq (sSet 2 (eOp .mod (eBi bInt (aC (eOp .mul (eP 2) (eOp .add (eOp .fdiv (eP 2) (eC (.int 2003))) (eC (.int 40692)))) aN)) (eC (.int 2147483399)))) (sSeq (sRet (eOp .mod (eBi bInt (aC (eOp .fdiv (eP 2) (eC (.int 16))) aN)) (eP 1))) sNil)))))))
def F__law_draw : FN := fn 2 5 m__law_draw
def m__law_any : SS := (sSeq (sRet (eIx (eP 1) (eCall F__law_draw (gV (eV 0) (gV (eBi bLen (aC (eP 1) aN)) gN))))) sNil)
def F__law_any : FN := fn 2 2 m__law_any
def m__law_rows : SS := (sSeq (sSet 1 (eLst (aC (eTup aN) aN))) (sSeq (sFor (iRng1 (eP 0)) (tN 2) (sSeq (sOwn 3 (eLst aN)) (sSeq (sFor (iSeq (eV 1)) (tN 4) (sSeq (sExt 3 (eLst (aC (eOp .add (eP 4) (eTup (aC (eC (.int 0)) aN))) (aC (eOp .add (eP 4) (eTup (aC (eC (.int 1)) aN))) aN)))) sNil)) (sSeq (sFrz 3 (sSet 1 (eV 3))) sNil)))) (sSeq (sRet (eV 1)) sNil)))
def F__law_rows : FN := fn 1 5 m__law_rows
def m__law_is : SS := (sSeq (sIf (bOr (bCm .ne (eB (bIs (eP 0) [.bool])) (eB (bIs (eP 1) [.bool]))) (bCm .ne (eB (bIs (eP 0) [.int])) (eB (bIs (eP 1) [.int])))) (sSeq (sRet (eC (.bl false))) sNil) sNil) (sSeq (sRet (eB (bCm .eq (eP 0) (eP 1)))) sNil))
def F__law_is : FN := fn 2 2 m__law_is
def m__law_words (R : FN) : SS := (sSeq (sIf (bCm .eq (eIx (eP 0) (eC (.int 0))) (eC (.str "letter"))) (sSeq (sRet (eC (.int 0))) sNil) sNil) (sSeq (sRet (eOp .add (eC (.int 1)) (eBi bSum (aC (eLc [1] (iSeq (eSl (eP 0) (oS (eC (.int 1))) oN)) (tN 1) bT (eCall R (gV (eV 1) gN))) aN)))) sNil))
def F__law_words : Nat → FN
  | 0 => fun _ _ => .bad
  | n + 1 => fn 1 2 (m__law_words (F__law_words n))
def m_are_bits : SS := (sSeq (sRet (eAnd (bE (eCall F_is_tuple (gV (eV 0) (gV (eV 1) (gV (eV 1) gN))))) (eBi bAll (aC (eLc [2] (iSeq (eV 0)) (tN 2) bT (eCall F_is_bit (gV (eV 2) gN))) aN)))) sNil)
def F_are_bits : FN := fn 2 3 m_are_bits
def m_is_row : SS := (sSeq (sRet (eCall F_are_bits (gV (eV 1) (gV (eV 0) gN)))) sNil)
def F_is_row : FN := fn 2 2 m_is_row
def m_size_of (R : FN) : SS := (sSeq (sIf (bOr (bNot (bE (eCall F_is_tuple (gV (eV 1) (gV (eC (.int 3)) (gV (eC (.int 4)) gN)))))) (bNot (bE (eB (bIs (eIx (eP 1) (eC (.int 0))) [.str]))))) (sSeq (sRet (eC .non)) sNil) sNil) (sSeq (sUnp [5, 6] (eV 0)) (sSeq (sIf (bCm .eq (eIx (eP 1) (eC (.int 0))) (eC (.str "same"))) (sSeq (sIf (bOr (bCm .gt (eBi bLen (aC (eP 1) aN)) (eC (.int 3))) (bOr (bNot (bE (eCall F_is_within (gV (eIx (eP 1) (eC (.int 1))) (gV (eC (.int 0)) (gV (eOp .sub (eBi bLen (aC (eP 5) aN)) (eC (.int 1))) gN)))))) (bNot (bE (eCall F_is_within (gV (eIx (eP 1) (eC (.int 2))) (gV (eC (.int 0)) (gV (eOp .sub (eBi bLen (aC (eP 6) aN)) (eC (.int 1))) gN)))))))) (sSeq (sRet (eC .non)) sNil) sNil) (sSeq (sRet (eIf (bCm .eq (eIx (eP 5) (eIx (eP 1) (eC (.int 1)))) (eIx (eP 6) (eIx (eP 1) (eC (.int 2))))) (eC (.int 1)) (eC .non))) sNil)) sNil) (sSeq (sSet 2 (eIf (bCm .eq (eIx (eP 1) (eC (.int 0))) (eC (.str "left"))) (eV 5) (eV 6))) (sSeq (sIf (bOr (bCm .notin (eIx (eP 1) (eC (.int 0))) (eTup (aC (eC (.str "left")) (aC (eC (.str "right")) aN)))) (bNot (bE (eCall F_is_within (gV (eIx (eP 1) (eC (.int 1))) (gV (eC (.int 0)) (gV (eOp .sub (eBi bLen (aC (eP 2) aN)) (eC (.int 1))) gN))))))) (sSeq (sRet (eC .non)) sNil) sNil) (sSeq (sIf (bCm .eq (eIx (eIx (eP 2) (eIx (eP 1) (eC (.int 1)))) (eC (.int 0))) (eC (.str "letter"))) (sSeq (sRet (eC .non)) sNil) sNil) (sSeq (sSet 3 (eCall F_behind (gV (eV 0) (gV (eIx (eP 1) (eC (.int 0))) (gV (eIx (eP 1) (eC (.int 1))) gN))))) (sSeq (sIf (bCm .ne (eBi bLen (aC (eP 3) aN)) (eOp .sub (eBi bLen (aC (eP 1) aN)) (eC (.int 2)))) (sSeq (sRet (eC .non)) sNil) sNil) (sSeq (sSet 4 (eLc [7, 8] (iZip (eV 3) (eSl (eP 1) (oS (eC (.int 2))) oN)) (tT [7, 8]) bT (eCall R (gV (eV 7) (gV (eV 8) gN))))) (sSeq (sRet (eIf (bCm .isin (eC .non) (eP 4)) (eC .non) (eOp .add (eC (.int 1)) (eBi bSum (aC (eP 4) aN))))) sNil))))))))))
def F_size_of : Nat → FN
  | 0 => fun _ _ => .bad
  | n + 1 => fn 2 9 (m_size_of (F_size_of n))
def m_is_proved : SS := (sSeq (sExpr (eCall F_check_sequent (gV (eV 0) gN))) (sSeq (sIf (bOr (bNot (bE (eCall F_is_tuple (gV (eV 1) (gV (eC (.int 2)) (gV (eC (.int 2)) gN)))))) (bNot (bE (eB (bIs (eIx (eP 1) (eC (.int 0))) [.str]))))) (sSeq (sRet (eC (.bl false))) sNil) sNil) (sSeq (sIf (bCm .eq (eIx (eP 1) (eC (.int 0))) (eC (.str "row"))) (sSeq (sRet (eAnd (bE (eCall F_is_row (gV (eC k_MOST_LETTERS) (gV (eIx (eP 1) (eC (.int 1))) gN)))) (eB (bNot (bE (eCall F_holds_at (gV (eV 0) (gV (eIx (eP 1) (eC (.int 1))) gN)))))))) sNil) sNil) (sSeq (sRet (eAnd (bE (eB (bCm .eq (eIx (eP 1) (eC (.int 0))) (eC (.str "proof"))))) (eB (bCm .notN (eCall (F_size_of 20) (gV (eV 0) (gV (eIx (eP 1) (eC (.int 1))) gN))) (eC .non))))) sNil))))
def F_is_proved : FN := fn 2 2 m_is_proved
def m_all_hold : SS := (sSeq (sIf (bOr (bNot (bE (eB (bIs (eP 0) [.list, .tuple])))) (bNot (bCh .le .le (eC (.int 1)) (eBi bLen (aC (eP 0) aN)) (eC k_MOST_TOGETHER)))) (sSeq sBad sNil) sNil) (sSeq (sFor (iEnum (eV 0)) (tT [2, 3]) (sSeq (sIf (bNot (bE (eCall F_formula_in (gV (eC k_MOST_LETTERS) (gV (eV 3) gN))))) (sSeq sBad sNil) sNil) sNil)) (sSeq (sFor (iSeq (eCall F_rows (gV (eC k_MOST_LETTERS) gN))) (tN 1) (sSeq (sIf (bE (eBi bAll (aC (eLc [3] (iSeq (eV 0)) (tN 3) bT (eB (bCm .eq (eCall (F_told_at 20) (gV (eV 3) (gV (eV 1) gN))) (eC (.int 1))))) aN))) (sSeq (sRet (eV 1)) sNil) sNil) sNil)) (sSeq (sRet (eC .non)) sNil))))
def F_all_hold : FN := fn 1 4 m_all_hold
def m__law_formula (R : FN) : SS := (sSeq (sSet 3 (eIf (bCm .gt (eP 2) (eC (.int 0))) (eCall F__law_draw (gV (eV 0) (gV (eC (.int 5)) gN))) (eC (.int 0)))) (sSeq (sIf (bCm .lt (eP 3) (eC (.int 2))) (sSeq (sRet (eTup (aC (eC (.str "letter")) (aC (eCall F__law_draw (gV (eV 0) (gV (eV 1) gN))) aN)))) sNil) sNil) (sSeq (sIf (bCm .eq (eP 3) (eC (.int 2))) (sSeq (sRet (eTup (aC (eC (.str "not")) (aC (eCall R (gV (eV 0) (gV (eV 1) (gV (eOp .sub (eP 2) (eC (.int 1))) gN)))) aN)))) sNil) sNil) (sSeq (sPar [4, 5] (hV (eCall F__law_any (gV (eV 0) (gV (eLst (aC (eC (.str "and")) (aC (eC (.str "or")) (aC (eC (.str "then")) aN)))) gN))) (hV (eCall R (gV (eV 0) (gV (eV 1) (gV (eOp .sub (eP 2) (eC (.int 1))) gN)))) hN))) (sSeq (sRet (eTup (aC (eV 4) (aC (eV 5) (aC (eCall R (gV (eV 0) (gV (eV 1) (gV (eOp .sub (eP 2) (eC (.int 1))) gN)))) aN))))) sNil)))))
def F__law_formula : Nat → FN
  | 0 => fun _ _ => .bad
  | n + 1 => fn 3 6 (m__law_formula (F__law_formula n))
def m__law_told (R : FN) : SS := (sSeq (sIf (bCm .eq (eIx (eP 0) (eC (.int 0))) (eC (.str "letter"))) (sSeq (sRet (eIx (eP 1) (eIx (eP 0) (eC (.int 1))))) sNil) sNil) (sSeq (sSet 2 (eLc [3] (iSeq (eSl (eP 0) (oS (eC (.int 1))) oN)) (tN 3) bT (eCall R (gV (eV 3) (gV (eV 1) gN))))) (sSeq (sIf (bCm .eq (eIx (eP 0) (eC (.int 0))) (eC (.str "not"))) (sSeq (sRet (eOp .sub (eC (.int 1)) (eIx (eP 2) (eC (.int 0))))) sNil) sNil) (sSeq (sRet (eIf (bCm .eq (eIx (eP 0) (eC (.int 0))) (eC (.str "and"))) (eBi bMin (aC (eP 2) aN)) (eIf (bCm .eq (eIx (eP 0) (eC (.int 0))) (eC (.str "or"))) (eBi bMax (aC (eP 2) aN)) (eBi bMax2 (aC (eOp .sub (eC (.int 1)) (eIx (eP 2) (eC (.int 0)))) (aC (eIx (eP 2) (eC (.int 1))) aN)))))) sNil))))
def F__law_told : Nat → FN
  | 0 => fun _ _ => .bad
  | n + 1 => fn 2 4 (m__law_told (F__law_told n))
def m__law_holds : SS := (sSeq (sUnp [2, 3] (eV 0)) (sSeq (sRet (eOr (bE (eBi bAny (aC (eLc [4] (iSeq (eV 2)) (tN 4) bT (eB (bCm .eq (eCall (F__law_told 20) (gV (eV 4) (gV (eV 1) gN))) (eC (.int 0))))) aN))) (eBi bAny (aC (eLc [4] (iSeq (eV 3)) (tN 4) bT (eB (bCm .eq (eCall (F__law_told 20) (gV (eV 4) (gV (eV 1) gN))) (eC (.int 1))))) aN)))) sNil))
def F__law_holds : FN := fn 2 5 m__law_holds
def m_proof_size : SS := (sSeq (sExpr (eCall F_check_sequent (gV (eV 0) gN))) (sSeq (sSet 2 (eCall (F_size_of 20) (gV (eV 0) (gV (eV 1) gN)))) (sSeq (sIf (bCm .isN (eP 2) (eC .non)) (sSeq sBad sNil) sNil) (sSeq (sRet (eV 2)) sNil))))
def F_proof_size : FN := fn 2 3 m_proof_size
def m__law_behind : SS := (sSeq (sUnp [4, 5] (eV 0)) (sSeq (sSet 3 (eIf (bCm .eq (eP 1) (eC (.str "left"))) (eIx (eP 4) (eP 2)) (eIx (eP 5) (eP 2)))) (sSeq (sPar [6, 7] (hV (eOp .add (eSl (eP 4) oN (oS (eP 2))) (eSl (eP 4) (oS (eOp .add (eP 2) (eC (.int 1)))) oN)) (hV (eOp .add (eSl (eP 5) oN (oS (eP 2))) (eSl (eP 5) (oS (eOp .add (eP 2) (eC (.int 1)))) oN)) hN))) (sSeq (sPar [8, 9] (hV (eIx (eP 3) (eC (.int 0))) (hV (eSl (eP 3) (oS (eC (.int 1))) oN) hN))) (sSeq (sIf (bCm .eq (eP 1) (eC (.str "left"))) (sSeq (sIf (bCm .eq (eP 8) (eC (.str "not"))) (sSeq (sRet (eLst (aC (eTup (aC (eV 6) (aC (eOp .add (eP 5) (eP 9)) aN))) aN))) sNil) sNil) (sSeq (sIf (bCm .eq (eP 8) (eC (.str "and"))) (sSeq (sRet (eLst (aC (eTup (aC (eOp .add (eP 6) (eP 9)) (aC (eV 5) aN))) aN))) sNil) sNil) (sSeq (sIf (bCm .eq (eP 8) (eC (.str "or"))) (sSeq (sRet (eLst (aC (eTup (aC (eOp .add (eP 6) (eSl (eP 9) oN (oS (eC (.int 1))))) (aC (eV 5) aN))) (aC (eTup (aC (eOp .add (eP 6) (eSl (eP 9) (oS (eC (.int 1))) oN)) (aC (eV 5) aN))) aN)))) sNil) sNil) (sSeq (sRet (eLst (aC (eTup (aC (eV 6) (aC (eOp .add (eP 5) (eSl (eP 9) oN (oS (eC (.int 1))))) aN))) (aC (eTup (aC (eOp .add (eP 6) (eSl (eP 9) (oS (eC (.int 1))) oN)) (aC (eV 5) aN))) aN)))) sNil)))) sNil) (sSeq (sIf (bCm .eq (eP 8) (eC (.str "not"))) (sSeq (sRet (eLst (aC (eTup (aC (eOp .add (eP 4) (eP 9)) (aC (eV 7) aN))) aN))) sNil) sNil) (sSeq (sIf (bCm .eq (eP 8) (eC (.str "or"))) (sSeq (sRet (eLst (aC (eTup (aC (eV 4) (aC (eOp .add (eP 7) (eP 9)) aN))) aN))) sNil) sNil) (sSeq (sIf (bCm .eq (eP 8) (eC (.str "and"))) (sSeq (sRet (eLst (aC (eTup (aC (eV 4) (aC (eOp .add (eP 7) (eSl (eP 9) oN (oS (eC (.int 1))))) aN))) (aC (eTup (aC (eV 4) (aC (eOp .add (eP 7) (eSl (eP 9) (oS (eC (.int 1))) oN)) aN))) aN)))) sNil) sNil) (sSeq (sRet (eLst (aC (eTup (aC (eOp .add (eP 4) (eSl (eP 9) oN (oS (eC (.int 1))))) (aC (eOp .add (eP 7) (eSl (eP 9) (oS (eC (.int 1))) oN)) aN))) aN))) sNil)))))))))
def F__law_behind : FN := fn 3 10 m__law_behind
def m__law_steps (R : FN) : SS := (sSeq (sIf (bOr (bNot (bE (eB (bIs (eP 1) [.tuple])))) (bOr (bCm .notin (eBi bLen (aC (eP 1) aN)) (eTup (aC (eC (.int 3)) (aC (eC (.int 4)) aN)))) (bNot (bE (eB (bIs (eIx (eP 1) (eC (.int 0))) [.str])))))) (sSeq (sRet (eC (.int 0))) sNil) sNil) (sSeq (sIf (bOr (bNot (bE (eB (bIs (eIx (eP 1) (eC (.int 1))) [.int])))) (bE (eB (bIs (eIx (eP 1) (eC (.int 1))) [.bool])))) (sSeq (sRet (eC (.int 0))) sNil) sNil) (sSeq (sUnp [5, 6] (eV 0)) (sSeq (sIf (bCm .eq (eIx (eP 1) (eC (.int 0))) (eC (.str "same"))) (sSeq (sIf (bOr (bCm .ne (eBi bLen (aC (eP 1) aN)) (eC (.int 3))) (bOr (bNot (bE (eB (bIs (eIx (eP 1) (eC (.int 2))) [.int])))) (bE (eB (bIs (eIx (eP 1) (eC (.int 2))) [.bool]))))) (sSeq (sRet (eC (.int 0))) sNil) sNil) (sSeq (sIf (bOr (bNot (bCh .le .lt (eC (.int 0)) (eIx (eP 1) (eC (.int 1))) (eBi bLen (aC (eP 5) aN)))) (bNot (bCh .le .lt (eC (.int 0)) (eIx (eP 1) (eC (.int 2))) (eBi bLen (aC (eP 6) aN))))) (sSeq (sRet (eC (.int 0))) sNil) sNil) (sSeq (sRet (eBi bInt (aC (eB (bCm .eq (eIx (eP 5) (eIx (eP 1) (eC (.int 1)))) (eIx (eP 6) (eIx (eP 1) (eC (.int 2)))))) aN))) sNil))) sNil) (sSeq (sSet 2 (eIf (bCm .eq (eIx (eP 1) (eC (.int 0))) (eC (.str "left"))) (eV 5) (eV 6))) (sSeq (sIf (bOr (bCm .notin (eIx (eP 1) (eC (.int 0))) (eTup (aC (eC (.str "left")) (aC (eC (.str "right")) aN)))) (bOr (bNot (bCh .le .lt (eC (.int 0)) (eIx (eP 1) (eC (.int 1))) (eBi bLen (aC (eP 2) aN)))) (bCm .eq (eIx (eIx (eP 2) (eIx (eP 1) (eC (.int 1)))) (eC (.int 0))) (eC (.str "letter"))))) (sSeq (sRet (eC (.int 0))) sNil) sNil) (sSeq (sSet 3 (eCall F__law_behind (gV (eV 0) (gV (eIx (eP 1) (eC (.int 0))) (gV (eIx (eP 1) (eC (.int 1))) gN))))) (sSeq (sIf (bCm .ne (eBi bLen (aC (eP 3) aN)) (eOp .sub (eBi bLen (aC (eP 1) aN)) (eC (.int 2)))) (sSeq (sRet (eC (.int 0))) sNil) sNil) (sSeq (sSet 4 (eLc [7, 8] (iZip (eV 3) (eSl (eP 1) (oS (eC (.int 2))) oN)) (tT [7, 8]) bT (eCall R (gV (eV 7) (gV (eV 8) gN))))) (sSeq (sRet (eIf (bCm .isin (eC (.int 0)) (eP 4)) (eC (.int 0)) (eOp .add (eC (.int 1)) (eBi bSum (aC (eP 4) aN))))) sNil))))))))))
def F__law_steps : Nat → FN
  | 0 => fun _ _ => .bad
  | n + 1 => fn 2 9 (m__law_steps (F__law_steps n))
def m_law_1 : SS := (sUnp [4, 5] (eTup (aC (eTup (aC (eC (.str "letter")) (aC (eC (.int 0)) aN))) (aC (eTup (aC (eC (.str "letter")) (aC (eC (.int 1)) aN))) aN))))
def m_law_2 : SS := (sSet 2 (eTup (aC (eTup (aC (eTup (aC (eC (.str "then")) (aC (eV 4) (aC (eV 5) aN)))) (aC (eV 4) aN))) (aC (eTup (aC (eV 5) aN)) aN))))
def m_law_3 : SS := (sIf (bOr (bCm .notBl (eCall F_holds (gV (eV 2) gN)) (eC (.bl true))) (bCm .notBl (eCall F_holds (gV (eTup (aC (eTup (aC (eV 4) aN)) (aC (eTup (aC (eV 5) aN)) aN))) gN)) (eC (.bl false)))) (sSeq (sRet (eC (.bl false))) sNil) sNil)
def m_law_4 : SS := (sIf (bCm .ne (eCall F_proved (gV (eTup (aC (eTup (aC (eV 4) aN)) (aC (eTup (aC (eV 5) aN)) aN))) gN)) (eTup (aC (eC (.str "row")) (aC (eTup (aC (eC (.int 1)) (aC (eC (.int 0)) (aC (eC (.int 0)) (aC (eC (.int 0)) (aC (eC (.int 0)) aN)))))) aN)))) (sSeq (sRet (eC (.bl false))) sNil) sNil)
def m_law_5 : SS := (sSet 6 (eOp .add (eC (.int 2)) (eCall F__law_draw (gV (eV 1) (gV (eC (.int 3)) gN)))))
def m_law_6 : SS := (sApp 7 (eBi bTuple (aC (eLc [18] (iRng1 (eCall F__law_draw (gV (eV 1) (gV (eC (.int 4)) gN)))) (tN 18) bT (eCall (F__law_formula 20) (gV (eV 1) (gV (eV 6) (gV (eC (.int 3)) gN))))) aN)))
def m_law_7 : SS := (sPut 7 (eC (.int 1)) (eOp .add (eIx (eP 7) (eC (.int 1))) (eTup (aC (eCall F__law_any (gV (eV 1) (gV (eBi bList (aC (eIx (eP 7) (eC (.int 0))) aN)) gN))) aN))))
def m_law_8 : SS := (sIf (bAnd (bCm .eq (eCall F__law_draw (gV (eV 1) (gV (eC (.int 2)) gN))) (eC (.int 0))) (bCm .gt (eBi bLen (aC (eIx (eP 7) (eC (.int 0))) aN)) (eC (.int 0)))) (sSeq m_law_7 sNil) sNil)
def m_law_9 : SS := (sSet 9 (eTup (aC (eIx (eP 7) (eC (.int 0))) (aC (eIx (eP 7) (eC (.int 1))) aN))))
def m_law_10 : SS := (sSet 10 (eLc [12] (iSeq (eCall F__law_rows (gV (eC (.int 5)) gN))) (tN 12) (bNot (bE (eCall F__law_holds (gV (eV 9) (gV (eV 12) gN))))) (eV 12)))
def m_law_11 : SS := (sIf (bOr (bNot (bE (eCall F__law_is (gV (eCall F_holds (gV (eV 9) gN)) (gV (eB (bCm .eq (eBi bLen (aC (eP 10) aN)) (eC (.int 0)))) gN))))) (bCm .notBl (eCall F_is_proved (gV (eV 9) (gV (eV 11) gN))) (eC (.bl true)))) (sSeq (sRet (eC (.bl false))) sNil) sNil)
def m_law_12 : SS := (sIf (bAnd (bCm .gt (eBi bLen (aC (eP 10) aN)) (eC (.int 0))) (bCm .ne (eP 11) (eTup (aC (eC (.str "row")) (aC (eIx (eP 10) (eC (.int 0))) aN))))) (sSeq (sRet (eC (.bl false))) sNil) sNil)
def m_law_13 : SS := (sIf (bOr (bCm .ne (eIx (eP 11) (eC (.int 0))) (eC (.str "proof"))) (bCm .ne (eCall F_proof_size (gV (eV 9) (gV (eIx (eP 11) (eC (.int 1))) gN))) (eCall (F__law_steps 20) (gV (eV 9) (gV (eIx (eP 11) (eC (.int 1))) gN))))) (sSeq (sRet (eC (.bl false))) sNil) sNil)
def m_law_14 : SS := (sSet 14 (eLst (aC (eSl (eP 13) oN (oS (eNeg (eC (.int 1))))) (aC (eOp .add (eP 13) (eSl (eP 13) (oS (eNeg (eC (.int 1)))) oN)) (aC (eBi bList (aC (eP 13) aN)) (aC (eTup (aC (eC (.str "same")) (aC (eC (.int 0)) (aC (eC (.int 0)) aN)))) (aC (eC .non) (aC (eTup (aC (eC (.str "left")) (aC (eC (.int 0)) (aC (eV 13) aN)))) aN))))))))
def m_law_15 : SS := (sSet 14 (eOp .add (eP 14) (eLst (aC (eOp .add (eTup (aC (eIx (eP 13) (eC (.int 0))) (aC (eOp .add (eIx (eP 13) (eC (.int 1))) (eC (.int 1))) aN))) (eSl (eP 13) (oS (eC (.int 2))) oN)) (aC (eTup (aC (eC (.str "right")) (aC (eC (.int 0)) (aC (eV 13) aN)))) aN)))))
def m_law_16 : SS := (sSet 15 (eTup (aC (eC (.str "proof")) (aC (eCall F__law_any (gV (eV 1) (gV (eV 14) gN))) aN))))
def m_law_17 : SS := (sIf (bNot (bE (eCall F__law_is (gV (eCall F_is_proved (gV (eV 9) (gV (eV 15) gN))) (gV (eB (bCm .gt (eCall (F__law_steps 20) (gV (eV 9) (gV (eIx (eP 15) (eC (.int 1))) gN))) (eC (.int 0)))) gN))))) (sSeq (sRet (eC (.bl false))) sNil) sNil)
def m_law_18 : SS := (sIf (bCm .eq (eBi bLen (aC (eP 10) aN)) (eC (.int 0))) (sSeq m_law_13 (sSeq (sSet 13 (eIx (eP 11) (eC (.int 1)))) (sSeq m_law_14 (sSeq m_law_15 (sSeq m_law_16 (sSeq m_law_17 sNil)))))) sNil)
def m_law_19 : SS := (sSet 12 (eCall F__law_any (gV (eV 1) (gV (eCall F__law_rows (gV (eC (.int 5)) gN)) gN))))
def m_law_20 : SS := (sIf (bNot (bE (eCall F__law_is (gV (eCall F_is_proved (gV (eV 9) (gV (eTup (aC (eC (.str "row")) (aC (eV 12) aN))) gN))) (gV (eB (bNot (bE (eCall F__law_holds (gV (eV 9) (gV (eV 12) gN)))))) gN))))) (sSeq (sRet (eC (.bl false))) sNil) sNil)
def m_law_21 : SS := (sSet 16 (eLc [12] (iSeq (eCall F__law_rows (gV (eC (.int 5)) gN))) (tN 12) (bE (eBi bAll (aC (eLc [17] (iSeq (eIx (eP 7) (eC (.int 0)))) (tN 17) bT (eB (bCm .eq (eCall (F__law_told 20) (gV (eV 17) (gV (eV 12) gN))) (eC (.int 1))))) aN))) (eV 12)))
def m_law_22 : SS := (sIf (bCm .ne (eCall F_all_hold (gV (eIx (eP 7) (eC (.int 0))) gN)) (eIf (bCm .gt (eBi bLen (aC (eP 16) aN)) (eC (.int 0))) (eIx (eP 16) (eC (.int 0))) (eC .non))) (sSeq (sRet (eC (.bl false))) sNil) sNil)
def m_law_23 : SS := (sIf (bCm .gt (eBi bLen (aC (eIx (eP 7) (eC (.int 0))) aN)) (eC (.int 0))) (sSeq m_law_21 (sSeq m_law_22 sNil)) sNil)
def m_law_24 : SS := (sIf (bCm .lt (eBi bSum (aC (eLc [17] (iSeq (eOp .add (eIx (eP 7) (eC (.int 0))) (eIx (eP 7) (eC (.int 1))))) (tN 17) bT (eCall (F__law_words 20) (gV (eV 17) gN))) aN)) (eC (.int 13))) (sSeq m_law_10 (sSeq (sSet 11 (eCall F_proved (gV (eV 9) gN))) (sSeq m_law_11 (sSeq m_law_12 (sSeq m_law_18 (sSeq m_law_19 (sSeq m_law_20 (sSeq m_law_23 sNil)))))))) sNil)
def m_law_25 : SS := (sFor (iRng1 (eC (.int 4))) (tN 3) (sSeq m_law_5 (sSeq (sOwn 7 (eLst aN)) (sSeq (sFor (iRng1 (eC (.int 2))) (tN 8) (sSeq m_law_6 sNil)) (sSeq m_law_8 (sSeq m_law_9 (sSeq m_law_24 sNil)))))))
def m_law : SS := (sSeq m_law_1 (sSeq m_law_2 (sSeq m_law_3 (sSeq m_law_4 (sSeq m_law_25 (sSeq (sRet (eC (.bl true))) sNil))))))
end Law81
namespace Law81
open PySem Q
/-! words -/
@[simp] theorem s_bit_letter : (Str.ofString "bit" == Str.ofString "letter") = false := by decide
@[simp] theorem s_bit_not : (Str.ofString "bit" == Str.ofString "not") = false := by decide
@[simp] theorem s_bit_and : (Str.ofString "bit" == Str.ofString "and") = false := by decide
@[simp] theorem s_bit_or : (Str.ofString "bit" == Str.ofString "or") = false := by decide
@[simp] theorem s_bit_xor : (Str.ofString "bit" == Str.ofString "xor") = false := by decide
@[simp] theorem s_bit_then : (Str.ofString "bit" == Str.ofString "then") = false := by decide
@[simp] theorem s_bit_same : (Str.ofString "bit" == Str.ofString "same") = false := by decide
@[simp] theorem s_bit_left : (Str.ofString "bit" == Str.ofString "left") = false := by decide
@[simp] theorem s_bit_right : (Str.ofString "bit" == Str.ofString "right") = false := by decide
@[simp] theorem s_bit_proof : (Str.ofString "bit" == Str.ofString "proof") = false := by decide
@[simp] theorem s_bit_row : (Str.ofString "bit" == Str.ofString "row") = false := by decide
@[simp] theorem s_bit_nand : (Str.ofString "bit" == Str.ofString "nand") = false := by decide
@[simp] theorem s_bit_nor : (Str.ofString "bit" == Str.ofString "nor") = false := by decide
@[simp] theorem z_bit : PyData.canLay0 (.str (Str.ofString "bit")) = true := by decide +kernel
@[simp] theorem s_letter_bit : (Str.ofString "letter" == Str.ofString "bit") = false := by decide
@[simp] theorem s_letter_not : (Str.ofString "letter" == Str.ofString "not") = false := by decide
@[simp] theorem s_letter_and : (Str.ofString "letter" == Str.ofString "and") = false := by decide
@[simp] theorem s_letter_or : (Str.ofString "letter" == Str.ofString "or") = false := by decide
@[simp] theorem s_letter_xor : (Str.ofString "letter" == Str.ofString "xor") = false := by decide
@[simp] theorem s_letter_then : (Str.ofString "letter" == Str.ofString "then") = false := by decide
@[simp] theorem s_letter_same : (Str.ofString "letter" == Str.ofString "same") = false := by decide
@[simp] theorem s_letter_left : (Str.ofString "letter" == Str.ofString "left") = false := by decide
@[simp] theorem s_letter_right : (Str.ofString "letter" == Str.ofString "right") = false := by decide
@[simp] theorem s_letter_proof : (Str.ofString "letter" == Str.ofString "proof") = false := by decide
@[simp] theorem s_letter_row : (Str.ofString "letter" == Str.ofString "row") = false := by decide
@[simp] theorem s_letter_nand : (Str.ofString "letter" == Str.ofString "nand") = false := by decide
@[simp] theorem s_letter_nor : (Str.ofString "letter" == Str.ofString "nor") = false := by decide
@[simp] theorem z_letter : PyData.canLay0 (.str (Str.ofString "letter")) = true := by decide +kernel
@[simp] theorem s_not_bit : (Str.ofString "not" == Str.ofString "bit") = false := by decide
@[simp] theorem s_not_letter : (Str.ofString "not" == Str.ofString "letter") = false := by decide
@[simp] theorem s_not_and : (Str.ofString "not" == Str.ofString "and") = false := by decide
@[simp] theorem s_not_or : (Str.ofString "not" == Str.ofString "or") = false := by decide
@[simp] theorem s_not_xor : (Str.ofString "not" == Str.ofString "xor") = false := by decide
@[simp] theorem s_not_then : (Str.ofString "not" == Str.ofString "then") = false := by decide
@[simp] theorem s_not_same : (Str.ofString "not" == Str.ofString "same") = false := by decide
@[simp] theorem s_not_left : (Str.ofString "not" == Str.ofString "left") = false := by decide
@[simp] theorem s_not_right : (Str.ofString "not" == Str.ofString "right") = false := by decide
@[simp] theorem s_not_proof : (Str.ofString "not" == Str.ofString "proof") = false := by decide
@[simp] theorem s_not_row : (Str.ofString "not" == Str.ofString "row") = false := by decide
@[simp] theorem s_not_nand : (Str.ofString "not" == Str.ofString "nand") = false := by decide
@[simp] theorem s_not_nor : (Str.ofString "not" == Str.ofString "nor") = false := by decide
@[simp] theorem z_not : PyData.canLay0 (.str (Str.ofString "not")) = true := by decide +kernel
@[simp] theorem s_and_bit : (Str.ofString "and" == Str.ofString "bit") = false := by decide
@[simp] theorem s_and_letter : (Str.ofString "and" == Str.ofString "letter") = false := by decide
@[simp] theorem s_and_not : (Str.ofString "and" == Str.ofString "not") = false := by decide
@[simp] theorem s_and_or : (Str.ofString "and" == Str.ofString "or") = false := by decide
@[simp] theorem s_and_xor : (Str.ofString "and" == Str.ofString "xor") = false := by decide
@[simp] theorem s_and_then : (Str.ofString "and" == Str.ofString "then") = false := by decide
@[simp] theorem s_and_same : (Str.ofString "and" == Str.ofString "same") = false := by decide
@[simp] theorem s_and_left : (Str.ofString "and" == Str.ofString "left") = false := by decide
@[simp] theorem s_and_right : (Str.ofString "and" == Str.ofString "right") = false := by decide
@[simp] theorem s_and_proof : (Str.ofString "and" == Str.ofString "proof") = false := by decide
@[simp] theorem s_and_row : (Str.ofString "and" == Str.ofString "row") = false := by decide
@[simp] theorem s_and_nand : (Str.ofString "and" == Str.ofString "nand") = false := by decide
@[simp] theorem s_and_nor : (Str.ofString "and" == Str.ofString "nor") = false := by decide
@[simp] theorem z_and : PyData.canLay0 (.str (Str.ofString "and")) = true := by decide +kernel
@[simp] theorem s_or_bit : (Str.ofString "or" == Str.ofString "bit") = false := by decide
@[simp] theorem s_or_letter : (Str.ofString "or" == Str.ofString "letter") = false := by decide
@[simp] theorem s_or_not : (Str.ofString "or" == Str.ofString "not") = false := by decide
@[simp] theorem s_or_and : (Str.ofString "or" == Str.ofString "and") = false := by decide
@[simp] theorem s_or_xor : (Str.ofString "or" == Str.ofString "xor") = false := by decide
@[simp] theorem s_or_then : (Str.ofString "or" == Str.ofString "then") = false := by decide
@[simp] theorem s_or_same : (Str.ofString "or" == Str.ofString "same") = false := by decide
@[simp] theorem s_or_left : (Str.ofString "or" == Str.ofString "left") = false := by decide
@[simp] theorem s_or_right : (Str.ofString "or" == Str.ofString "right") = false := by decide
@[simp] theorem s_or_proof : (Str.ofString "or" == Str.ofString "proof") = false := by decide
@[simp] theorem s_or_row : (Str.ofString "or" == Str.ofString "row") = false := by decide
@[simp] theorem s_or_nand : (Str.ofString "or" == Str.ofString "nand") = false := by decide
@[simp] theorem s_or_nor : (Str.ofString "or" == Str.ofString "nor") = false := by decide
@[simp] theorem z_or : PyData.canLay0 (.str (Str.ofString "or")) = true := by decide +kernel
@[simp] theorem s_xor_bit : (Str.ofString "xor" == Str.ofString "bit") = false := by decide
@[simp] theorem s_xor_letter : (Str.ofString "xor" == Str.ofString "letter") = false := by decide
@[simp] theorem s_xor_not : (Str.ofString "xor" == Str.ofString "not") = false := by decide
@[simp] theorem s_xor_and : (Str.ofString "xor" == Str.ofString "and") = false := by decide
@[simp] theorem s_xor_or : (Str.ofString "xor" == Str.ofString "or") = false := by decide
@[simp] theorem s_xor_then : (Str.ofString "xor" == Str.ofString "then") = false := by decide
@[simp] theorem s_xor_same : (Str.ofString "xor" == Str.ofString "same") = false := by decide
@[simp] theorem s_xor_left : (Str.ofString "xor" == Str.ofString "left") = false := by decide
@[simp] theorem s_xor_right : (Str.ofString "xor" == Str.ofString "right") = false := by decide
@[simp] theorem s_xor_proof : (Str.ofString "xor" == Str.ofString "proof") = false := by decide
@[simp] theorem s_xor_row : (Str.ofString "xor" == Str.ofString "row") = false := by decide
@[simp] theorem s_xor_nand : (Str.ofString "xor" == Str.ofString "nand") = false := by decide
@[simp] theorem s_xor_nor : (Str.ofString "xor" == Str.ofString "nor") = false := by decide
@[simp] theorem z_xor : PyData.canLay0 (.str (Str.ofString "xor")) = true := by decide +kernel
@[simp] theorem s_then_bit : (Str.ofString "then" == Str.ofString "bit") = false := by decide
@[simp] theorem s_then_letter : (Str.ofString "then" == Str.ofString "letter") = false := by decide
@[simp] theorem s_then_not : (Str.ofString "then" == Str.ofString "not") = false := by decide
@[simp] theorem s_then_and : (Str.ofString "then" == Str.ofString "and") = false := by decide
@[simp] theorem s_then_or : (Str.ofString "then" == Str.ofString "or") = false := by decide
@[simp] theorem s_then_xor : (Str.ofString "then" == Str.ofString "xor") = false := by decide
@[simp] theorem s_then_same : (Str.ofString "then" == Str.ofString "same") = false := by decide
@[simp] theorem s_then_left : (Str.ofString "then" == Str.ofString "left") = false := by decide
@[simp] theorem s_then_right : (Str.ofString "then" == Str.ofString "right") = false := by decide
@[simp] theorem s_then_proof : (Str.ofString "then" == Str.ofString "proof") = false := by decide
@[simp] theorem s_then_row : (Str.ofString "then" == Str.ofString "row") = false := by decide
@[simp] theorem s_then_nand : (Str.ofString "then" == Str.ofString "nand") = false := by decide
@[simp] theorem s_then_nor : (Str.ofString "then" == Str.ofString "nor") = false := by decide
@[simp] theorem z_then : PyData.canLay0 (.str (Str.ofString "then")) = true := by decide +kernel
@[simp] theorem s_same_bit : (Str.ofString "same" == Str.ofString "bit") = false := by decide
@[simp] theorem s_same_letter : (Str.ofString "same" == Str.ofString "letter") = false := by decide
@[simp] theorem s_same_not : (Str.ofString "same" == Str.ofString "not") = false := by decide
@[simp] theorem s_same_and : (Str.ofString "same" == Str.ofString "and") = false := by decide
@[simp] theorem s_same_or : (Str.ofString "same" == Str.ofString "or") = false := by decide
@[simp] theorem s_same_xor : (Str.ofString "same" == Str.ofString "xor") = false := by decide
@[simp] theorem s_same_then : (Str.ofString "same" == Str.ofString "then") = false := by decide
@[simp] theorem s_same_left : (Str.ofString "same" == Str.ofString "left") = false := by decide
@[simp] theorem s_same_right : (Str.ofString "same" == Str.ofString "right") = false := by decide
@[simp] theorem s_same_proof : (Str.ofString "same" == Str.ofString "proof") = false := by decide
@[simp] theorem s_same_row : (Str.ofString "same" == Str.ofString "row") = false := by decide
@[simp] theorem s_same_nand : (Str.ofString "same" == Str.ofString "nand") = false := by decide
@[simp] theorem s_same_nor : (Str.ofString "same" == Str.ofString "nor") = false := by decide
@[simp] theorem z_same : PyData.canLay0 (.str (Str.ofString "same")) = true := by decide +kernel
@[simp] theorem s_left_bit : (Str.ofString "left" == Str.ofString "bit") = false := by decide
@[simp] theorem s_left_letter : (Str.ofString "left" == Str.ofString "letter") = false := by decide
@[simp] theorem s_left_not : (Str.ofString "left" == Str.ofString "not") = false := by decide
@[simp] theorem s_left_and : (Str.ofString "left" == Str.ofString "and") = false := by decide
@[simp] theorem s_left_or : (Str.ofString "left" == Str.ofString "or") = false := by decide
@[simp] theorem s_left_xor : (Str.ofString "left" == Str.ofString "xor") = false := by decide
@[simp] theorem s_left_then : (Str.ofString "left" == Str.ofString "then") = false := by decide
@[simp] theorem s_left_same : (Str.ofString "left" == Str.ofString "same") = false := by decide
@[simp] theorem s_left_right : (Str.ofString "left" == Str.ofString "right") = false := by decide
@[simp] theorem s_left_proof : (Str.ofString "left" == Str.ofString "proof") = false := by decide
@[simp] theorem s_left_row : (Str.ofString "left" == Str.ofString "row") = false := by decide
@[simp] theorem s_left_nand : (Str.ofString "left" == Str.ofString "nand") = false := by decide
@[simp] theorem s_left_nor : (Str.ofString "left" == Str.ofString "nor") = false := by decide
@[simp] theorem z_left : PyData.canLay0 (.str (Str.ofString "left")) = true := by decide +kernel
@[simp] theorem s_right_bit : (Str.ofString "right" == Str.ofString "bit") = false := by decide
@[simp] theorem s_right_letter : (Str.ofString "right" == Str.ofString "letter") = false := by decide
@[simp] theorem s_right_not : (Str.ofString "right" == Str.ofString "not") = false := by decide
@[simp] theorem s_right_and : (Str.ofString "right" == Str.ofString "and") = false := by decide
@[simp] theorem s_right_or : (Str.ofString "right" == Str.ofString "or") = false := by decide
@[simp] theorem s_right_xor : (Str.ofString "right" == Str.ofString "xor") = false := by decide
@[simp] theorem s_right_then : (Str.ofString "right" == Str.ofString "then") = false := by decide
@[simp] theorem s_right_same : (Str.ofString "right" == Str.ofString "same") = false := by decide
@[simp] theorem s_right_left : (Str.ofString "right" == Str.ofString "left") = false := by decide
@[simp] theorem s_right_proof : (Str.ofString "right" == Str.ofString "proof") = false := by decide
@[simp] theorem s_right_row : (Str.ofString "right" == Str.ofString "row") = false := by decide
@[simp] theorem s_right_nand : (Str.ofString "right" == Str.ofString "nand") = false := by decide
@[simp] theorem s_right_nor : (Str.ofString "right" == Str.ofString "nor") = false := by decide
@[simp] theorem z_right : PyData.canLay0 (.str (Str.ofString "right")) = true := by decide +kernel
@[simp] theorem s_proof_bit : (Str.ofString "proof" == Str.ofString "bit") = false := by decide
@[simp] theorem s_proof_letter : (Str.ofString "proof" == Str.ofString "letter") = false := by decide
@[simp] theorem s_proof_not : (Str.ofString "proof" == Str.ofString "not") = false := by decide
@[simp] theorem s_proof_and : (Str.ofString "proof" == Str.ofString "and") = false := by decide
@[simp] theorem s_proof_or : (Str.ofString "proof" == Str.ofString "or") = false := by decide
@[simp] theorem s_proof_xor : (Str.ofString "proof" == Str.ofString "xor") = false := by decide
@[simp] theorem s_proof_then : (Str.ofString "proof" == Str.ofString "then") = false := by decide
@[simp] theorem s_proof_same : (Str.ofString "proof" == Str.ofString "same") = false := by decide
@[simp] theorem s_proof_left : (Str.ofString "proof" == Str.ofString "left") = false := by decide
@[simp] theorem s_proof_right : (Str.ofString "proof" == Str.ofString "right") = false := by decide
@[simp] theorem s_proof_row : (Str.ofString "proof" == Str.ofString "row") = false := by decide
@[simp] theorem s_proof_nand : (Str.ofString "proof" == Str.ofString "nand") = false := by decide
@[simp] theorem s_proof_nor : (Str.ofString "proof" == Str.ofString "nor") = false := by decide
@[simp] theorem z_proof : PyData.canLay0 (.str (Str.ofString "proof")) = true := by decide +kernel
@[simp] theorem s_row_bit : (Str.ofString "row" == Str.ofString "bit") = false := by decide
@[simp] theorem s_row_letter : (Str.ofString "row" == Str.ofString "letter") = false := by decide
@[simp] theorem s_row_not : (Str.ofString "row" == Str.ofString "not") = false := by decide
@[simp] theorem s_row_and : (Str.ofString "row" == Str.ofString "and") = false := by decide
@[simp] theorem s_row_or : (Str.ofString "row" == Str.ofString "or") = false := by decide
@[simp] theorem s_row_xor : (Str.ofString "row" == Str.ofString "xor") = false := by decide
@[simp] theorem s_row_then : (Str.ofString "row" == Str.ofString "then") = false := by decide
@[simp] theorem s_row_same : (Str.ofString "row" == Str.ofString "same") = false := by decide
@[simp] theorem s_row_left : (Str.ofString "row" == Str.ofString "left") = false := by decide
@[simp] theorem s_row_right : (Str.ofString "row" == Str.ofString "right") = false := by decide
@[simp] theorem s_row_proof : (Str.ofString "row" == Str.ofString "proof") = false := by decide
@[simp] theorem s_row_nand : (Str.ofString "row" == Str.ofString "nand") = false := by decide
@[simp] theorem s_row_nor : (Str.ofString "row" == Str.ofString "nor") = false := by decide
@[simp] theorem z_row : PyData.canLay0 (.str (Str.ofString "row")) = true := by decide +kernel
@[simp] theorem s_nand_bit : (Str.ofString "nand" == Str.ofString "bit") = false := by decide
@[simp] theorem s_nand_letter : (Str.ofString "nand" == Str.ofString "letter") = false := by decide
@[simp] theorem s_nand_not : (Str.ofString "nand" == Str.ofString "not") = false := by decide
@[simp] theorem s_nand_and : (Str.ofString "nand" == Str.ofString "and") = false := by decide
@[simp] theorem s_nand_or : (Str.ofString "nand" == Str.ofString "or") = false := by decide
@[simp] theorem s_nand_xor : (Str.ofString "nand" == Str.ofString "xor") = false := by decide
@[simp] theorem s_nand_then : (Str.ofString "nand" == Str.ofString "then") = false := by decide
@[simp] theorem s_nand_same : (Str.ofString "nand" == Str.ofString "same") = false := by decide
@[simp] theorem s_nand_left : (Str.ofString "nand" == Str.ofString "left") = false := by decide
@[simp] theorem s_nand_right : (Str.ofString "nand" == Str.ofString "right") = false := by decide
@[simp] theorem s_nand_proof : (Str.ofString "nand" == Str.ofString "proof") = false := by decide
@[simp] theorem s_nand_row : (Str.ofString "nand" == Str.ofString "row") = false := by decide
@[simp] theorem s_nand_nor : (Str.ofString "nand" == Str.ofString "nor") = false := by decide
@[simp] theorem z_nand : PyData.canLay0 (.str (Str.ofString "nand")) = true := by decide +kernel
@[simp] theorem s_nor_bit : (Str.ofString "nor" == Str.ofString "bit") = false := by decide
@[simp] theorem s_nor_letter : (Str.ofString "nor" == Str.ofString "letter") = false := by decide
@[simp] theorem s_nor_not : (Str.ofString "nor" == Str.ofString "not") = false := by decide
@[simp] theorem s_nor_and : (Str.ofString "nor" == Str.ofString "and") = false := by decide
@[simp] theorem s_nor_or : (Str.ofString "nor" == Str.ofString "or") = false := by decide
@[simp] theorem s_nor_xor : (Str.ofString "nor" == Str.ofString "xor") = false := by decide
@[simp] theorem s_nor_then : (Str.ofString "nor" == Str.ofString "then") = false := by decide
@[simp] theorem s_nor_same : (Str.ofString "nor" == Str.ofString "same") = false := by decide
@[simp] theorem s_nor_left : (Str.ofString "nor" == Str.ofString "left") = false := by decide
@[simp] theorem s_nor_right : (Str.ofString "nor" == Str.ofString "right") = false := by decide
@[simp] theorem s_nor_proof : (Str.ofString "nor" == Str.ofString "proof") = false := by decide
@[simp] theorem s_nor_row : (Str.ofString "nor" == Str.ofString "row") = false := by decide
@[simp] theorem s_nor_nand : (Str.ofString "nor" == Str.ofString "nand") = false := by decide
@[simp] theorem z_nor : PyData.canLay0 (.str (Str.ofString "nor")) = true := by decide +kernel
/-! small ones -/
def tyd : PV → Bool
  | .non => true
  | .bl _ => true
  | .int _ => true
  | .str _ => true
  | .tup _ => true
  | .lst _ => true
  | .dct _ _ => false
  | .ins _ _ _ => false
  | .ref _ => false
@[simp] theorem tyd_tup {xs : List PV} : tyd (.tup xs) = true := by simp [tyd]
@[simp] theorem tyd_lst {xs : List PV} : tyd (.lst xs) = true := by simp [tyd]
@[simp] theorem tyd_int {i : Int} : tyd (.int i) = true := by simp [tyd]
@[simp] theorem tyd_str {s : Str} : tyd (.str s) = true := by simp [tyd]
@[simp] theorem tyd_bl {b : Bool} : tyd (.bl b) = true := by simp [tyd]
@[simp] theorem tyd_non : tyd .non = true := by simp [tyd]
def isInt : PV → Bool
  | .int _ => true
  | _ => false
@[simp] theorem e_is_integer {t : PV} {S : Sto} (h : tyd t = true) : F_is_integer [.va t] S = .ok (.bl (isInt t)) S := by
  cases t <;> simp [F_is_integer, m_is_integer, pad, isInt] <;> simp [tyd] at h
def inInt (a b : Int) : PV → Bool
  | .int i => decide (a ≤ i) && decide (i ≤ b)
  | _ => false
@[simp] theorem e_is_within {t : PV} {a b : Int} {S : Sto} (h : tyd t = true) : F_is_within [.va t, .va (.int a), .va (.int b)] S = .ok (.bl (inInt a b t)) S := by
  have e := e_is_integer (S := S) h
  cases t <;> simp [F_is_within, m_is_within, pad, isInt, inInt] at * <;> simp [e]
def tupLen (a b : Int) : PV → Bool
  | .tup xs => decide (a ≤ xs.length) && decide ((xs.length : Int) ≤ b)
  | _ => false
@[simp] theorem e_is_tuple {t : PV} {a b : Int} {S : Sto} (h : tyd t = true) : F_is_tuple [.va t, .va (.int a), .va (.int b)] S = .ok (.bl (tupLen a b t)) S := by
  cases t <;> simp [F_is_tuple, m_is_tuple, pad, tupLen] <;> simp [tyd] at h
/-! formulas -/
inductive Fm | l (i : Nat) | n (f : Fm) | a (f g : Fm) | o (f g : Fm) | t (f g : Fm)
  deriving DecidableEq
def Fm.v : Fm → PV
  | .l i => .tup [.str "letter", .int (i : Int)]
  | .n f => .tup [.str "not", f.v]
  | .a f g => .tup [.str "and", f.v, g.v]
  | .o f g => .tup [.str "or", f.v, g.v]
  | .t f g => .tup [.str "then", f.v, g.v]
def Fm.words : Fm → Nat
  | .l _ => 0
  | .n f => 1 + f.words
  | .a f g => 1 + (f.words + g.words)
  | .o f g => 1 + (f.words + g.words)
  | .t f g => 1 + (f.words + g.words)
def Fm.depth : Fm → Nat
  | .l _ => 1
  | .n f => f.depth + 1
  | .a f g => max f.depth g.depth + 1
  | .o f g => max f.depth g.depth + 1
  | .t f g => max f.depth g.depth + 1
def Fm.under : Fm → Bool
  | .l i => decide (i < 5)
  | .n f => f.under
  | .a f g => f.under && g.under
  | .o f g => f.under && g.under
  | .t f g => f.under && g.under
def Fm.ev (b : List Bool) : Fm → Bool
  | .l i => b.getD i false
  | .n f => !f.ev b
  | .a f g => f.ev b && g.ev b
  | .o f g => f.ev b || g.ev b
  | .t f g => !f.ev b || g.ev b
@[simp] theorem tyd_v (f : Fm) : tyd f.v = true := by cases f <;> simp [Fm.v]
theorem isD_v : ∀ (f : Fm) (n : Nat), f.depth ≤ n → f.v.isD n = true
  | .l i, n + 1, _ => by simp [Fm.v, PV.isD, areD]
  | .l i, 0, h => by simp [Fm.depth] at h
  | .n f, 0, h => by simp [Fm.depth] at h
  | .n f, n + 1, h => by
    simp only [Fm.depth] at h
    simp [Fm.v, PV.isD, areD, isD_v f n (by omega)]
  | .a f g, 0, h => by simp [Fm.depth] at h
  | .a f g, n + 1, h => by
    simp only [Fm.depth] at h
    simp [Fm.v, PV.isD, areD, isD_v f n (by omega), isD_v g n (by omega)]
  | .o f g, 0, h => by simp [Fm.depth] at h
  | .o f g, n + 1, h => by
    simp only [Fm.depth] at h
    simp [Fm.v, PV.isD, areD, isD_v f n (by omega), isD_v g n (by omega)]
  | .t f g, 0, h => by simp [Fm.depth] at h
  | .t f g, n + 1, h => by
    simp only [Fm.depth] at h
    simp [Fm.v, PV.isD, areD, isD_v f n (by omega), isD_v g n (by omega)]
theorem peq_v : ∀ f g : Fm, peq f.v g.v = decide (f = g) := by
  intro f
  induction f with
  | l i =>
    intro g
    cases g <;> simp [Fm.v, peq, peqs]
    rw [Bool.eq_iff_iff]; simp; omega
  | n f ih =>
    intro g
    cases g <;> simp [Fm.v, peq, peqs, ih]
  | a f f' ih ih' =>
    intro g
    cases g <;> simp [Fm.v, peq, peqs, ih, ih']
  | o f f' ih ih' =>
    intro g
    cases g <;> simp [Fm.v, peq, peqs, ih, ih']
  | t f f' ih ih' =>
    intro g
    cases g <;> simp [Fm.v, peq, peqs, ih, ih']

/-- letters within 5, not too deep -/
structure Ok (f : Fm) : Prop where
  d : f.depth ≤ 5
  u : f.under = true
theorem Ok.isD {f : Fm} (h : Ok f) {n : Nat} (hn : 5 ≤ n) : f.v.isD n = true := isD_v f n (by have := h.d; omega)
/-! told_at -/
def bi (b : Bool) : Int := if b then 1 else 0
@[simp] theorem bi_t : bi true = 1 := rfl
@[simp] theorem bi_f : bi false = 0 := rfl
def rv (b : List Bool) : PV := .tup (b.map fun x => .int (bi x))
theorem rv_at {b : List Bool} {i : Nat} (h : i < b.length) : (b.map fun x => PV.int (bi x))[i]? = some (.int (bi (b.getD i false))) := by
  rw [List.getElem?_map, List.getElem?_eq_getElem h]
  simp [List.getD, List.getElem?_eq_getElem h]
theorem e_told {b : List Bool} {S : Sto} (hb : b.length = 5) : ∀ (n : Nat) (f : Fm), f.depth ≤ n → f.under = true → F_told_at n [.va f.v, .va (rv b)] S = .ok (.int (bi (f.ev b))) S := by
  intro n
  induction n with
  | zero => intro f h; cases f <;> simp [Fm.depth] at h
  | succ n ih =>
    intro f h u
    cases f with
    | l i =>
      simp only [Fm.under, decide_eq_true_eq] at u
      have : i < b.length := by omega
      simp [F_told_at, m_told_at, pad, Fm.v, PV.isD, peq, rv, rv_at this, Fm.ev]
    | n f =>
      simp only [Fm.under] at u
      simp only [Fm.depth] at h
      have e := ih f (by omega) u
      simp [F_told_at, m_told_at, pad, Fm.v, PV.isD, peq, e, Fm.ev]
      cases f.ev b <;> rfl
    | a f g =>
      simp only [Fm.under, Bool.and_eq_true] at u
      simp only [Fm.depth] at h
      have e := ih f (by omega) u.1
      have e2 := ih g (by omega) u.2
      simp [F_told_at, m_told_at, pad, Fm.v, PV.isD, peq, e, e2, Fm.ev, d_WORDS_changing, List.lookup]
      cases hf : f.ev b <;> cases hg : g.ev b <;> simp [small, e2, hg]
    | o f g =>
      simp only [Fm.under, Bool.and_eq_true] at u
      simp only [Fm.depth] at h
      have e := ih f (by omega) u.1
      have e2 := ih g (by omega) u.2
      simp [F_told_at, m_told_at, pad, Fm.v, PV.isD, peq, e, e2, Fm.ev, d_WORDS_changing, List.lookup]
      cases hf : f.ev b <;> cases hg : g.ev b <;> simp [small, e2, hg]
    | t f g =>
      simp only [Fm.under, Bool.and_eq_true] at u
      simp only [Fm.depth] at h
      have e := ih f (by omega) u.1
      have e2 := ih g (by omega) u.2
      simp [F_told_at, m_told_at, pad, Fm.v, PV.isD, peq, e, e2, Fm.ev, d_WORDS_changing, List.lookup]
      cases hf : f.ev b <;> cases hg : g.ev b <;> simp [small, e2, hg]
end Law81
namespace Law81
open PySem Q
def bits : Nat → List (List Bool)
  | 0 => [[]]
  | n + 1 => (bits n).flatMap fun r => [r ++ [false], r ++ [true]]
theorem e_rows {S : Sto} : F_rows [.va (.int 5)] S = .ok (.lst ((bits 5).map rv)) S := by kernel_rfl
theorem e_lrows {S : Sto} : F__law_rows [.va (.int 5)] S = .ok (.lst ((bits 5).map rv)) S := by kernel_rfl
theorem bits_len : ∀ (n : Nat) (b : List Bool), b ∈ bits n → b.length = n
  | 0, b, h => by simp [bits] at h; simp [h]
  | n + 1, b, h => by
    simp only [bits, List.mem_flatMap] at h
    obtain ⟨r, hr, h⟩ := h
    have := bits_len n r hr
    simp only [List.mem_cons, List.not_mem_nil, or_false] at h
    rcases h with h | h <;> simp [h, this]
theorem bits_all : ∀ (n : Nat) (b : List Bool), b.length = n → b ∈ bits n
  | 0, b, h => by
    have : b = [] := List.length_eq_zero_iff.mp h
    simp [bits, this]
  | n + 1, b, h => by
    obtain ⟨r, x, rfl⟩ : ∃ r x, b = r ++ [x] := by
      have hne : b ≠ [] := by intro z; simp [z] at h
      exact ⟨b.dropLast, b.getLast hne, (List.dropLast_concat_getLast hne).symm⟩
    have hr : r.length = n := by simpa using h
    simp only [bits, List.mem_flatMap]
    exact ⟨r, bits_all n r hr, by cases x <;> simp⟩
structure Sq where
  L : List Fm
  R : List Fm
def fv (l : List Fm) : PV := .tup (l.map Fm.v)
def Sq.v (s : Sq) : PV := .tup [fv s.L, fv s.R]
def Sq.at_ (s : Sq) (b : List Bool) : Bool := s.L.any (fun f => !f.ev b) || s.R.any (fun f => f.ev b)
/-- formulas all right -/
structure SOk (s : Sq) : Prop where
  l : ∀ f ∈ s.L, Ok f
  r : ∀ f ∈ s.R, Ok f
theorem e_holds {s : Sq} {b : List Bool} {S : Sto} (h : SOk s) (hb : b.length = 5) : F_holds_at [.va s.v, .va (rv b)] S = .ok (.bl (s.at_ b)) S := by
  simp only [F_holds_at, m_holds_at, fn_ap, pad, Sq.v, fv]
  simp [-List.any_eq_true]
  rw [lc_mapI (f := fun f => .bl (!f.ev b)) fun f hf => ⟨_, rfl, ?_⟩]
  · simp [-List.any_eq_true, allBl_map]
    rw [lc_mapI (f := fun f => .bl (f.ev b)) fun f hf => ⟨_, rfl, ?_⟩]
    · simp [-List.any_eq_true, allBl_map, Sq.at_]
    · have e := e_told (S := S) hb 20 f (by have := (h.r f hf).d; omega) (h.r f hf).u
      simp [e, PV.isD, peq]
      cases f.ev b <;> rfl
  · have e := e_told (S := S) hb 20 f (by have := (h.l f hf).d; omega) (h.l f hf).u
    simp [e, PV.isD, peq]
    cases f.ev b <;> rfl
/-! first_failing, holds -/
def Sq.fail (s : Sq) : Option (List Bool) := (bits 5).find? fun b => !s.at_ b
theorem e_first {s : Sq} {S : Sto} (h : SOk s) : F_first_failing [.va s.v] S = .ok (match s.fail with | some b => rv b | none => .non) S := by
  obtain ⟨fr', e⟩ := for_findI (l := bits 5) (g := rv) (i := 1) (p := fun b => !s.at_ b) (f := rv) (S := S) (fr := [.va s.v, .no])
    (b := sSeq (sIf (bNot (bE (eCall F_holds_at (gV (eV 0) (gV (eV 1) gN))))) (sSeq (sRet (eV 1)) sNil) sNil) sNil) fun b hb => by
      simp [e_holds (S := S) h (bits_len 5 b hb)]
      cases s.at_ b <;> rfl
  simp only [F_first_failing, m_first_failing, fn_ap, pad, k_MOST_LETTERS]
  simp [e_rows, Sq.fail] at e ⊢
  rw [e]
  cases List.find? (fun b => !s.at_ b) (bits 5) <;> simp
/-! check_sequent -/
theorem e_shaped {S : Sto} : ∀ (n : Nat) (f : Fm) (d : Nat), f.depth ≤ n → f.depth ≤ d → f.under = true → F_shaped n [.va (.int 5), .va f.v, .va (.int d)] S = .ok (.bl true) S := by
  intro n
  induction n with
  | zero => intro f d h; cases f <;> simp [Fm.depth] at h
  | succ n ih =>
    intro f d h hd u
    have hd0 : d ≠ 0 := by cases f <;> simp [Fm.depth] at hd <;> omega
    cases f with
    | l i =>
      simp only [Fm.under, decide_eq_true_eq] at u
      simp [F_shaped, m_shaped, pad, Fm.v, PV.isD, peq, tupLen, hd0, inInt]
      omega
    | n f =>
      simp only [Fm.under] at u
      simp only [Fm.depth] at h hd
      obtain ⟨d, rfl⟩ : ∃ e, d = e + 1 := ⟨d - 1, by omega⟩
      have hd1 : (d : Int) + 1 ≠ 0 := by omega
      have e := ih f d (by omega) (by omega) u
      simp [F_shaped, m_shaped, pad, Fm.v, PV.isD, peq, tupLen, hd1, inInt, e]
    | a f g =>
      simp only [Fm.under, Bool.and_eq_true] at u
      simp only [Fm.depth] at h hd
      obtain ⟨d, rfl⟩ : ∃ e, d = e + 1 := ⟨d - 1, by omega⟩
      have hd1 : (d : Int) + 1 ≠ 0 := by omega
      have e := ih f d (by omega) (by omega) u.1
      have e2 := ih g d (by omega) (by omega) u.2
      simp [F_shaped, m_shaped, pad, Fm.v, PV.isD, areD, peq, tupLen, hd1, inInt, e, e2, k_JOINS]
    | o f g =>
      simp only [Fm.under, Bool.and_eq_true] at u
      simp only [Fm.depth] at h hd
      obtain ⟨d, rfl⟩ : ∃ e, d = e + 1 := ⟨d - 1, by omega⟩
      have hd1 : (d : Int) + 1 ≠ 0 := by omega
      have e := ih f d (by omega) (by omega) u.1
      have e2 := ih g d (by omega) (by omega) u.2
      simp [F_shaped, m_shaped, pad, Fm.v, PV.isD, areD, peq, tupLen, hd1, inInt, e, e2, k_JOINS]
    | t f g =>
      simp only [Fm.under, Bool.and_eq_true] at u
      simp only [Fm.depth] at h hd
      obtain ⟨d, rfl⟩ : ∃ e, d = e + 1 := ⟨d - 1, by omega⟩
      have hd1 : (d : Int) + 1 ≠ 0 := by omega
      have e := ih f d (by omega) (by omega) u.1
      have e2 := ih g d (by omega) (by omega) u.2
      simp [F_shaped, m_shaped, pad, Fm.v, PV.isD, areD, peq, tupLen, hd1, inInt, e, e2, k_JOINS]
theorem e_formula_in {S : Sto} {f : Fm} (h : Ok f) : F_formula_in [.va (.int 5), .va f.v] S = .ok (.bl true) S := by
  have e := e_shaped (S := S) 20 f 12 (by have := h.d; omega) (by have := h.d; omega) h.u
  have e : F_shaped 20 [.va (.int 5), .va f.v, .va (.int 12)] S = .ok (.bl true) S := e
  simp [F_formula_in, m_formula_in, pad, k_DEEPEST, e]
theorem e_words {S : Sto} : ∀ (n : Nat) (f : Fm), f.depth ≤ n → F_words_in n [.va f.v] S = .ok (.int f.words) S := by
  intro n
  induction n with
  | zero => intro f h; cases f <;> simp [Fm.depth] at h
  | succ n ih =>
    intro f h
    cases f with
    | l i => simp [F_words_in, m_words_in, pad, Fm.v, PV.isD, peq, Fm.words]
    | n f =>
      simp only [Fm.depth] at h
      simp [F_words_in, m_words_in, pad, Fm.v, PV.isD, areD, peq, peqs, Fm.words, k_WORDS_proofs, ih f (by omega)]
    | a f g =>
      simp only [Fm.depth] at h
      simp [F_words_in, m_words_in, pad, Fm.v, PV.isD, areD, peq, peqs, Fm.words, k_WORDS_proofs, ih f (by omega), ih g (by omega)]
    | o f g =>
      simp only [Fm.depth] at h
      simp [F_words_in, m_words_in, pad, Fm.v, PV.isD, areD, peq, peqs, Fm.words, k_WORDS_proofs, ih f (by omega), ih g (by omega)]
    | t f g =>
      simp only [Fm.depth] at h
      simp [F_words_in, m_words_in, pad, Fm.v, PV.isD, areD, peq, peqs, Fm.words, k_WORDS_proofs, ih f (by omega), ih g (by omega)]
def wordsL (l : List Fm) : Nat := (l.map Fm.words).sum
/-- a sequent that the program takes -/
structure SqOk (s : Sq) : Prop where
  ok : SOk s
  l8 : s.L.length ≤ 8
  r8 : s.R.length ≤ 8
  w : wordsL s.L + wordsL s.R ≤ 12
theorem e_side {S : Sto} {l : List Fm} (h : ∀ f ∈ l, Ok f) (h8 : l.length ≤ 8) : F_is_side [.va (fv l)] S = .ok (.bl true) S := by
  simp only [F_is_side, m_is_side, fn_ap, pad, fv]
  simp [-List.any_eq_true, k_MOST_SIDE, k_MOST_LETTERS]
  rw [lc_mapI (f := fun f => .bl true) fun f hf => ⟨_, rfl, ?_⟩]
  · simp [-List.all_eq_true, allBl_map (p := fun _ => true), tupLen]
    rw [if_neg (by omega)]
    simp [-List.all_eq_true]
    rw [lc_mapI (f := fun f => .bl true) fun f hf => ⟨_, rfl, ?_⟩]
    · simp [allBl_map (p := fun _ => true)]
    · have e := e_words (S := S) 20 f (by have := (h f hf).d; omega)
      simp [e]
  · simp [e_formula_in (h f hf)]

theorem sum_words : ∀ l : List Fm, (l.map fun f => (f.words : Int)).sum = (wordsL l : Int)
  | [] => rfl
  | f :: l => by
    simp only [List.map_cons, List.sum_cons, sum_words l, wordsL]
    omega
theorem wordsL_app (l r : List Fm) : wordsL (l ++ r) = wordsL l + wordsL r := by simp [wordsL]
theorem lc_words {S : Sto} {fr : Fr} {l : List Fm} (h : ∀ f ∈ l, Ok f) : True := True.intro
theorem e_sequent {S : Sto} {s : Sq} (h : SqOk s) : F_is_sequent [.va s.v] S = .ok (.bl true) S := by
  have e1 := e_side (S := S) h.ok.l h.l8
  have e2 := e_side (S := S) h.ok.r h.r8
  simp only [F_is_sequent, m_is_sequent, fn_ap, pad, Sq.v]
  simp [k_MOST_WORDS, e1, e2, tupLen]
  simp [fv]
  rw [if_pos (by have := h.l8; have := h.r8; omega)]
  simp
  rw [← List.map_append, lc_mapI (f := fun f => .int f.words) fun f hf => ⟨_, rfl, ?_⟩]
  · simp [-List.map_append, allInt_map, sum_words, wordsL_app]
    have := h.w
    omega
  · have hf : Ok f := by
      rcases List.mem_append.mp hf with z | z
      · exact h.ok.l f z
      · exact h.ok.r f z
    have e := e_words (S := S) 20 f (by have := hf.d; omega)
    simp [e]
theorem e_check {S : Sto} {s : Sq} (h : SqOk s) : F_check_sequent [.va s.v] S = .ok .non S := by
  simp [F_check_sequent, m_check_sequent, pad, e_sequent h]
theorem e_holdsF {S : Sto} {s : Sq} (h : SqOk s) : F_holds [.va s.v] S = .ok (.bl s.fail.isNone) S := by
  simp [F_holds, m_holds, pad, e_check h, e_first h.ok]
  cases s.fail <;> simp [rv]
end Law81
namespace Law81
open PySem Q
@[simp] theorem cut_from1 {xs : List PV} {k : Nat} : cut xs (some ((k : Int) + 1)) none = xs.drop (k + 1) := cut_from (k := k + 1)
def drp (l : List Fm) (i : Nat) : List Fm := l.take i ++ l.drop (i + 1)
def sideS (b : Bool) : Str := if b then "left" else "right"
def Sq.side (s : Sq) (b : Bool) : List Fm := if b then s.L else s.R
def kids (s : Sq) (b : Bool) (i : Nat) : Fm → List Sq
  | .l _ => []
  | .n f => if b then [⟨drp s.L i, s.R ++ [f]⟩] else [⟨s.L ++ [f], drp s.R i⟩]
  | .a f g => if b then [⟨drp s.L i ++ [f, g], s.R⟩] else [⟨s.L, drp s.R i ++ [f]⟩, ⟨s.L, drp s.R i ++ [g]⟩]
  | .o f g => if b then [⟨drp s.L i ++ [f], s.R⟩, ⟨drp s.L i ++ [g], s.R⟩] else [⟨s.L, drp s.R i ++ [f, g]⟩]
  | .t f g => if b then [⟨drp s.L i, s.R ++ [f]⟩, ⟨drp s.L i ++ [g], s.R⟩] else [⟨s.L ++ [f], drp s.R i ++ [g]⟩]
def Fm.isL : Fm → Bool
  | .l _ => true
  | _ => false
theorem take_v (l : List Fm) (i : Nat) : (l.map Fm.v).take i = (l.take i).map Fm.v := by simp
theorem drop_v (l : List Fm) (i : Nat) : (l.map Fm.v).drop i = (l.drop i).map Fm.v := by simp
theorem e_without {S : Sto} {l : List Fm} {i : Nat} (h : l.length ≤ 1000) : F_without [.va (fv l), .va (.int i)] S = .ok (fv (drp l i)) S := by
  simp [F_without, m_without, pad, fv, drp]
  rw [if_pos (by omega)]
  simp
theorem e_behindL {S : Sto} {s : Sq} {i : Nat} {f : Fm} (hl : s.L.length ≤ 1000) (hr : s.R.length ≤ 1000) (e : s.L[i]? = some f) (nl : f.isL = false) :
    F_behind [.va s.v, .va (.str "left"), .va (.int i)] S = .ok (.lst ((kids s true i f).map Sq.v)) S := by
  have e' : (s.L.map Fm.v)[i]? = some f.v := by simp [e]
  have ew := e_without (S := S) (i := i) (l := s.L) (by omega)
  simp only [fv] at ew
  have hd : (drp s.L i).length ≤ 1000 := by unfold drp; simp; omega
  have a0 : (drp s.L i).length ≤ 16777216 := by omega
  have a1 : (drp s.L i).length ≤ 16777215 := by omega
  have a2 : (drp s.L i).length ≤ 16777214 := by omega
  have b0 : s.R.length ≤ 16777216 := by omega
  have b1 : s.R.length ≤ 16777215 := by omega
  have b2 : s.R.length ≤ 16777214 := by omega
  cases f with
  | l j => simp [Fm.isL] at nl
  | n f => simp [F_behind, m_behind, F_parts_put, m_parts_put, ew, pad, Sq.v, fv, e', PV.isD, peq, Fm.v, kids, a0, a1, a2, b0, b1, b2]
  | a f g => simp [F_behind, m_behind, F_parts_put, m_parts_put, ew, pad, Sq.v, fv, e', PV.isD, peq, Fm.v, kids, a0, a1, a2, b0, b1, b2]
  | o f g => simp [F_behind, m_behind, F_parts_put, m_parts_put, ew, pad, Sq.v, fv, e', PV.isD, peq, Fm.v, kids, a0, a1, a2, b0, b1, b2]
  | t f g => simp [F_behind, m_behind, F_parts_put, m_parts_put, ew, pad, Sq.v, fv, e', PV.isD, peq, Fm.v, kids, a0, a1, a2, b0, b1, b2]
theorem e_behindR {S : Sto} {s : Sq} {i : Nat} {f : Fm} (hl : s.L.length ≤ 1000) (hr : s.R.length ≤ 1000) (e : s.R[i]? = some f) (nl : f.isL = false) :
    F_behind [.va s.v, .va (.str "right"), .va (.int i)] S = .ok (.lst ((kids s false i f).map Sq.v)) S := by
  have e' : (s.R.map Fm.v)[i]? = some f.v := by simp [e]
  have ew := e_without (S := S) (i := i) (l := s.R) (by omega)
  simp only [fv] at ew
  have hd : (drp s.R i).length ≤ 1000 := by unfold drp; simp; omega
  have a0 : (drp s.R i).length ≤ 16777216 := by omega
  have a1 : (drp s.R i).length ≤ 16777215 := by omega
  have a2 : (drp s.R i).length ≤ 16777214 := by omega
  have b0 : s.L.length ≤ 16777216 := by omega
  have b1 : s.L.length ≤ 16777215 := by omega
  have b2 : s.L.length ≤ 16777214 := by omega
  cases f with
  | l j => simp [Fm.isL] at nl
  | n f => simp [F_behind, m_behind, F_parts_put, m_parts_put, ew, pad, Sq.v, fv, e', PV.isD, peq, Fm.v, kids, a0, a1, a2, b0, b1, b2]
  | a f g => simp [F_behind, m_behind, F_parts_put, m_parts_put, ew, pad, Sq.v, fv, e', PV.isD, peq, Fm.v, kids, a0, a1, a2, b0, b1, b2]
  | o f g => simp [F_behind, m_behind, F_parts_put, m_parts_put, ew, pad, Sq.v, fv, e', PV.isD, peq, Fm.v, kids, a0, a1, a2, b0, b1, b2]
  | t f g => simp [F_behind, m_behind, F_parts_put, m_parts_put, ew, pad, Sq.v, fv, e', PV.isD, peq, Fm.v, kids, a0, a1, a2, b0, b1, b2]
theorem e_lbehindL {S : Sto} {s : Sq} {i : Nat} {f : Fm} (hl : s.L.length ≤ 1000) (hr : s.R.length ≤ 1000) (e : s.L[i]? = some f) (nl : f.isL = false) :
    F__law_behind [.va s.v, .va (.str "left"), .va (.int i)] S = .ok (.lst ((kids s true i f).map Sq.v)) S := by
  have e' : (s.L.map Fm.v)[i]? = some f.v := by simp [e]
  have hd : (drp s.L i).length ≤ 1000 := by unfold drp; simp; omega
  have xL : (s.L.map Fm.v).take i ++ (s.L.map Fm.v).drop (i + 1) = (drp s.L i).map Fm.v := by simp [drp]
  have xR : (s.R.map Fm.v).take i ++ (s.R.map Fm.v).drop (i + 1) = (drp s.R i).map Fm.v := by simp [drp]
  have cL : min i s.L.length + (s.L.length - (i + 1)) ≤ 16777216 := by omega
  have cR : min i s.R.length + (s.R.length - (i + 1)) ≤ 16777216 := by omega
  have a0 : (drp s.L i).length ≤ 16777216 := by omega
  have a1 : (drp s.L i).length ≤ 16777215 := by omega
  have a2 : (drp s.L i).length ≤ 16777214 := by omega
  have b0 : s.R.length ≤ 16777216 := by omega
  have b1 : s.R.length ≤ 16777215 := by omega
  have b2 : s.R.length ≤ 16777214 := by omega
  cases f with
  | l j => simp [Fm.isL] at nl
  | n f => simp [F__law_behind, m__law_behind, pad, Sq.v, fv, e', PV.isD, peq, Fm.v, kids, xL, xR, cL, cR, a0, a1, a2, b0, b1, b2]
  | a f g => simp [F__law_behind, m__law_behind, pad, Sq.v, fv, e', PV.isD, peq, Fm.v, kids, xL, xR, cL, cR, a0, a1, a2, b0, b1, b2]
  | o f g => simp [F__law_behind, m__law_behind, pad, Sq.v, fv, e', PV.isD, peq, Fm.v, kids, xL, xR, cL, cR, a0, a1, a2, b0, b1, b2]
  | t f g => simp [F__law_behind, m__law_behind, pad, Sq.v, fv, e', PV.isD, peq, Fm.v, kids, xL, xR, cL, cR, a0, a1, a2, b0, b1, b2]
theorem e_lbehindR {S : Sto} {s : Sq} {i : Nat} {f : Fm} (hl : s.L.length ≤ 1000) (hr : s.R.length ≤ 1000) (e : s.R[i]? = some f) (nl : f.isL = false) :
    F__law_behind [.va s.v, .va (.str "right"), .va (.int i)] S = .ok (.lst ((kids s false i f).map Sq.v)) S := by
  have e' : (s.R.map Fm.v)[i]? = some f.v := by simp [e]
  have hd : (drp s.R i).length ≤ 1000 := by unfold drp; simp; omega
  have xL : (s.L.map Fm.v).take i ++ (s.L.map Fm.v).drop (i + 1) = (drp s.L i).map Fm.v := by simp [drp]
  have xR : (s.R.map Fm.v).take i ++ (s.R.map Fm.v).drop (i + 1) = (drp s.R i).map Fm.v := by simp [drp]
  have cL : min i s.L.length + (s.L.length - (i + 1)) ≤ 16777216 := by omega
  have cR : min i s.R.length + (s.R.length - (i + 1)) ≤ 16777216 := by omega
  have a0 : (drp s.R i).length ≤ 16777216 := by omega
  have a1 : (drp s.R i).length ≤ 16777215 := by omega
  have a2 : (drp s.R i).length ≤ 16777214 := by omega
  have b0 : s.L.length ≤ 16777216 := by omega
  have b1 : s.L.length ≤ 16777215 := by omega
  have b2 : s.L.length ≤ 16777214 := by omega
  cases f with
  | l j => simp [Fm.isL] at nl
  | n f => simp [F__law_behind, m__law_behind, pad, Sq.v, fv, e', PV.isD, peq, Fm.v, kids, xL, xR, cL, cR, a0, a1, a2, b0, b1, b2]
  | a f g => simp [F__law_behind, m__law_behind, pad, Sq.v, fv, e', PV.isD, peq, Fm.v, kids, xL, xR, cL, cR, a0, a1, a2, b0, b1, b2]
  | o f g => simp [F__law_behind, m__law_behind, pad, Sq.v, fv, e', PV.isD, peq, Fm.v, kids, xL, xR, cL, cR, a0, a1, a2, b0, b1, b2]
  | t f g => simp [F__law_behind, m__law_behind, pad, Sq.v, fv, e', PV.isD, peq, Fm.v, kids, xL, xR, cL, cR, a0, a1, a2, b0, b1, b2]
/-! shared, step_at -/
theorem enum_getG {α : Type} {g : α → PV} : ∀ {l : List α} {n k : Nat} {x : PV}, (enumV n (l.map g))[k]? = some x → ∃ f, l[k]? = some f ∧ x = .tup [.int ((n + k : Nat) : Int), g f]
  | [], _, _, _, h => by simp [enumV] at h
  | a :: l, n, 0, x, h => by
    simp [enumV] at h
    exact ⟨a, by simp, by simp [h]⟩
  | a :: l, n, k + 1, x, h => by
    simp only [List.map_cons, enumV, List.getElem?_cons_succ] at h
    obtain ⟨f, e1, e2⟩ := enum_getG h
    refine ⟨f, by simpa using e1, ?_⟩
    rw [e2, show n + 1 + k = n + (k + 1) by omega]
theorem enum_get {l : List Fm} {k : Nat} {x : PV} (h : (enumV 0 (l.map Fm.v))[k]? = some x) : ∃ f, l[k]? = some f ∧ x = .tup [.int (k : Int), f.v] := by
  obtain ⟨f, e1, e2⟩ := enum_getG h
  exact ⟨f, e1, by rw [e2, Nat.zero_add]⟩
theorem enum_len {α : Type} {g : α → PV} : ∀ {l : List α} {n : Nat}, (enumV n (l.map g)).length = l.length
  | [], _ => rfl
  | a :: l, n => by simp [enumV, enum_len]
theorem take_all {α : Type} {l : List α} {n : Nat} (h : n = l.length) : l.take n = l := by subst h; exact List.take_length
theorem e_shared {S : Sto} {s : Sq} (h : SOk s) : ∃ r, F_shared [.va s.v] S = .ok r S ∧ ((r = .non ∧ ∀ f ∈ s.L, f ∉ s.R) ∨ ∃ (i j : Nat) (f : Fm), r = .tup [.int i, .int j] ∧ s.L[i]? = some f ∧ s.R[j]? = some f) := by
  have := fn_wp (ps := 1) (ns := 5) (k := m_shared) (as := [.va s.v]) (S := S) (R := fun r S' => S' = S ∧ ((r = .non ∧ ∀ f ∈ s.L, f ∉ s.R) ∨ ∃ (i j : Nat) (f : Fm), r = .tup [.int i, .int j] ∧ s.L[i]? = some f ∧ s.R[j]? = some f)) rfl ?_
  · obtain ⟨t, S1, e, rfl, q⟩ := this
    exact ⟨t, e, q⟩
  simp only [m_shared, sSeq]
  refine wp_seq ?_
  simp [pad, Sq.v, fv]
  refine wp_mono (N := fun fr S' => S' = S ∧ ∀ f ∈ s.L.take s.L.length, f ∉ s.R) ?_ (fun fr S' hN => ?_) fun t S' hR => hR
  · have hl : (enumV 0 (s.L.map Fm.v)).length = s.L.length := enum_len
    refine wp_mono (wp_for (fun k fr S' => S' = S ∧ (∃ x1 x2 x3 x4, fr = [.va s.v, x1, x2, x3, x4]) ∧ ∀ f ∈ s.L.take k, f ∉ s.R) 0 ⟨rfl, ⟨_, _, _, _, rfl⟩, by simp⟩ fun k x fr S' ⟨eS, ⟨x1, x2, x3, x4, ef⟩, hk⟩ ex => ?_) (fun fr S' hN => ⟨hN.1, by rw [hl, Nat.zero_add] at hN; exact hN.2.2⟩) fun t S' hR => hR
    subst eS ef
    obtain ⟨f, e1, rfl⟩ := enum_get ex
    refine ⟨_, rfl, ?_⟩
    refine wp_seq ?_
    simp [Sq.v, fv]
    have hl2 : (enumV 0 (s.R.map Fm.v)).length = s.R.length := enum_len
    have fL : f ∈ s.L := List.mem_of_getElem? e1
    refine wp_mono (wp_for (fun m fr S'' => S'' = S' ∧ (∃ x3 x4, fr = [.va s.v, .va (.int k), .va f.v, x3, x4]) ∧ f ∉ s.R.take m) 0 ⟨rfl, ⟨_, _, rfl⟩, by simp⟩ fun m x fr S'' ⟨eS, ⟨x3, x4, ef⟩, hm⟩ ex => ?_) (fun fr S'' hN => ?_) fun t S'' hR => hR
    · subst eS ef
      obtain ⟨g, e2, rfl⟩ := enum_get ex
      refine ⟨_, rfl, ?_⟩
      have gR : g ∈ s.R := List.mem_of_getElem? e2
      have d1 : f.v.isD deep = true := (h.l f fL).isD (by decide)
      have d2 : g.v.isD deep = true := (h.r g gR).isD (by decide)
      simp [d1, d2, peq_v]
      by_cases z : f = g
      · subst z
        simp
        exact ⟨k, m, ⟨rfl, rfl⟩, f, e1, e2⟩
      · simp [z]
        rw [Nat.zero_add] at hm
        intro hq
        rw [List.take_add_one, e2] at hq
        simp at hq
        rcases hq with hq | hq
        · exact hm hq
        · exact z hq
    · rw [hl2, Nat.zero_add, List.take_length] at hN
      obtain ⟨eS, ⟨x3, x4, ef⟩, hN⟩ := hN
      subst eS ef
      refine ⟨rfl, ⟨_, _, _, _, rfl⟩, fun g hg => ?_⟩
      rw [Nat.zero_add] at hk
      rw [List.take_add_one, e1] at hg
      simp at hg
      rcases hg with hg | hg
      · exact hk g hg
      · subst hg; exact hN
  · obtain ⟨rfl, hN⟩ := hN
    rw [List.take_length] at hN
    simp
    exact hN
/-- the first that is no letter -/
theorem e_step {S : Sto} {s : Sq} (h : SOk s) : ∃ r, F_step_at [.va s.v] S = .ok r S ∧ ((r = .non ∧ (∀ f ∈ s.L, f.isL = true) ∧ ∀ f ∈ s.R, f.isL = true) ∨ ∃ (b : Bool) (i : Nat) (f : Fm), r = .tup [.str (sideS b), .int i] ∧ (s.side b)[i]? = some f ∧ f.isL = false) := by
  have := fn_wp (ps := 1) (ns := 5) (k := m_step_at) (as := [.va s.v]) (S := S) (R := fun r S' => S' = S ∧ ((r = .non ∧ (∀ f ∈ s.L, f.isL = true) ∧ ∀ f ∈ s.R, f.isL = true) ∨ ∃ (b : Bool) (i : Nat) (f : Fm), r = .tup [.str (sideS b), .int i] ∧ (s.side b)[i]? = some f ∧ f.isL = false)) rfl ?_
  · obtain ⟨t, S1, e, rfl, q⟩ := this
    exact ⟨t, e, q⟩
  -- one side
  have one : ∀ (b : Bool) (x3 x4 : Sl) (ok : ∀ f ∈ s.side b, Ok f), (forGo (tT [3, 4]) (sSeq (sIf (bCm .ne (eIx (eP 4) (eC (.int 0))) (eC (.str "letter"))) (sSeq (sRet (eTup (aC (eV 1) (aC (eV 3) aN)))) sNil) sNil) sNil) (enumV 0 ((s.side b).map Fm.v)) [.va s.v, .va (.str (sideS b)), .va (fv (s.side b)), x3, x4] S).wp
      (fun fr S' => S' = S ∧ (∃ x1 x2 x3 x4, fr = [.va s.v, x1, x2, x3, x4]) ∧ ∀ f ∈ s.side b, f.isL = true) (fun r S' => S' = S ∧ ((r = .non ∧ (∀ f ∈ s.L, f.isL = true) ∧ ∀ f ∈ s.R, f.isL = true) ∨ ∃ (b : Bool) (i : Nat) (f : Fm), r = .tup [.str (sideS b), .int i] ∧ (s.side b)[i]? = some f ∧ f.isL = false)) := by
    intro b x3 x4 ok
    have hl2 : (enumV 0 ((s.side b).map Fm.v)).length = (s.side b).length := enum_len
    refine wp_mono (wp_for (fun m fr S' => S' = S ∧ (∃ x3 x4, fr = [.va s.v, .va (.str (sideS b)), .va (fv (s.side b)), x3, x4]) ∧ ∀ f ∈ (s.side b).take m, f.isL = true) 0 ⟨rfl, ⟨_, _, rfl⟩, by simp⟩ fun m x fr S' ⟨eS, ⟨x3, x4, ef⟩, hm⟩ ex => ?_) (fun fr S' hN => ?_) fun t S' hR => hR
    · subst eS ef
      obtain ⟨g, e2, rfl⟩ := enum_get ex
      refine ⟨_, rfl, ?_⟩
      have key : g.isL = true ∨ g.isL = false := by cases g.isL <;> simp
      rw [Nat.zero_add] at hm
      rcases key with key | key
      · have hT : ∀ f ∈ (s.side b).take (0 + m + 1), f.isL = true := fun f hf => by
          rw [Nat.zero_add, List.take_add_one, e2] at hf
          simp at hf
          rcases hf with hf | hf
          · exact hm f hf
          · subst hf; exact key
        cases g with
        | l i =>
          simp [Fm.v, PV.isD, peq]
          simpa using hT
        | _ => simp [Fm.isL] at key
      · have hT : ∃ (b' : Bool) (i : Nat) (f : Fm), PV.tup [.str (sideS b), .int m] = .tup [.str (sideS b'), .int i] ∧ (s.side b')[i]? = some f ∧ f.isL = false := ⟨b, m, g, rfl, e2, key⟩
        cases g with
        | l i => simp [Fm.isL] at key
        | _ =>
          simp only [Fm.v]
          simp [PV.isD, peq]
          simpa using hT
    · rw [hl2, Nat.zero_add, List.take_length] at hN
      obtain ⟨eS, ⟨x3, x4, ef⟩, hN⟩ := hN
      exact ⟨eS, ⟨_, _, _, _, ef⟩, hN⟩
  simp only [m_step_at, sSeq]
  refine wp_seq ?_
  have o1 := one true .no .no h.l
  simp [pad, Sq.v, fv, zipV, sideS, Sq.side] at o1 ⊢
  refine wp_turn (wp_seq ?_)
  refine wp_mono o1 (fun fr S' ⟨eS, ⟨x1, x2, x3, x4, ef⟩, hN⟩ => ?_) fun t S' hR => hR
  subst eS ef
  have o2 := one false x3 x4 h.r
  simp [Sq.v, fv, sideS, Sq.side] at o2 ⊢
  refine wp_turn (wp_seq ?_)
  refine wp_mono o2 (fun fr S' ⟨eS, ⟨x1, x2, x3, x4, ef⟩, hN2⟩ => ?_) fun t S' hR => hR
  subst eS ef
  simp
  exact ⟨hN, hN2⟩
end Law81
namespace Law81
open PySem Q
def inR (i : Int) (n : Nat) : Bool := decide (0 ≤ i) && decide (i < n)
def stp : Nat → Sq → PV → Nat
  | 0, _, _ => 0
  | n + 1, s, .tup (.str w :: .int x :: r) =>
    if w = "same" then
      match r with
      | [.int y] => if inR x s.L.length && inR y s.R.length then (if s.L[x.toNat]? = s.R[y.toNat]? then 1 else 0) else 0
      | _ => 0
    else if w = "left" ∨ w = "right" then
      if inR x (s.side (w = "left")).length then
        match (s.side (w = "left"))[x.toNat]? with
        | some f => if f.isL then 0 else if (kids s (w = "left") x.toNat f).length = r.length then
            (if 0 ∈ List.zipWith (stp n) (kids s (w = "left") x.toNat f) r then 0 else 1 + (List.zipWith (stp n) (kids s (w = "left") x.toNat f) r).sum) else 0
        | none => 0
      else 0
    else 0
  | _, _, _ => 0
theorem kids_len (s : Sq) (b : Bool) (i : Nat) (f : Fm) : (kids s b i f).length ≤ 2 := by
  cases f <;> cases b <;> simp [kids]
theorem kids_pos (s : Sq) (b : Bool) (i : Nat) (f : Fm) (h : f.isL = false) : 1 ≤ (kids s b i f).length := by
  cases f <;> cases b <;> simp [kids] <;> simp [Fm.isL] at h
theorem lc_zipI {α : Type} {i j : Nat} {m : SE} {fr : Fr} {S : Sto} {g : α → PV} {h : α → PV → PV} : ∀ {ks : List α} {ps : List PV}, (∀ k ∈ ks, ∀ p ∈ ps, m ((fr.set i (.va (g k))).set j (.va p)) S = .ok (h k p) S) → lcGo (tT [i, j]) bT m fr (zipV (ks.map g) ps) S = .ok (List.zipWith h ks ps) S
  | [], ps, _ => by cases ps <;> rfl
  | k :: ks, [], _ => rfl
  | k :: ks, p :: ps, e => by
    have ih := lc_zipI (ks := ks) (ps := ps) fun a ha b hb => e a (by simp [ha]) b (by simp [hb])
    have e0 := e k (by simp) p (by simp)
    show lcGo (tT [i, j]) bT m fr (.tup [g k, p] :: zipV (ks.map g) ps) S = _
    rw [lcGo_con]
    simp [e0, ih]
theorem any_zero (l : List Nat) : ((l.map fun (n : Nat) => PV.int n).any fun y => peq y (.int 0)) = decide (0 ∈ l) := by
  induction l with
  | nil => rfl
  | cons n l ih =>
    rw [List.map_cons, List.any_cons, ih, Bool.eq_iff_iff]
    simp [peq]
    constructor
    · rintro (h | h)
      · exact .inl (by omega)
      · exact .inr h
    · rintro (h | h)
      · exact .inl (by omega)
      · exact .inr h
theorem areD_ints (l : List Nat) (d : Nat) : areD d (l.map fun (n : Nat) => PV.int n) = true := by
  induction l with
  | nil => cases d <;> rfl
  | cons n l ih => cases d <;> simp [areD, PV.isD] <;> exact ih
theorem sum_ints (l : List Nat) : (l.map fun (n : Nat) => (n : Int)).sum = (l.sum : Int) := by
  induction l with
  | nil => rfl
  | cons n l ih => simp [ih]
theorem mem_drp {l : List Fm} {i : Nat} {x : Fm} (h : x ∈ drp l i) : x ∈ l := by
  rcases List.mem_append.mp h with z | z
  · exact List.mem_of_mem_take z
  · exact List.mem_of_mem_drop z
def Fm.subs : Fm → List Fm
  | .l _ => []
  | .n f => [f]
  | .a f g => [f, g]
  | .o f g => [f, g]
  | .t f g => [f, g]
theorem mem_kids {s : Sq} {b : Bool} {i : Nat} {f : Fm} : ∀ k ∈ kids s b i f, (∀ x ∈ k.L, x ∈ s.L ∨ x ∈ f.subs) ∧ ∀ x ∈ k.R, x ∈ s.R ∨ x ∈ f.subs := by
  intro k hk
  have key : ∀ {l : List Fm} {x : Fm}, x ∈ drp l i → x ∈ l := fun h => mem_drp h
  cases f <;> cases b <;> simp [kids] at hk <;> (try rcases hk with rfl | rfl) <;> (try subst hk) <;> constructor <;> intro x hx <;> simp at hx <;> simp [Fm.subs] <;> grind
theorem ok_subs {f : Fm} (h : Ok f) : ∀ x ∈ f.subs, Ok x := by
  have hd := h.d
  have hu := h.u
  intro x hx
  cases f <;> simp [Fm.subs] at hx <;> simp only [Fm.depth] at hd <;> simp only [Fm.under, Bool.and_eq_true] at hu
  · subst hx; exact ⟨by omega, hu⟩
  all_goals (rcases hx with rfl | rfl <;> first | exact ⟨by omega, hu.1⟩ | exact ⟨by omega, hu.2⟩)
theorem sub_ok {s : Sq} (h : SOk s) {b : Bool} {i : Nat} {f : Fm} (e : (s.side b)[i]? = some f) : ∀ k ∈ kids s b i f, SOk k := by
  have hf : Ok f := by
    cases b with
    | true => exact h.l f (List.mem_of_getElem? (l := s.L) e)
    | false => exact h.r f (List.mem_of_getElem? (l := s.R) e)
  intro k hk
  obtain ⟨h1, h2⟩ := mem_kids k hk
  exact ⟨fun x hx => (h1 x hx).elim (h.l x) (ok_subs hf x), fun x hx => (h2 x hx).elim (h.r x) (ok_subs hf x)⟩
theorem drp_len (l : List Fm) (i : Nat) : (drp l i).length ≤ l.length := by unfold drp; simp; omega
theorem kids_size {s : Sq} {b : Bool} {i : Nat} {f : Fm} (h : i < (s.side b).length) : ∀ k ∈ kids s b i f, k.L.length ≤ s.L.length + 1 ∧ k.R.length ≤ s.R.length + 1 := by
  intro k hk
  have e : ∀ l : List Fm, i < l.length → (drp l i).length + 1 = l.length := fun l hl => by unfold drp; simp; omega
  have h1 := e s.L
  have h2 := e s.R
  cases f <;> cases b <;> simp [kids] at hk <;> simp [Sq.side] at h <;> (try rcases hk with rfl | rfl) <;> (try subst hk) <;> simp <;> (try have h1 := h1 h) <;> (try have h2 := h2 h) <;> omega
theorem stp_short {n : Nat} {s : Sq} {xs : List PV} (h : ¬ (xs.length = 3 ∨ xs.length = 4)) : stp (n + 1) s (.tup xs) = 0 := by
  have main : ∀ (w : Str) (x : Int) (r : List PV), ¬ ((.str w :: .int x :: r : List PV).length = 3 ∨ (.str w :: .int x :: r : List PV).length = 4) → stp (n + 1) s (.tup (.str w :: .int x :: r)) = 0 := by
    intro w x r h
    have hr : ¬ (r.length = 1 ∨ r.length = 2) := by simp only [List.length_cons] at h; omega
    simp only [stp]
    split
    · match r, hr with
      | [.int y], hr => simp at hr
      | [], _ => rfl
      | .int y :: b :: r, _ => rfl
      | .non :: r, _ => rfl
      | .bl _ :: r, _ => rfl
      | .str _ :: r, _ => rfl
      | .tup _ :: r, _ => rfl
      | .lst _ :: r, _ => rfl
      | .dct _ _ :: r, _ => rfl
      | .ins _ _ _ :: r, _ => rfl
      | .ref _ :: r, _ => rfl
    · split
      · split
        · split
          · split
            · rfl
            · rename_i f _ hL
              rw [if_neg]
              have h1 := kids_len s (decide (w = "left")) x.toNat f
              have h2 := kids_pos s (decide (w = "left")) x.toNat f (by simpa using hL)
              omega
          · rfl
        · rfl
      · rfl
  match xs, h with
  | [], _ => rfl
  | [a], _ => cases a <;> rfl
  | a :: b :: r, h => cases a <;> cases b <;> first | rfl | exact main _ _ _ h
def Fm.hd : Fm → Str
  | .l _ => "letter"
  | .n _ => "not"
  | .a _ _ => "and"
  | .o _ _ => "or"
  | .t _ _ => "then"
theorem at0 (f : Fm) : f.v.at_ (.int 0) = some (.str f.hd) := by cases f <;> simp [Fm.v, Fm.hd]
theorem hdz (f : Fm) : PyData.canLay0 (.str f.hd) = true := by cases f <;> simp [Fm.hd]
theorem hdl (f : Fm) : (f.hd == Str.ofString "letter") = f.isL := by cases f <;> simp [Fm.hd, Fm.isL]

@[simp] theorem side_t (s : Sq) : s.side true = s.L := rfl
@[simp] theorem side_f (s : Sq) : s.side false = s.R := rfl
theorem ls_ne : ¬ Str.ofString "left" = Str.ofString "same" := by decide
theorem rs_ne : ¬ Str.ofString "right" = Str.ofString "same" := by decide
theorem rl_ne : ¬ Str.ofString "right" = Str.ofString "left" := by decide
theorem zw_map {α β : Type} (f : α → β → Nat) (ks : List α) (ps : List β) : List.zipWith (fun k p => PV.int (f k p)) ks ps = (List.zipWith f ks ps).map fun (m : Nat) => PV.int m := by rw [List.map_zipWith]
theorem inV_ints (l : List Nat) : inV (.int 0) (.lst (l.map fun (m : Nat) => PV.int m)) = some (decide (0 ∈ l)) := by
  rw [inV_lst, areD_ints, any_zero]
  rfl
theorem bSum_ints (l : List Nat) : bSum [.lst (l.map fun (m : Nat) => PV.int m)] = some (.int (l.sum : Int)) := by
  rw [bSum_l, allInt_map, Option.map_some, sum_ints]
theorem areD_mem : ∀ {l : List PV} {d : Nat}, areD d l = true → ∀ p ∈ l, p.isD d = true
  | [], _, _, p, hp => by simp at hp
  | a :: l, d, h, p, hp => by
    simp only [areD, Bool.and_eq_true] at h
    rcases List.mem_cons.mp hp with e | e
    · subst e; exact h.1
    · exact areD_mem h.2 p e
end Law81
namespace Law81
open PySem Q
/-- the side's rule -/
theorem lsteps_side {S : Sto} {n : Nat} {s : Sq} {d : Nat} {b : Bool} {i : Nat} {f : Fm} {ps : List PV} (h2 : ps.length = 1 ∨ ps.length = 2) (hl : s.L.length ≤ 900) (hr : s.R.length ≤ 900) (he : (s.side b)[i]? = some f) (nl : f.isL = false) (dp : areD d ps = true)
    (ih : ∀ k ∈ kids s b i f, ∀ p ∈ ps, F__law_steps n [.va k.v, .va p] S = .ok (.int (stp n k p)) S) :
    F__law_steps (n + 1) [.va s.v, .va (.tup (.str (sideS b) :: .int i :: ps))] S = .ok (.int (stp (n + 1) s (.tup (.str (sideS b) :: .int i :: ps)))) S := by
  have hi : i < (s.side b).length := (List.getElem?_eq_some_iff.mp he).1
  obtain ⟨c, r, rfl⟩ : ∃ c r, ps = c :: r := by
    cases ps with
    | nil => simp at h2
    | cons c r => exact ⟨c, r, rfl⟩
  cases b with
  | true =>
    have eb := e_lbehindL (S := S) (s := s) (i := i) (by omega) (by omega) he nl
    simp only [Sq.v, fv] at eb
    simp only [side_t] at he hi
    obtain ⟨_, rfl⟩ := List.getElem?_eq_some_iff.mp he
    rcases r with _ | ⟨e, _ | ⟨_, _⟩⟩
    · simp [F__law_steps, m__law_steps, pad, PV.isD, areD, peq, Sq.v, fv, stp, inR, hi, nl, he, at0, hdz, hdl, eb, sideS, ls_ne]
      by_cases hk : (kids s true i s.L[i]).length = 1
      · have hkI : (((kids s true i s.L[i]).length : Nat) : Int) = 1 := by rw [hk]; rfl
        simp [hk, hkI]
        rw [lc_zipI (h := fun k p => .int (stp n k p)) fun k hk p hp => by simp [ih k hk p hp], zw_map]
        generalize List.zipWith (stp n) _ _ = Z
        simp [-inV_lst, -bSum_l, -List.map_zipWith, inV_ints, bSum_ints]
        split <;> simp
      · have hkI : ¬ (((kids s true i s.L[i]).length : Nat) : Int) = 1 := by omega
        simp [hk, hkI]
    · simp [F__law_steps, m__law_steps, pad, PV.isD, areD, peq, Sq.v, fv, stp, inR, hi, nl, he, at0, hdz, hdl, eb, sideS, ls_ne]
      by_cases hk : (kids s true i s.L[i]).length = 2
      · have hkI : (((kids s true i s.L[i]).length : Nat) : Int) = 2 := by rw [hk]; rfl
        simp [hk, hkI]
        rw [lc_zipI (h := fun k p => .int (stp n k p)) fun k hk p hp => by simp [ih k hk p hp], zw_map]
        generalize List.zipWith (stp n) _ _ = Z
        simp [-inV_lst, -bSum_l, -List.map_zipWith, inV_ints, bSum_ints]
        split <;> simp
      · have hkI : ¬ (((kids s true i s.L[i]).length : Nat) : Int) = 2 := by omega
        simp [hk, hkI]
    · simp at h2
  | false =>
    have eb := e_lbehindR (S := S) (s := s) (i := i) (by omega) (by omega) he nl
    simp only [Sq.v, fv] at eb
    simp only [side_f] at he hi
    obtain ⟨_, rfl⟩ := List.getElem?_eq_some_iff.mp he
    rcases r with _ | ⟨e, _ | ⟨_, _⟩⟩
    · simp [F__law_steps, m__law_steps, pad, PV.isD, areD, peq, Sq.v, fv, stp, inR, hi, nl, he, at0, hdz, hdl, eb, sideS, rs_ne, rl_ne]
      by_cases hk : (kids s false i s.R[i]).length = 1
      · have hkI : (((kids s false i s.R[i]).length : Nat) : Int) = 1 := by rw [hk]; rfl
        simp [hk, hkI]
        rw [lc_zipI (h := fun k p => .int (stp n k p)) fun k hk p hp => by simp [ih k hk p hp], zw_map]
        generalize List.zipWith (stp n) _ _ = Z
        simp [-inV_lst, -bSum_l, -List.map_zipWith, inV_ints, bSum_ints]
        split <;> simp
      · have hkI : ¬ (((kids s false i s.R[i]).length : Nat) : Int) = 1 := by omega
        simp [hk, hkI]
    · simp [F__law_steps, m__law_steps, pad, PV.isD, areD, peq, Sq.v, fv, stp, inR, hi, nl, he, at0, hdz, hdl, eb, sideS, rs_ne, rl_ne]
      by_cases hk : (kids s false i s.R[i]).length = 2
      · have hkI : (((kids s false i s.R[i]).length : Nat) : Int) = 2 := by rw [hk]; rfl
        simp [hk, hkI]
        rw [lc_zipI (h := fun k p => .int (stp n k p)) fun k hk p hp => by simp [ih k hk p hp], zw_map]
        generalize List.zipWith (stp n) _ _ = Z
        simp [-inV_lst, -bSum_l, -List.map_zipWith, inV_ints, bSum_ints]
        split <;> simp
      · have hkI : ¬ (((kids s false i s.R[i]).length : Nat) : Int) = 2 := by omega
        simp [hk, hkI]
    · simp at h2
end Law81
namespace Law81
open PySem Q
theorem e_lsteps {S : Sto} : ∀ (n : Nat) (s : Sq) (t : PV) (d : Nat), SOk s → s.L.length + n ≤ 900 → s.R.length + n ≤ 900 → t.isD d = true → d < n → n ≤ 50 → F__law_steps n [.va s.v, .va t] S = .ok (.int (stp n s t)) S := by
  intro n
  induction n with
  | zero => intro s t d _ _ _ _ h; omega
  | succ n ih =>
    intro s t d ok hl hr hd hn h50
    cases t with
    | tup xs =>
      obtain ⟨d, rfl⟩ : ∃ e, d = e + 1 := by cases d with | zero => simp [PV.isD] at hd | succ e => exact ⟨e, rfl⟩
      simp only [PV.isD] at hd
      have short : ∀ ys : List PV, ¬ (ys.length = 3 ∨ ys.length = 4) → xs = ys → F__law_steps (n + 1) [.va s.v, .va (.tup xs)] S = .ok (.int 0) S := by
        rintro ys h rfl
        simp [F__law_steps, m__law_steps, pad, PV.isD, areD, peq]
        have h3 : ¬ (3 : Int) = xs.length := by omega
        have h4 : ¬ (4 : Int) = xs.length := by omega
        simp [h3, h4]
      by_cases h34 : xs.length = 3 ∨ xs.length = 4
      · obtain ⟨a, b, c, r, rfl, hr1⟩ : ∃ a b c r, xs = a :: b :: c :: r ∧ r.length ≤ 1 := by
          match xs, h34 with
          | [a, b, c], _ => exact ⟨a, b, c, [], rfl, by simp⟩
          | [a, b, c, e], _ => exact ⟨a, b, c, [e], rfl, by simp⟩
        simp only [areD, Bool.and_eq_true] at hd
        obtain ⟨da, db, dc, dr⟩ := hd
        have hlen : (((a :: b :: c :: r).length : Nat) : Int) = 3 ∨ (((a :: b :: c :: r).length : Nat) : Int) = 4 := by simp only [List.length_cons]; omega
        have hL : (if PV.isD deep (PV.int ((a :: b :: c :: r).length : Nat)) = true ∧ areD deep [PV.int 3, PV.int 4] = true then some (!peq (PV.int 3) (PV.int ((a :: b :: c :: r).length : Nat)) && !peq (PV.int 4) (PV.int ((a :: b :: c :: r).length : Nat))) else none) = some false := by
          rcases hlen with h | h <;> rw [h] <;> rfl
        cases a with
        | str w =>
          have dw : PyData.canLay0 (.str w) = true := by simpa [PV.isD] using da
          cases b with
          | int x =>
            by_cases h1 : w = "same"
            · subst h1
              cases r with
              | cons e r =>
                obtain rfl : r = [] := by simpa using hr1
                simp [F__law_steps, m__law_steps, pad, PV.isD, areD, peq, Sq.v, stp]
              | nil =>
                cases c with
                | int y =>
                  by_cases hx : 0 ≤ x ∧ x < s.L.length
                  · by_cases hy : 0 ≤ y ∧ y < s.R.length
                    · obtain ⟨i, rfl⟩ := Int.eq_ofNat_of_zero_le hx.1
                      obtain ⟨j, rfl⟩ := Int.eq_ofNat_of_zero_le hy.1
                      have hi : i < s.L.length := by omega
                      have hj : j < s.R.length := by omega
                      have d1 : (s.L[i]).v.isD deep = true := (ok.l _ (List.getElem_mem hi)).isD (by decide)
                      have d2 : (s.R[j]).v.isD deep = true := (ok.r _ (List.getElem_mem hj)).isD (by decide)
                      simp [F__law_steps, m__law_steps, pad, PV.isD, areD, peq, Sq.v, fv, stp, inR, hi, hj, d1, d2, peq_v]
                      split <;> simp
                    · have hb : (inR y s.R.length) = false := by unfold inR; by_cases q : 0 ≤ y <;> simp [q] <;> omega
                      have hz : (if 0 ≤ y then Re.ok (decide (y < (s.R.length : Int))) S else Re.ok false S) = Re.ok false S := by
                        by_cases q : 0 ≤ y
                        · rw [if_pos q]; congr; simp; omega
                        · rw [if_neg q]
                      simp [F__law_steps, m__law_steps, pad, PV.isD, areD, peq, Sq.v, fv, stp, hb, hx.1, hx.2]
                      rw [if_pos (by omega)]
                      simp
                  · have hb : (inR x s.L.length) = false := by unfold inR; by_cases q : 0 ≤ x <;> simp [q] <;> omega
                    simp [F__law_steps, m__law_steps, pad, PV.isD, areD, peq, Sq.v, fv, stp, hb]
                    rw [if_pos (by omega)]
                    simp
                | dct _ _ => simp [PV.isD] at dc
                | ins _ _ _ => simp [PV.isD] at dc
                | ref _ => simp [PV.isD] at dc
                | _ => simp [F__law_steps, m__law_steps, pad, PV.isD, areD, peq, Sq.v, stp]
            · have w1 : (w == Str.ofString "same") = false := beq_eq_false_iff_ne.mpr h1
              by_cases h2 : w = "left" ∨ w = "right"
              · obtain ⟨bb, rfl⟩ : ∃ bb, w = sideS bb := by
                  rcases h2 with rfl | rfl
                  · exact ⟨true, rfl⟩
                  · exact ⟨false, rfl⟩
                by_cases hx : 0 ≤ x ∧ x < (s.side bb).length
                · obtain ⟨i, rfl⟩ := Int.eq_ofNat_of_zero_le hx.1
                  have hi : i < (s.side bb).length := by omega
                  have he : (s.side bb)[i]? = some (s.side bb)[i] := List.getElem?_eq_getElem hi
                  cases hL2 : ((s.side bb)[i]).isL with
                  | true =>
                    cases bb with
                    | true =>
                      simp only [side_t] at hi he hL2
                      rcases r with _ | ⟨e, _ | ⟨_, _⟩⟩ <;> first | (exfalso; simp at hr1; done) | simp [F__law_steps, m__law_steps, pad, PV.isD, areD, peq, Sq.v, fv, stp, inR, hi, hL2, he, at0, hdz, hdl, sideS, ls_ne]
                    | false =>
                      simp only [side_f] at hi he hL2
                      rcases r with _ | ⟨e, _ | ⟨_, _⟩⟩ <;> first | (exfalso; simp at hr1; done) | simp [F__law_steps, m__law_steps, pad, PV.isD, areD, peq, Sq.v, fv, stp, inR, hi, hL2, he, at0, hdz, hdl, sideS, rs_ne, rl_ne]
                  | false =>
                    refine lsteps_side (d := d) (by simp only [List.length_cons]; omega) (by omega) (by omega) he hL2 (by simp only [areD, Bool.and_eq_true]; exact ⟨dc, dr⟩) fun k hk p hp => ?_
                    have hs := kids_size hi k hk
                    obtain ⟨d', rfl⟩ | rfl : (∃ e, d = e + 1) ∨ d = 0 := by cases d with | zero => exact .inr rfl | succ e => exact .inl ⟨e, rfl⟩
                    · exact ih k p (d' + 1) (sub_ok ok he k hk) (by omega) (by omega) (areD_mem (by simp only [areD, Bool.and_eq_true]; exact ⟨dc, dr⟩) p hp) (by omega) (by omega)
                    · exact ih k p 0 (sub_ok ok he k hk) (by omega) (by omega) (areD_mem (by simp only [areD, Bool.and_eq_true]; exact ⟨dc, dr⟩) p hp) (by omega) (by omega)
                · have hb : inR x (s.side bb).length = false := by unfold inR; by_cases q : 0 ≤ x <;> simp [q] <;> omega
                  cases bb with
                  | true =>
                    simp only [side_t] at hb hx
                    by_cases q : 0 ≤ x
                    · have q2 : ¬ x < (s.L.length : Int) := by omega
                      rcases r with _ | ⟨e, _ | ⟨_, _⟩⟩ <;> first | (exfalso; simp at hr1; done) | simp [F__law_steps, m__law_steps, pad, PV.isD, areD, peq, Sq.v, fv, stp, hb, sideS, ls_ne, q, q2]
                    · rcases r with _ | ⟨e, _ | ⟨_, _⟩⟩ <;> first | (exfalso; simp at hr1; done) | simp [F__law_steps, m__law_steps, pad, PV.isD, areD, peq, Sq.v, fv, stp, hb, sideS, ls_ne, q]
                  | false =>
                    simp only [side_f] at hb hx
                    by_cases q : 0 ≤ x
                    · have q2 : ¬ x < (s.R.length : Int) := by omega
                      rcases r with _ | ⟨e, _ | ⟨_, _⟩⟩ <;> first | (exfalso; simp at hr1; done) | simp [F__law_steps, m__law_steps, pad, PV.isD, areD, peq, Sq.v, fv, stp, hb, sideS, rs_ne, rl_ne, q, q2]
                    · rcases r with _ | ⟨e, _ | ⟨_, _⟩⟩ <;> first | (exfalso; simp at hr1; done) | simp [F__law_steps, m__law_steps, pad, PV.isD, areD, peq, Sq.v, fv, stp, hb, sideS, rs_ne, rl_ne, q]
              · simp only [not_or] at h2
                have w2 : (w == Str.ofString "left") = false := beq_eq_false_iff_ne.mpr h2.1
                have w3 : (w == Str.ofString "right") = false := beq_eq_false_iff_ne.mpr h2.2
                have w2' : (Str.ofString "left" == w) = false := beq_eq_false_iff_ne.mpr (Ne.symm h2.1)
                have w3' : (Str.ofString "right" == w) = false := beq_eq_false_iff_ne.mpr (Ne.symm h2.2)
                rcases r with _ | ⟨e, _ | ⟨_, _⟩⟩ <;> first | (exfalso; simp at hr1; done) | simp [F__law_steps, m__law_steps, pad, PV.isD, areD, peq, Sq.v, fv, stp, dw, h1, h2.1, h2.2, w1, w2, w3, w2', w3']
          | dct _ _ => simp [PV.isD] at db
          | ins _ _ _ => simp [PV.isD] at db
          | ref _ => simp [PV.isD] at db
          | _ => rcases r with _ | ⟨e, _ | ⟨_, _⟩⟩ <;> first | (exfalso; simp at hr1; done) | simp [F__law_steps, m__law_steps, pad, PV.isD, areD, peq, Sq.v, fv, stp]
        | dct _ _ => simp [PV.isD] at da
        | ins _ _ _ => simp [PV.isD] at da
        | ref _ => simp [PV.isD] at da
        | _ => rcases r with _ | ⟨e, _ | ⟨_, _⟩⟩ <;> first | (exfalso; simp at hr1; done) | simp [F__law_steps, m__law_steps, pad, PV.isD, areD, peq, Sq.v, fv, stp]
      · rw [short xs h34 rfl, stp_short h34]
        rfl
    | dct _ _ => simp [PV.isD] at hd
    | ins _ _ _ => simp [PV.isD] at hd
    | ref _ => simp [PV.isD] at hd
    | _ => simp [F__law_steps, m__law_steps, pad, stp]
end Law81
namespace Law81
open PySem Q
def sz (k : Nat) : PV := if k = 0 then .non else .int (k : Int)
@[simp] theorem sz_0 : sz 0 = .non := rfl
theorem zw_sz {α β : Type} (f : α → β → Nat) (ks : List α) (ps : List β) : List.zipWith (fun k p => sz (f k p)) ks ps = (List.zipWith f ks ps).map sz := by rw [List.map_zipWith]
theorem areD_sz (l : List Nat) (d : Nat) : areD d (l.map sz) = true := by
  induction l with
  | nil => cases d <;> rfl
  | cons n l ih => by_cases h : n = 0 <;> cases d <;> simp [areD, PV.isD, sz, h] <;> exact ih
theorem inV_sz (l : List Nat) : inV .non (.lst (l.map sz)) = some (decide (0 ∈ l)) := by
  rw [inV_lst, areD_sz]
  simp only [PV.isD, Bool.and_self, if_true, Option.some.injEq]
  induction l with
  | nil => rfl
  | cons n l ih =>
    rw [List.map_cons, List.any_cons, ih, Bool.eq_iff_iff]
    by_cases h : n = 0
    · simp [peq, sz, h]
    · simp [peq, sz, h]
      omega
theorem bSum_sz {l : List Nat} (h : 0 ∉ l) : bSum [.lst (l.map sz)] = some (.int (l.sum : Int)) := by
  have : l.map sz = l.map fun (m : Nat) => PV.int m := List.map_congr_left fun m hm => by
    have : m ≠ 0 := fun z => h (z ▸ hm)
    simp [sz, this]
  rw [this, bSum_ints]
theorem inI_int {n : Nat} {x : Int} : inInt 0 ((n : Int) - 1) (.int x) = inR x n := by
  unfold inInt inR
  rw [Bool.eq_iff_iff]
  simp
  omega
@[simp] theorem inI_bl {n x : Int} {b : Bool} : inInt n x (.bl b) = false := rfl
@[simp] theorem inI_str {n x : Int} {b : Str} : inInt n x (.str b) = false := rfl
@[simp] theorem inI_tup {n x : Int} {b : List PV} : inInt n x (.tup b) = false := rfl
@[simp] theorem inI_lst {n x : Int} {b : List PV} : inInt n x (.lst b) = false := rfl
@[simp] theorem inI_non {n x : Int} : inInt n x .non = false := rfl
/-- the side's rule -/
theorem size_side {S : Sto} {n : Nat} {s : Sq} {d : Nat} {b : Bool} {i : Nat} {f : Fm} {ps : List PV} (h2 : ps.length = 1 ∨ ps.length = 2) (hl : s.L.length ≤ 900) (hr : s.R.length ≤ 900) (he : (s.side b)[i]? = some f) (nl : f.isL = false) (dp : areD d ps = true)
    (ih : ∀ k ∈ kids s b i f, ∀ p ∈ ps, F_size_of n [.va k.v, .va p] S = .ok (sz (stp n k p)) S) :
    F_size_of (n + 1) [.va s.v, .va (.tup (.str (sideS b) :: .int i :: ps))] S = .ok (sz (stp (n + 1) s (.tup (.str (sideS b) :: .int i :: ps)))) S := by
  have hi : i < (s.side b).length := (List.getElem?_eq_some_iff.mp he).1
  obtain ⟨c, r, rfl⟩ : ∃ c r, ps = c :: r := by
    cases ps with
    | nil => simp at h2
    | cons c r => exact ⟨c, r, rfl⟩
  cases b with
  | true =>
    have eb := e_behindL (S := S) (s := s) (i := i) (by omega) (by omega) he nl
    simp only [Sq.v, fv] at eb
    simp only [side_t] at he hi
    obtain ⟨_, rfl⟩ := List.getElem?_eq_some_iff.mp he
    rcases r with _ | ⟨e, _ | ⟨_, _⟩⟩
    · simp [F_size_of, m_size_of, pad, PV.isD, areD, peq, Sq.v, fv, stp, inR, hi, nl, tupLen, inI_int, he, at0, hdz, hdl, eb, sideS, ls_ne]
      by_cases hk : (kids s true i s.L[i]).length = 1
      · have hkI : (((kids s true i s.L[i]).length : Nat) : Int) = 1 := by rw [hk]; rfl
        simp [hk, hkI]
        rw [lc_zipI (h := fun k p => sz (stp n k p)) fun k hk p hp => by simp [ih k hk p hp], zw_sz]
        generalize List.zipWith (stp n) _ _ = Z
        by_cases z0 : 0 ∈ Z
        · simp [-inV_lst, -bSum_l, -List.map_zipWith, inV_sz, z0, sz]
        · simp [-inV_lst, -bSum_l, -List.map_zipWith, inV_sz, bSum_sz z0, z0, sz]
      · have hkI : ¬ (((kids s true i s.L[i]).length : Nat) : Int) = 1 := by omega
        simp [hk, hkI]
    · simp [F_size_of, m_size_of, pad, PV.isD, areD, peq, Sq.v, fv, stp, inR, hi, nl, tupLen, inI_int, he, at0, hdz, hdl, eb, sideS, ls_ne]
      by_cases hk : (kids s true i s.L[i]).length = 2
      · have hkI : (((kids s true i s.L[i]).length : Nat) : Int) = 2 := by rw [hk]; rfl
        simp [hk, hkI]
        rw [lc_zipI (h := fun k p => sz (stp n k p)) fun k hk p hp => by simp [ih k hk p hp], zw_sz]
        generalize List.zipWith (stp n) _ _ = Z
        by_cases z0 : 0 ∈ Z
        · simp [-inV_lst, -bSum_l, -List.map_zipWith, inV_sz, z0, sz]
        · simp [-inV_lst, -bSum_l, -List.map_zipWith, inV_sz, bSum_sz z0, z0, sz]
      · have hkI : ¬ (((kids s true i s.L[i]).length : Nat) : Int) = 2 := by omega
        simp [hk, hkI]
    · simp at h2
  | false =>
    have eb := e_behindR (S := S) (s := s) (i := i) (by omega) (by omega) he nl
    simp only [Sq.v, fv] at eb
    simp only [side_f] at he hi
    obtain ⟨_, rfl⟩ := List.getElem?_eq_some_iff.mp he
    rcases r with _ | ⟨e, _ | ⟨_, _⟩⟩
    · simp [F_size_of, m_size_of, pad, PV.isD, areD, peq, Sq.v, fv, stp, inR, hi, nl, tupLen, inI_int, he, at0, hdz, hdl, eb, sideS, rs_ne, rl_ne]
      by_cases hk : (kids s false i s.R[i]).length = 1
      · have hkI : (((kids s false i s.R[i]).length : Nat) : Int) = 1 := by rw [hk]; rfl
        simp [hk, hkI]
        rw [lc_zipI (h := fun k p => sz (stp n k p)) fun k hk p hp => by simp [ih k hk p hp], zw_sz]
        generalize List.zipWith (stp n) _ _ = Z
        by_cases z0 : 0 ∈ Z
        · simp [-inV_lst, -bSum_l, -List.map_zipWith, inV_sz, z0, sz]
        · simp [-inV_lst, -bSum_l, -List.map_zipWith, inV_sz, bSum_sz z0, z0, sz]
      · have hkI : ¬ (((kids s false i s.R[i]).length : Nat) : Int) = 1 := by omega
        simp [hk, hkI]
    · simp [F_size_of, m_size_of, pad, PV.isD, areD, peq, Sq.v, fv, stp, inR, hi, nl, tupLen, inI_int, he, at0, hdz, hdl, eb, sideS, rs_ne, rl_ne]
      by_cases hk : (kids s false i s.R[i]).length = 2
      · have hkI : (((kids s false i s.R[i]).length : Nat) : Int) = 2 := by rw [hk]; rfl
        simp [hk, hkI]
        rw [lc_zipI (h := fun k p => sz (stp n k p)) fun k hk p hp => by simp [ih k hk p hp], zw_sz]
        generalize List.zipWith (stp n) _ _ = Z
        by_cases z0 : 0 ∈ Z
        · simp [-inV_lst, -bSum_l, -List.map_zipWith, inV_sz, z0, sz]
        · simp [-inV_lst, -bSum_l, -List.map_zipWith, inV_sz, bSum_sz z0, z0, sz]
      · have hkI : ¬ (((kids s false i s.R[i]).length : Nat) : Int) = 2 := by omega
        simp [hk, hkI]
    · simp at h2
theorem es_same {S : Sto} {n : Nat} {s : Sq} {x : Int} {c : PV} {r : List PV} {d : Nat} (ok : SOk s) (hr1 : r.length ≤ 1) (dc : c.isD d = true) : F_size_of (n + 1) [.va s.v, .va (.tup (.str "same" :: .int x :: c :: r))] S = .ok (sz (stp (n + 1) s (.tup (.str "same" :: .int x :: c :: r)))) S := by
  cases r with
  | cons e r =>
    obtain rfl : r = [] := by simpa using hr1
    simp [F_size_of, m_size_of, tupLen, inI_int, sz, pad, PV.isD, areD, peq, Sq.v, fv, stp]
  | nil =>
    cases c with
    | int y =>
      by_cases hx : 0 ≤ x ∧ x < s.L.length
      · by_cases hy : 0 ≤ y ∧ y < s.R.length
        · obtain ⟨i, rfl⟩ := Int.eq_ofNat_of_zero_le hx.1
          obtain ⟨j, rfl⟩ := Int.eq_ofNat_of_zero_le hy.1
          have hi : i < s.L.length := by omega
          have hj : j < s.R.length := by omega
          have d1 : (s.L[i]).v.isD deep = true := (ok.l _ (List.getElem_mem hi)).isD (by decide)
          have d2 : (s.R[j]).v.isD deep = true := (ok.r _ (List.getElem_mem hj)).isD (by decide)
          simp [F_size_of, m_size_of, tupLen, inI_int, sz, pad, PV.isD, areD, peq, Sq.v, fv, stp, inR, hi, hj, d1, d2, peq_v]
          split <;> simp
        · have hb : (inR y s.R.length) = false := by unfold inR; by_cases q : 0 ≤ y <;> simp [q] <;> omega
          have hz : (if 0 ≤ y then Re.ok (decide (y < (s.R.length : Int))) S else Re.ok false S) = Re.ok false S := by
            by_cases q : 0 ≤ y
            · rw [if_pos q]; congr; simp; omega
            · rw [if_neg q]
          simp [F_size_of, m_size_of, tupLen, inI_int, sz, pad, PV.isD, areD, peq, Sq.v, fv, stp, hb, hx.1, hx.2]
      · have hb : (inR x s.L.length) = false := by unfold inR; by_cases q : 0 ≤ x <;> simp [q] <;> omega
        simp [F_size_of, m_size_of, tupLen, inI_int, sz, pad, PV.isD, areD, peq, Sq.v, fv, stp, hb]
    | dct _ _ => simp [PV.isD] at dc
    | ins _ _ _ => simp [PV.isD] at dc
    | ref _ => simp [PV.isD] at dc
    | _ => simp [F_size_of, m_size_of, tupLen, inI_int, sz, pad, PV.isD, areD, peq, Sq.v, fv, stp]
theorem es_other {S : Sto} {n : Nat} {s : Sq} {w : Str} {x : Int} {c : PV} {r : List PV} (hr1 : r.length ≤ 1) (dw : PyData.canLay0 (.str w) = true) (h1 : ¬ w = "same") (h2 : ¬ (w = "left" ∨ w = "right")) : F_size_of (n + 1) [.va s.v, .va (.tup (.str w :: .int x :: c :: r))] S = .ok (sz (stp (n + 1) s (.tup (.str w :: .int x :: c :: r)))) S := by
  have w1 : (w == Str.ofString "same") = false := beq_eq_false_iff_ne.mpr h1
  simp only [not_or] at h2
  have w2 : (w == Str.ofString "left") = false := beq_eq_false_iff_ne.mpr h2.1
  have w3 : (w == Str.ofString "right") = false := beq_eq_false_iff_ne.mpr h2.2
  have w2' : (Str.ofString "left" == w) = false := beq_eq_false_iff_ne.mpr (Ne.symm h2.1)
  have w3' : (Str.ofString "right" == w) = false := beq_eq_false_iff_ne.mpr (Ne.symm h2.2)
  rcases r with _ | ⟨e, _ | ⟨_, _⟩⟩ <;> first | (exfalso; simp at hr1; done) | simp [F_size_of, m_size_of, tupLen, inI_int, sz, pad, PV.isD, areD, peq, Sq.v, fv, stp, dw, h1, h2.1, h2.2, w1, w2, w3, w2', w3']
theorem es_b {S : Sto} {n : Nat} {s : Sq} {w : Str} {b c : PV} {r : List PV} {d : Nat} (hr1 : r.length ≤ 1) (dw : PyData.canLay0 (.str w) = true) (db : b.isD d = true) (nb : ∀ i, b ≠ .int i) : F_size_of (n + 1) [.va s.v, .va (.tup (.str w :: b :: c :: r))] S = .ok (sz (stp (n + 1) s (.tup (.str w :: b :: c :: r)))) S := by
  have st : stp (n + 1) s (.tup (.str w :: b :: c :: r)) = 0 := by
    cases b with
    | int i => exact absurd rfl (nb i)
    | _ => rfl
  have hb : ∀ (lo hi : Int) (S : Sto), F_is_within [.va b, .va (.int lo), .va (.int hi)] S = .ok (.bl false) S := by
    intro lo hi S
    cases b with
    | int i => exact absurd rfl (nb i)
    | dct _ _ => simp [PV.isD] at db
    | ins _ _ _ => simp [PV.isD] at db
    | ref _ => simp [PV.isD] at db
    | _ => simp
  rw [st]
  by_cases h1 : w = "same"
  · subst h1
    rcases r with _ | ⟨e, _ | ⟨_, _⟩⟩ <;> first | (exfalso; simp at hr1; done) | simp [F_size_of, m_size_of, tupLen, sz, pad, PV.isD, areD, peq, Sq.v, fv, hb]
  · have w1 : (w == Str.ofString "same") = false := beq_eq_false_iff_ne.mpr h1
    by_cases h2 : w = "left"
    · subst h2
      rcases r with _ | ⟨e, _ | ⟨_, _⟩⟩ <;> first | (exfalso; simp at hr1; done) | simp [F_size_of, m_size_of, tupLen, sz, pad, PV.isD, areD, peq, Sq.v, fv, hb]
    · by_cases h3 : w = "right"
      · subst h3
        rcases r with _ | ⟨e, _ | ⟨_, _⟩⟩ <;> first | (exfalso; simp at hr1; done) | simp [F_size_of, m_size_of, tupLen, sz, pad, PV.isD, areD, peq, Sq.v, fv, hb]
      · have w2 : (w == Str.ofString "left") = false := beq_eq_false_iff_ne.mpr h2
        have w3 : (w == Str.ofString "right") = false := beq_eq_false_iff_ne.mpr h3
        have w2' : (Str.ofString "left" == w) = false := beq_eq_false_iff_ne.mpr (Ne.symm h2)
        have w3' : (Str.ofString "right" == w) = false := beq_eq_false_iff_ne.mpr (Ne.symm h3)
        rcases r with _ | ⟨e, _ | ⟨_, _⟩⟩ <;> first | (exfalso; simp at hr1; done) | simp [F_size_of, m_size_of, tupLen, sz, pad, PV.isD, areD, peq, Sq.v, fv, dw, w1, w2, w3, w2', w3', hb]
theorem es_a {S : Sto} {n : Nat} {s : Sq} {a b c : PV} {r : List PV} {d : Nat} (hr1 : r.length ≤ 1) (da : a.isD d = true) (na : ∀ i, a ≠ .str i) : F_size_of (n + 1) [.va s.v, .va (.tup (a :: b :: c :: r))] S = .ok (sz (stp (n + 1) s (.tup (a :: b :: c :: r)))) S := by
  cases a with
  | str i => exact absurd rfl (na i)
  | dct _ _ => simp [PV.isD] at da
  | ins _ _ _ => simp [PV.isD] at da
  | ref _ => simp [PV.isD] at da
  | _ => rcases r with _ | ⟨e, _ | ⟨_, _⟩⟩ <;> first | (exfalso; simp at hr1; done) | simp [F_size_of, m_size_of, tupLen, inI_int, sz, pad, PV.isD, areD, peq, Sq.v, fv, stp]
theorem e_size {S : Sto} : ∀ (n : Nat) (s : Sq) (t : PV) (d : Nat), SOk s → s.L.length + n ≤ 900 → s.R.length + n ≤ 900 → t.isD d = true → d < n → n ≤ 50 → F_size_of n [.va s.v, .va t] S = .ok (sz (stp n s t)) S := by
  intro n
  induction n with
  | zero => intro s t d _ _ _ _ h; omega
  | succ n ih =>
    intro s t d ok hl hr hd hn h50
    cases t with
    | tup xs =>
      obtain ⟨d, rfl⟩ : ∃ e, d = e + 1 := by cases d with | zero => simp [PV.isD] at hd | succ e => exact ⟨e, rfl⟩
      simp only [PV.isD] at hd
      have short : ∀ ys : List PV, ¬ (ys.length = 3 ∨ ys.length = 4) → xs = ys → F_size_of (n + 1) [.va s.v, .va (.tup xs)] S = .ok .non S := by
        rintro ys h rfl
        have hT : tupLen 3 4 (.tup xs) = false := by unfold tupLen; rw [Bool.eq_false_iff]; simp; omega
        simp [F_size_of, m_size_of, pad, hT]
      by_cases h34 : xs.length = 3 ∨ xs.length = 4
      · obtain ⟨a, b, c, r, rfl, hr1⟩ : ∃ a b c r, xs = a :: b :: c :: r ∧ r.length ≤ 1 := by
          match xs, h34 with
          | [a, b, c], _ => exact ⟨a, b, c, [], rfl, by simp⟩
          | [a, b, c, e], _ => exact ⟨a, b, c, [e], rfl, by simp⟩
        simp only [areD, Bool.and_eq_true] at hd
        obtain ⟨da, db, dc, dr⟩ := hd
        have hlen : (((a :: b :: c :: r).length : Nat) : Int) = 3 ∨ (((a :: b :: c :: r).length : Nat) : Int) = 4 := by simp only [List.length_cons]; omega
        have hL : (if PV.isD deep (PV.int ((a :: b :: c :: r).length : Nat)) = true ∧ areD deep [PV.int 3, PV.int 4] = true then some (!peq (PV.int 3) (PV.int ((a :: b :: c :: r).length : Nat)) && !peq (PV.int 4) (PV.int ((a :: b :: c :: r).length : Nat))) else none) = some false := by
          rcases hlen with h | h <;> rw [h] <;> rfl
        cases a with
        | str w =>
          have dw : PyData.canLay0 (.str w) = true := by simpa [PV.isD] using da
          cases b with
          | int x =>
            by_cases h1 : w = "same"
            · subst h1
              exact es_same ok hr1 dc
            · have w1 : (w == Str.ofString "same") = false := beq_eq_false_iff_ne.mpr h1
              by_cases h2 : w = "left" ∨ w = "right"
              · obtain ⟨bb, rfl⟩ : ∃ bb, w = sideS bb := by
                  rcases h2 with rfl | rfl
                  · exact ⟨true, rfl⟩
                  · exact ⟨false, rfl⟩
                by_cases hx : 0 ≤ x ∧ x < (s.side bb).length
                · obtain ⟨i, rfl⟩ := Int.eq_ofNat_of_zero_le hx.1
                  have hi : i < (s.side bb).length := by omega
                  have he : (s.side bb)[i]? = some (s.side bb)[i] := List.getElem?_eq_getElem hi
                  cases hL2 : ((s.side bb)[i]).isL with
                  | true =>
                    cases bb with
                    | true =>
                      simp only [side_t] at hi he hL2
                      rcases r with _ | ⟨e, _ | ⟨_, _⟩⟩ <;> first | (exfalso; simp at hr1; done) | simp [F_size_of, m_size_of, tupLen, inI_int, sz, pad, PV.isD, areD, peq, Sq.v, fv, stp, inR, hi, hL2, he, at0, hdz, hdl, sideS, ls_ne]
                    | false =>
                      simp only [side_f] at hi he hL2
                      rcases r with _ | ⟨e, _ | ⟨_, _⟩⟩ <;> first | (exfalso; simp at hr1; done) | simp [F_size_of, m_size_of, tupLen, inI_int, sz, pad, PV.isD, areD, peq, Sq.v, fv, stp, inR, hi, hL2, he, at0, hdz, hdl, sideS, rs_ne, rl_ne]
                  | false =>
                    refine size_side (d := d) (by simp only [List.length_cons]; omega) (by omega) (by omega) he hL2 (by simp only [areD, Bool.and_eq_true]; exact ⟨dc, dr⟩) fun k hk p hp => ?_
                    have hs := kids_size hi k hk
                    obtain ⟨d', rfl⟩ | rfl : (∃ e, d = e + 1) ∨ d = 0 := by cases d with | zero => exact .inr rfl | succ e => exact .inl ⟨e, rfl⟩
                    · exact ih k p (d' + 1) (sub_ok ok he k hk) (by omega) (by omega) (areD_mem (by simp only [areD, Bool.and_eq_true]; exact ⟨dc, dr⟩) p hp) (by omega) (by omega)
                    · exact ih k p 0 (sub_ok ok he k hk) (by omega) (by omega) (areD_mem (by simp only [areD, Bool.and_eq_true]; exact ⟨dc, dr⟩) p hp) (by omega) (by omega)
                · have hb : inR x (s.side bb).length = false := by unfold inR; by_cases q : 0 ≤ x <;> simp [q] <;> omega
                  cases bb with
                  | true =>
                    simp only [side_t] at hb hx
                    by_cases q : 0 ≤ x
                    · have q2 : ¬ x < (s.L.length : Int) := by omega
                      rcases r with _ | ⟨e, _ | ⟨_, _⟩⟩ <;> first | (exfalso; simp at hr1; done) | simp [F_size_of, m_size_of, tupLen, inI_int, sz, pad, PV.isD, areD, peq, Sq.v, fv, stp, hb, sideS, ls_ne, q, q2]
                    · rcases r with _ | ⟨e, _ | ⟨_, _⟩⟩ <;> first | (exfalso; simp at hr1; done) | simp [F_size_of, m_size_of, tupLen, inI_int, sz, pad, PV.isD, areD, peq, Sq.v, fv, stp, hb, sideS, ls_ne, q]
                  | false =>
                    simp only [side_f] at hb hx
                    by_cases q : 0 ≤ x
                    · have q2 : ¬ x < (s.R.length : Int) := by omega
                      rcases r with _ | ⟨e, _ | ⟨_, _⟩⟩ <;> first | (exfalso; simp at hr1; done) | simp [F_size_of, m_size_of, tupLen, inI_int, sz, pad, PV.isD, areD, peq, Sq.v, fv, stp, hb, sideS, rs_ne, rl_ne, q, q2]
                    · rcases r with _ | ⟨e, _ | ⟨_, _⟩⟩ <;> first | (exfalso; simp at hr1; done) | simp [F_size_of, m_size_of, tupLen, inI_int, sz, pad, PV.isD, areD, peq, Sq.v, fv, stp, hb, sideS, rs_ne, rl_ne, q]
              · exact es_other hr1 dw h1 h2
          | dct _ _ => simp [PV.isD] at db
          | ins _ _ _ => simp [PV.isD] at db
          | ref _ => simp [PV.isD] at db
          | _ => exact es_b hr1 dw db (fun i z => nomatch z)
        | dct _ _ => simp [PV.isD] at da
        | ins _ _ _ => simp [PV.isD] at da
        | ref _ => simp [PV.isD] at da
        | _ => exact es_a hr1 da (fun i z => nomatch z)
      · rw [short xs h34 rfl, stp_short h34]
        rfl
    | dct _ _ => simp [PV.isD] at hd
    | ins _ _ _ => simp [PV.isD] at hd
    | ref _ => simp [PV.isD] at hd
    | _ => simp [F_size_of, m_size_of, tupLen, sz, pad, stp]
end Law81
namespace Law81
open PySem Q
def Sq.W (s : Sq) : Nat := wordsL s.L + wordsL s.R
def Valid (s : Sq) : Prop := ∀ b : List Bool, b.length = 5 → s.at_ b = true
theorem wordsL_drp {l : List Fm} {i : Nat} {f : Fm} (e : l[i]? = some f) : wordsL (drp l i) + f.words = wordsL l := by
  obtain ⟨hi, rfl⟩ := List.getElem?_eq_some_iff.mp e
  have : l = l.take i ++ l[i] :: l.drop (i + 1) := by simp
  conv => rhs; rw [this]
  unfold drp
  rw [wordsL_app, wordsL_app]
  have : wordsL (l[i] :: l.drop (i + 1)) = l[i].words + wordsL (l.drop (i + 1)) := by simp only [wordsL, List.map_cons, List.sum_cons]
  omega
theorem any_drp {l : List Fm} {i : Nat} {f : Fm} (e : l[i]? = some f) (p : Fm → Bool) : l.any p = ((drp l i).any p || p f) := by
  obtain ⟨hi, rfl⟩ := List.getElem?_eq_some_iff.mp e
  have : l = l.take i ++ l[i] :: l.drop (i + 1) := by simp
  conv => lhs; rw [this]
  unfold drp
  rw [List.any_append, List.any_append, List.any_cons]
  cases (l.take i).any p <;> cases p l[i] <;> cases (l.drop (i + 1)).any p <;> rfl
theorem kids_words {s : Sq} {b : Bool} {i : Nat} {f : Fm} (e : (s.side b)[i]? = some f) : ∀ k ∈ kids s b i f, k.W + 1 ≤ s.W := by
  intro k hk
  cases b with
  | true =>
    have h := wordsL_drp (l := s.L) e
    cases f <;> simp [kids] at hk <;> (try rcases hk with rfl | rfl) <;> (try subst hk) <;> simp only [Fm.words] at h <;> simp only [Sq.W, wordsL_app] <;> simp [wordsL] at * <;> omega
  | false =>
    have h := wordsL_drp (l := s.R) e
    cases f <;> simp [kids] at hk <;> (try rcases hk with rfl | rfl) <;> (try subst hk) <;> simp only [Fm.words] at h <;> simp only [Sq.W, wordsL_app] <;> simp [wordsL] at * <;> omega
theorem kids_valid {s : Sq} {b : Bool} {i : Nat} {f : Fm} (e : (s.side b)[i]? = some f) (v : Valid s) : ∀ k ∈ kids s b i f, Valid k := by
  intro k hk r hr
  have h := v r hr
  unfold Sq.at_ at h ⊢
  cases b with
  | true =>
    rw [any_drp (l := s.L) e] at h
    cases f <;> simp [kids] at hk <;> (try rcases hk with rfl | rfl) <;> (try subst hk) <;> simp only [List.any_append, List.any_cons, List.any_nil, Fm.ev] at h ⊢ <;> grind
  | false =>
    rw [any_drp (l := s.R) e] at h
    cases f <;> simp [kids] at hk <;> (try rcases hk with rfl | rfl) <;> (try subst hk) <;> simp only [List.any_append, List.any_cons, List.any_nil, Fm.ev] at h ⊢ <;> grind
/-- letters alone, none on both sides: there is a row at which it fails -/
theorem leaf_no {s : Sq} (ok : SOk s) (hl : ∀ f ∈ s.L, f.isL = true) (hr : ∀ f ∈ s.R, f.isL = true) (hd : ∀ f ∈ s.L, f ∉ s.R) (v : Valid s) : False := by
  have h := v ((List.range 5).map fun i => decide (Fm.l i ∈ s.L)) (by simp)
  unfold Sq.at_ at h
  have ev : ∀ i, i < 5 → Fm.ev ((List.range 5).map fun i => decide (Fm.l i ∈ s.L)) (.l i) = decide (Fm.l i ∈ s.L) := by
    intro i hi
    simp only [Fm.ev]
    rw [List.getD, List.getElem?_map, List.getElem?_range hi]
    rfl
  rw [Bool.or_eq_true, List.any_eq_true, List.any_eq_true] at h
  rcases h with ⟨f, hf, h⟩ | ⟨f, hf, h⟩
  · have := hl f hf
    cases f with
    | l i =>
      have u := (ok.l _ hf).u
      simp only [Fm.under, decide_eq_true_eq] at u
      rw [ev i u, decide_eq_true hf] at h
      exact nomatch h
    | _ => exact nomatch this
  · have := hr f hf
    cases f with
    | l i =>
      have u := (ok.r _ hf).u
      simp only [Fm.under, decide_eq_true_eq] at u
      rw [ev i u] at h
      exact hd _ (of_decide_eq_true h) hf
    | _ => exact nomatch this
mutual
theorem isD_up : ∀ {t : PV} {a b : Nat}, t.isD a = true → a ≤ b → t.isD b = true
  | .non, _, _, _, _ => by simp [PV.isD]
  | .bl _, _, _, _, _ => by simp [PV.isD]
  | .int _, _, _, _, _ => by simp [PV.isD]
  | .str _, a, b, h, _ => by simpa [PV.isD] using h
  | .tup xs, 0, _, h, _ => by simp [PV.isD] at h
  | .tup xs, a + 1, 0, h, l => by omega
  | .tup xs, a + 1, b + 1, h, l => by
    simp only [PV.isD] at h ⊢
    exact areD_up h (by omega)
  | .lst xs, 0, _, h, _ => by simp [PV.isD] at h
  | .lst xs, a + 1, 0, h, l => by omega
  | .lst xs, a + 1, b + 1, h, l => by
    simp only [PV.isD] at h ⊢
    exact areD_up h (by omega)
  | .dct _ _, _, _, h, _ => by simp [PV.isD] at h
  | .ins _ _ _, _, _, h, _ => by simp [PV.isD] at h
  | .ref _, _, _, h, _ => by simp [PV.isD] at h
theorem areD_up : ∀ {t : List PV} {a b : Nat}, areD a t = true → a ≤ b → areD b t = true
  | [], _, _, _, _ => by simp [areD]
  | x :: xs, a, b, h, l => by
    simp only [areD, Bool.and_eq_true] at h ⊢
    exact ⟨isD_up h.1 l, areD_up h.2 l⟩
end
theorem areD_of {l : List PV} {d : Nat} (h : ∀ p ∈ l, p.isD d = true) : areD d l = true := by
  induction l with
  | nil => simp [areD]
  | cons a l ih =>
    simp only [areD, Bool.and_eq_true]
    exact ⟨h a (by simp), ih fun p hp => h p (by simp [hp])⟩
/-- what proof_of gives -/
structure Pf (n : Nat) (s : Sq) (t : PV) : Prop where
  d : t.isD (s.W + 1) = true
  p : 0 < stp n s t
  f : ∃ (w : Str) (x : Int) (r : List PV), t = .tup (.str w :: .int x :: r) ∧ 1 ≤ r.length ∧ r.length ≤ 2 ∧ PyData.canLay0 (.str w) = true
theorem e_proof {S : Sto} : ∀ (n : Nat) (s : Sq), SOk s → s.L.length + n ≤ 900 → s.R.length + n ≤ 900 → s.W < n → Valid s → ∃ t, F_proof_of n [.va s.v] S = .ok t S ∧ Pf n s t := by
  intro n
  induction n with
  | zero => intro s _ _ _ h; omega
  | succ n ih =>
    intro s ok hl hr hW v
    obtain ⟨r, er, hs⟩ := e_shared (S := S) ok
    rcases hs with ⟨rfl, hd⟩ | ⟨i, j, f, rfl, ei, ej⟩
    · obtain ⟨q, eq, hs⟩ := e_step (S := S) ok
      rcases hs with ⟨rfl, h1, h2⟩ | ⟨b, i, f, rfl, ef, nl⟩
      · exact (leaf_no ok h1 h2 hd v).elim
      · have hi : i < (s.side b).length := (List.getElem?_eq_some_iff.mp ef).1
        have key : ∀ k : Sq, ∃ t, k ∈ kids s b i f → F_proof_of n [.va k.v] S = .ok t S ∧ Pf n k t := fun k => by
          by_cases hk : k ∈ kids s b i f
          · have hz := kids_size hi k hk
            have hw := kids_words ef k hk
            obtain ⟨t, e, p⟩ := ih k (sub_ok ok ef k hk) (by omega) (by omega) (by omega) (kids_valid ef v k hk)
            exact ⟨t, fun _ => ⟨e, p⟩⟩
          · exact ⟨.non, fun z => absurd z hk⟩
        obtain ⟨g, hg⟩ := Classical.skolem.mp key
        have kl := kids_len s b i f
        have kp := kids_pos s b i f nl
        have eb : F_behind [.va s.v, .va (.str (sideS b)), .va (.int i)] S = .ok (.lst ((kids s b i f).map Sq.v)) S := by
          cases b with
          | true => exact e_behindL (by omega) (by omega) ef nl
          | false => exact e_behindR (by omega) (by omega) ef nl
        refine ⟨.tup (.str (sideS b) :: .int i :: (kids s b i f).map g), ?_, ⟨?_, ?_, ?_⟩⟩
        · simp [F_proof_of, m_proof_of, pad, er, eq, eb]
          rw [lc_mapI (f := g) fun k hk => ⟨_, rfl, by simp [(hg k hk).1]⟩]
          have hz : 2 + (kids s b i f).length ≤ 16777216 := by omega
          simp [hz]
        · simp only [PV.isD, areD, Bool.and_eq_true, true_and]
          refine ⟨by cases b <;> simp [sideS], areD_of fun p hp => ?_⟩
          obtain ⟨k, hk, rfl⟩ := List.mem_map.mp hp
          exact isD_up (hg k hk).2.d (by have := kids_words ef k hk; omega)
        · have zw : List.zipWith (stp n) (kids s b i f) ((kids s b i f).map g) = (kids s b i f).map fun k => stp n k (g k) := by
            generalize kids s b i f = K
            induction K with
            | nil => rfl
            | cons k K ihk => simp only [List.map_cons, List.zipWith_cons_cons, ihk]
          have nz : 0 ∉ (kids s b i f).map fun k => stp n k (g k) := fun z => by
            obtain ⟨k, hk, e⟩ := List.mem_map.mp z
            have := (hg k hk).2.p
            omega
          cases b with
          | true =>
            have ef : s.L[i]? = some f := ef
            have hi : i < s.L.length := hi
            obtain ⟨_, rfl⟩ := List.getElem?_eq_some_iff.mp ef
            simp [stp, sideS, ls_ne, inR, hi, nl, -List.map_zipWith]
            rw [zw, if_neg nz]
            omega
          | false =>
            have ef : s.R[i]? = some f := ef
            have hi : i < s.R.length := hi
            obtain ⟨_, rfl⟩ := List.getElem?_eq_some_iff.mp ef
            simp [stp, sideS, rs_ne, rl_ne, inR, hi, nl, -List.map_zipWith]
            rw [zw, if_neg nz]
            omega
        · exact ⟨_, _, _, rfl, by simp; omega, by simp; omega, by cases b <;> simp [sideS]⟩
    · refine ⟨.tup [.str "same", .int i, .int j], ?_, ⟨by simp [PV.isD, areD], ?_, ⟨_, _, _, rfl, by simp, by simp, by simp⟩⟩⟩
      · simp [F_proof_of, m_proof_of, pad, er]
      · have hi : i < s.L.length := (List.getElem?_eq_some_iff.mp ei).1
        have hj : j < s.R.length := (List.getElem?_eq_some_iff.mp ej).1
        have e : s.L[i] = s.R[j] := by
          obtain ⟨_, e1⟩ := List.getElem?_eq_some_iff.mp ei
          obtain ⟨_, e2⟩ := List.getElem?_eq_some_iff.mp ej
          rw [e1, e2]
        simp [stp, inR, hi, hj, e]
end Law81
namespace Law81
open PySem Q
theorem fail_valid {s : Sq} (h : s.fail = none) : Valid s := fun b hb => by
  have := List.find?_eq_none.mp h b (bits_all 5 b hb)
  simpa using this
theorem valid_fail {s : Sq} {b : List Bool} (h : s.fail = some b) : b ∈ bits 5 ∧ s.at_ b = false := by
  have h1 := List.mem_of_find?_eq_some h
  have h2 := List.find?_some h
  exact ⟨h1, by simpa using h2⟩
theorem e_proved {S : Sto} {s : Sq} (h : SqOk s) : ∃ t, F_proved [.va s.v] S = .ok t S ∧ ((s.fail = none ∧ ∃ p, t = .tup [.str "proof", p] ∧ Pf 20 s p) ∨ ∃ b, s.fail = some b ∧ t = .tup [.str "row", rv b]) := by
  have e1 := e_first (S := S) h.ok
  cases hf : s.fail with
  | none =>
    obtain ⟨p, ep, hp⟩ := e_proof (S := S) 20 s h.ok (by have := h.l8; omega) (by have := h.r8; omega) (by have := h.w; unfold Sq.W; omega) (fail_valid hf)
    refine ⟨_, ?_, .inl ⟨rfl, p, rfl, hp⟩⟩
    rw [hf] at e1
    simp [F_proved, m_proved, pad, e_check h, e1, ep]
  | some b =>
    refine ⟨_, ?_, .inr ⟨b, rfl, rfl⟩⟩
    rw [hf] at e1
    simp [F_proved, m_proved, pad, e_check h, e1, rv]
theorem e_row {S : Sto} {b : List Bool} (hb : b.length = 5) : F_is_row [.va (.int 5), .va (rv b)] S = .ok (.bl true) S := by
  simp [F_is_row, m_is_row, F_are_bits, m_are_bits, pad, rv, tupLen, hb]
  rw [lc_mapI (f := fun x => .bl true) fun x hx => ⟨_, rfl, by simp [F_is_bit, m_is_bit, pad, inInt]; cases x <;> simp⟩]
  simp [allBl_map (p := fun _ => true)]
theorem e_isp_row {S : Sto} {s : Sq} {b : List Bool} (h : SqOk s) (hb : b.length = 5) : F_is_proved [.va s.v, .va (.tup [.str "row", rv b])] S = .ok (.bl (!s.at_ b)) S := by
  simp [F_is_proved, m_is_proved, pad, e_check h, tupLen, PV.isD, peq, k_MOST_LETTERS, e_row hb, e_holds h.ok hb]
theorem e_isp {S : Sto} {s : Sq} {p : PV} {d : Nat} (h : SqOk s) (hp : p.isD d = true) (hd : d < 20) : F_is_proved [.va s.v, .va (.tup [.str "proof", p])] S = .ok (.bl (decide (0 < stp 20 s p))) S := by
  have e := e_size (S := S) 20 s p d h.ok (by have := h.l8; omega) (by have := h.r8; omega) hp hd (by omega)
  simp [F_is_proved, m_is_proved, pad, e_check h, tupLen, PV.isD, peq, e]
  by_cases z : stp 20 s p = 0
  · simp [z]
  · simp [sz, z]
    omega
theorem e_psize {S : Sto} {s : Sq} {p : PV} {d : Nat} (h : SqOk s) (hp : p.isD d = true) (hd : d < 20) (hz : 0 < stp 20 s p) : F_proof_size [.va s.v, .va p] S = .ok (.int (stp 20 s p)) S := by
  have e := e_size (S := S) 20 s p d h.ok (by have := h.l8; omega) (by have := h.r8; omega) hp hd (by omega)
  have z : stp 20 s p ≠ 0 := by omega
  simp [F_proof_size, m_proof_size, pad, e_check h, e, sz, z]
/-! all_hold -/
def allAt (l : List Fm) (b : List Bool) : Bool := l.all fun f => f.ev b
theorem e_all {S : Sto} {l : List Fm} (h : ∀ f ∈ l, Ok f) (h1 : 1 ≤ l.length) (h8 : l.length ≤ 8) : F_all_hold [.va (fv l)] S = .ok (match (bits 5).find? (allAt l) with | some b => rv b | none => .non) S := by
  have := fn_wp (ps := 1) (ns := 4) (k := m_all_hold) (as := [.va (fv l)]) (S := S) (R := fun r S' => S' = S ∧ r = (match (bits 5).find? (allAt l) with | some b => rv b | none => .non)) rfl ?_
  · obtain ⟨t, S1, e, rfl, rfl⟩ := this
    exact e
  simp only [m_all_hold, sSeq]
  simp [pad, fv, k_MOST_TOGETHER]
  rw [if_neg (by omega)]
  simp only [Ou.seq_nx, sSeq]
  refine wp_seq ?_
  simp only [sFor, iEnum, eV_ap, List.getElem?_cons_zero, Option.bind_some, val_va, Re.of_some, Re.bind_ok, enumO_t, Re.thn_ok]
  have hl : (enumV 0 (l.map Fm.v)).length = l.length := enum_len
  refine wp_mono (wp_for (fun k fr S' => S' = S ∧ ∃ x2 x3, fr = [.va (.tup (l.map Fm.v)), .no, x2, x3]) 0 ⟨rfl, _, _, rfl⟩ fun k x fr S' ⟨eS, x2, x3, ef⟩ ex => ?_) (fun fr S' ⟨eS, x2, x3, ef⟩ => ?_) fun t S' hR => hR
  · subst eS ef
    obtain ⟨f, e1, rfl⟩ := enum_get ex
    refine ⟨_, rfl, ?_⟩
    simp [k_MOST_LETTERS, e_formula_in (h f (List.mem_of_getElem? e1))]
  · subst eS ef
    obtain ⟨fr', e⟩ := for_findI (l := bits 5) (g := rv) (i := 1) (p := allAt l) (f := rv) (S := S') (fr := [.va (.tup (l.map Fm.v)), .no, x2, x3])
      (b := (sSeq (sIf (bE (eBi bAll (aC (eLc [3] (iSeq (eV 0)) (tN 3) bT (eB (bCm Cm.eq (eCall (F_told_at 20) (gV (eV 3) (gV (eV 1) gN))) (eC (PV.int 1))))) aN))) (sSeq (sRet (eV 1)) sNil) sNil) sNil)) fun b hb => by
        simp [-List.all_eq_true]
        rw [lc_mapI (f := fun f => .bl (f.ev b)) fun f hf => ⟨_, rfl, by
          have e := e_told (S := S') (bits_len 5 b hb) 20 f (by have := (h f hf).d; omega) (h f hf).u
          simp [e, PV.isD, peq]
          cases f.ev b <;> rfl⟩]
        simp [-List.all_eq_true, allBl_map, allAt]
        by_cases z : l.all (Fm.ev b) = true <;> simp [-List.all_eq_true, z]
    simp [e_rows, k_MOST_LETTERS] at e ⊢
    rw [e]
    cases List.find? (allAt l) (bits 5) <;> simp

/-! the law's own -/
theorem e_ltold {b : List Bool} {S : Sto} (hb : b.length = 5) : ∀ (n : Nat) (f : Fm), f.depth ≤ n → f.under = true → F__law_told n [.va f.v, .va (rv b)] S = .ok (.int (bi (f.ev b))) S := by
  intro n
  induction n with
  | zero => intro f h; cases f <;> simp [Fm.depth] at h
  | succ n ih =>
    intro f h u
    cases f with
    | l i =>
      simp only [Fm.under, decide_eq_true_eq] at u
      have : i < b.length := by omega
      simp [F__law_told, m__law_told, pad, Fm.v, PV.isD, peq, rv, rv_at this, Fm.ev]
    | n f =>
      simp only [Fm.under] at u
      simp only [Fm.depth] at h
      have e := ih f (by omega) u
      simp [F__law_told, m__law_told, pad, Fm.v, PV.isD, peq, e, Fm.ev]
      cases f.ev b <;> rfl
    | a f g =>
      simp only [Fm.under, Bool.and_eq_true] at u
      simp only [Fm.depth] at h
      have e := ih f (by omega) u.1
      have e2 := ih g (by omega) u.2
      simp [F__law_told, m__law_told, pad, Fm.v, PV.isD, peq, e, e2, Fm.ev]
      cases hf : f.ev b <;> cases hg : g.ev b <;> simp [leastI, hf, hg]
    | o f g =>
      simp only [Fm.under, Bool.and_eq_true] at u
      simp only [Fm.depth] at h
      have e := ih f (by omega) u.1
      have e2 := ih g (by omega) u.2
      simp [F__law_told, m__law_told, pad, Fm.v, PV.isD, peq, e, e2, Fm.ev]
      cases hf : f.ev b <;> cases hg : g.ev b <;> simp [greatestI, hf, hg]
    | t f g =>
      simp only [Fm.under, Bool.and_eq_true] at u
      simp only [Fm.depth] at h
      have e := ih f (by omega) u.1
      have e2 := ih g (by omega) u.2
      simp [F__law_told, m__law_told, pad, Fm.v, PV.isD, peq, e, e2, Fm.ev]
      cases hf : f.ev b <;> cases hg : g.ev b <;> simp [hf, hg]
theorem e_lholds {s : Sq} {b : List Bool} {S : Sto} (h : SOk s) (hb : b.length = 5) : F__law_holds [.va s.v, .va (rv b)] S = .ok (.bl (s.at_ b)) S := by
  simp only [F__law_holds, m__law_holds, fn_ap, pad, Sq.v, fv]
  simp [-List.any_eq_true]
  rw [lc_mapI (f := fun f => .bl (!f.ev b)) fun f hf => ⟨_, rfl, ?_⟩]
  · simp [-List.any_eq_true, allBl_map]
    rw [lc_mapI (f := fun f => .bl (f.ev b)) fun f hf => ⟨_, rfl, ?_⟩]
    · simp [-List.any_eq_true, allBl_map, Sq.at_]
    · have e := e_ltold (S := S) hb 20 f (by have := (h.r f hf).d; omega) (h.r f hf).u
      simp [e, PV.isD, peq]
      cases f.ev b <;> rfl
  · have e := e_ltold (S := S) hb 20 f (by have := (h.l f hf).d; omega) (h.l f hf).u
    simp [e, PV.isD, peq]
    cases f.ev b <;> rfl
theorem e_lwords {S : Sto} : ∀ (n : Nat) (f : Fm), f.depth ≤ n → F__law_words n [.va f.v] S = .ok (.int f.words) S := by
  intro n
  induction n with
  | zero => intro f h; cases f <;> simp [Fm.depth] at h
  | succ n ih =>
    intro f h
    cases f with
    | l i => simp [F__law_words, m__law_words, pad, Fm.v, PV.isD, peq, Fm.words]
    | n f =>
      simp only [Fm.depth] at h
      simp [F__law_words, m__law_words, pad, Fm.v, PV.isD, areD, peq, peqs, Fm.words, ih f (by omega)]
    | a f g =>
      simp only [Fm.depth] at h
      simp [F__law_words, m__law_words, pad, Fm.v, PV.isD, areD, peq, peqs, Fm.words, ih f (by omega), ih g (by omega)]
    | o f g =>
      simp only [Fm.depth] at h
      simp [F__law_words, m__law_words, pad, Fm.v, PV.isD, areD, peq, peqs, Fm.words, ih f (by omega), ih g (by omega)]
    | t f g =>
      simp only [Fm.depth] at h
      simp [F__law_words, m__law_words, pad, Fm.v, PV.isD, areD, peq, peqs, Fm.words, ih f (by omega), ih g (by omega)]
theorem e_is {a b : Bool} {S : Sto} : F__law_is [.va (.bl a), .va (.bl b)] S = .ok (.bl (a == b)) S := by
  simp [F__law_is, m__law_is, pad, PV.isD, peq]
theorem f_draw : F__law_draw = F_draw := rfl
theorem e_draw {S : Sto} {m : Int} (h : HOk S) (hm : 0 < m) (hm2 : m < 1073741824) : ∃ d S', F__law_draw [.va (.ref 0), .va (.int m)] S = .ok (.int d) S' ∧ 0 ≤ d ∧ d < m ∧ HOk S' := by
  rw [f_draw]
  exact draw_ok h hm hm2
theorem e_anyL {S : Sto} {xs : List PV} (h : HOk S) (h1 : xs ≠ []) (h2 : xs.length < 1000000) : ∃ (j : Nat) (x : PV) (S' : Sto), xs[j]? = some x ∧ F__law_any [.va (.ref 0), .va (.lst xs)] S = .ok x S' ∧ HOk S' := by
  have hp : 0 < xs.length := List.length_pos_iff.mpr h1
  obtain ⟨d, S', e, d1, d2, h'⟩ := e_draw (m := xs.length) h (by omega) (by omega)
  obtain ⟨j, rfl⟩ := Int.eq_ofNat_of_zero_le d1
  have hj : j < xs.length := by omega
  refine ⟨j, xs[j], S', List.getElem?_eq_getElem hj, ?_, h'⟩
  simp [F__law_any, m__law_any, pad, e, hj]
/-- a formula drawn -/
theorem e_lformula : ∀ (n d m : Nat) (S : Sto), HOk S → 1 ≤ m → m ≤ 5 → d < n → ∃ (f : Fm) (S' : Sto), F__law_formula n [.va (.ref 0), .va (.int m), .va (.int d)] S = .ok f.v S' ∧ f.depth ≤ d + 1 ∧ f.under = true ∧ HOk S' := by
  intro n
  induction n with
  | zero => intro d m S _ _ _ h; omega
  | succ n ih =>
    intro d m S h m1 m5 hd
    obtain ⟨k, S1, e1, k0, h1⟩ : ∃ (k : Int) (S1 : Sto), (eIf (bCm .gt (eP 2) (eC (.int 0))) (eCall F__law_draw (gV (eV 0) (gV (eC (.int 5)) gN))) (eC (.int 0))) [.va (.ref 0), .va (.int m), .va (.int d), .no, .no, .no] S = .ok (.int k) S1 ∧ (d = 0 → k = 0) ∧ HOk S1 := by
      by_cases z : d = 0
      · subst z
        exact ⟨0, S, by simp, fun _ => rfl, h⟩
      · obtain ⟨k, S1, e, _, _, h1⟩ := e_draw (m := 5) h (by decide) (by decide)
        have : 0 < d := by omega
        exact ⟨k, S1, by simp [e, this], fun w => absurd w z, h1⟩
    simp only [F__law_formula, m__law_formula, fn_ap, pad]
    simp only [List.length_cons, List.length_nil, sSeq, sSet, List.cons_append, List.nil_append, Nat.reduceAdd, Nat.reduceSub, List.replicate, e1, Re.thn_ok, Ou.seq_nx, List.set_cons_succ, List.set_cons_zero, if_true]
    by_cases c1 : k < 2
    · obtain ⟨j, S2, e2, j0, j1, h2⟩ := e_draw (m := (m : Int)) h1 (by omega) (by omega)
      obtain ⟨i, rfl⟩ := Int.eq_ofNat_of_zero_le j0
      refine ⟨.l i, S2, ?_, by simp [Fm.depth], by simp [Fm.under]; omega, h2⟩
      simp [c1, e2, Fm.v]
    · obtain ⟨d, rfl⟩ : ∃ e, d = e + 1 := ⟨d - 1, by
        by_cases z : d = 0
        · have := k0 z; omega
        · omega⟩
      by_cases c2 : k = 2
      · subst c2
        obtain ⟨f, S2, e2, fd, fu, h2⟩ := ih d m S1 h1 m1 m5 (by omega)
        refine ⟨.n f, S2, ?_, by simp only [Fm.depth]; omega, fu, h2⟩
        simp [PV.isD, peq, e2, Fm.v]
      · obtain ⟨j, w, S2, ej, e2, h2⟩ := e_anyL (xs := [.str "and", .str "or", .str "then"]) h1 (by simp) (by simp)
        obtain ⟨f, S3, e3, fd, fu, h3⟩ := ih d m S2 h2 m1 m5 (by omega)
        obtain ⟨g, S4, e4, gd, gu, h4⟩ := ih d m S3 h3 m1 m5 (by omega)
        match j, ej with
        | 0, ej =>
          obtain rfl : w = .str "and" := by simpa using ej.symm
          refine ⟨.a f g, S4, ?_, by simp only [Fm.depth]; omega, by simp [Fm.under, fu, gu], h4⟩
          simp [c1, c2, PV.isD, peq, e2, e3, e4, Fm.v]
        | 1, ej =>
          obtain rfl : w = .str "or" := by simpa using ej.symm
          refine ⟨.o f g, S4, ?_, by simp only [Fm.depth]; omega, by simp [Fm.under, fu, gu], h4⟩
          simp [c1, c2, PV.isD, peq, e2, e3, e4, Fm.v]
        | 2, ej =>
          obtain rfl : w = .str "then" := by simpa using ej.symm
          refine ⟨.t f g, S4, ?_, by simp only [Fm.depth]; omega, by simp [Fm.under, fu, gu], h4⟩
          simp [c1, c2, PV.isD, peq, e2, e3, e4, Fm.v]
        | j + 3, ej => simp at ej
end Law81
namespace Law81
open PySem Q
variable {x0 x2 x3 x4 x5 x6 x7 x8 x9 x10 x11 x12 x13 x14 x15 x16 x17 x18 : Sl} {S : Sto}
theorem t5 (h : HOk S) : ∃ (m : Nat) (S' : Sto), m_law_5 [x0, .va (.ref 0), x2, x3, x4, x5, x6, x7, x8, x9, x10, x11, x12, x13, x14, x15, x16, x17, x18] S = .nx [x0, .va (.ref 0), x2, x3, x4, x5, .va (.int m), x7, x8, x9, x10, x11, x12, x13, x14, x15, x16, x17, x18] S' ∧ 1 ≤ m ∧ m ≤ 5 ∧ HOk S' := by
  obtain ⟨d, S', e, d0, d3, h'⟩ := e_draw (m := 3) h (by decide) (by decide)
  obtain ⟨k, rfl⟩ := Int.eq_ofNat_of_zero_le d0
  refine ⟨2 + k, S', ?_, by omega, by omega, h'⟩
  simp [m_law_5, e]
theorem lc_draw {fr : Fr} {m : Nat} (m1 : 1 ≤ m) (m5 : m ≤ 5) (f1 : fr[1]? = some (.va (.ref 0))) (f6 : fr[6]? = some (.va (.int m))) (hl : fr.length = 19) : ∀ (xs : List PV) (S : Sto), HOk S → ∃ (l : List Fm) (S' : Sto), lcGo (tN 18) bT (eCall (F__law_formula 20) (gV (eV 1) (gV (eV 6) (gV (eC (.int 3)) gN)))) fr xs S = .ok (l.map Fm.v) S' ∧ l.length = xs.length ∧ (∀ f ∈ l, Ok f) ∧ HOk S'
  | [], S, h => ⟨[], S, rfl, rfl, by simp, h⟩
  | x :: xs, S, h => by
    obtain ⟨f, S1, e1, fd, fu, h1⟩ := e_lformula 20 3 m S h m1 m5 (by decide)
    obtain ⟨l, S2, e2, ll, lo, h2⟩ := lc_draw m1 m5 f1 f6 hl xs S1 h1
    refine ⟨f :: l, S2, ?_, by simp [ll], fun g hg => ?_, h2⟩
    · rw [lcGo_con]
      have e1 : F__law_formula 20 [.va (.ref 0), .va (.int m), .va (.int 3)] S = .ok f.v S1 := e1
      have g1 : (fr.set 18 (.va x))[1]? = some (.va (.ref 0)) := by rw [List.getElem?_set_ne (by decide)]; exact f1
      have g6 : (fr.set 18 (.va x))[6]? = some (.va (.int m)) := by rw [List.getElem?_set_ne (by decide)]; exact f6
      have em : (eCall (F__law_formula 20) (gV (eV 1) (gV (eV 6) (gV (eC (.int 3)) gN)))) (fr.set 18 (.va x)) S = .ok f.v S1 := by
        simp only [eCall, gV, gN, eV_ap, eC, g1, g6, Option.bind_some, val_va, Re.of_some, Re.bind_ok]
        exact e1
      show (if true = true then ((eCall (F__law_formula 20) (gV (eV 1) (gV (eV 6) (gV (eC (.int 3)) gN)))) (fr.set 18 (.va x)) S).nox.bind (fun y S2 => (lcGo (tN 18) bT (eCall (F__law_formula 20) (gV (eV 1) (gV (eV 6) (gV (eC (.int 3)) gN)))) fr xs S2).bind fun ys S3 => Re.ok (y :: ys) S3) else lcGo (tN 18) bT (eCall (F__law_formula 20) (gV (eV 1) (gV (eV 6) (gV (eC (.int 3)) gN)))) fr xs S) = _
      rw [if_pos rfl, em, nox_ok, Re.bind_ok, e2]
      rfl
    · rcases List.mem_cons.mp hg with rfl | hg
      · exact ⟨by omega, fu⟩
      · exact lo g hg
theorem t6 {m : Nat} {xs : List PV} (h : HOk S) (m1 : 1 ≤ m) (m5 : m ≤ 5) (hx : xs.length ≤ 10) : ∃ (l : List Fm) (S' : Sto), m_law_6 [x0, .va (.ref 0), x2, x3, x4, x5, .va (.int m), .ow (.lst xs), x8, x9, x10, x11, x12, x13, x14, x15, x16, x17, x18] S = .nx [x0, .va (.ref 0), x2, x3, x4, x5, .va (.int m), .ow (.lst (xs ++ [fv l])), x8, x9, x10, x11, x12, x13, x14, x15, x16, x17, x18] S' ∧ l.length ≤ 3 ∧ (∀ f ∈ l, Ok f) ∧ HOk S' := by
  obtain ⟨d, S1, e, d0, d4, h1⟩ := e_draw (m := 4) h (by decide) (by decide)
  obtain ⟨l, S2, e2, ll, lo, h2⟩ := lc_draw (fr := [x0, .va (.ref 0), x2, x3, x4, x5, .va (.int m), .ow (.lst xs), x8, x9, x10, x11, x12, x13, x14, x15, x16, x17, .no]) m1 m5 rfl rfl rfl (rangeV 0 d.toNat) S1 h1
  have hl : l.length ≤ 3 := by
    rw [ll]
    unfold rangeV
    simp
    omega
  have c1 : d ≤ 16777216 := by omega
  have c2 : -4611686018427387904 ≤ d := by omega
  have c3 : xs.length ≤ 16777215 := by omega
  refine ⟨l, S2, ?_, hl, lo, h2⟩
  have es : (eBi bTuple (aC (eLc [18] (iRng1 (eCall F__law_draw (gV (eV 1) (gV (eC (.int 4)) gN)))) (tN 18) bT (eCall (F__law_formula 20) (gV (eV 1) (gV (eV 6) (gV (eC (.int 3)) gN))))) aN)) [x0, .va (.ref 0), x2, x3, x4, x5, .va (.int m), .ow (.lst xs), x8, x9, x10, x11, x12, x13, x14, x15, x16, x17, x18] S = .ok (fv l) S2 := by
    have ei : (iRng1 (eCall F__law_draw (gV (eV 1) (gV (eC (.int 4)) gN)))) [x0, .va (.ref 0), x2, x3, x4, x5, .va (.int m), .ow (.lst xs), x8, x9, x10, x11, x12, x13, x14, x15, x16, x17, x18] S = .ok (rangeV 0 d.toNat) S1 := by simp [e, c1, c2]
    have el : (eLc [18] (iRng1 (eCall F__law_draw (gV (eV 1) (gV (eC (.int 4)) gN)))) (tN 18) bT (eCall (F__law_formula 20) (gV (eV 1) (gV (eV 6) (gV (eC (.int 3)) gN))))) [x0, .va (.ref 0), x2, x3, x4, x5, .va (.int m), .ow (.lst xs), x8, x9, x10, x11, x12, x13, x14, x15, x16, x17, x18] S = .ok (.lst (l.map Fm.v)) S2 := by
      simp only [eLc]
      rw [ei, Re.bind_ok]
      show (lcGo _ _ _ [x0, .va (.ref 0), x2, x3, x4, x5, .va (.int m), .ow (.lst xs), x8, x9, x10, x11, x12, x13, x14, x15, x16, x17, .no] _ _).bind _ = _
      rw [e2, Re.bind_ok]
    simp only [eBi, aC, aN, el, Re.bind_ok, bTuple_l, Re.of_some, fv]
  simp only [m_law_6, sApp_ap, es, Re.thn_ok]
  simp [c3]

theorem t8 {m : Nat} {l r : List Fm} (h : HOk S) (hl : l.length ≤ 3) (hr : r.length ≤ 3) (ol : ∀ f ∈ l, Ok f) (or_ : ∀ f ∈ r, Ok f) : ∃ (r' : List Fm) (S' : Sto), m_law_8 [x0, .va (.ref 0), x2, x3, x4, x5, x6, .ow (.lst [fv l, fv r]), x8, x9, x10, x11, x12, x13, x14, x15, x16, x17, x18] S = .nx [x0, .va (.ref 0), x2, x3, x4, x5, x6, .ow (.lst [fv l, fv r']), x8, x9, x10, x11, x12, x13, x14, x15, x16, x17, x18] S' ∧ r'.length ≤ 4 ∧ (∀ f ∈ r', Ok f) ∧ HOk S' := by
  obtain ⟨d, S1, e, d0, d2, h1⟩ := e_draw (m := 2) h (by decide) (by decide)
  by_cases z : d = 0
  · subst z
    cases l with
    | nil =>
      refine ⟨r, S1, ?_, by omega, or_, h1⟩
      simp [m_law_8, e, PV.isD, peq, fv]
    | cons f l =>
      obtain ⟨j, x, S2, ej, e2, h2⟩ := e_anyL (xs := (f :: l).map Fm.v) h1 (by simp) (by simp at hl ⊢; omega)
      rw [List.getElem?_map, Option.map_eq_some_iff] at ej
      obtain ⟨g, eg, rfl⟩ := ej
      have c1 : r.length ≤ 16777215 := by omega
      refine ⟨r ++ [g], S2, ?_, by simp; omega, fun f' hf => ?_, h2⟩
      · simp only [List.map_cons] at e2
        have c0 : (0 : Int) < (l.length : Int) + 1 := by omega
        simp [m_law_8, m_law_7, e, PV.isD, peq, fv, e2, c1, c0]
      · rcases List.mem_append.mp hf with hf | hf
        · exact or_ f' hf
        · obtain rfl : f' = g := by simpa using hf
          exact ol _ (List.mem_of_getElem? eg)
  · refine ⟨r, S1, ?_, by omega, or_, h1⟩
    simp [m_law_8, e, PV.isD, peq, fv, z]
theorem t9 {l r : List Fm} : m_law_9 [x0, .va (.ref 0), x2, x3, x4, x5, x6, .ow (.lst [fv l, fv r]), x8, x9, x10, x11, x12, x13, x14, x15, x16, x17, x18] S = .nx [x0, .va (.ref 0), x2, x3, x4, x5, x6, .ow (.lst [fv l, fv r]), x8, .va (Sq.v ⟨l, r⟩), x10, x11, x12, x13, x14, x15, x16, x17, x18] S := by
  simp [m_law_9, Sq.v]
/-- the rows at which it fails -/
def bads (s : Sq) : List (List Bool) := (bits 5).filter fun b => !s.at_ b
theorem bads_fail (s : Sq) : s.fail = (bads s).head? := by
  unfold bads Sq.fail
  rw [List.head?_filter]
theorem t10 {l r : List Fm} {s : Sq} (ok : SOk s) : m_law_10 [x0, .va (.ref 0), x2, x3, x4, x5, x6, .ow (.lst [fv l, fv r]), x8, .va s.v, x10, x11, x12, x13, x14, x15, x16, x17, x18] S = .nx [x0, .va (.ref 0), x2, x3, x4, x5, x6, .ow (.lst [fv l, fv r]), x8, .va s.v, .va (.lst ((bads s).map rv)), x11, x12, x13, x14, x15, x16, x17, x18] S := by
  simp [m_law_10, e_lrows]
  rw [lc_filtI (p := fun b => !s.at_ b) (f := rv) fun b hb => ⟨_, rfl, by simp [e_lholds ok (bits_len 5 b hb)], fun _ => by simp⟩]
  simp [bads]
end Law81
namespace Law81
open PySem Q
variable {x0 x2 x3 x4 x5 x6 x7 x8 x9 x10 x11 x12 x13 x14 x15 x16 x17 x18 : Sl} {S : Sto}
/-- it holds everywhere: the proof -/
theorem t11v {s : Sq} {p : PV} (h : SqOk s) (hf : s.fail = none) (hp : Pf 20 s p) : m_law_11 [x0, .va (.ref 0), x2, x3, x4, x5, x6, x7, x8, .va s.v, .va (.lst []), .va (.tup [.str "proof", p]), x12, x13, x14, x15, x16, x17, x18] S = .nx [x0, .va (.ref 0), x2, x3, x4, x5, x6, x7, x8, .va s.v, .va (.lst []), .va (.tup [.str "proof", p]), x12, x13, x14, x15, x16, x17, x18] S := by
  have e := e_isp (S := S) h hp.d (by have := h.w; unfold Sq.W; omega)
  have z := hp.p
  simp [m_law_11, e_holdsF h, hf, e_is, e, z, PV.isD, peq]
theorem t11r {s : Sq} {b : List Bool} {bs : List (List Bool)} (h : SqOk s) (hf : s.fail = some b) : m_law_11 [x0, .va (.ref 0), x2, x3, x4, x5, x6, x7, x8, .va s.v, .va (.lst ((b :: bs).map rv)), .va (.tup [.str "row", rv b]), x12, x13, x14, x15, x16, x17, x18] S = .nx [x0, .va (.ref 0), x2, x3, x4, x5, x6, x7, x8, .va s.v, .va (.lst ((b :: bs).map rv)), .va (.tup [.str "row", rv b]), x12, x13, x14, x15, x16, x17, x18] S := by
  obtain ⟨hb, ha⟩ := valid_fail hf
  have e := e_isp_row (S := S) h (bits_len 5 b hb)
  have c0 : ¬ ((bs.length : Int) + 1 = 0) := by omega
  simp [m_law_11, e_holdsF h, hf, e_is, e, ha, PV.isD, peq, c0]
theorem isD_rv (b : List Bool) (d : Nat) : (rv b).isD (d + 1) = true := by
  simp only [rv, PV.isD]
  exact areD_of fun p hp => by
    obtain ⟨x, _, rfl⟩ := List.mem_map.mp hp
    simp [PV.isD]
theorem peqs_ints (b c : List Bool) : peqs (b.map fun x => PV.int (bi x)) (c.map fun x => PV.int (bi x)) = decide (b = c) := by
  induction b generalizing c with
  | nil => cases c <;> simp [peqs]
  | cons x b ih =>
    cases c with
    | nil => simp [peqs]
    | cons y c => cases x <;> cases y <;> simp [peqs, peq, ih]
theorem peq_rv (b c : List Bool) : peq (rv b) (rv c) = decide (b = c) := by
  simp only [rv, peq]
  exact peqs_ints b c
theorem t12v {s : Sq} {t : PV} : m_law_12 [x0, .va (.ref 0), x2, x3, x4, x5, x6, x7, x8, .va s.v, .va (.lst []), .va t, x12, x13, x14, x15, x16, x17, x18] S = .nx [x0, .va (.ref 0), x2, x3, x4, x5, x6, x7, x8, .va s.v, .va (.lst []), .va t, x12, x13, x14, x15, x16, x17, x18] S := by
  simp [m_law_12]
theorem t12r {s : Sq} {b : List Bool} {bs : List (List Bool)} : m_law_12 [x0, .va (.ref 0), x2, x3, x4, x5, x6, x7, x8, .va s.v, .va (.lst ((b :: bs).map rv)), .va (.tup [.str "row", rv b]), x12, x13, x14, x15, x16, x17, x18] S = .nx [x0, .va (.ref 0), x2, x3, x4, x5, x6, x7, x8, .va s.v, .va (.lst ((b :: bs).map rv)), .va (.tup [.str "row", rv b]), x12, x13, x14, x15, x16, x17, x18] S := by
  have c0 : (0 : Int) < (bs.length : Int) + 1 := by omega
  simp [m_law_12, c0, PV.isD, areD, isD_rv, peq, peqs, peq_rv]
theorem t18r {s : Sq} {b : List Bool} {bs : List (List Bool)} {t : PV} : m_law_18 [x0, .va (.ref 0), x2, x3, x4, x5, x6, x7, x8, .va s.v, .va (.lst ((b :: bs).map rv)), .va t, x12, x13, x14, x15, x16, x17, x18] S = .nx [x0, .va (.ref 0), x2, x3, x4, x5, x6, x7, x8, .va s.v, .va (.lst ((b :: bs).map rv)), .va t, x12, x13, x14, x15, x16, x17, x18] S := by
  have c0 : ¬ ((bs.length : Int) + 1 = 0) := by omega
  simp [m_law_18, PV.isD, peq, c0]
theorem t19 (h : HOk S) : ∃ (b : List Bool) (S' : Sto), m_law_19 [x0, .va (.ref 0), x2, x3, x4, x5, x6, x7, x8, x9, x10, x11, x12, x13, x14, x15, x16, x17, x18] S = .nx [x0, .va (.ref 0), x2, x3, x4, x5, x6, x7, x8, x9, x10, x11, .va (rv b), x13, x14, x15, x16, x17, x18] S' ∧ b.length = 5 ∧ HOk S' := by
  obtain ⟨j, x, S', ej, e, h'⟩ := e_anyL (xs := (bits 5).map rv) h (by decide) (by decide)
  rw [List.getElem?_map, Option.map_eq_some_iff] at ej
  obtain ⟨b, eb, rfl⟩ := ej
  exact ⟨b, S', by simp [m_law_19, e_lrows, e], bits_len 5 b (List.mem_of_getElem? eb), h'⟩
theorem t20 {s : Sq} {b : List Bool} (h : SqOk s) (hb : b.length = 5) : m_law_20 [x0, .va (.ref 0), x2, x3, x4, x5, x6, x7, x8, .va s.v, x10, x11, .va (rv b), x13, x14, x15, x16, x17, x18] S = .nx [x0, .va (.ref 0), x2, x3, x4, x5, x6, x7, x8, .va s.v, x10, x11, .va (rv b), x13, x14, x15, x16, x17, x18] S := by
  simp [m_law_20, e_isp_row h hb, e_lholds h.ok hb, e_is]
theorem t23 {l r : List Fm} (ol : ∀ f ∈ l, Ok f) (h8 : l.length ≤ 8) : ∃ y16, m_law_23 [x0, .va (.ref 0), x2, x3, x4, x5, x6, .ow (.lst [fv l, fv r]), x8, x9, x10, x11, x12, x13, x14, x15, x16, x17, x18] S = .nx [x0, .va (.ref 0), x2, x3, x4, x5, x6, .ow (.lst [fv l, fv r]), x8, x9, x10, x11, x12, x13, x14, x15, y16, x17, x18] S := by
  cases l with
  | nil => exact ⟨x16, by simp [m_law_23, fv]⟩
  | cons f l =>
    have e21 : m_law_21 [x0, .va (.ref 0), x2, x3, x4, x5, x6, .ow (.lst [fv (f :: l), fv r]), x8, x9, x10, x11, x12, x13, x14, x15, x16, x17, x18] S = .nx [x0, .va (.ref 0), x2, x3, x4, x5, x6, .ow (.lst [fv (f :: l), fv r]), x8, x9, x10, x11, x12, x13, x14, x15, .va (.lst (((bits 5).filter (allAt (f :: l))).map rv)), x17, x18] S := by
      simp only [m_law_21, sSet, eLc, iSeq, eCall, gV, gN, eC, Re.bind_ok, e_lrows, items_lst, Re.of_some]
      rw [lc_filtI (p := allAt (f :: l)) (f := rv) fun b hb => ⟨_, rfl, by
        simp [-List.all_eq_true, -List.map_cons, fv]
        rw [lc_mapI (f := fun f => .bl (f.ev b)) fun g hg => ⟨_, rfl, by
          have e := e_ltold (S := S) (bits_len 5 b hb) 20 g (by have := (ol g hg).d; omega) (ol g hg).u
          simp [e, PV.isD, peq]
          cases g.ev b <;> rfl⟩]
        simp [-List.all_eq_true, -List.map_cons, allBl_map, allAt], fun _ => by simp⟩]
      simp
    refine ⟨.va (.lst (((bits 5).filter (allAt (f :: l))).map rv)), ?_⟩
    have e22 : m_law_22 [x0, .va (.ref 0), x2, x3, x4, x5, x6, .ow (.lst [fv (f :: l), fv r]), x8, x9, x10, x11, x12, x13, x14, x15, .va (.lst (((bits 5).filter (allAt (f :: l))).map rv)), x17, x18] S = .nx [x0, .va (.ref 0), x2, x3, x4, x5, x6, .ow (.lst [fv (f :: l), fv r]), x8, x9, x10, x11, x12, x13, x14, x15, .va (.lst (((bits 5).filter (allAt (f :: l))).map rv)), x17, x18] S := by
      have e := e_all (S := S) ol (by simp) h8
      rw [← List.head?_filter] at e
      cases hG : (bits 5).filter (allAt (f :: l)) with
      | nil =>
        rw [hG] at e
        simp [m_law_22, e, PV.isD, peq]
      | cons b bs =>
        rw [hG] at e
        have c0 : (0 : Int) < (bs.length : Int) + 1 := by omega
        simp [m_law_22, e, c0, isD_rv, peq_rv]
    have c0 : (0 : Int) < (l.length : Int) + 1 := by omega
    have ec : (bCm .gt (eBi bLen (aC (eIx (eP 7) (eC (.int 0))) aN)) (eC (.int 0))) [x0, .va (.ref 0), x2, x3, x4, x5, x6, .ow (.lst [fv (f :: l), fv r]), x8, x9, x10, x11, x12, x13, x14, x15, x16, x17, x18] S = .ok true S := by simp [fv, c0]
    simp only [m_law_23, sIf, ec, Re.thn_ok, if_true, sSeq, e21, e22, Ou.seq_nx, sNil]
theorem areD_take {l : List PV} {d n : Nat} (h : areD d l = true) : areD d (l.take n) = true := areD_of fun p hp => areD_mem h p (List.mem_of_mem_take hp)
theorem areD_drop {l : List PV} {d n : Nat} (h : areD d l = true) : areD d (l.drop n) = true := areD_of fun p hp => areD_mem h p (List.mem_of_mem_drop hp)
theorem areD_app {l r : List PV} {d : Nat} (h : areD d l = true) (h' : areD d r = true) : areD d (l ++ r) = true := areD_of fun p hp => (List.mem_append.mp hp).elim (areD_mem h p) (areD_mem h' p)
/-- the things that are tried -/
def things (w : Str) (x : Int) (r : List PV) : List PV :=
  [.tup (.str w :: .int x :: r).dropLast, .tup ((.str w :: .int x :: r) ++ (.str w :: .int x :: r : List PV).drop ((.str w :: .int x :: r : List PV).length - 1)), .lst (.str w :: .int x :: r), .tup [.str "same", .int 0, .int 0], .non, .tup [.str "left", .int 0, .tup (.str w :: .int x :: r)],
   .tup (.str w :: .int (x + 1) :: r), .tup [.str "right", .int 0, .tup (.str w :: .int x :: r)]]
theorem things_d {w : Str} {x : Int} {r : List PV} (h : (PV.tup (.str w :: .int x :: r)).isD 13 = true) (hw : PyData.canLay0 (.str w) = true) : ∀ t ∈ things w x r, t.isD 14 = true := by
  have h12 : areD 12 (.str w :: .int x :: r) = true := h
  have h13 : areD 13 (.str w :: .int x :: r) = true := areD_up h12 (by decide)
  have hr : areD 13 r = true := by
    simp only [areD, Bool.and_eq_true] at h13
    exact h13.2.2
  intro t ht
  simp only [things, List.mem_cons, List.not_mem_nil, or_false] at ht
  rcases ht with rfl | rfl | rfl | rfl | rfl | rfl | rfl | rfl
  · show areD 13 _ = true
    rw [List.dropLast_eq_take]
    exact areD_take h13
  · exact areD_app h13 (areD_drop h13)
  · exact h13
  · simp [PV.isD, areD]
  · simp [PV.isD]
  · show areD 13 _ = true
    simp only [areD, Bool.and_eq_true]
    exact ⟨by simp [PV.isD], by simp [PV.isD], h, trivial⟩
  · show areD 13 _ = true
    simp only [areD, Bool.and_eq_true]
    exact ⟨by simpa [PV.isD] using hw, by simp [PV.isD], hr⟩
  · show areD 13 _ = true
    simp only [areD, Bool.and_eq_true]
    exact ⟨by simp [PV.isD], by simp [PV.isD], h, trivial⟩
theorem t18v {s : Sq} {p : PV} (h : HOk S) (q : SqOk s) (hp : Pf 20 s p) : ∃ y13 y14 y15 S', m_law_18 [x0, .va (.ref 0), x2, x3, x4, x5, x6, x7, x8, .va s.v, .va (.lst []), .va (.tup [.str "proof", p]), x12, x13, x14, x15, x16, x17, x18] S = .nx [x0, .va (.ref 0), x2, x3, x4, x5, x6, x7, x8, .va s.v, .va (.lst []), .va (.tup [.str "proof", p]), x12, y13, y14, y15, x16, x17, x18] S' ∧ HOk S' := by
  have hW : s.W + 1 ≤ 13 := by have := q.w; unfold Sq.W; omega
  have d13 : p.isD 13 = true := isD_up hp.d hW
  have e13 : m_law_13 [x0, .va (.ref 0), x2, x3, x4, x5, x6, x7, x8, .va s.v, .va (.lst []), .va (.tup [.str "proof", p]), x12, x13, x14, x15, x16, x17, x18] S = .nx [x0, .va (.ref 0), x2, x3, x4, x5, x6, x7, x8, .va s.v, .va (.lst []), .va (.tup [.str "proof", p]), x12, x13, x14, x15, x16, x17, x18] S := by
    have e1 := e_psize (S := S) q d13 (by decide) hp.p
    have e2 := e_lsteps (S := S) 20 s p 13 q.ok (by have := q.l8; omega) (by have := q.r8; omega) d13 (by decide) (by decide)
    simp [m_law_13, PV.isD, peq, e1, e2]
  obtain ⟨w, x, r, rfl, r1, r2, hw⟩ := hp.f
  have e14 : ∀ y14, m_law_14 [x0, .va (.ref 0), x2, x3, x4, x5, x6, x7, x8, .va s.v, .va (.lst []), .va (.tup [.str "proof", .tup (.str w :: .int x :: r)]), x12, .va (.tup (.str w :: .int x :: r)), y14, x15, x16, x17, x18] S = .nx [x0, .va (.ref 0), x2, x3, x4, x5, x6, x7, x8, .va s.v, .va (.lst []), .va (.tup [.str "proof", .tup (.str w :: .int x :: r)]), x12, .va (.tup (.str w :: .int x :: r)), .va (.lst ((things w x r).take 6)), x15, x16, x17, x18] S := fun y14 => by
    match r, r1, r2 with
    | [a], _, _ => simp [m_law_14, things]
    | [a, b], _, _ => simp [m_law_14, things]
  have e15 : m_law_15 [x0, .va (.ref 0), x2, x3, x4, x5, x6, x7, x8, .va s.v, .va (.lst []), .va (.tup [.str "proof", .tup (.str w :: .int x :: r)]), x12, .va (.tup (.str w :: .int x :: r)), .va (.lst ((things w x r).take 6)), x15, x16, x17, x18] S = .nx [x0, .va (.ref 0), x2, x3, x4, x5, x6, x7, x8, .va s.v, .va (.lst []), .va (.tup [.str "proof", .tup (.str w :: .int x :: r)]), x12, .va (.tup (.str w :: .int x :: r)), .va (.lst (things w x r)), x15, x16, x17, x18] S := by
    match r, r1, r2 with
    | [a], _, _ => simp [m_law_15, things]
    | [a, b], _, _ => simp [m_law_15, things]
  obtain ⟨j, t, S', ej, e16, h'⟩ := e_anyL (xs := things w x r) h (by simp [things]) (by simp [things])
  have dt : t.isD 14 = true := things_d d13 hw t (List.mem_of_getElem? ej)
  have e17 : m_law_17 [x0, .va (.ref 0), x2, x3, x4, x5, x6, x7, x8, .va s.v, .va (.lst []), .va (.tup [.str "proof", .tup (.str w :: .int x :: r)]), x12, .va (.tup (.str w :: .int x :: r)), .va (.lst (things w x r)), .va (.tup [.str "proof", t]), x16, x17, x18] S' = .nx [x0, .va (.ref 0), x2, x3, x4, x5, x6, x7, x8, .va s.v, .va (.lst []), .va (.tup [.str "proof", .tup (.str w :: .int x :: r)]), x12, .va (.tup (.str w :: .int x :: r)), .va (.lst (things w x r)), .va (.tup [.str "proof", t]), x16, x17, x18] S' := by
    have e1 := e_isp (S := S') q dt (by decide)
    have e2 := e_lsteps (S := S') 20 s t 14 q.ok (by have := q.l8; omega) (by have := q.r8; omega) dt (by decide) (by decide)
    have e3 : (decide (0 < stp 20 s t) == decide ((0 : Int) < (stp 20 s t : Int))) = true := by
      by_cases z : 0 < stp 20 s t <;> simp [z]
    simp only [m_law_17, sIf, bNot, bE_ap, eCall, gV, gN, eV_ap, eB, bCm, eC, eIx, eP_ap, Re.bind_ok, Re.of_some, List.getElem?_cons_succ, List.getElem?_cons_zero, Option.bind_some, val_va, peek_va, e1, at_tup, ixV_1, e2, Cm.on, cmI_int, e_is, e3]
    simp [e3, e_is]
  refine ⟨.va (.tup (.str w :: .int x :: r)), .va (.lst (things w x r)), .va (.tup [.str "proof", t]), S', ?_, h'⟩
  · have ec : (bCm .eq (eBi bLen (aC (eP 10) aN)) (eC (.int 0))) [x0, .va (.ref 0), x2, x3, x4, x5, x6, x7, x8, .va s.v, .va (.lst []), .va (.tup [.str "proof", .tup (.str w :: .int x :: r)]), x12, x13, x14, x15, x16, x17, x18] S = .ok true S := by simp [PV.isD, peq]
    have es : m_law_16 [x0, .va (.ref 0), x2, x3, x4, x5, x6, x7, x8, .va s.v, .va (.lst []), .va (.tup [.str "proof", .tup (.str w :: .int x :: r)]), x12, .va (.tup (.str w :: .int x :: r)), .va (.lst (things w x r)), x15, x16, x17, x18] S = .nx [x0, .va (.ref 0), x2, x3, x4, x5, x6, x7, x8, .va s.v, .va (.lst []), .va (.tup [.str "proof", .tup (.str w :: .int x :: r)]), x12, .va (.tup (.str w :: .int x :: r)), .va (.lst (things w x r)), .va (.tup [.str "proof", t]), x16, x17, x18] S' := by
      simp [m_law_16, e16]
    have e0 : (sSet 13 (eIx (eP 11) (eC (.int 1)))) [x0, .va (.ref 0), x2, x3, x4, x5, x6, x7, x8, .va s.v, .va (.lst []), .va (.tup [.str "proof", .tup (.str w :: .int x :: r)]), x12, x13, x14, x15, x16, x17, x18] S = .nx [x0, .va (.ref 0), x2, x3, x4, x5, x6, x7, x8, .va s.v, .va (.lst []), .va (.tup [.str "proof", .tup (.str w :: .int x :: r)]), x12, .va (.tup (.str w :: .int x :: r)), x14, x15, x16, x17, x18] S := by simp
    unfold m_law_18 sIf
    rw [ec]
    simp only [Re.thn_ok, if_true]
    unfold sSeq
    rw [e13, Ou.seq_nx]
    rw [e0, Ou.seq_nx, e14, Ou.seq_nx, e15, Ou.seq_nx, es, Ou.seq_nx, e17]
    rfl
/-- the turn's last part -/
theorem t24 {l r : List Fm} (h : HOk S) (hl : l.length ≤ 3) (hr : r.length ≤ 4) (ol : ∀ f ∈ l, Ok f) (or_ : ∀ f ∈ r, Ok f) : ∃ fr' S', m_law_24 [x0, .va (.ref 0), x2, x3, x4, x5, x6, .ow (.lst [fv l, fv r]), x8, .va (Sq.v ⟨l, r⟩), x10, x11, x12, x13, x14, x15, x16, x17, x18] S = .nx fr' S' ∧ fr'.length = 19 ∧ fr'[1]? = some (.va (.ref 0)) ∧ HOk S' := by
  have ec : (bCm .lt (eBi bSum (aC (eLc [17] (iSeq (eOp .add (eIx (eP 7) (eC (.int 0))) (eIx (eP 7) (eC (.int 1))))) (tN 17) bT (eCall (F__law_words 20) (gV (eV 17) gN))) aN)) (eC (.int 13))) [x0, .va (.ref 0), x2, x3, x4, x5, x6, .ow (.lst [fv l, fv r]), x8, .va (Sq.v ⟨l, r⟩), x10, x11, x12, x13, x14, x15, x16, x17, x18] S = .ok (decide (wordsL l + wordsL r < 13)) S := by
    have c1 : l.length + r.length ≤ 16777216 := by omega
    simp [fv, c1]
    rw [← List.map_append, lc_mapI (f := fun f => .int f.words) fun f hf => ⟨_, rfl, by
      have hf : Ok f := (List.mem_append.mp hf).elim (ol f) (or_ f)
      simp [e_lwords (S := S) 20 f (by have := hf.d; omega)]⟩]
    simp [-List.map_append, allInt_map, sum_words, wordsL_app]
    omega
  unfold m_law_24 sIf
  rw [ec, Re.thn_ok]
  by_cases z : wordsL l + wordsL r < 13
  · rw [if_pos (by simp [z])]
    have q : SqOk ⟨l, r⟩ := ⟨⟨ol, or_⟩, by show l.length ≤ 8; omega, by show r.length ≤ 8; omega, by show wordsL l + wordsL r ≤ 12; omega⟩
    unfold sSeq
    rw [t10 q.ok, Ou.seq_nx]
    obtain ⟨t, et, ht⟩ := e_proved (S := S) q
    have e11 : (sSet 11 (eCall F_proved (gV (eV 9) gN))) [x0, .va (.ref 0), x2, x3, x4, x5, x6, .ow (.lst [fv l, fv r]), x8, .va (Sq.v ⟨l, r⟩), .va (.lst ((bads ⟨l, r⟩).map rv)), x11, x12, x13, x14, x15, x16, x17, x18] S = .nx [x0, .va (.ref 0), x2, x3, x4, x5, x6, .ow (.lst [fv l, fv r]), x8, .va (Sq.v ⟨l, r⟩), .va (.lst ((bads ⟨l, r⟩).map rv)), .va t, x12, x13, x14, x15, x16, x17, x18] S := by simp [et]
    rw [e11, Ou.seq_nx]
    rcases ht with ⟨hf, p, rfl, hp⟩ | ⟨b, hf, rfl⟩
    · have hb : bads ⟨l, r⟩ = [] := by
        have := bads_fail ⟨l, r⟩
        rw [hf] at this
        exact List.head?_eq_none_iff.mp this.symm
      rw [hb, List.map_nil, t11v q hf hp, Ou.seq_nx, t12v, Ou.seq_nx]
      obtain ⟨y13, y14, y15, S1, e18, h1⟩ := t18v (x0 := x0) (x2 := x2) (x3 := x3) (x4 := x4) (x5 := x5) (x6 := x6) (x7 := .ow (.lst [fv l, fv r])) (x8 := x8) (x12 := x12) (x13 := x13) (x14 := x14) (x15 := x15) (x16 := x16) (x17 := x17) (x18 := x18) h q hp
      rw [e18, Ou.seq_nx]
      obtain ⟨b, S2, e19, lb, h2⟩ := t19 (x0 := x0) (x2 := x2) (x3 := x3) (x4 := x4) (x5 := x5) (x6 := x6) (x7 := .ow (.lst [fv l, fv r])) (x8 := x8) (x9 := .va (Sq.v ⟨l, r⟩)) (x10 := .va (.lst [])) (x11 := .va (.tup [.str "proof", p])) (x12 := x12) (x13 := y13) (x14 := y14) (x15 := y15) (x16 := x16) (x17 := x17) (x18 := x18) h1
      rw [e19, Ou.seq_nx, t20 q lb, Ou.seq_nx]
      obtain ⟨y16, e23⟩ := t23 (S := S2) (x0 := x0) (x2 := x2) (x3 := x3) (x4 := x4) (x5 := x5) (x6 := x6) (x8 := x8) (x9 := .va (Sq.v ⟨l, r⟩)) (x10 := .va (.lst [])) (x11 := .va (.tup [.str "proof", p])) (x12 := .va (rv b)) (x13 := y13) (x14 := y14) (x15 := y15) (x16 := x16) (x17 := x17) (x18 := x18) (r := r) ol (by omega)
      rw [e23, Ou.seq_nx]
      exact ⟨_, _, rfl, rfl, rfl, h2⟩
    · obtain ⟨bs, hb⟩ : ∃ bs, bads ⟨l, r⟩ = b :: bs := by
        have := bads_fail ⟨l, r⟩
        rw [hf] at this
        cases e : bads ⟨l, r⟩ with
        | nil => rw [e] at this; exact nomatch this
        | cons c cs =>
          rw [e] at this
          cases this
          exact ⟨cs, rfl⟩
      rw [hb, t11r q hf, Ou.seq_nx, t12r, Ou.seq_nx, t18r, Ou.seq_nx]
      obtain ⟨c, S2, e19, lb, h2⟩ := t19 (x0 := x0) (x2 := x2) (x3 := x3) (x4 := x4) (x5 := x5) (x6 := x6) (x7 := .ow (.lst [fv l, fv r])) (x8 := x8) (x9 := .va (Sq.v ⟨l, r⟩)) (x10 := .va (.lst ((b :: bs).map rv))) (x11 := .va (.tup [.str "row", rv b])) (x12 := x12) (x13 := x13) (x14 := x14) (x15 := x15) (x16 := x16) (x17 := x17) (x18 := x18) h
      rw [e19, Ou.seq_nx, t20 q lb, Ou.seq_nx]
      obtain ⟨y16, e23⟩ := t23 (S := S2) (x0 := x0) (x2 := x2) (x3 := x3) (x4 := x4) (x5 := x5) (x6 := x6) (x8 := x8) (x9 := .va (Sq.v ⟨l, r⟩)) (x10 := .va (.lst ((b :: bs).map rv))) (x11 := .va (.tup [.str "row", rv b])) (x12 := .va (rv c)) (x13 := x13) (x14 := x14) (x15 := x15) (x16 := x16) (x17 := x17) (x18 := x18) (r := r) ol (by omega)
      rw [e23, Ou.seq_nx]
      exact ⟨_, _, rfl, rfl, rfl, h2⟩
  · rw [if_neg (by simp [z])]
    exact ⟨_, _, rfl, rfl, rfl, h⟩
end Law81
namespace Law81
open PySem Q
theorem fr19 {fr : Fr} (h : fr.length = 19) (h1 : fr[1]? = some (.va (.ref 0))) : ∃ x0 x2 x3 x4 x5 x6 x7 x8 x9 x10 x11 x12 x13 x14 x15 x16 x17 x18, fr = [x0, .va (.ref 0), x2, x3, x4, x5, x6, x7, x8, x9, x10, x11, x12, x13, x14, x15, x16, x17, x18] := by
  match fr, h, h1 with
  | [x0, x1, x2, x3, x4, x5, x6, x7, x8, x9, x10, x11, x12, x13, x14, x15, x16, x17, x18], _, h1 =>
    obtain rfl : x1 = .va (.ref 0) := by simpa using h1
    exact ⟨x0, x2, x3, x4, x5, x6, x7, x8, x9, x10, x11, x12, x13, x14, x15, x16, x17, x18, rfl⟩
theorem seq_ap {a b : SS} {fr : Fr} {S : Sto} : sSeq a b fr S = (a fr S).seq b := rfl
theorem for_ap {it : SI} {tg : TgS} {b : SS} {fr : Fr} {S : Sto} : sFor it tg b fr S = (it fr S).thn fun xs S1 => forGo tg b xs fr S1 := rfl
theorem turn_ok {fr : Fr} {S : Sto} (hl : fr.length = 19) (h1 : fr[1]? = some (.va (.ref 0))) (h : HOk S) : ∃ fr' S', (sSeq m_law_5 (sSeq (sOwn 7 (eLst aN)) (sSeq (sFor (iRng1 (eC (.int 2))) (tN 8) (sSeq m_law_6 sNil)) (sSeq m_law_8 (sSeq m_law_9 (sSeq m_law_24 sNil)))))) fr S = .nx fr' S' ∧ fr'.length = 19 ∧ fr'[1]? = some (.va (.ref 0)) ∧ HOk S' := by
  obtain ⟨x0, x2, x3, x4, x5, x6, x7, x8, x9, x10, x11, x12, x13, x14, x15, x16, x17, x18, rfl⟩ := fr19 hl h1
  obtain ⟨m, S1, e5, m1, m5, h1⟩ := t5 (x0 := x0) (x2 := x2) (x3 := x3) (x4 := x4) (x5 := x5) (x6 := x6) (x7 := x7) (x8 := x8) (x9 := x9) (x10 := x10) (x11 := x11) (x12 := x12) (x13 := x13) (x14 := x14) (x15 := x15) (x16 := x16) (x17 := x17) (x18 := x18) h
  obtain ⟨l, S2, e6, l3, ol, h2⟩ := t6 (x0 := x0) (x2 := x2) (x3 := x3) (x4 := x4) (x5 := x5) (x8 := .va (.int 0)) (x9 := x9) (x10 := x10) (x11 := x11) (x12 := x12) (x13 := x13) (x14 := x14) (x15 := x15) (x16 := x16) (x17 := x17) (x18 := x18) (xs := []) h1 m1 m5 (by decide)
  obtain ⟨r, S3, e7, r3, or_, h3⟩ := t6 (x0 := x0) (x2 := x2) (x3 := x3) (x4 := x4) (x5 := x5) (x8 := .va (.int 1)) (x9 := x9) (x10 := x10) (x11 := x11) (x12 := x12) (x13 := x13) (x14 := x14) (x15 := x15) (x16 := x16) (x17 := x17) (x18 := x18) (xs := [fv l]) h2 m1 m5 (by simp)
  obtain ⟨r', S4, e8, r4, or', h4⟩ := t8 (x0 := x0) (x2 := x2) (x3 := x3) (x4 := x4) (x5 := x5) (x6 := .va (.int m)) (x8 := .va (.int 1)) (x9 := x9) (x10 := x10) (x11 := x11) (x12 := x12) (x13 := x13) (x14 := x14) (x15 := x15) (x16 := x16) (x17 := x17) (x18 := x18) (m := m) h3 l3 r3 ol or_
  obtain ⟨fr', S5, e24, a, b, h5⟩ := t24 (x0 := x0) (x2 := x2) (x3 := x3) (x4 := x4) (x5 := x5) (x6 := .va (.int m)) (x8 := .va (.int 1)) (x10 := x10) (x11 := x11) (x12 := x12) (x13 := x13) (x14 := x14) (x15 := x15) (x16 := x16) (x17 := x17) (x18 := x18) h4 l3 r4 ol or'
  refine ⟨fr', S5, ?_, a, b, h5⟩
  have eo : (sOwn 7 (eLst aN)) [x0, .va (.ref 0), x2, x3, x4, x5, .va (.int m), x7, x8, x9, x10, x11, x12, x13, x14, x15, x16, x17, x18] S1 = .nx [x0, .va (.ref 0), x2, x3, x4, x5, .va (.int m), .ow (.lst []), x8, x9, x10, x11, x12, x13, x14, x15, x16, x17, x18] S1 := by simp
  have ef : (sFor (iRng1 (eC (.int 2))) (tN 8) (sSeq m_law_6 sNil)) [x0, .va (.ref 0), x2, x3, x4, x5, .va (.int m), .ow (.lst []), x8, x9, x10, x11, x12, x13, x14, x15, x16, x17, x18] S1 = .nx [x0, .va (.ref 0), x2, x3, x4, x5, .va (.int m), .ow (.lst [fv l, fv r]), .va (.int 1), x9, x10, x11, x12, x13, x14, x15, x16, x17, x18] S3 := by
    have er : rangeV 0 2 = [.int 0, .int 1] := rfl
    simp only [List.nil_append, List.cons_append] at e6 e7
    simp [er, e6, e7]
  rw [seq_ap, e5, Ou.seq_nx, seq_ap, eo, Ou.seq_nx, seq_ap, ef, Ou.seq_nx, seq_ap, e8, Ou.seq_nx, seq_ap, t9, Ou.seq_nx, seq_ap, e24]
  rfl
theorem knownOk : SqOk ⟨[.t (.l 0) (.l 1), .l 0], [.l 1]⟩ := ⟨⟨fun f hf => by simp at hf; rcases hf with rfl | rfl <;> exact ⟨by decide, by decide⟩, fun f hf => by simp at hf; subst hf; exact ⟨by decide, by decide⟩⟩, by decide, by decide, by decide⟩
theorem abOk : SqOk ⟨[.l 0], [.l 1]⟩ := ⟨⟨fun f hf => by simp at hf; subst hf; exact ⟨by decide, by decide⟩, fun f hf => by simp at hf; subst hf; exact ⟨by decide, by decide⟩⟩, by decide, by decide, by decide⟩
theorem plain : ∀ ns : List Int, ns.length ≤ 63 → ∃ S', m_law (fr0 19 1) [hand0 (fun (n : Nat) => 7 + (n : Int)) ns] = .rt (.bl true) S' := by
  intro ns _
  have h0 : HOk [hand0 (fun (n : Nat) => 7 + (n : Int)) ns] := by
    have := hand_ok0 (fun (n : Nat) => 7 + (n : Int)) ns
    simpa [hand0, absI, List.map_map, Function.comp_def] using this
  generalize [hand0 (fun (n : Nat) => 7 + (n : Int)) ns] = S at h0
  let va : PV := .tup [.str "letter", .int 0]
  let vb : PV := .tup [.str "letter", .int 1]
  let vk : PV := .tup [.tup [.tup [.str "then", va, vb], va], .tup [vb]]
  have ek : F_holds [.va vk] S = .ok (.bl true) S := by
    have e := e_holdsF (S := S) knownOk
    have f : Sq.fail ⟨[.t (.l 0) (.l 1), .l 0], [.l 1]⟩ = none := by decide
    rw [f] at e
    exact e
  have f2 : Sq.fail ⟨[.l 0], [.l 1]⟩ = some [true, false, false, false, false] := by decide
  have eab : F_holds [.va (.tup [.tup [va], .tup [vb]])] S = .ok (.bl false) S := by
    have e := e_holdsF (S := S) abOk
    rw [f2] at e
    exact e
  have ep : F_proved [.va (.tup [.tup [va], .tup [vb]])] S = .ok (.tup [.str "row", .tup [.int 1, .int 0, .int 0, .int 0, .int 0]]) S := by
    obtain ⟨t, e, h⟩ := e_proved (S := S) abOk
    rcases h with ⟨f, _⟩ | ⟨b, f, rfl⟩
    · rw [f2] at f; exact nomatch f
    · rw [f2] at f
      cases f
      exact e
  have e1 : m_law_1 (fr0 19 1) S = .nx [.no, .va (.ref 0), .no, .no, .va va, .va vb, .no, .no, .no, .no, .no, .no, .no, .no, .no, .no, .no, .no, .no] S := by
    simp [m_law_1, fr0, va, vb, List.replicate]
  have e2 : m_law_2 [.no, .va (.ref 0), .no, .no, .va va, .va vb, .no, .no, .no, .no, .no, .no, .no, .no, .no, .no, .no, .no, .no] S = .nx [.no, .va (.ref 0), .va vk, .no, .va va, .va vb, .no, .no, .no, .no, .no, .no, .no, .no, .no, .no, .no, .no, .no] S := by
    simp [m_law_2, vk]
  have e3 : m_law_3 [.no, .va (.ref 0), .va vk, .no, .va va, .va vb, .no, .no, .no, .no, .no, .no, .no, .no, .no, .no, .no, .no, .no] S = .nx [.no, .va (.ref 0), .va vk, .no, .va va, .va vb, .no, .no, .no, .no, .no, .no, .no, .no, .no, .no, .no, .no, .no] S := by
    simp [m_law_3, ek, eab]
  have e4 : m_law_4 [.no, .va (.ref 0), .va vk, .no, .va va, .va vb, .no, .no, .no, .no, .no, .no, .no, .no, .no, .no, .no, .no, .no] S = .nx [.no, .va (.ref 0), .va vk, .no, .va va, .va vb, .no, .no, .no, .no, .no, .no, .no, .no, .no, .no, .no, .no, .no] S := by
    simp [m_law_4, ep, PV.isD, areD, peq, peqs]
  have w : (m_law_25 [.no, .va (.ref 0), .va vk, .no, .va va, .va vb, .no, .no, .no, .no, .no, .no, .no, .no, .no, .no, .no, .no, .no] S).wp (fun _ _ => True) (fun _ _ => False) := by
    have hr : (iRng1 (eC (.int 4))) [.no, .va (.ref 0), .va vk, .no, .va va, .va vb, .no, .no, .no, .no, .no, .no, .no, .no, .no, .no, .no, .no, .no] S = .ok (rangeV 0 4) S := by simp
    unfold m_law_25
    rw [for_ap, hr, Re.thn_ok]
    refine wp_mono (wp_for (fun _ fr S' => fr.length = 19 ∧ fr[1]? = some (.va (.ref 0)) ∧ HOk S') 0 ⟨rfl, rfl, h0⟩ fun j x fr S' ⟨a, b, c⟩ _ => ?_) (fun _ _ _ => trivial) fun _ _ h => h
    refine ⟨fr.set 3 (.va x), rfl, ?_⟩
    obtain ⟨fr', S2, e, a2, b2, c2⟩ := turn_ok (fr := fr.set 3 (.va x)) (S := S') (by rw [List.length_set]; exact a) (by rw [List.getElem?_set_ne (by decide)]; exact b) c
    rw [e]
    exact ⟨a2, b2, c2⟩
  unfold m_law
  rw [seq_ap, e1, Ou.seq_nx, seq_ap, e2, Ou.seq_nx, seq_ap, e3, Ou.seq_nx, seq_ap, e4, Ou.seq_nx, seq_ap]
  cases e : m_law_25 [.no, .va (.ref 0), .va vk, .no, .va va, .va vb, .no, .no, .no, .no, .no, .no, .no, .no, .no, .no, .no, .no, .no] S with
  | nx fr S' => exact ⟨S', by simp⟩
  | rt t S' => rw [e] at w; exact w.elim
  | _ => rw [e] at w; exact w.elim
end Law81
namespace Law81
open PySem PySem.Spec PyProof.Rows L2 Q
def topS (i : Nat) : Stmt := PySem.Challenge.pw_bittables_k81_whole_sequents_proved_or_n.main.body.getD i (.Pass ⟨0, 0, 0, 0⟩)
abbrev s_is_tuple : Stmt := topS 3
abbrev N_is_tuple : List Str := ["thing", "least", "most"]
theorem sc_is_tuple : FnScope N_is_tuple ["thing", "least", "most"] (defScope s_is_tuple) := ⟨rfl, rfl, rfl, by decide +kernel, rfl, by decide +kernel, by decide +kernel⟩
abbrev s_words_in : Stmt := topS 27
abbrev N_words_in : List Str := ["formula", "parts", "part"]
theorem sc_words_in : FnScope N_words_in ["formula"] (defScope s_words_in) := ⟨rfl, rfl, rfl, by decide +kernel, rfl, by decide +kernel, by decide +kernel⟩
abbrev s_is_integer : Stmt := topS 1
abbrev N_is_integer : List Str := ["thing"]
theorem sc_is_integer : FnScope N_is_integer ["thing"] (defScope s_is_integer) := ⟨rfl, rfl, rfl, by decide +kernel, rfl, by decide +kernel, by decide +kernel⟩
abbrev s_is_within : Stmt := topS 2
abbrev N_is_within : List Str := ["thing", "low", "high"]
theorem sc_is_within : FnScope N_is_within ["thing", "low", "high"] (defScope s_is_within) := ⟨rfl, rfl, rfl, by decide +kernel, rfl, by decide +kernel, by decide +kernel⟩
abbrev s_is_bit : Stmt := topS 12
abbrev N_is_bit : List Str := ["thing"]
theorem sc_is_bit : FnScope N_is_bit ["thing"] (defScope s_is_bit) := ⟨rfl, rfl, rfl, by decide +kernel, rfl, by decide +kernel, by decide +kernel⟩
abbrev s_shaped : Stmt := topS 19
abbrev N_shaped : List Str := ["letters", "thing", "deep", "part"]
theorem sc_shaped : FnScope N_shaped ["letters", "thing", "deep"] (defScope s_shaped) := ⟨rfl, rfl, rfl, by decide +kernel, rfl, by decide +kernel, by decide +kernel⟩
abbrev s_formula_in : Stmt := topS 20
abbrev N_formula_in : List Str := ["letters", "thing"]
theorem sc_formula_in : FnScope N_formula_in ["letters", "thing"] (defScope s_formula_in) := ⟨rfl, rfl, rfl, by decide +kernel, rfl, by decide +kernel, by decide +kernel⟩
abbrev s_is_side : Stmt := topS 28
abbrev N_is_side : List Str := ["thing", "one"]
theorem sc_is_side : FnScope N_is_side ["thing"] (defScope s_is_side) := ⟨rfl, rfl, rfl, by decide +kernel, rfl, by decide +kernel, by decide +kernel⟩
abbrev s_is_sequent : Stmt := topS 29
abbrev N_is_sequent : List Str := ["thing", "one"]
theorem sc_is_sequent : FnScope N_is_sequent ["thing"] (defScope s_is_sequent) := ⟨rfl, rfl, rfl, by decide +kernel, rfl, by decide +kernel, by decide +kernel⟩
abbrev s_check_sequent : Stmt := topS 30
abbrev N_check_sequent : List Str := ["sequent"]
theorem sc_check_sequent : FnScope N_check_sequent ["sequent"] (defScope s_check_sequent) := ⟨rfl, rfl, rfl, by decide +kernel, rfl, by decide +kernel, by decide +kernel⟩
abbrev s_rows : Stmt := topS 11
abbrev N_rows : List Str := ["letters", "found", "turn", "longer", "row"]
theorem sc_rows : FnScope N_rows ["letters"] (defScope s_rows) := ⟨rfl, rfl, rfl, by decide +kernel, rfl, by decide +kernel, by decide +kernel⟩
abbrev s_told_at : Stmt := topS 21
abbrev N_told_at : List Str := ["formula", "row"]
theorem sc_told_at : FnScope N_told_at ["formula", "row"] (defScope s_told_at) := ⟨rfl, rfl, rfl, by decide +kernel, rfl, by decide +kernel, by decide +kernel⟩
abbrev s_holds_at : Stmt := topS 31
abbrev N_holds_at : List Str := ["sequent", "row", "left", "right", "one"]
theorem sc_holds_at : FnScope N_holds_at ["sequent", "row"] (defScope s_holds_at) := ⟨rfl, rfl, rfl, by decide +kernel, rfl, by decide +kernel, by decide +kernel⟩
abbrev s_first_failing : Stmt := topS 32
abbrev N_first_failing : List Str := ["sequent", "row"]
theorem sc_first_failing : FnScope N_first_failing ["sequent"] (defScope s_first_failing) := ⟨rfl, rfl, rfl, by decide +kernel, rfl, by decide +kernel, by decide +kernel⟩
abbrev s_shared : Stmt := topS 37
abbrev N_shared : List Str := ["sequent", "i", "one", "j", "other"]
theorem sc_shared : FnScope N_shared ["sequent"] (defScope s_shared) := ⟨rfl, rfl, rfl, by decide +kernel, rfl, by decide +kernel, by decide +kernel⟩
abbrev s_step_at : Stmt := topS 38
abbrev N_step_at : List Str := ["sequent", "side", "some", "i", "one"]
theorem sc_step_at : FnScope N_step_at ["sequent"] (defScope s_step_at) := ⟨rfl, rfl, rfl, by decide +kernel, rfl, by decide +kernel, by decide +kernel⟩
abbrev s_without : Stmt := topS 34
abbrev N_without : List Str := ["some", "i"]
theorem sc_without : FnScope N_without ["some", "i"] (defScope s_without) := ⟨rfl, rfl, rfl, by decide +kernel, rfl, by decide +kernel, by decide +kernel⟩
abbrev s_parts_put : Stmt := topS 35
abbrev N_parts_put : List Str := ["formula", "side", "word", "one", "other", "both", "part"]
theorem sc_parts_put : FnScope N_parts_put ["formula", "side"] (defScope s_parts_put) := ⟨rfl, rfl, rfl, by decide +kernel, rfl, by decide +kernel, by decide +kernel⟩
abbrev s_behind : Stmt := topS 36
abbrev N_behind : List Str := ["sequent", "side", "i", "formula", "here", "left", "right", "more", "others"]
theorem sc_behind : FnScope N_behind ["sequent", "side", "i"] (defScope s_behind) := ⟨rfl, rfl, rfl, by decide +kernel, rfl, by decide +kernel, by decide +kernel⟩
abbrev s_proof_of : Stmt := topS 39
abbrev N_proof_of : List Str := ["sequent", "pair", "side", "i", "one"]
theorem sc_proof_of : FnScope N_proof_of ["sequent"] (defScope s_proof_of) := ⟨rfl, rfl, rfl, by decide +kernel, rfl, by decide +kernel, by decide +kernel⟩
abbrev s_proved : Stmt := topS 40
abbrev N_proved : List Str := ["sequent", "row"]
theorem sc_proved : FnScope N_proved ["sequent"] (defScope s_proved) := ⟨rfl, rfl, rfl, by decide +kernel, rfl, by decide +kernel, by decide +kernel⟩
abbrev s_holds : Stmt := topS 33
abbrev N_holds : List Str := ["sequent"]
theorem sc_holds : FnScope N_holds ["sequent"] (defScope s_holds) := ⟨rfl, rfl, rfl, by decide +kernel, rfl, by decide +kernel, by decide +kernel⟩
abbrev s__law_draw : Stmt := topS 47
abbrev N__law_draw : List Str := ["hand", "sides", "number", "cell", "digit"]
theorem sc__law_draw : FnScope N__law_draw ["hand", "sides"] (defScope s__law_draw) := ⟨rfl, rfl, rfl, by decide +kernel, rfl, by decide +kernel, by decide +kernel⟩
abbrev s__law_any : Stmt := topS 48
abbrev N__law_any : List Str := ["hand", "things"]
theorem sc__law_any : FnScope N__law_any ["hand", "things"] (defScope s__law_any) := ⟨rfl, rfl, rfl, by decide +kernel, rfl, by decide +kernel, by decide +kernel⟩
abbrev s__law_rows : Stmt := topS 50
abbrev N__law_rows : List Str := ["letters", "found", "turn", "longer", "row"]
theorem sc__law_rows : FnScope N__law_rows ["letters"] (defScope s__law_rows) := ⟨rfl, rfl, rfl, by decide +kernel, rfl, by decide +kernel, by decide +kernel⟩
abbrev s__law_is : Stmt := topS 49
abbrev N__law_is : List Str := ["told", "due"]
theorem sc__law_is : FnScope N__law_is ["told", "due"] (defScope s__law_is) := ⟨rfl, rfl, rfl, by decide +kernel, rfl, by decide +kernel, by decide +kernel⟩
abbrev s__law_words : Stmt := topS 52
abbrev N__law_words : List Str := ["formula", "part"]
theorem sc__law_words : FnScope N__law_words ["formula"] (defScope s__law_words) := ⟨rfl, rfl, rfl, by decide +kernel, rfl, by decide +kernel, by decide +kernel⟩
abbrev s_are_bits : Stmt := topS 13
abbrev N_are_bits : List Str := ["thing", "many", "one"]
theorem sc_are_bits : FnScope N_are_bits ["thing", "many"] (defScope s_are_bits) := ⟨rfl, rfl, rfl, by decide +kernel, rfl, by decide +kernel, by decide +kernel⟩
abbrev s_is_row : Stmt := topS 14
abbrev N_is_row : List Str := ["letters", "thing"]
theorem sc_is_row : FnScope N_is_row ["letters", "thing"] (defScope s_is_row) := ⟨rfl, rfl, rfl, by decide +kernel, rfl, by decide +kernel, by decide +kernel⟩
abbrev s_size_of : Stmt := topS 41
abbrev N_size_of : List Str := ["sequent", "thing", "some", "asked", "sizes", "left", "right", "one", "part"]
theorem sc_size_of : FnScope N_size_of ["sequent", "thing"] (defScope s_size_of) := ⟨rfl, rfl, rfl, by decide +kernel, rfl, by decide +kernel, by decide +kernel⟩
abbrev s_is_proved : Stmt := topS 42
abbrev N_is_proved : List Str := ["sequent", "thing"]
theorem sc_is_proved : FnScope N_is_proved ["sequent", "thing"] (defScope s_is_proved) := ⟨rfl, rfl, rfl, by decide +kernel, rfl, by decide +kernel, by decide +kernel⟩
abbrev s_all_hold : Stmt := topS 44
abbrev N_all_hold : List Str := ["formulas", "row", "number", "formula"]
theorem sc_all_hold : FnScope N_all_hold ["formulas"] (defScope s_all_hold) := ⟨rfl, rfl, rfl, by decide +kernel, rfl, by decide +kernel, by decide +kernel⟩
abbrev s__law_formula : Stmt := topS 51
abbrev N__law_formula : List Str := ["hand", "letters", "deep", "kind", "word", "one"]
theorem sc__law_formula : FnScope N__law_formula ["hand", "letters", "deep"] (defScope s__law_formula) := ⟨rfl, rfl, rfl, by decide +kernel, rfl, by decide +kernel, by decide +kernel⟩
abbrev s__law_told : Stmt := topS 53
abbrev N__law_told : List Str := ["formula", "row", "parts", "part"]
theorem sc__law_told : FnScope N__law_told ["formula", "row"] (defScope s__law_told) := ⟨rfl, rfl, rfl, by decide +kernel, rfl, by decide +kernel, by decide +kernel⟩
abbrev s__law_holds : Stmt := topS 54
abbrev N__law_holds : List Str := ["sequent", "row", "left", "right", "one"]
theorem sc__law_holds : FnScope N__law_holds ["sequent", "row"] (defScope s__law_holds) := ⟨rfl, rfl, rfl, by decide +kernel, rfl, by decide +kernel, by decide +kernel⟩
abbrev s_proof_size : Stmt := topS 43
abbrev N_proof_size : List Str := ["sequent", "proof", "found"]
theorem sc_proof_size : FnScope N_proof_size ["sequent", "proof"] (defScope s_proof_size) := ⟨rfl, rfl, rfl, by decide +kernel, rfl, by decide +kernel, by decide +kernel⟩
abbrev s__law_behind : Stmt := topS 55
abbrev N__law_behind : List Str := ["sequent", "side", "i", "formula", "left", "right", "less", "more", "word", "parts"]
theorem sc__law_behind : FnScope N__law_behind ["sequent", "side", "i"] (defScope s__law_behind) := ⟨rfl, rfl, rfl, by decide +kernel, rfl, by decide +kernel, by decide +kernel⟩
abbrev s__law_steps : Stmt := topS 56
abbrev N__law_steps : List Str := ["sequent", "thing", "some", "asked", "sizes", "left", "right", "one", "part"]
theorem sc__law_steps : FnScope N__law_steps ["sequent", "thing"] (defScope s__law_steps) := ⟨rfl, rfl, rfl, by decide +kernel, rfl, by decide +kernel, by decide +kernel⟩
abbrev s_law : Stmt := topS 57
abbrev N_law : List Str := ["script", "hand", "known", "turn", "a", "b", "letters", "sides", "side", "sequent", "bad", "told", "row", "proof", "some", "thing", "good", "one", "at"]
theorem sc_law : FnScope N_law ["script"] (defScope s_law) := ⟨rfl, rfl, rfl, by decide +kernel, rfl, by decide +kernel, by decide +kernel⟩
abbrev s__law_hand : Stmt := topS 46
structure Tp (K : PySem.W.Frag) (w : World) (mg : Str → Option Value) : Prop where
  f_is_tuple : DefI K mg "is_tuple" s_is_tuple ["thing", "least", "most"]
  f_words_in : DefI K mg "words_in" s_words_in ["formula"]
  f_is_integer : DefI K mg "is_integer" s_is_integer ["thing"]
  f_is_within : DefI K mg "is_within" s_is_within ["thing", "low", "high"]
  f_is_bit : DefI K mg "is_bit" s_is_bit ["thing"]
  f_shaped : DefI K mg "shaped" s_shaped ["letters", "thing", "deep"]
  f_formula_in : DefI K mg "formula_in" s_formula_in ["letters", "thing"]
  f_is_side : DefI K mg "is_side" s_is_side ["thing"]
  f_is_sequent : DefI K mg "is_sequent" s_is_sequent ["thing"]
  f_check_sequent : DefI K mg "check_sequent" s_check_sequent ["sequent"]
  f_rows : DefI K mg "rows" s_rows ["letters"]
  f_told_at : DefI K mg "told_at" s_told_at ["formula", "row"]
  f_holds_at : DefI K mg "holds_at" s_holds_at ["sequent", "row"]
  f_first_failing : DefI K mg "first_failing" s_first_failing ["sequent"]
  f_shared : DefI K mg "shared" s_shared ["sequent"]
  f_step_at : DefI K mg "step_at" s_step_at ["sequent"]
  f_without : DefI K mg "without" s_without ["some", "i"]
  f_parts_put : DefI K mg "parts_put" s_parts_put ["formula", "side"]
  f_behind : DefI K mg "behind" s_behind ["sequent", "side", "i"]
  f_proof_of : DefI K mg "proof_of" s_proof_of ["sequent"]
  f_proved : DefI K mg "proved" s_proved ["sequent"]
  f_holds : DefI K mg "holds" s_holds ["sequent"]
  f__law_draw : DefI K mg "_law_draw" s__law_draw ["hand", "sides"]
  f__law_any : DefI K mg "_law_any" s__law_any ["hand", "things"]
  f__law_rows : DefI K mg "_law_rows" s__law_rows ["letters"]
  f__law_is : DefI K mg "_law_is" s__law_is ["told", "due"]
  f__law_words : DefI K mg "_law_words" s__law_words ["formula"]
  f_are_bits : DefI K mg "are_bits" s_are_bits ["thing", "many"]
  f_is_row : DefI K mg "is_row" s_is_row ["letters", "thing"]
  f_size_of : DefI K mg "size_of" s_size_of ["sequent", "thing"]
  f_is_proved : DefI K mg "is_proved" s_is_proved ["sequent", "thing"]
  f_all_hold : DefI K mg "all_hold" s_all_hold ["formulas"]
  f__law_formula : DefI K mg "_law_formula" s__law_formula ["hand", "letters", "deep"]
  f__law_told : DefI K mg "_law_told" s__law_told ["formula", "row"]
  f__law_holds : DefI K mg "_law_holds" s__law_holds ["sequent", "row"]
  f_proof_size : DefI K mg "proof_size" s_proof_size ["sequent", "proof"]
  f__law_behind : DefI K mg "_law_behind" s__law_behind ["sequent", "side", "i"]
  f__law_steps : DefI K mg "_law_steps" s__law_steps ["sequent", "thing"]
  f__law_hand : DefI K mg "_law_hand" s__law_hand ["script"]
  b_abs : mg "abs" = none
  b_all : mg "all" = none
  b_any : mg "any" = none
  b_bool : mg "bool" = none
  b_enumerate : mg "enumerate" = none
  b_int : mg "int" = none
  b_isinstance : mg "isinstance" = none
  b_len : mg "len" = none
  b_list : mg "list" = none
  b_max : mg "max" = none
  b_min : mg "min" = none
  b_range : mg "range" = none
  b_str : mg "str" = none
  b_sum : mg "sum" = none
  b_tuple : mg "tuple" = none
  b_zip : mg "zip" = none
  k_DEEPEST : GlC K mg "DEEPEST" k_DEEPEST
  k_JOINS : GlC K mg "JOINS" k_JOINS
  k_MOST_LETTERS : GlC K mg "MOST_LETTERS" k_MOST_LETTERS
  k_MOST_SIDE : GlC K mg "MOST_SIDE" k_MOST_SIDE
  k_MOST_TOGETHER : GlC K mg "MOST_TOGETHER" k_MOST_TOGETHER
  k_MOST_WORDS : GlC K mg "MOST_WORDS" k_MOST_WORDS
  k_WORDS_proofs : GlC K mg "WORDS_proofs" k_WORDS_proofs
  d_WORDS_changing : GlD K w mg "WORDS_changing" d_WORDS_changing
section
variable {P : Program} {w : World} {mg : Str → Option Value} {base : Heap} {C : RC}
theorem c_is_tuple (T : Tp C.K w mg) : Cl P w C.K mg base C 1 "is_tuple" F_is_tuple :=
  cl_okD (F := F_is_tuple) rfl T.f_is_tuple sc_is_tuple rfl rfl fun cdv A outer s H E U r hr =>
    (s_cons (s_ret (be_and (x_is1 T.b_isinstance T.b_tuple (by decide +kernel) rfl (xp 0)) (be_one (x_ech cm_le cm_le op_le op_le (xp 1) (PE.p (x_len T.b_len rfl (xpC (xp 0) xpN))) (xp 2))))) s_nil)
theorem c_words_in (T : Tp C.K w mg) : ∀ n, Cl P w C.K mg base C (0 + n) "words_in" (F_words_in n)
  | 0 => cl_bad0 T.f_words_in
  | n + 1 => have c_rec := c_words_in T n
    cl_okD (F := F_words_in (n + 1)) rfl T.f_words_in sc_words_in rfl rfl fun cdv A outer s H E U r hr =>
    (s_cons (s_if (x_bcm cm_eq (xo_eq hr) (PE.p (x_ix rfl (xp 0) (PE.p (ok_C pe_int rfl)))) (PE.p (ok_C pe_str rfl))) (s_cons (s_ret (ok_C pe_int rfl)) s_nil) s_nil) (s_cons (s_if (x_bcm cm_nin (xo_nin hr) (PE.p (x_ix rfl (xp 0) (PE.p (ok_C pe_int rfl)))) (PE.p (xg T.k_WORDS_proofs))) (s_cons (s_ret (ok_C pe_non rfl)) s_nil) s_nil) (s_cons (x_setLc sc_words_in.nd (show BlkOk N_words_in _ _ [("part", 2)] from blkOk_by (by kernel_rfl)) (ok_iSeq rfl (ok_sl rfl (xp 0) (ok_oS (PE.p (ok_C pe_int rfl))) ok_oN)) tg_name (fun _ _ _ _ _ => pg_name (i := 2) sc_words_in.nd rfl (by first | exact .inl rfl | exact .inr rfl)) (fun _ _ _ _ _ => ts_nil) (fun _ _ _ _ _ => (x_call (c_rec) hr (Nat.le_refl _) (xgV (xv 2) g_nil)))) (s_cons (s_ret (be_if (x_bcm cm_in (xo_in hr) (PE.p (ok_C pe_non rfl)) (xp 1)) (ok_C pe_non rfl) (ok_add rfl (PE.p (ok_C pe_int rfl)) (PE.p (x_sum T.b_sum rfl (xpC (xp 1) xpN)))))) s_nil))))
theorem c_is_integer (T : Tp C.K w mg) : Cl P w C.K mg base C 1 "is_integer" F_is_integer :=
  cl_okD (F := F_is_integer) rfl T.f_is_integer sc_is_integer rfl rfl fun cdv A outer s H E U r hr =>
    (s_cons (s_ret (be_and (x_is1 T.b_isinstance T.b_int (by decide +kernel) rfl (xp 0)) (be_one (be_not (x_is1 T.b_isinstance T.b_bool (by decide +kernel) rfl (xp 0)))))) s_nil)
theorem c_is_within (T : Tp C.K w mg) : Cl P w C.K mg base C 2 "is_within" F_is_within :=
  cl_okD (F := F_is_within) rfl T.f_is_within sc_is_within rfl rfl fun cdv A outer s H E U r hr =>
    (s_cons (s_ret (be_and (x_call (c_is_integer T) hr (by decide) (xgV (xv 0) g_nil)) (be_one (x_ech cm_le cm_le op_le op_le (xp 1) (xp 0) (xp 2))))) s_nil)
theorem c_is_bit (T : Tp C.K w mg) : Cl P w C.K mg base C 3 "is_bit" F_is_bit :=
  cl_okD (F := F_is_bit) rfl T.f_is_bit sc_is_bit rfl rfl fun cdv A outer s H E U r hr =>
    (s_cons (s_ret (x_call (c_is_within T) hr (by decide) (xgV (xv 0) (xgV (ok_C pe_int rfl) (xgV (ok_C pe_int rfl) g_nil))))) s_nil)
theorem c_shaped (T : Tp C.K w mg) : ∀ n, Cl P w C.K mg base C (3 + n) "shaped" (F_shaped n)
  | 0 => cl_bad0 T.f_shaped
  | n + 1 => have c_rec := c_shaped T n
    cl_okD (F := F_shaped (n + 1)) rfl T.f_shaped sc_shaped rfl rfl fun cdv A outer s H E U r hr =>
    (s_cons (s_if ((bt_or (x_bcm cm_eq (xo_eq hr) (xp 2) (PE.p (ok_C pe_int rfl))) (bt_or (bt_not (x_val (x_call (c_is_tuple T) hr (Nat.le_trans (by decide : 1 ≤ 3) (Nat.le_add_right _ _)) (xgV (xv 1) (xgV (ok_C pe_int rfl) (xgV (ok_C pe_int rfl) g_nil)))))) (bt_or1 (bt_not (x_val (x_is1 T.b_isinstance T.b_str (by decide +kernel) rfl (PE.p (x_ix rfl (xp 1) (PE.p (ok_C pe_int rfl))))))))))).pt (s_cons (s_ret (ok_C pe_bl rfl)) s_nil) s_nil) (s_cons (s_if (x_bcm cm_eq (xo_eq hr) (PE.p (x_len T.b_len rfl (xpC (xp 1) xpN))) (PE.p (ok_C pe_int rfl))) (s_cons (s_ret (be_and (x_ecm cm_in (xo_in hr) (PE.p (x_ix rfl (xp 1) (PE.p (ok_C pe_int rfl)))) (PE.p (xg T.k_JOINS))) (be_one (x_all T.b_all rfl (xpC (PE.p (x_lc sc_shaped.nd (show BlkOk N_shaped _ _ [("part", 3)] from blkOk_by (by kernel_rfl)) (ok_iSeq rfl (ok_sl rfl (xp 1) (ok_oS (PE.p (ok_C pe_int rfl))) ok_oN)) tg_name (fun _ _ _ _ _ => pg_name (i := 3) sc_shaped.nd rfl (by first | exact .inl rfl | exact .inr rfl)) (fun _ _ _ _ _ => ts_nil) (fun _ _ _ _ _ => (x_call (c_rec) hr (Nat.le_refl _) (xgV (xv 0) (xgV (xv 3) (xgV (ok_sub (xp 2) (PE.p (ok_C pe_int rfl))) g_nil))))))) xpN))))) s_nil) s_nil) (s_cons (s_if (x_bcm cm_eq (xo_eq hr) (PE.p (x_ix rfl (xp 1) (PE.p (ok_C pe_int rfl)))) (PE.p (ok_C pe_str rfl))) (s_cons (s_ret (x_call (c_is_bit T) hr (Nat.le_trans (by decide : 3 ≤ 3) (Nat.le_add_right _ _)) (xgV (x_ix rfl (xp 1) (PE.p (ok_C pe_int rfl))) g_nil))) s_nil) s_nil) (s_cons (s_if (x_bcm cm_eq (xo_eq hr) (PE.p (x_ix rfl (xp 1) (PE.p (ok_C pe_int rfl)))) (PE.p (ok_C pe_str rfl))) (s_cons (s_ret (x_call (c_is_within T) hr (Nat.le_trans (by decide : 2 ≤ 3) (Nat.le_add_right _ _)) (xgV (x_ix rfl (xp 1) (PE.p (ok_C pe_int rfl))) (xgV (ok_C pe_int rfl) (xgV (ok_sub (xp 0) (PE.p (ok_C pe_int rfl))) g_nil))))) s_nil) s_nil) (s_cons (s_ret (be_and (x_ecm cm_eq (xo_eq hr) (PE.p (x_ix rfl (xp 1) (PE.p (ok_C pe_int rfl)))) (PE.p (ok_C pe_str rfl))) (be_one (x_call (c_rec) hr (Nat.le_refl _) (xgV (xv 0) (xgV (x_ix rfl (xp 1) (PE.p (ok_C pe_int rfl))) (xgV (ok_sub (xp 2) (PE.p (ok_C pe_int rfl))) g_nil))))))) s_nil)))))
theorem c_formula_in (T : Tp C.K w mg) : Cl P w C.K mg base C 24 "formula_in" F_formula_in :=
  cl_okD (F := F_formula_in) rfl T.f_formula_in sc_formula_in rfl rfl fun cdv A outer s H E U r hr =>
    (s_cons (s_ret (x_call (c_shaped T 20) hr (by decide) (xgV (xv 0) (xgV (xv 1) (xgV (xg T.k_DEEPEST) g_nil))))) s_nil)
theorem c_is_side (T : Tp C.K w mg) : Cl P w C.K mg base C 25 "is_side" F_is_side :=
  cl_okD (F := F_is_side) rfl T.f_is_side sc_is_side rfl rfl fun cdv A outer s H E U r hr =>
    (s_cons (s_if ((bt_or (bt_not (x_val (x_call (c_is_tuple T) hr (by decide) (xgV (xv 0) (xgV (ok_C pe_int rfl) (xgV (xg T.k_MOST_SIDE) g_nil)))))) (bt_or1 (bt_not (x_val (x_all T.b_all rfl (xpC (PE.p (x_lc sc_is_side.nd (show BlkOk N_is_side _ _ [("one", 1)] from blkOk_by (by kernel_rfl)) (ok_iSeq rfl (xv 0)) tg_name (fun _ _ _ _ _ => pg_name (i := 1) sc_is_side.nd rfl (by first | exact .inl rfl | exact .inr rfl)) (fun _ _ _ _ _ => ts_nil) (fun _ _ _ _ _ => (x_call (c_formula_in T) hr (by decide) (xgV (xg T.k_MOST_LETTERS) (xgV (xv 1) g_nil)))))) xpN))))))).pt (s_cons (s_ret (ok_C pe_bl rfl)) s_nil) s_nil) (s_cons (s_ret (x_all T.b_all rfl (xpC (PE.p (x_lc sc_is_side.nd (show BlkOk N_is_side _ _ [("one", 1)] from blkOk_by (by kernel_rfl)) (ok_iSeq rfl (xv 0)) tg_name (fun _ _ _ _ _ => pg_name (i := 1) sc_is_side.nd rfl (by first | exact .inl rfl | exact .inr rfl)) (fun _ _ _ _ _ => ts_nil) (fun _ _ _ _ _ => (x_ecm cm_notN op_notN (PE.p (x_call (c_words_in T 20) hr (by decide) (xgV (xv 1) g_nil))) (PE.p (ok_C pe_non rfl)))))) xpN))) s_nil))
theorem c_is_sequent (T : Tp C.K w mg) : Cl P w C.K mg base C 26 "is_sequent" F_is_sequent :=
  cl_okD (F := F_is_sequent) rfl T.f_is_sequent sc_is_sequent rfl rfl fun cdv A outer s H E U r hr =>
    (s_cons (s_if ((bt_or (bt_not (x_val (x_call (c_is_tuple T) hr (by decide) (xgV (xv 0) (xgV (ok_C pe_int rfl) (xgV (ok_C pe_int rfl) g_nil)))))) (bt_or (bt_not (x_val (x_call (c_is_side T) hr (by decide) (xgV (x_ix rfl (xp 0) (PE.p (ok_C pe_int rfl))) g_nil)))) (bt_or1 (bt_not (x_val (x_call (c_is_side T) hr (by decide) (xgV (x_ix rfl (xp 0) (PE.p (ok_C pe_int rfl))) g_nil)))))))).pt (s_cons (s_ret (ok_C pe_bl rfl)) s_nil) s_nil) (s_cons (s_ret (x_ecm cm_le op_le (PE.p (x_sum T.b_sum rfl (xpC (PE.p (x_lc sc_is_sequent.nd (show BlkOk N_is_sequent _ _ [("one", 1)] from blkOk_by (by kernel_rfl)) (ok_iSeq rfl (ok_add rfl (PE.p (x_ix rfl (xp 0) (PE.p (ok_C pe_int rfl)))) (PE.p (x_ix rfl (xp 0) (PE.p (ok_C pe_int rfl)))))) tg_name (fun _ _ _ _ _ => pg_name (i := 1) sc_is_sequent.nd rfl (by first | exact .inl rfl | exact .inr rfl)) (fun _ _ _ _ _ => ts_nil) (fun _ _ _ _ _ => (x_call (c_words_in T 20) hr (by decide) (xgV (xv 1) g_nil))))) xpN))) (PE.p (xg T.k_MOST_WORDS)))) s_nil))
theorem c_check_sequent (T : Tp C.K w mg) : Cl P w C.K mg base C 27 "check_sequent" F_check_sequent :=
  cl_okD (F := F_check_sequent) rfl T.f_check_sequent sc_check_sequent rfl rfl fun cdv A outer s H E U r hr =>
    (s_cons (s_if (bt_not (x_val (x_call (c_is_sequent T) hr (by decide) (xgV (xv 0) g_nil)))) (s_cons s_bad s_nil) s_nil) s_nil)
theorem c_rows (T : Tp C.K w mg) : Cl P w C.K mg base C 1 "rows" F_rows :=
  cl_okD (F := F_rows) rfl T.f_rows sc_rows rfl rfl fun cdv A outer s H E U r hr =>
    (s_cons (x_set 1 sc_rows.nd (ok_lst (xaC (ok_tup ok_aN) ok_aN))) (s_cons (x_for (xi_rng1 T.b_range (xp 0)) (pg_name (i := 2) sc_rows.nd rfl (by first | exact .inl rfl | exact .inr rfl)) tg_name (s_cons (x_own 3 sc_rows.nd (f_lst ok_aN)) (s_cons (x_for (ok_iSeq rfl (xv 1)) (pg_name (i := 4) sc_rows.nd rfl (by first | exact .inl rfl | exact .inr rfl)) tg_name (s_cons (x_ext 3 (PE.p (ok_lst (xaC (ok_add rfl (xp 4) (PE.p (ok_tup (xaC (ok_C pe_int rfl) ok_aN)))) (xaC (ok_add rfl (xp 4) (PE.p (ok_tup (xaC (ok_C pe_int rfl) ok_aN)))) ok_aN))))) s_nil)) (s_cons (s_frz (x_set 1 sc_rows.nd (xv 3))) s_nil)))) (s_cons (s_ret (xv 1)) s_nil)))
theorem c_told_at (T : Tp C.K w mg) : ∀ n, Cl P w C.K mg base C (0 + n) "told_at" (F_told_at n)
  | 0 => cl_bad0 T.f_told_at
  | n + 1 => have c_rec := c_told_at T n
    cl_okD (F := F_told_at (n + 1)) rfl T.f_told_at sc_told_at rfl rfl fun cdv A outer s H E U r hr =>
    (s_cons (s_if (x_bcm cm_eq (xo_eq hr) (PE.p (x_ix rfl (xp 0) (PE.p (ok_C pe_int rfl)))) (PE.p (ok_C pe_str rfl))) (s_cons (s_ret (x_ix rfl (xp 0) (PE.p (ok_C pe_int rfl)))) s_nil) s_nil) (s_cons (s_if (x_bcm cm_eq (xo_eq hr) (PE.p (x_ix rfl (xp 0) (PE.p (ok_C pe_int rfl)))) (PE.p (ok_C pe_str rfl))) (s_cons (s_ret (x_ix rfl (xp 1) (PE.p (x_ix rfl (xp 0) (PE.p (ok_C pe_int rfl)))))) s_nil) s_nil) (s_cons (s_if (x_bcm cm_eq (xo_eq hr) (PE.p (x_ix rfl (xp 0) (PE.p (ok_C pe_int rfl)))) (PE.p (ok_C pe_str rfl))) (s_cons (s_ret (ok_sub (PE.p (ok_C pe_int rfl)) (PE.p (x_call (c_rec) hr (Nat.le_refl _) (xgV (x_ix rfl (xp 0) (PE.p (ok_C pe_int rfl))) (xgV (xv 1) g_nil)))))) s_nil) s_nil) (s_cons (s_ret (x_ix rfl (PE.p (xdk rfl T.d_WORDS_changing (PE.p (x_ix rfl (xp 0) (PE.p (ok_C pe_int rfl)))))) (PE.p (ok_add rfl (PE.p (ok_mul rfl (PE.p (ok_C pe_int rfl)) (PE.p (x_call (c_rec) hr (Nat.le_refl _) (xgV (x_ix rfl (xp 0) (PE.p (ok_C pe_int rfl))) (xgV (xv 1) g_nil)))))) (PE.p (x_call (c_rec) hr (Nat.le_refl _) (xgV (x_ix rfl (xp 0) (PE.p (ok_C pe_int rfl))) (xgV (xv 1) g_nil)))))))) s_nil))))
theorem c_holds_at (T : Tp C.K w mg) : Cl P w C.K mg base C 21 "holds_at" F_holds_at :=
  cl_okD (F := F_holds_at) rfl T.f_holds_at sc_holds_at rfl rfl fun cdv A outer s H E U r hr =>
    (s_cons (x_unp (is := [2, 3]) rfl (xv 0) (pgs_cons (pg_name (i := 2) sc_holds_at.nd rfl (by first | exact .inl rfl | exact .inr rfl)) (pgs_cons (pg_name (i := 3) sc_holds_at.nd rfl (by first | exact .inl rfl | exact .inr rfl)) pgs_nil))) (s_cons (s_ret (be_or (x_any T.b_any rfl (xpC (PE.p (x_lc sc_holds_at.nd (show BlkOk N_holds_at _ _ [("one", 4)] from blkOk_by (by kernel_rfl)) (ok_iSeq rfl (xv 2)) tg_name (fun _ _ _ _ _ => pg_name (i := 4) sc_holds_at.nd rfl (by first | exact .inl rfl | exact .inr rfl)) (fun _ _ _ _ _ => ts_nil) (fun _ _ _ _ _ => (x_ecm cm_eq (xo_eq hr) (PE.p (x_call (c_told_at T 20) hr (by decide) (xgV (xv 4) (xgV (xv 1) g_nil)))) (PE.p (ok_C pe_int rfl)))))) xpN)) (be_one (x_any T.b_any rfl (xpC (PE.p (x_lc sc_holds_at.nd (show BlkOk N_holds_at _ _ [("one", 4)] from blkOk_by (by kernel_rfl)) (ok_iSeq rfl (xv 3)) tg_name (fun _ _ _ _ _ => pg_name (i := 4) sc_holds_at.nd rfl (by first | exact .inl rfl | exact .inr rfl)) (fun _ _ _ _ _ => ts_nil) (fun _ _ _ _ _ => (x_ecm cm_eq (xo_eq hr) (PE.p (x_call (c_told_at T 20) hr (by decide) (xgV (xv 4) (xgV (xv 1) g_nil)))) (PE.p (ok_C pe_int rfl)))))) xpN))))) s_nil))
theorem c_first_failing (T : Tp C.K w mg) : Cl P w C.K mg base C 22 "first_failing" F_first_failing :=
  cl_okD (F := F_first_failing) rfl T.f_first_failing sc_first_failing rfl rfl fun cdv A outer s H E U r hr =>
    (s_cons (x_for (ok_iSeq rfl (x_call (c_rows T) hr (by decide) (xgV (xg T.k_MOST_LETTERS) g_nil))) (pg_name (i := 1) sc_first_failing.nd rfl (by first | exact .inl rfl | exact .inr rfl)) tg_name (s_cons (s_if (bt_not (x_val (x_call (c_holds_at T) hr (by decide) (xgV (xv 0) (xgV (xv 1) g_nil))))) (s_cons (s_ret (xv 1)) s_nil) s_nil) s_nil)) (s_cons (s_ret (ok_C pe_non rfl)) s_nil))
theorem c_shared (T : Tp C.K w mg) : Cl P w C.K mg base C 1 "shared" F_shared :=
  cl_okD (F := F_shared) rfl T.f_shared sc_shared rfl rfl fun cdv A outer s H E U r hr =>
    (s_cons (x_for (xi_enum T.b_enumerate rfl (x_ix rfl (xp 0) (PE.p (ok_C pe_int rfl)))) (pg_tup rfl (pgs_cons (pg_name (i := 1) sc_shared.nd rfl (by first | exact .inl rfl | exact .inr rfl)) (pgs_cons (pg_name (i := 2) sc_shared.nd rfl (by first | exact .inl rfl | exact .inr rfl)) pgs_nil))) (tg_tup (is := [1, 2]) rfl) (s_cons (x_for (xi_enum T.b_enumerate rfl (x_ix rfl (xp 0) (PE.p (ok_C pe_int rfl)))) (pg_tup rfl (pgs_cons (pg_name (i := 3) sc_shared.nd rfl (by first | exact .inl rfl | exact .inr rfl)) (pgs_cons (pg_name (i := 4) sc_shared.nd rfl (by first | exact .inl rfl | exact .inr rfl)) pgs_nil))) (tg_tup (is := [3, 4]) rfl) (s_cons (s_if (x_bcm cm_eq (xo_eq hr) (xp 2) (xp 4)) (s_cons (s_ret (ok_tup (xaC (xv 1) (xaC (xv 3) ok_aN)))) s_nil) s_nil) s_nil)) s_nil)) (s_cons (s_ret (ok_C pe_non rfl)) s_nil))
theorem c_step_at (T : Tp C.K w mg) : Cl P w C.K mg base C 1 "step_at" F_step_at :=
  cl_okD (F := F_step_at) rfl T.f_step_at sc_step_at rfl rfl fun cdv A outer s H E U r hr =>
    (s_cons (x_for (xi_zip T.b_zip rfl (ok_tup (xaC (ok_C pe_str rfl) (xaC (ok_C pe_str rfl) ok_aN))) (xv 0)) (pg_tup rfl (pgs_cons (pg_name (i := 1) sc_step_at.nd rfl (by first | exact .inl rfl | exact .inr rfl)) (pgs_cons (pg_name (i := 2) sc_step_at.nd rfl (by first | exact .inl rfl | exact .inr rfl)) pgs_nil))) (tg_tup (is := [1, 2]) rfl) (s_cons (x_for (xi_enum T.b_enumerate rfl (xv 2)) (pg_tup rfl (pgs_cons (pg_name (i := 3) sc_step_at.nd rfl (by first | exact .inl rfl | exact .inr rfl)) (pgs_cons (pg_name (i := 4) sc_step_at.nd rfl (by first | exact .inl rfl | exact .inr rfl)) pgs_nil))) (tg_tup (is := [3, 4]) rfl) (s_cons (s_if (x_bcm cm_ne (xo_ne hr) (PE.p (x_ix rfl (xp 4) (PE.p (ok_C pe_int rfl)))) (PE.p (ok_C pe_str rfl))) (s_cons (s_ret (ok_tup (xaC (xv 1) (xaC (xv 3) ok_aN)))) s_nil) s_nil) s_nil)) s_nil)) (s_cons (s_ret (ok_C pe_non rfl)) s_nil))
theorem c_without (T : Tp C.K w mg) : Cl P w C.K mg base C 1 "without" F_without :=
  cl_okD (F := F_without) rfl T.f_without sc_without rfl rfl fun cdv A outer s H E U r hr =>
    (s_cons (s_ret (ok_add rfl (PE.p (ok_sl rfl (xp 0) ok_oN (ok_oS (xp 1)))) (PE.p (ok_sl rfl (xp 0) (ok_oS (PE.p (ok_add rfl (xp 1) (PE.p (ok_C pe_int rfl))))) ok_oN)))) s_nil)
theorem c_parts_put (T : Tp C.K w mg) : Cl P w C.K mg base C 1 "parts_put" F_parts_put :=
  cl_okD (F := F_parts_put) rfl T.f_parts_put sc_parts_put rfl rfl fun cdv A outer s H E U r hr =>
    (s_cons (x_set 2 sc_parts_put.nd (x_ix rfl (xp 0) (PE.p (ok_C pe_int rfl)))) (s_cons (s_if (x_bcm cm_eq (xo_eq hr) (xp 2) (PE.p (ok_C pe_str rfl))) (s_cons (s_ret (be_if (x_bcm cm_eq (xo_eq hr) (xp 1) (PE.p (ok_C pe_str rfl))) (ok_lst (xaC (ok_tup (xaC (ok_tup ok_aN) (xaC (ok_tup (xaC (x_ix rfl (xp 0) (PE.p (ok_C pe_int rfl))) ok_aN)) ok_aN))) ok_aN)) (ok_lst (xaC (ok_tup (xaC (ok_tup (xaC (x_ix rfl (xp 0) (PE.p (ok_C pe_int rfl))) ok_aN)) (xaC (ok_tup ok_aN) ok_aN))) ok_aN)))) s_nil) s_nil) (s_cons (x_par2 sc_parts_put.nd (xhV (x_ix rfl (xp 0) (PE.p (ok_C pe_int rfl))) (xhV (x_ix rfl (xp 0) (PE.p (ok_C pe_int rfl))) h_nil))) (s_cons (s_if (x_bcm cm_eq (xo_eq hr) (xp 2) (PE.p (ok_C pe_str rfl))) (s_cons (s_ret (be_if (x_bcm cm_eq (xo_eq hr) (xp 1) (PE.p (ok_C pe_str rfl))) (ok_lst (xaC (ok_tup (xaC (ok_tup ok_aN) (xaC (ok_tup (xaC (xv 3) ok_aN)) ok_aN))) (xaC (ok_tup (xaC (ok_tup (xaC (xv 4) ok_aN)) (xaC (ok_tup ok_aN) ok_aN))) ok_aN))) (ok_lst (xaC (ok_tup (xaC (ok_tup (xaC (xv 3) ok_aN)) (xaC (ok_tup (xaC (xv 4) ok_aN)) ok_aN))) ok_aN)))) s_nil) s_nil) (s_cons (s_if (x_bcm cm_eq (xo_eq hr) (PE.p (x_ecm cm_eq (xo_eq hr) (xp 2) (PE.p (ok_C pe_str rfl)))) (PE.p (x_ecm cm_eq (xo_eq hr) (xp 1) (PE.p (ok_C pe_str rfl))))) (s_cons (x_set 5 sc_parts_put.nd (ok_tup (xaC (xv 3) (xaC (xv 4) ok_aN)))) (s_cons (s_ret (be_if (x_bcm cm_eq (xo_eq hr) (xp 1) (PE.p (ok_C pe_str rfl))) (ok_lst (xaC (ok_tup (xaC (xv 5) (xaC (ok_tup ok_aN) ok_aN))) ok_aN)) (ok_lst (xaC (ok_tup (xaC (ok_tup ok_aN) (xaC (xv 5) ok_aN))) ok_aN)))) s_nil)) s_nil) (s_cons (s_ret (x_lc sc_parts_put.nd (show BlkOk N_parts_put _ _ [("part", 6)] from blkOk_by (by kernel_rfl)) (ok_iSeq rfl (ok_tup (xaC (xv 3) (xaC (xv 4) ok_aN)))) tg_name (fun _ _ _ _ _ => pg_name (i := 6) sc_parts_put.nd rfl (by first | exact .inl rfl | exact .inr rfl)) (fun _ _ _ _ _ => ts_nil) (fun _ _ _ _ _ => (be_if (x_bcm cm_eq (xo_eq hr) (xp 1) (PE.p (ok_C pe_str rfl))) (ok_tup (xaC (ok_tup (xaC (xv 6) ok_aN)) (xaC (ok_tup ok_aN) ok_aN))) (ok_tup (xaC (ok_tup ok_aN) (xaC (ok_tup (xaC (xv 6) ok_aN)) ok_aN))))))) s_nil))))))
theorem c_behind (T : Tp C.K w mg) : Cl P w C.K mg base C 2 "behind" F_behind :=
  cl_okD (F := F_behind) rfl T.f_behind sc_behind rfl rfl fun cdv A outer s H E U r hr =>
    (s_cons (x_unp (is := [5, 6]) rfl (xv 0) (pgs_cons (pg_name (i := 5) sc_behind.nd rfl (by first | exact .inl rfl | exact .inr rfl)) (pgs_cons (pg_name (i := 6) sc_behind.nd rfl (by first | exact .inl rfl | exact .inr rfl)) pgs_nil))) (s_cons (x_set 3 sc_behind.nd (be_if (x_bcm cm_eq (xo_eq hr) (xp 1) (PE.p (ok_C pe_str rfl))) (x_ix rfl (xp 5) (xp 2)) (x_ix rfl (xp 6) (xp 2)))) (s_cons (x_set 4 sc_behind.nd (be_if (x_bcm cm_eq (xo_eq hr) (xp 1) (PE.p (ok_C pe_str rfl))) (ok_tup (xaC (x_call (c_without T) hr (by decide) (xgV (xv 5) (xgV (xv 2) g_nil))) (xaC (xv 6) ok_aN))) (ok_tup (xaC (xv 5) (xaC (x_call (c_without T) hr (by decide) (xgV (xv 6) (xgV (xv 2) g_nil))) ok_aN))))) (s_cons (s_ret (x_lc sc_behind.nd (show BlkOk N_behind _ _ [("more", 7), ("others", 8)] from blkOk_by (by kernel_rfl)) (ok_iSeq rfl (x_call (c_parts_put T) hr (by decide) (xgV (xv 3) (xgV (xv 1) g_nil)))) (tg_tup (is := [7, 8]) rfl) (fun _ _ _ _ _ => pg_tup rfl (pgs_cons (pg_name (i := 7) sc_behind.nd rfl (by first | exact .inl rfl | exact .inr rfl)) (pgs_cons (pg_name (i := 8) sc_behind.nd rfl (by first | exact .inl rfl | exact .inr rfl)) pgs_nil))) (fun _ _ _ _ _ => ts_nil) (fun _ _ _ _ _ => (ok_tup (xaC (ok_add rfl (PE.p (x_ix rfl (xp 4) (PE.p (ok_C pe_int rfl)))) (xp 7)) (xaC (ok_add rfl (PE.p (x_ix rfl (xp 4) (PE.p (ok_C pe_int rfl)))) (xp 8)) ok_aN)))))) s_nil))))
theorem c_proof_of (T : Tp C.K w mg) : ∀ n, Cl P w C.K mg base C (2 + n) "proof_of" (F_proof_of n)
  | 0 => cl_bad0 T.f_proof_of
  | n + 1 => have c_rec := c_proof_of T n
    cl_okD (F := F_proof_of (n + 1)) rfl T.f_proof_of sc_proof_of rfl rfl fun cdv A outer s H E U r hr =>
    (s_cons (x_set 1 sc_proof_of.nd (x_call (c_shared T) hr (Nat.le_trans (by decide : 1 ≤ 2) (Nat.le_add_right _ _)) (xgV (xv 0) g_nil))) (s_cons (s_if (x_bcm cm_notN op_notN (xp 1) (PE.p (ok_C pe_non rfl))) (s_cons (s_ret (ok_add rfl (PE.p (ok_tup (xaC (ok_C pe_str rfl) ok_aN))) (xp 1))) s_nil) s_nil) (s_cons (x_unp (is := [2, 3]) rfl (x_call (c_step_at T) hr (Nat.le_trans (by decide : 1 ≤ 2) (Nat.le_add_right _ _)) (xgV (xv 0) g_nil)) (pgs_cons (pg_name (i := 2) sc_proof_of.nd rfl (by first | exact .inl rfl | exact .inr rfl)) (pgs_cons (pg_name (i := 3) sc_proof_of.nd rfl (by first | exact .inl rfl | exact .inr rfl)) pgs_nil))) (s_cons (s_ret (ok_add rfl (PE.p (ok_tup (xaC (xv 2) (xaC (xv 3) ok_aN)))) (PE.p (x_tuple T.b_tuple rfl (xpC (PE.p (x_lc sc_proof_of.nd (show BlkOk N_proof_of _ _ [("one", 4)] from blkOk_by (by kernel_rfl)) (ok_iSeq rfl (x_call (c_behind T) hr (Nat.le_trans (by decide : 2 ≤ 2) (Nat.le_add_right _ _)) (xgV (xv 0) (xgV (xv 2) (xgV (xv 3) g_nil))))) tg_name (fun _ _ _ _ _ => pg_name (i := 4) sc_proof_of.nd rfl (by first | exact .inl rfl | exact .inr rfl)) (fun _ _ _ _ _ => ts_nil) (fun _ _ _ _ _ => (x_call (c_rec) hr (Nat.le_refl _) (xgV (xv 4) g_nil))))) xpN))))) s_nil))))
theorem c_proved (T : Tp C.K w mg) : Cl P w C.K mg base C 28 "proved" F_proved :=
  cl_okD (F := F_proved) rfl T.f_proved sc_proved rfl rfl fun cdv A outer s H E U r hr =>
    (s_cons (x_expr (x_call (c_check_sequent T) hr (by decide) (xgV (xv 0) g_nil))) (s_cons (x_set 1 sc_proved.nd (x_call (c_first_failing T) hr (by decide) (xgV (xv 0) g_nil))) (s_cons (s_ret (be_if (x_bcm cm_isN op_isN (xp 1) (PE.p (ok_C pe_non rfl))) (ok_tup (xaC (ok_C pe_str rfl) (xaC (x_call (c_proof_of T 20) hr (by decide) (xgV (xv 0) g_nil)) ok_aN))) (ok_tup (xaC (ok_C pe_str rfl) (xaC (xv 1) ok_aN))))) s_nil)))
theorem c_holds (T : Tp C.K w mg) : Cl P w C.K mg base C 28 "holds" F_holds :=
  cl_okD (F := F_holds) rfl T.f_holds sc_holds rfl rfl fun cdv A outer s H E U r hr =>
    (s_cons (x_expr (x_call (c_check_sequent T) hr (by decide) (xgV (xv 0) g_nil))) (s_cons (s_ret (x_ecm cm_isN op_isN (PE.p (x_call (c_first_failing T) hr (by decide) (xgV (xv 0) g_nil))) (PE.p (ok_C pe_non rfl)))) s_nil))
theorem c__law_draw (T : Tp C.K w mg) : Cl P w C.K mg base C 1 "_law_draw" F__law_draw :=
  cl_okD (F := F__law_draw) rfl T.f__law_draw sc__law_draw rfl rfl fun cdv A outer s H E U r hr =>
    (s_cons (s_if ((bt_and (x_bcm cm_eq (xo_eq hr) (PE.p (x_ixS (xp 0) (PE.p (ok_C pe_int rfl)))) (PE.p (ok_C pe_int rfl))) (bt_and1 (x_bcm cm_lt op_lt (PE.p (x_ixS (xp 0) (PE.p (ok_C pe_int rfl)))) (PE.p (x_len T.b_len rfl (xpC (PE.p (x_ixS (xp 0) (PE.p (ok_C pe_int rfl)))) xpN))))))).pt (s_cons (x_set 3 sc__law_draw.nd (x_ix rfl (PE.p (x_ixS (xp 0) (PE.p (ok_C pe_int rfl)))) (PE.p (x_ixS (xp 0) (PE.p (ok_C pe_int rfl)))))) (s_cons (x_putS (xp 0) (PE.p (ok_C pe_int rfl)) (ok_add rfl (PE.p (x_ixS (xp 0) (PE.p (ok_C pe_int rfl)))) (PE.p (ok_C pe_int rfl)))) (s_cons (x_putS (xp 0) (PE.p (ok_C pe_int rfl)) (ok_mod (PE.p (x_int T.b_int (xpC (PE.p (ok_add rfl (PE.p (ok_add rfl (PE.p (ok_mul rfl (PE.p (x_ixS (xp 0) (PE.p (ok_C pe_int rfl)))) (PE.p (ok_C pe_int rfl)))) (PE.p (ok_mul rfl (xp 3) (PE.p (ok_C pe_int rfl)))))) (PE.p (ok_C pe_int rfl)))) xpN))) (PE.p (ok_C pe_int rfl)))) (s_cons (s_if (x_bcm cm_ge op_ge (xp 3) (PE.p (ok_pow (PE.p (ok_C pe_int rfl)) (PE.p (ok_C pe_int rfl))))) (s_cons (x_putS (xp 0) (PE.p (ok_C pe_int rfl)) (xv 3)) s_nil) s_nil) s_nil)))) s_nil) (s_cons (s_if (x_bcm cm_gt op_gt (PE.p (x_ixS (xp 0) (PE.p (ok_C pe_int rfl)))) (PE.p (ok_C pe_int rfl))) (s_cons (x_set 4 sc__law_draw.nd (ok_mod (PE.p (x_int T.b_int (xpC (PE.p (x_ixS (xp 0) (PE.p (ok_C pe_int rfl)))) xpN))) (xp 1))) (s_cons (x_putS (xp 0) (PE.p (ok_C pe_int rfl)) (ok_fdiv (PE.p (x_ixS (xp 0) (PE.p (ok_C pe_int rfl)))) (xp 1))) (s_cons (s_ret (xv 4)) s_nil))) s_nil) (s_cons (x_putS (xp 0) (PE.p (ok_C pe_int rfl)) (ok_add rfl (PE.p (x_ixS (xp 0) (PE.p (ok_C pe_int rfl)))) (PE.p (ok_C pe_int rfl)))) (s_cons (x_set 2 sc__law_draw.nd (ok_mod (PE.p (x_int T.b_int (xpC (PE.p (ok_mul rfl (PE.p (x_int T.b_int (xpC (PE.p (ok_add rfl (PE.p (x_ixS (xp 0) (PE.p (ok_C pe_int rfl)))) (PE.p (ok_mul rfl (PE.p (ok_C pe_int rfl)) (PE.p (x_ixS (xp 0) (PE.p (ok_C pe_int rfl)))))))) xpN))) (PE.p (ok_C pe_int rfl)))) xpN))) (PE.p (ok_C pe_int rfl)))) (s_cons (x_set 2 sc__law_draw.nd (ok_mod (PE.p (x_int T.b_int (xpC (PE.p (ok_mul rfl (xp 2) (PE.p (ok_add rfl (PE.p (ok_fdiv (xp 2) (PE.p (ok_C pe_int rfl)))) (PE.p (ok_C pe_int rfl)))))) xpN))) (PE.p (ok_C pe_int rfl)))) (s_cons (x_set 2 sc__law_draw.nd (ok_mod (PE.p (x_int T.b_int (xpC (PE.p (ok_mul rfl (xp 2) (PE.p (ok_add rfl (PE.p (ok_fdiv (xp 2) (PE.p (ok_C pe_int rfl)))) (PE.p (ok_C pe_int rfl)))))) xpN))) (PE.p (ok_C pe_int rfl)))) (s_cons (s_ret (ok_mod (PE.p (x_int T.b_int (xpC (PE.p (ok_fdiv (xp 2) (PE.p (ok_C pe_int rfl)))) xpN))) (xp 1))) s_nil)))))))
theorem c__law_any (T : Tp C.K w mg) : Cl P w C.K mg base C 2 "_law_any" F__law_any :=
  cl_okD (F := F__law_any) rfl T.f__law_any sc__law_any rfl rfl fun cdv A outer s H E U r hr =>
    (s_cons (s_ret (x_ix rfl (xp 1) (PE.p (x_call (c__law_draw T) hr (by decide) (xgV (xv 0) (xgV (x_len T.b_len rfl (xpC (xp 1) xpN)) g_nil)))))) s_nil)
theorem c__law_rows (T : Tp C.K w mg) : Cl P w C.K mg base C 1 "_law_rows" F__law_rows :=
  cl_okD (F := F__law_rows) rfl T.f__law_rows sc__law_rows rfl rfl fun cdv A outer s H E U r hr =>
    (s_cons (x_set 1 sc__law_rows.nd (ok_lst (xaC (ok_tup ok_aN) ok_aN))) (s_cons (x_for (xi_rng1 T.b_range (xp 0)) (pg_name (i := 2) sc__law_rows.nd rfl (by first | exact .inl rfl | exact .inr rfl)) tg_name (s_cons (x_own 3 sc__law_rows.nd (f_lst ok_aN)) (s_cons (x_for (ok_iSeq rfl (xv 1)) (pg_name (i := 4) sc__law_rows.nd rfl (by first | exact .inl rfl | exact .inr rfl)) tg_name (s_cons (x_ext 3 (PE.p (ok_lst (xaC (ok_add rfl (xp 4) (PE.p (ok_tup (xaC (ok_C pe_int rfl) ok_aN)))) (xaC (ok_add rfl (xp 4) (PE.p (ok_tup (xaC (ok_C pe_int rfl) ok_aN)))) ok_aN))))) s_nil)) (s_cons (s_frz (x_set 1 sc__law_rows.nd (xv 3))) s_nil)))) (s_cons (s_ret (xv 1)) s_nil)))
theorem c__law_is (T : Tp C.K w mg) : Cl P w C.K mg base C 1 "_law_is" F__law_is :=
  cl_okD (F := F__law_is) rfl T.f__law_is sc__law_is rfl rfl fun cdv A outer s H E U r hr =>
    (s_cons (s_if ((bt_or (x_bcm cm_ne (xo_ne hr) (PE.p (x_is1 T.b_isinstance T.b_bool (by decide +kernel) rfl (xp 0))) (PE.p (x_is1 T.b_isinstance T.b_bool (by decide +kernel) rfl (xp 1)))) (bt_or1 (x_bcm cm_ne (xo_ne hr) (PE.p (x_is1 T.b_isinstance T.b_int (by decide +kernel) rfl (xp 0))) (PE.p (x_is1 T.b_isinstance T.b_int (by decide +kernel) rfl (xp 1))))))).pt (s_cons (s_ret (ok_C pe_bl rfl)) s_nil) s_nil) (s_cons (s_ret (x_ecm cm_eq (xo_eq hr) (xp 0) (xp 1))) s_nil))
theorem c__law_words (T : Tp C.K w mg) : ∀ n, Cl P w C.K mg base C (0 + n) "_law_words" (F__law_words n)
  | 0 => cl_bad0 T.f__law_words
  | n + 1 => have c_rec := c__law_words T n
    cl_okD (F := F__law_words (n + 1)) rfl T.f__law_words sc__law_words rfl rfl fun cdv A outer s H E U r hr =>
    (s_cons (s_if (x_bcm cm_eq (xo_eq hr) (PE.p (x_ix rfl (xp 0) (PE.p (ok_C pe_int rfl)))) (PE.p (ok_C pe_str rfl))) (s_cons (s_ret (ok_C pe_int rfl)) s_nil) s_nil) (s_cons (s_ret (ok_add rfl (PE.p (ok_C pe_int rfl)) (PE.p (x_sum T.b_sum rfl (xpC (PE.p (x_lc sc__law_words.nd (show BlkOk N__law_words _ _ [("part", 1)] from blkOk_by (by kernel_rfl)) (ok_iSeq rfl (ok_sl rfl (xp 0) (ok_oS (PE.p (ok_C pe_int rfl))) ok_oN)) tg_name (fun _ _ _ _ _ => pg_name (i := 1) sc__law_words.nd rfl (by first | exact .inl rfl | exact .inr rfl)) (fun _ _ _ _ _ => ts_nil) (fun _ _ _ _ _ => (x_call (c_rec) hr (Nat.le_refl _) (xgV (xv 1) g_nil))))) xpN))))) s_nil))
theorem c_are_bits (T : Tp C.K w mg) : Cl P w C.K mg base C 4 "are_bits" F_are_bits :=
  cl_okD (F := F_are_bits) rfl T.f_are_bits sc_are_bits rfl rfl fun cdv A outer s H E U r hr =>
    (s_cons (s_ret (be_and (x_call (c_is_tuple T) hr (by decide) (xgV (xv 0) (xgV (xv 1) (xgV (xv 1) g_nil)))) (be_one (x_all T.b_all rfl (xpC (PE.p (x_lc sc_are_bits.nd (show BlkOk N_are_bits _ _ [("one", 2)] from blkOk_by (by kernel_rfl)) (ok_iSeq rfl (xv 0)) tg_name (fun _ _ _ _ _ => pg_name (i := 2) sc_are_bits.nd rfl (by first | exact .inl rfl | exact .inr rfl)) (fun _ _ _ _ _ => ts_nil) (fun _ _ _ _ _ => (x_call (c_is_bit T) hr (by decide) (xgV (xv 2) g_nil))))) xpN))))) s_nil)
theorem c_is_row (T : Tp C.K w mg) : Cl P w C.K mg base C 5 "is_row" F_is_row :=
  cl_okD (F := F_is_row) rfl T.f_is_row sc_is_row rfl rfl fun cdv A outer s H E U r hr =>
    (s_cons (s_ret (x_call (c_are_bits T) hr (by decide) (xgV (xv 1) (xgV (xv 0) g_nil)))) s_nil)
theorem c_size_of (T : Tp C.K w mg) : ∀ n, Cl P w C.K mg base C (2 + n) "size_of" (F_size_of n)
  | 0 => cl_bad0 T.f_size_of
  | n + 1 => have c_rec := c_size_of T n
    cl_okD (F := F_size_of (n + 1)) rfl T.f_size_of sc_size_of rfl rfl fun cdv A outer s H E U r hr =>
    (s_cons (s_if ((bt_or (bt_not (x_val (x_call (c_is_tuple T) hr (Nat.le_trans (by decide : 1 ≤ 2) (Nat.le_add_right _ _)) (xgV (xv 1) (xgV (ok_C pe_int rfl) (xgV (ok_C pe_int rfl) g_nil)))))) (bt_or1 (bt_not (x_val (x_is1 T.b_isinstance T.b_str (by decide +kernel) rfl (PE.p (x_ix rfl (xp 1) (PE.p (ok_C pe_int rfl)))))))))).pt (s_cons (s_ret (ok_C pe_non rfl)) s_nil) s_nil) (s_cons (x_unp (is := [5, 6]) rfl (xv 0) (pgs_cons (pg_name (i := 5) sc_size_of.nd rfl (by first | exact .inl rfl | exact .inr rfl)) (pgs_cons (pg_name (i := 6) sc_size_of.nd rfl (by first | exact .inl rfl | exact .inr rfl)) pgs_nil))) (s_cons (s_if (x_bcm cm_eq (xo_eq hr) (PE.p (x_ix rfl (xp 1) (PE.p (ok_C pe_int rfl)))) (PE.p (ok_C pe_str rfl))) (s_cons (s_if ((bt_or (x_bcm cm_gt op_gt (PE.p (x_len T.b_len rfl (xpC (xp 1) xpN))) (PE.p (ok_C pe_int rfl))) (bt_or (bt_not (x_val (x_call (c_is_within T) hr (Nat.le_trans (by decide : 2 ≤ 2) (Nat.le_add_right _ _)) (xgV (x_ix rfl (xp 1) (PE.p (ok_C pe_int rfl))) (xgV (ok_C pe_int rfl) (xgV (ok_sub (PE.p (x_len T.b_len rfl (xpC (xp 5) xpN))) (PE.p (ok_C pe_int rfl))) g_nil)))))) (bt_or1 (bt_not (x_val (x_call (c_is_within T) hr (Nat.le_trans (by decide : 2 ≤ 2) (Nat.le_add_right _ _)) (xgV (x_ix rfl (xp 1) (PE.p (ok_C pe_int rfl))) (xgV (ok_C pe_int rfl) (xgV (ok_sub (PE.p (x_len T.b_len rfl (xpC (xp 6) xpN))) (PE.p (ok_C pe_int rfl))) g_nil)))))))))).pt (s_cons (s_ret (ok_C pe_non rfl)) s_nil) s_nil) (s_cons (s_ret (be_if (x_bcm cm_eq (xo_eq hr) (PE.p (x_ix rfl (xp 5) (PE.p (x_ix rfl (xp 1) (PE.p (ok_C pe_int rfl)))))) (PE.p (x_ix rfl (xp 6) (PE.p (x_ix rfl (xp 1) (PE.p (ok_C pe_int rfl))))))) (ok_C pe_int rfl) (ok_C pe_non rfl))) s_nil)) s_nil) (s_cons (x_set 2 sc_size_of.nd (be_if (x_bcm cm_eq (xo_eq hr) (PE.p (x_ix rfl (xp 1) (PE.p (ok_C pe_int rfl)))) (PE.p (ok_C pe_str rfl))) (xv 5) (xv 6))) (s_cons (s_if ((bt_or (x_bcm cm_nin (xo_nin hr) (PE.p (x_ix rfl (xp 1) (PE.p (ok_C pe_int rfl)))) (PE.p (ok_tup (xaC (ok_C pe_str rfl) (xaC (ok_C pe_str rfl) ok_aN))))) (bt_or1 (bt_not (x_val (x_call (c_is_within T) hr (Nat.le_trans (by decide : 2 ≤ 2) (Nat.le_add_right _ _)) (xgV (x_ix rfl (xp 1) (PE.p (ok_C pe_int rfl))) (xgV (ok_C pe_int rfl) (xgV (ok_sub (PE.p (x_len T.b_len rfl (xpC (xp 2) xpN))) (PE.p (ok_C pe_int rfl))) g_nil))))))))).pt (s_cons (s_ret (ok_C pe_non rfl)) s_nil) s_nil) (s_cons (s_if (x_bcm cm_eq (xo_eq hr) (PE.p (x_ix rfl (PE.p (x_ix rfl (xp 2) (PE.p (x_ix rfl (xp 1) (PE.p (ok_C pe_int rfl)))))) (PE.p (ok_C pe_int rfl)))) (PE.p (ok_C pe_str rfl))) (s_cons (s_ret (ok_C pe_non rfl)) s_nil) s_nil) (s_cons (x_set 3 sc_size_of.nd (x_call (c_behind T) hr (Nat.le_trans (by decide : 2 ≤ 2) (Nat.le_add_right _ _)) (xgV (xv 0) (xgV (x_ix rfl (xp 1) (PE.p (ok_C pe_int rfl))) (xgV (x_ix rfl (xp 1) (PE.p (ok_C pe_int rfl))) g_nil))))) (s_cons (s_if (x_bcm cm_ne (xo_ne hr) (PE.p (x_len T.b_len rfl (xpC (xp 3) xpN))) (PE.p (ok_sub (PE.p (x_len T.b_len rfl (xpC (xp 1) xpN))) (PE.p (ok_C pe_int rfl))))) (s_cons (s_ret (ok_C pe_non rfl)) s_nil) s_nil) (s_cons (x_setLc sc_size_of.nd (show BlkOk N_size_of _ _ [("one", 7), ("part", 8)] from blkOk_by (by kernel_rfl)) (xi_zip T.b_zip rfl (xv 3) (ok_sl rfl (xp 1) (ok_oS (PE.p (ok_C pe_int rfl))) ok_oN)) (tg_tup (is := [7, 8]) rfl) (fun _ _ _ _ _ => pg_tup rfl (pgs_cons (pg_name (i := 7) sc_size_of.nd rfl (by first | exact .inl rfl | exact .inr rfl)) (pgs_cons (pg_name (i := 8) sc_size_of.nd rfl (by first | exact .inl rfl | exact .inr rfl)) pgs_nil))) (fun _ _ _ _ _ => ts_nil) (fun _ _ _ _ _ => (x_call (c_rec) hr (Nat.le_refl _) (xgV (xv 7) (xgV (xv 8) g_nil))))) (s_cons (s_ret (be_if (x_bcm cm_in (xo_in hr) (PE.p (ok_C pe_non rfl)) (xp 4)) (ok_C pe_non rfl) (ok_add rfl (PE.p (ok_C pe_int rfl)) (PE.p (x_sum T.b_sum rfl (xpC (xp 4) xpN)))))) s_nil))))))))))
theorem c_is_proved (T : Tp C.K w mg) : Cl P w C.K mg base C 28 "is_proved" F_is_proved :=
  cl_okD (F := F_is_proved) rfl T.f_is_proved sc_is_proved rfl rfl fun cdv A outer s H E U r hr =>
    (s_cons (x_expr (x_call (c_check_sequent T) hr (by decide) (xgV (xv 0) g_nil))) (s_cons (s_if ((bt_or (bt_not (x_val (x_call (c_is_tuple T) hr (by decide) (xgV (xv 1) (xgV (ok_C pe_int rfl) (xgV (ok_C pe_int rfl) g_nil)))))) (bt_or1 (bt_not (x_val (x_is1 T.b_isinstance T.b_str (by decide +kernel) rfl (PE.p (x_ix rfl (xp 1) (PE.p (ok_C pe_int rfl)))))))))).pt (s_cons (s_ret (ok_C pe_bl rfl)) s_nil) s_nil) (s_cons (s_if (x_bcm cm_eq (xo_eq hr) (PE.p (x_ix rfl (xp 1) (PE.p (ok_C pe_int rfl)))) (PE.p (ok_C pe_str rfl))) (s_cons (s_ret (be_and (x_call (c_is_row T) hr (by decide) (xgV (xg T.k_MOST_LETTERS) (xgV (x_ix rfl (xp 1) (PE.p (ok_C pe_int rfl))) g_nil))) (be_one (be_not (x_call (c_holds_at T) hr (by decide) (xgV (xv 0) (xgV (x_ix rfl (xp 1) (PE.p (ok_C pe_int rfl))) g_nil))))))) s_nil) s_nil) (s_cons (s_ret (be_and (x_ecm cm_eq (xo_eq hr) (PE.p (x_ix rfl (xp 1) (PE.p (ok_C pe_int rfl)))) (PE.p (ok_C pe_str rfl))) (be_one (x_ecm cm_notN op_notN (PE.p (x_call (c_size_of T 20) hr (by decide) (xgV (xv 0) (xgV (x_ix rfl (xp 1) (PE.p (ok_C pe_int rfl))) g_nil)))) (PE.p (ok_C pe_non rfl)))))) s_nil))))
theorem c_all_hold (T : Tp C.K w mg) : Cl P w C.K mg base C 25 "all_hold" F_all_hold :=
  cl_okD (F := F_all_hold) rfl T.f_all_hold sc_all_hold rfl rfl fun cdv A outer s H E U r hr =>
    (s_cons (s_if ((bt_or (bt_not (x_val (x_is2 T.b_isinstance T.b_list (by decide +kernel) T.b_tuple (by decide +kernel) rfl (xp 0)))) (bt_or1 (bt_not (x_bch cm_le cm_le op_le op_le (PE.p (ok_C pe_int rfl)) (PE.p (x_len T.b_len rfl (xpC (xp 0) xpN))) (PE.p (xg T.k_MOST_TOGETHER))))))).pt (s_cons s_bad s_nil) s_nil) (s_cons (x_for (xi_enum T.b_enumerate rfl (xv 0)) (pg_tup rfl (pgs_cons (pg_name (i := 2) sc_all_hold.nd rfl (by first | exact .inl rfl | exact .inr rfl)) (pgs_cons (pg_name (i := 3) sc_all_hold.nd rfl (by first | exact .inl rfl | exact .inr rfl)) pgs_nil))) (tg_tup (is := [2, 3]) rfl) (s_cons (s_if (bt_not (x_val (x_call (c_formula_in T) hr (by decide) (xgV (xg T.k_MOST_LETTERS) (xgV (xv 3) g_nil))))) (s_cons s_bad s_nil) s_nil) s_nil)) (s_cons (x_for (ok_iSeq rfl (x_call (c_rows T) hr (by decide) (xgV (xg T.k_MOST_LETTERS) g_nil))) (pg_name (i := 1) sc_all_hold.nd rfl (by first | exact .inl rfl | exact .inr rfl)) tg_name (s_cons (s_if (x_val (x_all T.b_all rfl (xpC (PE.p (x_lc sc_all_hold.nd (show BlkOk N_all_hold _ _ [("formula", 3)] from blkOk_by (by kernel_rfl)) (ok_iSeq rfl (xv 0)) tg_name (fun _ _ _ _ _ => pg_name (i := 3) sc_all_hold.nd rfl (by first | exact .inl rfl | exact .inr rfl)) (fun _ _ _ _ _ => ts_nil) (fun _ _ _ _ _ => (x_ecm cm_eq (xo_eq hr) (PE.p (x_call (c_told_at T 20) hr (by decide) (xgV (xv 3) (xgV (xv 1) g_nil)))) (PE.p (ok_C pe_int rfl)))))) xpN))) (s_cons (s_ret (xv 1)) s_nil) s_nil) s_nil)) (s_cons (s_ret (ok_C pe_non rfl)) s_nil))))
theorem c__law_formula (T : Tp C.K w mg) : ∀ n, Cl P w C.K mg base C (2 + n) "_law_formula" (F__law_formula n)
  | 0 => cl_bad0 T.f__law_formula
  | n + 1 => have c_rec := c__law_formula T n
    cl_okD (F := F__law_formula (n + 1)) rfl T.f__law_formula sc__law_formula rfl rfl fun cdv A outer s H E U r hr =>
    (s_cons (x_set 3 sc__law_formula.nd (be_if (x_bcm cm_gt op_gt (xp 2) (PE.p (ok_C pe_int rfl))) (x_call (c__law_draw T) hr (Nat.le_trans (by decide : 1 ≤ 2) (Nat.le_add_right _ _)) (xgV (xv 0) (xgV (ok_C pe_int rfl) g_nil))) (ok_C pe_int rfl))) (s_cons (s_if (x_bcm cm_lt op_lt (xp 3) (PE.p (ok_C pe_int rfl))) (s_cons (s_ret (ok_tup (xaC (ok_C pe_str rfl) (xaC (x_call (c__law_draw T) hr (Nat.le_trans (by decide : 1 ≤ 2) (Nat.le_add_right _ _)) (xgV (xv 0) (xgV (xv 1) g_nil))) ok_aN)))) s_nil) s_nil) (s_cons (s_if (x_bcm cm_eq (xo_eq hr) (xp 3) (PE.p (ok_C pe_int rfl))) (s_cons (s_ret (ok_tup (xaC (ok_C pe_str rfl) (xaC (x_call (c_rec) hr (Nat.le_refl _) (xgV (xv 0) (xgV (xv 1) (xgV (ok_sub (xp 2) (PE.p (ok_C pe_int rfl))) g_nil)))) ok_aN)))) s_nil) s_nil) (s_cons (x_par2 sc__law_formula.nd (xhV (x_call (c__law_any T) hr (Nat.le_trans (by decide : 2 ≤ 2) (Nat.le_add_right _ _)) (xgV (xv 0) (xgV (ok_lst (xaC (ok_C pe_str rfl) (xaC (ok_C pe_str rfl) (xaC (ok_C pe_str rfl) ok_aN)))) g_nil))) (xhV (x_call (c_rec) hr (Nat.le_refl _) (xgV (xv 0) (xgV (xv 1) (xgV (ok_sub (xp 2) (PE.p (ok_C pe_int rfl))) g_nil)))) h_nil))) (s_cons (s_ret (ok_tup (xaC (xv 4) (xaC (xv 5) (xaC (x_call (c_rec) hr (Nat.le_refl _) (xgV (xv 0) (xgV (xv 1) (xgV (ok_sub (xp 2) (PE.p (ok_C pe_int rfl))) g_nil)))) ok_aN))))) s_nil)))))
theorem c__law_told (T : Tp C.K w mg) : ∀ n, Cl P w C.K mg base C (0 + n) "_law_told" (F__law_told n)
  | 0 => cl_bad0 T.f__law_told
  | n + 1 => have c_rec := c__law_told T n
    cl_okD (F := F__law_told (n + 1)) rfl T.f__law_told sc__law_told rfl rfl fun cdv A outer s H E U r hr =>
    (s_cons (s_if (x_bcm cm_eq (xo_eq hr) (PE.p (x_ix rfl (xp 0) (PE.p (ok_C pe_int rfl)))) (PE.p (ok_C pe_str rfl))) (s_cons (s_ret (x_ix rfl (xp 1) (PE.p (x_ix rfl (xp 0) (PE.p (ok_C pe_int rfl)))))) s_nil) s_nil) (s_cons (x_setLc sc__law_told.nd (show BlkOk N__law_told _ _ [("part", 3)] from blkOk_by (by kernel_rfl)) (ok_iSeq rfl (ok_sl rfl (xp 0) (ok_oS (PE.p (ok_C pe_int rfl))) ok_oN)) tg_name (fun _ _ _ _ _ => pg_name (i := 3) sc__law_told.nd rfl (by first | exact .inl rfl | exact .inr rfl)) (fun _ _ _ _ _ => ts_nil) (fun _ _ _ _ _ => (x_call (c_rec) hr (Nat.le_refl _) (xgV (xv 3) (xgV (xv 1) g_nil))))) (s_cons (s_if (x_bcm cm_eq (xo_eq hr) (PE.p (x_ix rfl (xp 0) (PE.p (ok_C pe_int rfl)))) (PE.p (ok_C pe_str rfl))) (s_cons (s_ret (ok_sub (PE.p (ok_C pe_int rfl)) (PE.p (x_ix rfl (xp 2) (PE.p (ok_C pe_int rfl)))))) s_nil) s_nil) (s_cons (s_ret (be_if (x_bcm cm_eq (xo_eq hr) (PE.p (x_ix rfl (xp 0) (PE.p (ok_C pe_int rfl)))) (PE.p (ok_C pe_str rfl))) (x_min T.b_min rfl (xpC (xp 2) xpN)) (be_if (x_bcm cm_eq (xo_eq hr) (PE.p (x_ix rfl (xp 0) (PE.p (ok_C pe_int rfl)))) (PE.p (ok_C pe_str rfl))) (x_max T.b_max rfl (xpC (xp 2) xpN)) (x_max2 T.b_max (xpC (PE.p (ok_sub (PE.p (ok_C pe_int rfl)) (PE.p (x_ix rfl (xp 2) (PE.p (ok_C pe_int rfl)))))) (xpC (PE.p (x_ix rfl (xp 2) (PE.p (ok_C pe_int rfl)))) xpN)))))) s_nil))))
theorem c__law_holds (T : Tp C.K w mg) : Cl P w C.K mg base C 21 "_law_holds" F__law_holds :=
  cl_okD (F := F__law_holds) rfl T.f__law_holds sc__law_holds rfl rfl fun cdv A outer s H E U r hr =>
    (s_cons (x_unp (is := [2, 3]) rfl (xv 0) (pgs_cons (pg_name (i := 2) sc__law_holds.nd rfl (by first | exact .inl rfl | exact .inr rfl)) (pgs_cons (pg_name (i := 3) sc__law_holds.nd rfl (by first | exact .inl rfl | exact .inr rfl)) pgs_nil))) (s_cons (s_ret (be_or (x_any T.b_any rfl (xpC (PE.p (x_lc sc__law_holds.nd (show BlkOk N__law_holds _ _ [("one", 4)] from blkOk_by (by kernel_rfl)) (ok_iSeq rfl (xv 2)) tg_name (fun _ _ _ _ _ => pg_name (i := 4) sc__law_holds.nd rfl (by first | exact .inl rfl | exact .inr rfl)) (fun _ _ _ _ _ => ts_nil) (fun _ _ _ _ _ => (x_ecm cm_eq (xo_eq hr) (PE.p (x_call (c__law_told T 20) hr (by decide) (xgV (xv 4) (xgV (xv 1) g_nil)))) (PE.p (ok_C pe_int rfl)))))) xpN)) (be_one (x_any T.b_any rfl (xpC (PE.p (x_lc sc__law_holds.nd (show BlkOk N__law_holds _ _ [("one", 4)] from blkOk_by (by kernel_rfl)) (ok_iSeq rfl (xv 3)) tg_name (fun _ _ _ _ _ => pg_name (i := 4) sc__law_holds.nd rfl (by first | exact .inl rfl | exact .inr rfl)) (fun _ _ _ _ _ => ts_nil) (fun _ _ _ _ _ => (x_ecm cm_eq (xo_eq hr) (PE.p (x_call (c__law_told T 20) hr (by decide) (xgV (xv 4) (xgV (xv 1) g_nil)))) (PE.p (ok_C pe_int rfl)))))) xpN))))) s_nil))
theorem c_proof_size (T : Tp C.K w mg) : Cl P w C.K mg base C 28 "proof_size" F_proof_size :=
  cl_okD (F := F_proof_size) rfl T.f_proof_size sc_proof_size rfl rfl fun cdv A outer s H E U r hr =>
    (s_cons (x_expr (x_call (c_check_sequent T) hr (by decide) (xgV (xv 0) g_nil))) (s_cons (x_set 2 sc_proof_size.nd (x_call (c_size_of T 20) hr (by decide) (xgV (xv 0) (xgV (xv 1) g_nil)))) (s_cons (s_if (x_bcm cm_isN op_isN (xp 2) (PE.p (ok_C pe_non rfl))) (s_cons s_bad s_nil) s_nil) (s_cons (s_ret (xv 2)) s_nil))))
theorem c__law_behind (T : Tp C.K w mg) : Cl P w C.K mg base C 1 "_law_behind" F__law_behind :=
  cl_okD (F := F__law_behind) rfl T.f__law_behind sc__law_behind rfl rfl fun cdv A outer s H E U r hr =>
    (s_cons (x_unp (is := [4, 5]) rfl (xv 0) (pgs_cons (pg_name (i := 4) sc__law_behind.nd rfl (by first | exact .inl rfl | exact .inr rfl)) (pgs_cons (pg_name (i := 5) sc__law_behind.nd rfl (by first | exact .inl rfl | exact .inr rfl)) pgs_nil))) (s_cons (x_set 3 sc__law_behind.nd (be_if (x_bcm cm_eq (xo_eq hr) (xp 1) (PE.p (ok_C pe_str rfl))) (x_ix rfl (xp 4) (xp 2)) (x_ix rfl (xp 5) (xp 2)))) (s_cons (x_par2 sc__law_behind.nd (xhV (ok_add rfl (PE.p (ok_sl rfl (xp 4) ok_oN (ok_oS (xp 2)))) (PE.p (ok_sl rfl (xp 4) (ok_oS (PE.p (ok_add rfl (xp 2) (PE.p (ok_C pe_int rfl))))) ok_oN))) (xhV (ok_add rfl (PE.p (ok_sl rfl (xp 5) ok_oN (ok_oS (xp 2)))) (PE.p (ok_sl rfl (xp 5) (ok_oS (PE.p (ok_add rfl (xp 2) (PE.p (ok_C pe_int rfl))))) ok_oN))) h_nil))) (s_cons (x_par2 sc__law_behind.nd (xhV (x_ix rfl (xp 3) (PE.p (ok_C pe_int rfl))) (xhV (ok_sl rfl (xp 3) (ok_oS (PE.p (ok_C pe_int rfl))) ok_oN) h_nil))) (s_cons (s_if (x_bcm cm_eq (xo_eq hr) (xp 1) (PE.p (ok_C pe_str rfl))) (s_cons (s_if (x_bcm cm_eq (xo_eq hr) (xp 8) (PE.p (ok_C pe_str rfl))) (s_cons (s_ret (ok_lst (xaC (ok_tup (xaC (xv 6) (xaC (ok_add rfl (xp 5) (xp 9)) ok_aN))) ok_aN))) s_nil) s_nil) (s_cons (s_if (x_bcm cm_eq (xo_eq hr) (xp 8) (PE.p (ok_C pe_str rfl))) (s_cons (s_ret (ok_lst (xaC (ok_tup (xaC (ok_add rfl (xp 6) (xp 9)) (xaC (xv 5) ok_aN))) ok_aN))) s_nil) s_nil) (s_cons (s_if (x_bcm cm_eq (xo_eq hr) (xp 8) (PE.p (ok_C pe_str rfl))) (s_cons (s_ret (ok_lst (xaC (ok_tup (xaC (ok_add rfl (xp 6) (PE.p (ok_sl rfl (xp 9) ok_oN (ok_oS (PE.p (ok_C pe_int rfl)))))) (xaC (xv 5) ok_aN))) (xaC (ok_tup (xaC (ok_add rfl (xp 6) (PE.p (ok_sl rfl (xp 9) (ok_oS (PE.p (ok_C pe_int rfl))) ok_oN))) (xaC (xv 5) ok_aN))) ok_aN)))) s_nil) s_nil) (s_cons (s_ret (ok_lst (xaC (ok_tup (xaC (xv 6) (xaC (ok_add rfl (xp 5) (PE.p (ok_sl rfl (xp 9) ok_oN (ok_oS (PE.p (ok_C pe_int rfl)))))) ok_aN))) (xaC (ok_tup (xaC (ok_add rfl (xp 6) (PE.p (ok_sl rfl (xp 9) (ok_oS (PE.p (ok_C pe_int rfl))) ok_oN))) (xaC (xv 5) ok_aN))) ok_aN)))) s_nil)))) s_nil) (s_cons (s_if (x_bcm cm_eq (xo_eq hr) (xp 8) (PE.p (ok_C pe_str rfl))) (s_cons (s_ret (ok_lst (xaC (ok_tup (xaC (ok_add rfl (xp 4) (xp 9)) (xaC (xv 7) ok_aN))) ok_aN))) s_nil) s_nil) (s_cons (s_if (x_bcm cm_eq (xo_eq hr) (xp 8) (PE.p (ok_C pe_str rfl))) (s_cons (s_ret (ok_lst (xaC (ok_tup (xaC (xv 4) (xaC (ok_add rfl (xp 7) (xp 9)) ok_aN))) ok_aN))) s_nil) s_nil) (s_cons (s_if (x_bcm cm_eq (xo_eq hr) (xp 8) (PE.p (ok_C pe_str rfl))) (s_cons (s_ret (ok_lst (xaC (ok_tup (xaC (xv 4) (xaC (ok_add rfl (xp 7) (PE.p (ok_sl rfl (xp 9) ok_oN (ok_oS (PE.p (ok_C pe_int rfl)))))) ok_aN))) (xaC (ok_tup (xaC (xv 4) (xaC (ok_add rfl (xp 7) (PE.p (ok_sl rfl (xp 9) (ok_oS (PE.p (ok_C pe_int rfl))) ok_oN))) ok_aN))) ok_aN)))) s_nil) s_nil) (s_cons (s_ret (ok_lst (xaC (ok_tup (xaC (ok_add rfl (xp 4) (PE.p (ok_sl rfl (xp 9) ok_oN (ok_oS (PE.p (ok_C pe_int rfl)))))) (xaC (ok_add rfl (xp 7) (PE.p (ok_sl rfl (xp 9) (ok_oS (PE.p (ok_C pe_int rfl))) ok_oN))) ok_aN))) ok_aN))) s_nil)))))))))
theorem c__law_steps (T : Tp C.K w mg) : ∀ n, Cl P w C.K mg base C (1 + n) "_law_steps" (F__law_steps n)
  | 0 => cl_bad0 T.f__law_steps
  | n + 1 => have c_rec := c__law_steps T n
    cl_okD (F := F__law_steps (n + 1)) rfl T.f__law_steps sc__law_steps rfl rfl fun cdv A outer s H E U r hr =>
    (s_cons (s_if ((bt_or (bt_not (x_val (x_is1 T.b_isinstance T.b_tuple (by decide +kernel) rfl (xp 1)))) (bt_or (x_bcm cm_nin (xo_nin hr) (PE.p (x_len T.b_len rfl (xpC (xp 1) xpN))) (PE.p (ok_tup (xaC (ok_C pe_int rfl) (xaC (ok_C pe_int rfl) ok_aN))))) (bt_or1 (bt_not (x_val (x_is1 T.b_isinstance T.b_str (by decide +kernel) rfl (PE.p (x_ix rfl (xp 1) (PE.p (ok_C pe_int rfl))))))))))).pt (s_cons (s_ret (ok_C pe_int rfl)) s_nil) s_nil) (s_cons (s_if ((bt_or (bt_not (x_val (x_is1 T.b_isinstance T.b_int (by decide +kernel) rfl (PE.p (x_ix rfl (xp 1) (PE.p (ok_C pe_int rfl))))))) (bt_or1 (x_val (x_is1 T.b_isinstance T.b_bool (by decide +kernel) rfl (PE.p (x_ix rfl (xp 1) (PE.p (ok_C pe_int rfl))))))))).pt (s_cons (s_ret (ok_C pe_int rfl)) s_nil) s_nil) (s_cons (x_unp (is := [5, 6]) rfl (xv 0) (pgs_cons (pg_name (i := 5) sc__law_steps.nd rfl (by first | exact .inl rfl | exact .inr rfl)) (pgs_cons (pg_name (i := 6) sc__law_steps.nd rfl (by first | exact .inl rfl | exact .inr rfl)) pgs_nil))) (s_cons (s_if (x_bcm cm_eq (xo_eq hr) (PE.p (x_ix rfl (xp 1) (PE.p (ok_C pe_int rfl)))) (PE.p (ok_C pe_str rfl))) (s_cons (s_if ((bt_or (x_bcm cm_ne (xo_ne hr) (PE.p (x_len T.b_len rfl (xpC (xp 1) xpN))) (PE.p (ok_C pe_int rfl))) (bt_or (bt_not (x_val (x_is1 T.b_isinstance T.b_int (by decide +kernel) rfl (PE.p (x_ix rfl (xp 1) (PE.p (ok_C pe_int rfl))))))) (bt_or1 (x_val (x_is1 T.b_isinstance T.b_bool (by decide +kernel) rfl (PE.p (x_ix rfl (xp 1) (PE.p (ok_C pe_int rfl)))))))))).pt (s_cons (s_ret (ok_C pe_int rfl)) s_nil) s_nil) (s_cons (s_if ((bt_or (bt_not (x_bch cm_le cm_lt op_le op_lt (PE.p (ok_C pe_int rfl)) (PE.p (x_ix rfl (xp 1) (PE.p (ok_C pe_int rfl)))) (PE.p (x_len T.b_len rfl (xpC (xp 5) xpN))))) (bt_or1 (bt_not (x_bch cm_le cm_lt op_le op_lt (PE.p (ok_C pe_int rfl)) (PE.p (x_ix rfl (xp 1) (PE.p (ok_C pe_int rfl)))) (PE.p (x_len T.b_len rfl (xpC (xp 6) xpN)))))))).pt (s_cons (s_ret (ok_C pe_int rfl)) s_nil) s_nil) (s_cons (s_ret (x_int T.b_int (xpC (PE.p (x_ecm cm_eq (xo_eq hr) (PE.p (x_ix rfl (xp 5) (PE.p (x_ix rfl (xp 1) (PE.p (ok_C pe_int rfl)))))) (PE.p (x_ix rfl (xp 6) (PE.p (x_ix rfl (xp 1) (PE.p (ok_C pe_int rfl)))))))) xpN))) s_nil))) s_nil) (s_cons (x_set 2 sc__law_steps.nd (be_if (x_bcm cm_eq (xo_eq hr) (PE.p (x_ix rfl (xp 1) (PE.p (ok_C pe_int rfl)))) (PE.p (ok_C pe_str rfl))) (xv 5) (xv 6))) (s_cons (s_if ((bt_or (x_bcm cm_nin (xo_nin hr) (PE.p (x_ix rfl (xp 1) (PE.p (ok_C pe_int rfl)))) (PE.p (ok_tup (xaC (ok_C pe_str rfl) (xaC (ok_C pe_str rfl) ok_aN))))) (bt_or (bt_not (x_bch cm_le cm_lt op_le op_lt (PE.p (ok_C pe_int rfl)) (PE.p (x_ix rfl (xp 1) (PE.p (ok_C pe_int rfl)))) (PE.p (x_len T.b_len rfl (xpC (xp 2) xpN))))) (bt_or1 (x_bcm cm_eq (xo_eq hr) (PE.p (x_ix rfl (PE.p (x_ix rfl (xp 2) (PE.p (x_ix rfl (xp 1) (PE.p (ok_C pe_int rfl)))))) (PE.p (ok_C pe_int rfl)))) (PE.p (ok_C pe_str rfl))))))).pt (s_cons (s_ret (ok_C pe_int rfl)) s_nil) s_nil) (s_cons (x_set 3 sc__law_steps.nd (x_call (c__law_behind T) hr (Nat.le_trans (by decide : 1 ≤ 1) (Nat.le_add_right _ _)) (xgV (xv 0) (xgV (x_ix rfl (xp 1) (PE.p (ok_C pe_int rfl))) (xgV (x_ix rfl (xp 1) (PE.p (ok_C pe_int rfl))) g_nil))))) (s_cons (s_if (x_bcm cm_ne (xo_ne hr) (PE.p (x_len T.b_len rfl (xpC (xp 3) xpN))) (PE.p (ok_sub (PE.p (x_len T.b_len rfl (xpC (xp 1) xpN))) (PE.p (ok_C pe_int rfl))))) (s_cons (s_ret (ok_C pe_int rfl)) s_nil) s_nil) (s_cons (x_setLc sc__law_steps.nd (show BlkOk N__law_steps _ _ [("one", 7), ("part", 8)] from blkOk_by (by kernel_rfl)) (xi_zip T.b_zip rfl (xv 3) (ok_sl rfl (xp 1) (ok_oS (PE.p (ok_C pe_int rfl))) ok_oN)) (tg_tup (is := [7, 8]) rfl) (fun _ _ _ _ _ => pg_tup rfl (pgs_cons (pg_name (i := 7) sc__law_steps.nd rfl (by first | exact .inl rfl | exact .inr rfl)) (pgs_cons (pg_name (i := 8) sc__law_steps.nd rfl (by first | exact .inl rfl | exact .inr rfl)) pgs_nil))) (fun _ _ _ _ _ => ts_nil) (fun _ _ _ _ _ => (x_call (c_rec) hr (Nat.le_refl _) (xgV (xv 7) (xgV (xv 8) g_nil))))) (s_cons (s_ret (be_if (x_bcm cm_in (xo_in hr) (PE.p (ok_C pe_int rfl)) (xp 4)) (ok_C pe_int rfl) (ok_add rfl (PE.p (ok_C pe_int rfl)) (PE.p (x_sum T.b_sum rfl (xpC (xp 4) xpN)))))) s_nil))))))))))
theorem w_law (T : Tp C.K w mg) {cdv : Value} {A : Around} {outer : List Env} {s : Shared} {H : Hp} {E : XK} {f : Addr} (hr : Room 28 (A.deeper (envOfC "law" (defScope s_law) s.heap.objs.size f cdv))) (c : Cn) (hC : c.C = C) : PSs (cxOf CX0 P w C.K mg base N_law "law" (defScope s_law) f cdv A outer s H E).nox ((defBody s_law).drop 1) (LS c m_law) := by
  subst hC
  exact (s_cons (x_unp (is := [4, 5]) rfl (ok_tup (xaC (ok_tup (xaC (ok_C pe_str rfl) (xaC (ok_C pe_int rfl) ok_aN))) (xaC (ok_tup (xaC (ok_C pe_str rfl) (xaC (ok_C pe_int rfl) ok_aN))) ok_aN))) (pgs_cons (pg_name (i := 4) sc_law.nd rfl (by first | exact .inl rfl | exact .inr rfl)) (pgs_cons (pg_name (i := 5) sc_law.nd rfl (by first | exact .inl rfl | exact .inr rfl)) pgs_nil))) (s_cons (x_set 2 sc_law.nd (ok_tup (xaC (ok_tup (xaC (ok_tup (xaC (ok_C pe_str rfl) (xaC (xv 4) (xaC (xv 5) ok_aN)))) (xaC (xv 4) ok_aN))) (xaC (ok_tup (xaC (xv 5) ok_aN)) ok_aN)))) (s_cons (s_if ((bt_or (x_bcm cm_notBl op_notBl (PE.p (x_call (c_holds T) hr (by decide) (xgV (xv 2) g_nil))) (PE.p (ok_C pe_bl rfl))) (bt_or1 (x_bcm cm_notBl op_notBl (PE.p (x_call (c_holds T) hr (by decide) (xgV (ok_tup (xaC (ok_tup (xaC (xv 4) ok_aN)) (xaC (ok_tup (xaC (xv 5) ok_aN)) ok_aN))) g_nil))) (PE.p (ok_C pe_bl rfl)))))).pt (s_cons (s_ret (ok_C pe_bl rfl)) s_nil) s_nil) (s_cons (s_if (x_bcm cm_ne (xo_ne hr) (PE.p (x_call (c_proved T) hr (by decide) (xgV (ok_tup (xaC (ok_tup (xaC (xv 4) ok_aN)) (xaC (ok_tup (xaC (xv 5) ok_aN)) ok_aN))) g_nil))) (PE.p (ok_tup (xaC (ok_C pe_str rfl) (xaC (ok_tup (xaC (ok_C pe_int rfl) (xaC (ok_C pe_int rfl) (xaC (ok_C pe_int rfl) (xaC (ok_C pe_int rfl) (xaC (ok_C pe_int rfl) ok_aN)))))) ok_aN))))) (s_cons (s_ret (ok_C pe_bl rfl)) s_nil) s_nil) (s_cons (x_for (xi_rng1 T.b_range (PE.p (ok_C pe_int rfl))) (pg_name (i := 3) sc_law.nd rfl (by first | exact .inl rfl | exact .inr rfl)) tg_name (s_cons (x_set 6 sc_law.nd (ok_add rfl (PE.p (ok_C pe_int rfl)) (PE.p (x_call (c__law_draw T) hr (by decide) (xgV (xv 1) (xgV (ok_C pe_int rfl) g_nil)))))) (s_cons (x_own 7 sc_law.nd (f_lst ok_aN)) (s_cons (x_for (xi_rng1 T.b_range (PE.p (ok_C pe_int rfl))) (pg_name (i := 8) sc_law.nd rfl (by first | exact .inl rfl | exact .inr rfl)) tg_name (s_cons (x_app 7 (x_tuple T.b_tuple rfl (xpC (PE.p (x_lc sc_law.nd (show BlkOk N_law _ _ [("at", 18)] from blkOk_by (by kernel_rfl)) (xi_rng1 T.b_range (PE.p (x_call (c__law_draw T) hr (by decide) (xgV (xv 1) (xgV (ok_C pe_int rfl) g_nil))))) tg_name (fun _ _ _ _ _ => pg_name (i := 18) sc_law.nd rfl (by first | exact .inl rfl | exact .inr rfl)) (fun _ _ _ _ _ => ts_nil) (fun _ _ _ _ _ => (x_call (c__law_formula T 20) hr (by decide) (xgV (xv 1) (xgV (xv 6) (xgV (ok_C pe_int rfl) g_nil))))))) xpN))) s_nil)) (s_cons (s_if ((bt_and (x_bcm cm_eq (xo_eq hr) (PE.p (x_call (c__law_draw T) hr (by decide) (xgV (xv 1) (xgV (ok_C pe_int rfl) g_nil)))) (PE.p (ok_C pe_int rfl))) (bt_and1 (x_bcm cm_gt op_gt (PE.p (x_len T.b_len rfl (xpC (PE.p (x_ix rfl (xp 7) (PE.p (ok_C pe_int rfl)))) xpN))) (PE.p (ok_C pe_int rfl)))))).pt (s_cons (x_put 7 (PE.p (ok_C pe_int rfl)) (ok_add rfl (PE.p (x_ix rfl (xp 7) (PE.p (ok_C pe_int rfl)))) (PE.p (ok_tup (xaC (x_call (c__law_any T) hr (by decide) (xgV (xv 1) (xgV (x_list T.b_list rfl (xpC (PE.p (x_ix rfl (xp 7) (PE.p (ok_C pe_int rfl)))) xpN)) g_nil))) ok_aN))))) s_nil) s_nil) (s_cons (x_set 9 sc_law.nd (ok_tup (xaC (x_ix rfl (xp 7) (PE.p (ok_C pe_int rfl))) (xaC (x_ix rfl (xp 7) (PE.p (ok_C pe_int rfl))) ok_aN)))) (s_cons (s_if (x_bcm cm_lt op_lt (PE.p (x_sum T.b_sum rfl (xpC (PE.p (x_lc sc_law.nd (show BlkOk N_law _ _ [("one", 17)] from blkOk_by (by kernel_rfl)) (ok_iSeq rfl (ok_add rfl (PE.p (x_ix rfl (xp 7) (PE.p (ok_C pe_int rfl)))) (PE.p (x_ix rfl (xp 7) (PE.p (ok_C pe_int rfl)))))) tg_name (fun _ _ _ _ _ => pg_name (i := 17) sc_law.nd rfl (by first | exact .inl rfl | exact .inr rfl)) (fun _ _ _ _ _ => ts_nil) (fun _ _ _ _ _ => (x_call (c__law_words T 20) hr (by decide) (xgV (xv 17) g_nil))))) xpN))) (PE.p (ok_C pe_int rfl))) (s_cons (x_setLc sc_law.nd (show BlkOk N_law _ _ [("row", 12)] from blkOk_by (by kernel_rfl)) (ok_iSeq rfl (x_call (c__law_rows T) hr (by decide) (xgV (ok_C pe_int rfl) g_nil))) tg_name (fun _ _ _ _ _ => pg_name (i := 12) sc_law.nd rfl (by first | exact .inl rfl | exact .inr rfl)) (fun _ _ _ _ _ => (ts_one (bt_not (x_val (x_call (c__law_holds T) hr (by decide) (xgV (xv 9) (xgV (xv 12) g_nil))))))) (fun _ _ _ _ _ => (xv 12))) (s_cons (x_set 11 sc_law.nd (x_call (c_proved T) hr (by decide) (xgV (xv 9) g_nil))) (s_cons (s_if ((bt_or (bt_not (x_val (x_call (c__law_is T) hr (by decide) (xgV (x_call (c_holds T) hr (by decide) (xgV (xv 9) g_nil)) (xgV (x_ecm cm_eq (xo_eq hr) (PE.p (x_len T.b_len rfl (xpC (xp 10) xpN))) (PE.p (ok_C pe_int rfl))) g_nil))))) (bt_or1 (x_bcm cm_notBl op_notBl (PE.p (x_call (c_is_proved T) hr (by decide) (xgV (xv 9) (xgV (xv 11) g_nil)))) (PE.p (ok_C pe_bl rfl)))))).pt (s_cons (s_ret (ok_C pe_bl rfl)) s_nil) s_nil) (s_cons (s_if ((bt_and (x_bcm cm_gt op_gt (PE.p (x_len T.b_len rfl (xpC (xp 10) xpN))) (PE.p (ok_C pe_int rfl))) (bt_and1 (x_bcm cm_ne (xo_ne hr) (xp 11) (PE.p (ok_tup (xaC (ok_C pe_str rfl) (xaC (x_ix rfl (xp 10) (PE.p (ok_C pe_int rfl))) ok_aN)))))))).pt (s_cons (s_ret (ok_C pe_bl rfl)) s_nil) s_nil) (s_cons (s_if (x_bcm cm_eq (xo_eq hr) (PE.p (x_len T.b_len rfl (xpC (xp 10) xpN))) (PE.p (ok_C pe_int rfl))) (s_cons (s_if ((bt_or (x_bcm cm_ne (xo_ne hr) (PE.p (x_ix rfl (xp 11) (PE.p (ok_C pe_int rfl)))) (PE.p (ok_C pe_str rfl))) (bt_or1 (x_bcm cm_ne (xo_ne hr) (PE.p (x_call (c_proof_size T) hr (by decide) (xgV (xv 9) (xgV (x_ix rfl (xp 11) (PE.p (ok_C pe_int rfl))) g_nil)))) (PE.p (x_call (c__law_steps T 20) hr (by decide) (xgV (xv 9) (xgV (x_ix rfl (xp 11) (PE.p (ok_C pe_int rfl))) g_nil)))))))).pt (s_cons (s_ret (ok_C pe_bl rfl)) s_nil) s_nil) (s_cons (x_set 13 sc_law.nd (x_ix rfl (xp 11) (PE.p (ok_C pe_int rfl)))) (s_cons (x_set 14 sc_law.nd (ok_lst (xaC (ok_sl rfl (xp 13) ok_oN (ok_oS (PE.p (ok_neg (PE.p (ok_C pe_int rfl)))))) (xaC (ok_add rfl (xp 13) (PE.p (ok_sl rfl (xp 13) (ok_oS (PE.p (ok_neg (PE.p (ok_C pe_int rfl))))) ok_oN))) (xaC (x_list T.b_list rfl (xpC (xp 13) xpN)) (xaC (ok_tup (xaC (ok_C pe_str rfl) (xaC (ok_C pe_int rfl) (xaC (ok_C pe_int rfl) ok_aN)))) (xaC (ok_C pe_non rfl) (xaC (ok_tup (xaC (ok_C pe_str rfl) (xaC (ok_C pe_int rfl) (xaC (xv 13) ok_aN)))) ok_aN)))))))) (s_cons (x_set 14 sc_law.nd (ok_add rfl (xp 14) (PE.p (ok_lst (xaC (ok_add rfl (PE.p (ok_tup (xaC (x_ix rfl (xp 13) (PE.p (ok_C pe_int rfl))) (xaC (ok_add rfl (PE.p (x_ix rfl (xp 13) (PE.p (ok_C pe_int rfl)))) (PE.p (ok_C pe_int rfl))) ok_aN)))) (PE.p (ok_sl rfl (xp 13) (ok_oS (PE.p (ok_C pe_int rfl))) ok_oN))) (xaC (ok_tup (xaC (ok_C pe_str rfl) (xaC (ok_C pe_int rfl) (xaC (xv 13) ok_aN)))) ok_aN)))))) (s_cons (x_set 15 sc_law.nd (ok_tup (xaC (ok_C pe_str rfl) (xaC (x_call (c__law_any T) hr (by decide) (xgV (xv 1) (xgV (xv 14) g_nil))) ok_aN)))) (s_cons (s_if (bt_not (x_val (x_call (c__law_is T) hr (by decide) (xgV (x_call (c_is_proved T) hr (by decide) (xgV (xv 9) (xgV (xv 15) g_nil))) (xgV (x_ecm cm_gt op_gt (PE.p (x_call (c__law_steps T 20) hr (by decide) (xgV (xv 9) (xgV (x_ix rfl (xp 15) (PE.p (ok_C pe_int rfl))) g_nil)))) (PE.p (ok_C pe_int rfl))) g_nil))))) (s_cons (s_ret (ok_C pe_bl rfl)) s_nil) s_nil) s_nil)))))) s_nil) (s_cons (x_set 12 sc_law.nd (x_call (c__law_any T) hr (by decide) (xgV (xv 1) (xgV (x_call (c__law_rows T) hr (by decide) (xgV (ok_C pe_int rfl) g_nil)) g_nil)))) (s_cons (s_if (bt_not (x_val (x_call (c__law_is T) hr (by decide) (xgV (x_call (c_is_proved T) hr (by decide) (xgV (xv 9) (xgV (ok_tup (xaC (ok_C pe_str rfl) (xaC (xv 12) ok_aN))) g_nil))) (xgV (be_not (x_call (c__law_holds T) hr (by decide) (xgV (xv 9) (xgV (xv 12) g_nil)))) g_nil))))) (s_cons (s_ret (ok_C pe_bl rfl)) s_nil) s_nil) (s_cons (s_if (x_bcm cm_gt op_gt (PE.p (x_len T.b_len rfl (xpC (PE.p (x_ix rfl (xp 7) (PE.p (ok_C pe_int rfl)))) xpN))) (PE.p (ok_C pe_int rfl))) (s_cons (x_setLc sc_law.nd (show BlkOk N_law _ _ [("row", 12)] from blkOk_by (by kernel_rfl)) (ok_iSeq rfl (x_call (c__law_rows T) hr (by decide) (xgV (ok_C pe_int rfl) g_nil))) tg_name (fun _ _ _ _ _ => pg_name (i := 12) sc_law.nd rfl (by first | exact .inl rfl | exact .inr rfl)) (fun _ _ _ _ _ => (ts_one (x_val (x_all T.b_all rfl (xpC (PE.p (x_lc sc_law.nd (show BlkOk N_law _ _ [("one", 17)] from blkOk_by (by kernel_rfl)) (ok_iSeq rfl (x_ix rfl (xp 7) (PE.p (ok_C pe_int rfl)))) tg_name (fun _ _ _ _ _ => pg_name (i := 17) sc_law.nd rfl (by first | exact .inl rfl | exact .inr rfl)) (fun _ _ _ _ _ => ts_nil) (fun _ _ _ _ _ => (x_ecm cm_eq (xo_eq hr) (PE.p (x_call (c__law_told T 20) hr (by decide) (xgV (xv 17) (xgV (xv 12) g_nil)))) (PE.p (ok_C pe_int rfl)))))) xpN))))) (fun _ _ _ _ _ => (xv 12))) (s_cons (s_if (x_bcm cm_ne (xo_ne hr) (PE.p (x_call (c_all_hold T) hr (by decide) (xgV (x_ix rfl (xp 7) (PE.p (ok_C pe_int rfl))) g_nil))) (PE.p (be_if (x_bcm cm_gt op_gt (PE.p (x_len T.b_len rfl (xpC (xp 16) xpN))) (PE.p (ok_C pe_int rfl))) (x_ix rfl (xp 16) (PE.p (ok_C pe_int rfl))) (ok_C pe_non rfl)))) (s_cons (s_ret (ok_C pe_bl rfl)) s_nil) s_nil) s_nil)) s_nil) s_nil)))))))) s_nil) s_nil))))))) (s_cons (s_ret (ok_C pe_bl rfl)) s_nil))))))
end
end Law81
namespace Law81
open PySem PySem.Spec PyProof.Rows L2 Q
theorem sc__law_hand : FnScope ["script", "cells", "cell"] ["script"] (defScope s__law_hand) := ⟨rfl, rfl, rfl, by decide +kernel, rfl, by decide +kernel, by decide +kernel⟩
def n4 (n : Nat) : Int := 7 + (n : Int)
section
variable {P : Program} {w : World} {mg : Str → Option Value} {base : Heap} {C : RC}
theorem hand_w (T : Tp C.K w mg) : ClH P w C.K mg base n4 := hand_ok T.f__law_hand sc__law_hand (t4 := tOp (rI0 fun i j => .int (i + j)) (tC (.int 7)) (tLen1 C.K)) (fun σ H q c ys e sq k => ⟨.ref c, e, c, ys, rfl, .inl sq, 7, _, rfl, rfl, k⟩) fun cdv A outer s H E =>
  pss_cons (ps_setLc (own := [("cell", 2)]) rfl sc__law_hand.nd rfl rfl (sw_true rfl rfl rfl (by decide +kernel)) (pi_list (pe_slice sl_list (pv 0) po_none (po_some pe_int))) (show BlkOk ["script", "cells", "cell"] _ _ [("cell", 2)] from blkOk_by (by kernel_rfl)) (fun _ _ _ _ _ => pg_name (i := 2) sc__law_hand.nd rfl (.inl rfl)) (fun _ _ _ _ _ => pts_nil)
    (fun _ _ _ _ _ => pe_callB call_abs (by rfl) T.b_abs (by decide +kernel) (pa_cons (pe_callTy call_int1 (by rfl) T.b_int (by decide +kernel) (pa_cons (pv 2) pa_nil)) pa_nil)))
  (pss_cons (ps_ret (pe_lst (pa_cons (pv 1) (pa_cons pe_int (pa_cons pe_int (pa_cons (pe_op op_add pe_int (pe_callB call_len_seq (by rfl) T.b_len PySem.boot_len (pa_cons (pv 1) pa_nil))) (pa_cons pe_int pa_nil))))))) pss_nil)
theorem law_fn (T : Tp C.K w mg) {f : Addr} {fd : FuncData} (G : Fun C.K "law" "law" s_law f fd) (plain : ∀ ns : List Int, ns.length ≤ 63 → ∃ S', m_law (fr0 19 1) [hand0 n4 ns] = .rt (.bl true) S') : FnOk P w C.K mg base CX0 29 f fd ["script"] (spLaw C.K) :=
  law_ok (m := m_law) (k := 28) G sc_law rfl (by decide) (hand_w T) (fun cdv A outer s H E hr => by
    obtain ⟨fh, fdh, psh, Gh, gm, kp, b⟩ := (hand_w (P := P) (base := base) T).ex
    exact pss_cons (ps_set (i := 1) sc_law.nd rfl (by first | exact .inl rfl | exact .inr rfl) (pe_call Gh (hr.mono (by decide)) (by rfl) gm kp b .nil pass0 (pa_cons (pv 0) pa_nil))) (pss_x fun c hC => w_law T hr c hC)) plain
end
theorem all_mk (plain : ∀ ns : List Int, ns.length ≤ 63 → ∃ S', m_law (fr0 19 1) [hand0 n4 ns] = .rt (.bl true) S') {l : PySem.W.OpenLaw} {w : World} {K : PySem.W.Frag} {h : Heap} {mg : Str → Option Value} {fa : Addr} (X : K.In h) (G : h.Ns mainGlobals mg) (hfa : mg "law" = some (.ref fa))
    {f_is_tuple : Addr} {od_is_tuple an_is_tuple : Option Addr} {sl_is_tuple : Array (Option Value)} {oc_is_tuple kV_is_tuple dc_is_tuple pm_is_tuple cd_is_tuple ct_is_tuple : Value}
    {f_words_in : Addr} {od_words_in an_words_in : Option Addr} {sl_words_in : Array (Option Value)} {oc_words_in kV_words_in dc_words_in pm_words_in cd_words_in ct_words_in : Value}
    {f_is_integer : Addr} {od_is_integer an_is_integer : Option Addr} {sl_is_integer : Array (Option Value)} {oc_is_integer kV_is_integer dc_is_integer pm_is_integer cd_is_integer ct_is_integer : Value}
    {f_is_within : Addr} {od_is_within an_is_within : Option Addr} {sl_is_within : Array (Option Value)} {oc_is_within kV_is_within dc_is_within pm_is_within cd_is_within ct_is_within : Value}
    {f_is_bit : Addr} {od_is_bit an_is_bit : Option Addr} {sl_is_bit : Array (Option Value)} {oc_is_bit kV_is_bit dc_is_bit pm_is_bit cd_is_bit ct_is_bit : Value}
    {f_shaped : Addr} {od_shaped an_shaped : Option Addr} {sl_shaped : Array (Option Value)} {oc_shaped kV_shaped dc_shaped pm_shaped cd_shaped ct_shaped : Value}
    {f_formula_in : Addr} {od_formula_in an_formula_in : Option Addr} {sl_formula_in : Array (Option Value)} {oc_formula_in kV_formula_in dc_formula_in pm_formula_in cd_formula_in ct_formula_in : Value}
    {f_is_side : Addr} {od_is_side an_is_side : Option Addr} {sl_is_side : Array (Option Value)} {oc_is_side kV_is_side dc_is_side pm_is_side cd_is_side ct_is_side : Value}
    {f_is_sequent : Addr} {od_is_sequent an_is_sequent : Option Addr} {sl_is_sequent : Array (Option Value)} {oc_is_sequent kV_is_sequent dc_is_sequent pm_is_sequent cd_is_sequent ct_is_sequent : Value}
    {f_check_sequent : Addr} {od_check_sequent an_check_sequent : Option Addr} {sl_check_sequent : Array (Option Value)} {oc_check_sequent kV_check_sequent dc_check_sequent pm_check_sequent cd_check_sequent ct_check_sequent : Value}
    {f_rows : Addr} {od_rows an_rows : Option Addr} {sl_rows : Array (Option Value)} {oc_rows kV_rows dc_rows pm_rows cd_rows ct_rows : Value}
    {f_told_at : Addr} {od_told_at an_told_at : Option Addr} {sl_told_at : Array (Option Value)} {oc_told_at kV_told_at dc_told_at pm_told_at cd_told_at ct_told_at : Value}
    {f_holds_at : Addr} {od_holds_at an_holds_at : Option Addr} {sl_holds_at : Array (Option Value)} {oc_holds_at kV_holds_at dc_holds_at pm_holds_at cd_holds_at ct_holds_at : Value}
    {f_first_failing : Addr} {od_first_failing an_first_failing : Option Addr} {sl_first_failing : Array (Option Value)} {oc_first_failing kV_first_failing dc_first_failing pm_first_failing cd_first_failing ct_first_failing : Value}
    {f_shared : Addr} {od_shared an_shared : Option Addr} {sl_shared : Array (Option Value)} {oc_shared kV_shared dc_shared pm_shared cd_shared ct_shared : Value}
    {f_step_at : Addr} {od_step_at an_step_at : Option Addr} {sl_step_at : Array (Option Value)} {oc_step_at kV_step_at dc_step_at pm_step_at cd_step_at ct_step_at : Value}
    {f_without : Addr} {od_without an_without : Option Addr} {sl_without : Array (Option Value)} {oc_without kV_without dc_without pm_without cd_without ct_without : Value}
    {f_parts_put : Addr} {od_parts_put an_parts_put : Option Addr} {sl_parts_put : Array (Option Value)} {oc_parts_put kV_parts_put dc_parts_put pm_parts_put cd_parts_put ct_parts_put : Value}
    {f_behind : Addr} {od_behind an_behind : Option Addr} {sl_behind : Array (Option Value)} {oc_behind kV_behind dc_behind pm_behind cd_behind ct_behind : Value}
    {f_proof_of : Addr} {od_proof_of an_proof_of : Option Addr} {sl_proof_of : Array (Option Value)} {oc_proof_of kV_proof_of dc_proof_of pm_proof_of cd_proof_of ct_proof_of : Value}
    {f_proved : Addr} {od_proved an_proved : Option Addr} {sl_proved : Array (Option Value)} {oc_proved kV_proved dc_proved pm_proved cd_proved ct_proved : Value}
    {f_holds : Addr} {od_holds an_holds : Option Addr} {sl_holds : Array (Option Value)} {oc_holds kV_holds dc_holds pm_holds cd_holds ct_holds : Value}
    {f__law_draw : Addr} {od__law_draw an__law_draw : Option Addr} {sl__law_draw : Array (Option Value)} {oc__law_draw kV__law_draw dc__law_draw pm__law_draw cd__law_draw ct__law_draw : Value}
    {f__law_any : Addr} {od__law_any an__law_any : Option Addr} {sl__law_any : Array (Option Value)} {oc__law_any kV__law_any dc__law_any pm__law_any cd__law_any ct__law_any : Value}
    {f__law_rows : Addr} {od__law_rows an__law_rows : Option Addr} {sl__law_rows : Array (Option Value)} {oc__law_rows kV__law_rows dc__law_rows pm__law_rows cd__law_rows ct__law_rows : Value}
    {f__law_is : Addr} {od__law_is an__law_is : Option Addr} {sl__law_is : Array (Option Value)} {oc__law_is kV__law_is dc__law_is pm__law_is cd__law_is ct__law_is : Value}
    {f__law_words : Addr} {od__law_words an__law_words : Option Addr} {sl__law_words : Array (Option Value)} {oc__law_words kV__law_words dc__law_words pm__law_words cd__law_words ct__law_words : Value}
    {f_are_bits : Addr} {od_are_bits an_are_bits : Option Addr} {sl_are_bits : Array (Option Value)} {oc_are_bits kV_are_bits dc_are_bits pm_are_bits cd_are_bits ct_are_bits : Value}
    {f_is_row : Addr} {od_is_row an_is_row : Option Addr} {sl_is_row : Array (Option Value)} {oc_is_row kV_is_row dc_is_row pm_is_row cd_is_row ct_is_row : Value}
    {f_size_of : Addr} {od_size_of an_size_of : Option Addr} {sl_size_of : Array (Option Value)} {oc_size_of kV_size_of dc_size_of pm_size_of cd_size_of ct_size_of : Value}
    {f_is_proved : Addr} {od_is_proved an_is_proved : Option Addr} {sl_is_proved : Array (Option Value)} {oc_is_proved kV_is_proved dc_is_proved pm_is_proved cd_is_proved ct_is_proved : Value}
    {f_all_hold : Addr} {od_all_hold an_all_hold : Option Addr} {sl_all_hold : Array (Option Value)} {oc_all_hold kV_all_hold dc_all_hold pm_all_hold cd_all_hold ct_all_hold : Value}
    {f__law_formula : Addr} {od__law_formula an__law_formula : Option Addr} {sl__law_formula : Array (Option Value)} {oc__law_formula kV__law_formula dc__law_formula pm__law_formula cd__law_formula ct__law_formula : Value}
    {f__law_told : Addr} {od__law_told an__law_told : Option Addr} {sl__law_told : Array (Option Value)} {oc__law_told kV__law_told dc__law_told pm__law_told cd__law_told ct__law_told : Value}
    {f__law_holds : Addr} {od__law_holds an__law_holds : Option Addr} {sl__law_holds : Array (Option Value)} {oc__law_holds kV__law_holds dc__law_holds pm__law_holds cd__law_holds ct__law_holds : Value}
    {f_proof_size : Addr} {od_proof_size an_proof_size : Option Addr} {sl_proof_size : Array (Option Value)} {oc_proof_size kV_proof_size dc_proof_size pm_proof_size cd_proof_size ct_proof_size : Value}
    {f__law_behind : Addr} {od__law_behind an__law_behind : Option Addr} {sl__law_behind : Array (Option Value)} {oc__law_behind kV__law_behind dc__law_behind pm__law_behind cd__law_behind ct__law_behind : Value}
    {f__law_steps : Addr} {od__law_steps an__law_steps : Option Addr} {sl__law_steps : Array (Option Value)} {oc__law_steps kV__law_steps dc__law_steps pm__law_steps cd__law_steps ct__law_steps : Value}
    {f__law_hand : Addr} {od__law_hand an__law_hand : Option Addr} {sl__law_hand : Array (Option Value)} {oc__law_hand kV__law_hand dc__law_hand pm__law_hand cd__law_hand ct__law_hand : Value}
    {f_law : Addr} {od_law an_law : Option Addr} {sl_law : Array (Option Value)} {oc_law kV_law dc_law pm_law cd_law ct_law : Value}
    {ct_DEEPEST : Tok}
    {t_JOINS : Addr} {td_JOINS : Option Addr} {ti_JOINS : Array Value} {tn_JOINS : Nat} {ts_JOINS : Array (Option Value)}
    {ct_MOST_LETTERS : Tok}
    {ct_MOST_SIDE : Tok}
    {ct_MOST_TOGETHER : Tok}
    {ct_MOST_WORDS : Tok}
    {t_WORDS_proofs : Addr} {td_WORDS_proofs : Option Addr} {ti_WORDS_proofs : Array Value} {tn_WORDS_proofs : Nat} {ts_WORDS_proofs : Array (Option Value)}
    {d_WORDS_changing_a : Addr} {es_WORDS_changing : Array DictEntry} {dn_WORDS_changing : Nat}
    {t_WORDS_changing_0 : Addr} {td_WORDS_changing_0 : Option Addr} {ti_WORDS_changing_0 : Array Value} {tn_WORDS_changing_0 : Nat} {ts_WORDS_changing_0 : Array (Option Value)}
    {t_WORDS_changing_1 : Addr} {td_WORDS_changing_1 : Option Addr} {ti_WORDS_changing_1 : Array Value} {tn_WORDS_changing_1 : Nat} {ts_WORDS_changing_1 : Array (Option Value)}
    {t_WORDS_changing_2 : Addr} {td_WORDS_changing_2 : Option Addr} {ti_WORDS_changing_2 : Array Value} {tn_WORDS_changing_2 : Nat} {ts_WORDS_changing_2 : Array (Option Value)}
    {t_WORDS_changing_3 : Addr} {td_WORDS_changing_3 : Option Addr} {ti_WORDS_changing_3 : Array Value} {tn_WORDS_changing_3 : Nat} {ts_WORDS_changing_3 : Array (Option Value)}
    {t_WORDS_changing_4 : Addr} {td_WORDS_changing_4 : Option Addr} {ti_WORDS_changing_4 : Array Value} {tn_WORDS_changing_4 : Nat} {ts_WORDS_changing_4 : Array (Option Value)}
    {t_WORDS_changing_5 : Addr} {td_WORDS_changing_5 : Option Addr} {ti_WORDS_changing_5 : Array Value} {tn_WORDS_changing_5 : Nat} {ts_WORDS_changing_5 : Array (Option Value)}
    {t_WORDS_changing_6 : Addr} {td_WORDS_changing_6 : Option Addr} {ti_WORDS_changing_6 : Array Value} {tn_WORDS_changing_6 : Nat} {ts_WORDS_changing_6 : Array (Option Value)}
    (a_is_tuple : PySem.W.nsIn K mainGlobals "is_tuple" = some (some (.ref f_is_tuple))) (l_is_tuple : K.lookup f_is_tuple = some ⟨oc_is_tuple, od_is_tuple, .func (PySem.W.fnOf "is_tuple" "is_tuple" (defArgs s_is_tuple) (defBody s_is_tuple) (defScope s_is_tuple) .none kV_is_tuple dc_is_tuple pm_is_tuple an_is_tuple cd_is_tuple ct_is_tuple), sl_is_tuple⟩) (c_is_tuple : PySem.W.codeIn K cd_is_tuple "is_tuple" = true) (k_is_tuple : PySem.W.keepIn K (.ref f_is_tuple) = true)
    (a_words_in : PySem.W.nsIn K mainGlobals "words_in" = some (some (.ref f_words_in))) (l_words_in : K.lookup f_words_in = some ⟨oc_words_in, od_words_in, .func (PySem.W.fnOf "words_in" "words_in" (defArgs s_words_in) (defBody s_words_in) (defScope s_words_in) .none kV_words_in dc_words_in pm_words_in an_words_in cd_words_in ct_words_in), sl_words_in⟩) (c_words_in : PySem.W.codeIn K cd_words_in "words_in" = true) (k_words_in : PySem.W.keepIn K (.ref f_words_in) = true)
    (a_is_integer : PySem.W.nsIn K mainGlobals "is_integer" = some (some (.ref f_is_integer))) (l_is_integer : K.lookup f_is_integer = some ⟨oc_is_integer, od_is_integer, .func (PySem.W.fnOf "is_integer" "is_integer" (defArgs s_is_integer) (defBody s_is_integer) (defScope s_is_integer) .none kV_is_integer dc_is_integer pm_is_integer an_is_integer cd_is_integer ct_is_integer), sl_is_integer⟩) (c_is_integer : PySem.W.codeIn K cd_is_integer "is_integer" = true) (k_is_integer : PySem.W.keepIn K (.ref f_is_integer) = true)
    (a_is_within : PySem.W.nsIn K mainGlobals "is_within" = some (some (.ref f_is_within))) (l_is_within : K.lookup f_is_within = some ⟨oc_is_within, od_is_within, .func (PySem.W.fnOf "is_within" "is_within" (defArgs s_is_within) (defBody s_is_within) (defScope s_is_within) .none kV_is_within dc_is_within pm_is_within an_is_within cd_is_within ct_is_within), sl_is_within⟩) (c_is_within : PySem.W.codeIn K cd_is_within "is_within" = true) (k_is_within : PySem.W.keepIn K (.ref f_is_within) = true)
    (a_is_bit : PySem.W.nsIn K mainGlobals "is_bit" = some (some (.ref f_is_bit))) (l_is_bit : K.lookup f_is_bit = some ⟨oc_is_bit, od_is_bit, .func (PySem.W.fnOf "is_bit" "is_bit" (defArgs s_is_bit) (defBody s_is_bit) (defScope s_is_bit) .none kV_is_bit dc_is_bit pm_is_bit an_is_bit cd_is_bit ct_is_bit), sl_is_bit⟩) (c_is_bit : PySem.W.codeIn K cd_is_bit "is_bit" = true) (k_is_bit : PySem.W.keepIn K (.ref f_is_bit) = true)
    (a_shaped : PySem.W.nsIn K mainGlobals "shaped" = some (some (.ref f_shaped))) (l_shaped : K.lookup f_shaped = some ⟨oc_shaped, od_shaped, .func (PySem.W.fnOf "shaped" "shaped" (defArgs s_shaped) (defBody s_shaped) (defScope s_shaped) .none kV_shaped dc_shaped pm_shaped an_shaped cd_shaped ct_shaped), sl_shaped⟩) (c_shaped : PySem.W.codeIn K cd_shaped "shaped" = true) (k_shaped : PySem.W.keepIn K (.ref f_shaped) = true)
    (a_formula_in : PySem.W.nsIn K mainGlobals "formula_in" = some (some (.ref f_formula_in))) (l_formula_in : K.lookup f_formula_in = some ⟨oc_formula_in, od_formula_in, .func (PySem.W.fnOf "formula_in" "formula_in" (defArgs s_formula_in) (defBody s_formula_in) (defScope s_formula_in) .none kV_formula_in dc_formula_in pm_formula_in an_formula_in cd_formula_in ct_formula_in), sl_formula_in⟩) (c_formula_in : PySem.W.codeIn K cd_formula_in "formula_in" = true) (k_formula_in : PySem.W.keepIn K (.ref f_formula_in) = true)
    (a_is_side : PySem.W.nsIn K mainGlobals "is_side" = some (some (.ref f_is_side))) (l_is_side : K.lookup f_is_side = some ⟨oc_is_side, od_is_side, .func (PySem.W.fnOf "is_side" "is_side" (defArgs s_is_side) (defBody s_is_side) (defScope s_is_side) .none kV_is_side dc_is_side pm_is_side an_is_side cd_is_side ct_is_side), sl_is_side⟩) (c_is_side : PySem.W.codeIn K cd_is_side "is_side" = true) (k_is_side : PySem.W.keepIn K (.ref f_is_side) = true)
    (a_is_sequent : PySem.W.nsIn K mainGlobals "is_sequent" = some (some (.ref f_is_sequent))) (l_is_sequent : K.lookup f_is_sequent = some ⟨oc_is_sequent, od_is_sequent, .func (PySem.W.fnOf "is_sequent" "is_sequent" (defArgs s_is_sequent) (defBody s_is_sequent) (defScope s_is_sequent) .none kV_is_sequent dc_is_sequent pm_is_sequent an_is_sequent cd_is_sequent ct_is_sequent), sl_is_sequent⟩) (c_is_sequent : PySem.W.codeIn K cd_is_sequent "is_sequent" = true) (k_is_sequent : PySem.W.keepIn K (.ref f_is_sequent) = true)
    (a_check_sequent : PySem.W.nsIn K mainGlobals "check_sequent" = some (some (.ref f_check_sequent))) (l_check_sequent : K.lookup f_check_sequent = some ⟨oc_check_sequent, od_check_sequent, .func (PySem.W.fnOf "check_sequent" "check_sequent" (defArgs s_check_sequent) (defBody s_check_sequent) (defScope s_check_sequent) .none kV_check_sequent dc_check_sequent pm_check_sequent an_check_sequent cd_check_sequent ct_check_sequent), sl_check_sequent⟩) (c_check_sequent : PySem.W.codeIn K cd_check_sequent "check_sequent" = true) (k_check_sequent : PySem.W.keepIn K (.ref f_check_sequent) = true)
    (a_rows : PySem.W.nsIn K mainGlobals "rows" = some (some (.ref f_rows))) (l_rows : K.lookup f_rows = some ⟨oc_rows, od_rows, .func (PySem.W.fnOf "rows" "rows" (defArgs s_rows) (defBody s_rows) (defScope s_rows) .none kV_rows dc_rows pm_rows an_rows cd_rows ct_rows), sl_rows⟩) (c_rows : PySem.W.codeIn K cd_rows "rows" = true) (k_rows : PySem.W.keepIn K (.ref f_rows) = true)
    (a_told_at : PySem.W.nsIn K mainGlobals "told_at" = some (some (.ref f_told_at))) (l_told_at : K.lookup f_told_at = some ⟨oc_told_at, od_told_at, .func (PySem.W.fnOf "told_at" "told_at" (defArgs s_told_at) (defBody s_told_at) (defScope s_told_at) .none kV_told_at dc_told_at pm_told_at an_told_at cd_told_at ct_told_at), sl_told_at⟩) (c_told_at : PySem.W.codeIn K cd_told_at "told_at" = true) (k_told_at : PySem.W.keepIn K (.ref f_told_at) = true)
    (a_holds_at : PySem.W.nsIn K mainGlobals "holds_at" = some (some (.ref f_holds_at))) (l_holds_at : K.lookup f_holds_at = some ⟨oc_holds_at, od_holds_at, .func (PySem.W.fnOf "holds_at" "holds_at" (defArgs s_holds_at) (defBody s_holds_at) (defScope s_holds_at) .none kV_holds_at dc_holds_at pm_holds_at an_holds_at cd_holds_at ct_holds_at), sl_holds_at⟩) (c_holds_at : PySem.W.codeIn K cd_holds_at "holds_at" = true) (k_holds_at : PySem.W.keepIn K (.ref f_holds_at) = true)
    (a_first_failing : PySem.W.nsIn K mainGlobals "first_failing" = some (some (.ref f_first_failing))) (l_first_failing : K.lookup f_first_failing = some ⟨oc_first_failing, od_first_failing, .func (PySem.W.fnOf "first_failing" "first_failing" (defArgs s_first_failing) (defBody s_first_failing) (defScope s_first_failing) .none kV_first_failing dc_first_failing pm_first_failing an_first_failing cd_first_failing ct_first_failing), sl_first_failing⟩) (c_first_failing : PySem.W.codeIn K cd_first_failing "first_failing" = true) (k_first_failing : PySem.W.keepIn K (.ref f_first_failing) = true)
    (a_shared : PySem.W.nsIn K mainGlobals "shared" = some (some (.ref f_shared))) (l_shared : K.lookup f_shared = some ⟨oc_shared, od_shared, .func (PySem.W.fnOf "shared" "shared" (defArgs s_shared) (defBody s_shared) (defScope s_shared) .none kV_shared dc_shared pm_shared an_shared cd_shared ct_shared), sl_shared⟩) (c_shared : PySem.W.codeIn K cd_shared "shared" = true) (k_shared : PySem.W.keepIn K (.ref f_shared) = true)
    (a_step_at : PySem.W.nsIn K mainGlobals "step_at" = some (some (.ref f_step_at))) (l_step_at : K.lookup f_step_at = some ⟨oc_step_at, od_step_at, .func (PySem.W.fnOf "step_at" "step_at" (defArgs s_step_at) (defBody s_step_at) (defScope s_step_at) .none kV_step_at dc_step_at pm_step_at an_step_at cd_step_at ct_step_at), sl_step_at⟩) (c_step_at : PySem.W.codeIn K cd_step_at "step_at" = true) (k_step_at : PySem.W.keepIn K (.ref f_step_at) = true)
    (a_without : PySem.W.nsIn K mainGlobals "without" = some (some (.ref f_without))) (l_without : K.lookup f_without = some ⟨oc_without, od_without, .func (PySem.W.fnOf "without" "without" (defArgs s_without) (defBody s_without) (defScope s_without) .none kV_without dc_without pm_without an_without cd_without ct_without), sl_without⟩) (c_without : PySem.W.codeIn K cd_without "without" = true) (k_without : PySem.W.keepIn K (.ref f_without) = true)
    (a_parts_put : PySem.W.nsIn K mainGlobals "parts_put" = some (some (.ref f_parts_put))) (l_parts_put : K.lookup f_parts_put = some ⟨oc_parts_put, od_parts_put, .func (PySem.W.fnOf "parts_put" "parts_put" (defArgs s_parts_put) (defBody s_parts_put) (defScope s_parts_put) .none kV_parts_put dc_parts_put pm_parts_put an_parts_put cd_parts_put ct_parts_put), sl_parts_put⟩) (c_parts_put : PySem.W.codeIn K cd_parts_put "parts_put" = true) (k_parts_put : PySem.W.keepIn K (.ref f_parts_put) = true)
    (a_behind : PySem.W.nsIn K mainGlobals "behind" = some (some (.ref f_behind))) (l_behind : K.lookup f_behind = some ⟨oc_behind, od_behind, .func (PySem.W.fnOf "behind" "behind" (defArgs s_behind) (defBody s_behind) (defScope s_behind) .none kV_behind dc_behind pm_behind an_behind cd_behind ct_behind), sl_behind⟩) (c_behind : PySem.W.codeIn K cd_behind "behind" = true) (k_behind : PySem.W.keepIn K (.ref f_behind) = true)
    (a_proof_of : PySem.W.nsIn K mainGlobals "proof_of" = some (some (.ref f_proof_of))) (l_proof_of : K.lookup f_proof_of = some ⟨oc_proof_of, od_proof_of, .func (PySem.W.fnOf "proof_of" "proof_of" (defArgs s_proof_of) (defBody s_proof_of) (defScope s_proof_of) .none kV_proof_of dc_proof_of pm_proof_of an_proof_of cd_proof_of ct_proof_of), sl_proof_of⟩) (c_proof_of : PySem.W.codeIn K cd_proof_of "proof_of" = true) (k_proof_of : PySem.W.keepIn K (.ref f_proof_of) = true)
    (a_proved : PySem.W.nsIn K mainGlobals "proved" = some (some (.ref f_proved))) (l_proved : K.lookup f_proved = some ⟨oc_proved, od_proved, .func (PySem.W.fnOf "proved" "proved" (defArgs s_proved) (defBody s_proved) (defScope s_proved) .none kV_proved dc_proved pm_proved an_proved cd_proved ct_proved), sl_proved⟩) (c_proved : PySem.W.codeIn K cd_proved "proved" = true) (k_proved : PySem.W.keepIn K (.ref f_proved) = true)
    (a_holds : PySem.W.nsIn K mainGlobals "holds" = some (some (.ref f_holds))) (l_holds : K.lookup f_holds = some ⟨oc_holds, od_holds, .func (PySem.W.fnOf "holds" "holds" (defArgs s_holds) (defBody s_holds) (defScope s_holds) .none kV_holds dc_holds pm_holds an_holds cd_holds ct_holds), sl_holds⟩) (c_holds : PySem.W.codeIn K cd_holds "holds" = true) (k_holds : PySem.W.keepIn K (.ref f_holds) = true)
    (a__law_draw : PySem.W.nsIn K mainGlobals "_law_draw" = some (some (.ref f__law_draw))) (l__law_draw : K.lookup f__law_draw = some ⟨oc__law_draw, od__law_draw, .func (PySem.W.fnOf "_law_draw" "_law_draw" (defArgs s__law_draw) (defBody s__law_draw) (defScope s__law_draw) .none kV__law_draw dc__law_draw pm__law_draw an__law_draw cd__law_draw ct__law_draw), sl__law_draw⟩) (c__law_draw : PySem.W.codeIn K cd__law_draw "_law_draw" = true) (k__law_draw : PySem.W.keepIn K (.ref f__law_draw) = true)
    (a__law_any : PySem.W.nsIn K mainGlobals "_law_any" = some (some (.ref f__law_any))) (l__law_any : K.lookup f__law_any = some ⟨oc__law_any, od__law_any, .func (PySem.W.fnOf "_law_any" "_law_any" (defArgs s__law_any) (defBody s__law_any) (defScope s__law_any) .none kV__law_any dc__law_any pm__law_any an__law_any cd__law_any ct__law_any), sl__law_any⟩) (c__law_any : PySem.W.codeIn K cd__law_any "_law_any" = true) (k__law_any : PySem.W.keepIn K (.ref f__law_any) = true)
    (a__law_rows : PySem.W.nsIn K mainGlobals "_law_rows" = some (some (.ref f__law_rows))) (l__law_rows : K.lookup f__law_rows = some ⟨oc__law_rows, od__law_rows, .func (PySem.W.fnOf "_law_rows" "_law_rows" (defArgs s__law_rows) (defBody s__law_rows) (defScope s__law_rows) .none kV__law_rows dc__law_rows pm__law_rows an__law_rows cd__law_rows ct__law_rows), sl__law_rows⟩) (c__law_rows : PySem.W.codeIn K cd__law_rows "_law_rows" = true) (k__law_rows : PySem.W.keepIn K (.ref f__law_rows) = true)
    (a__law_is : PySem.W.nsIn K mainGlobals "_law_is" = some (some (.ref f__law_is))) (l__law_is : K.lookup f__law_is = some ⟨oc__law_is, od__law_is, .func (PySem.W.fnOf "_law_is" "_law_is" (defArgs s__law_is) (defBody s__law_is) (defScope s__law_is) .none kV__law_is dc__law_is pm__law_is an__law_is cd__law_is ct__law_is), sl__law_is⟩) (c__law_is : PySem.W.codeIn K cd__law_is "_law_is" = true) (k__law_is : PySem.W.keepIn K (.ref f__law_is) = true)
    (a__law_words : PySem.W.nsIn K mainGlobals "_law_words" = some (some (.ref f__law_words))) (l__law_words : K.lookup f__law_words = some ⟨oc__law_words, od__law_words, .func (PySem.W.fnOf "_law_words" "_law_words" (defArgs s__law_words) (defBody s__law_words) (defScope s__law_words) .none kV__law_words dc__law_words pm__law_words an__law_words cd__law_words ct__law_words), sl__law_words⟩) (c__law_words : PySem.W.codeIn K cd__law_words "_law_words" = true) (k__law_words : PySem.W.keepIn K (.ref f__law_words) = true)
    (a_are_bits : PySem.W.nsIn K mainGlobals "are_bits" = some (some (.ref f_are_bits))) (l_are_bits : K.lookup f_are_bits = some ⟨oc_are_bits, od_are_bits, .func (PySem.W.fnOf "are_bits" "are_bits" (defArgs s_are_bits) (defBody s_are_bits) (defScope s_are_bits) .none kV_are_bits dc_are_bits pm_are_bits an_are_bits cd_are_bits ct_are_bits), sl_are_bits⟩) (c_are_bits : PySem.W.codeIn K cd_are_bits "are_bits" = true) (k_are_bits : PySem.W.keepIn K (.ref f_are_bits) = true)
    (a_is_row : PySem.W.nsIn K mainGlobals "is_row" = some (some (.ref f_is_row))) (l_is_row : K.lookup f_is_row = some ⟨oc_is_row, od_is_row, .func (PySem.W.fnOf "is_row" "is_row" (defArgs s_is_row) (defBody s_is_row) (defScope s_is_row) .none kV_is_row dc_is_row pm_is_row an_is_row cd_is_row ct_is_row), sl_is_row⟩) (c_is_row : PySem.W.codeIn K cd_is_row "is_row" = true) (k_is_row : PySem.W.keepIn K (.ref f_is_row) = true)
    (a_size_of : PySem.W.nsIn K mainGlobals "size_of" = some (some (.ref f_size_of))) (l_size_of : K.lookup f_size_of = some ⟨oc_size_of, od_size_of, .func (PySem.W.fnOf "size_of" "size_of" (defArgs s_size_of) (defBody s_size_of) (defScope s_size_of) .none kV_size_of dc_size_of pm_size_of an_size_of cd_size_of ct_size_of), sl_size_of⟩) (c_size_of : PySem.W.codeIn K cd_size_of "size_of" = true) (k_size_of : PySem.W.keepIn K (.ref f_size_of) = true)
    (a_is_proved : PySem.W.nsIn K mainGlobals "is_proved" = some (some (.ref f_is_proved))) (l_is_proved : K.lookup f_is_proved = some ⟨oc_is_proved, od_is_proved, .func (PySem.W.fnOf "is_proved" "is_proved" (defArgs s_is_proved) (defBody s_is_proved) (defScope s_is_proved) .none kV_is_proved dc_is_proved pm_is_proved an_is_proved cd_is_proved ct_is_proved), sl_is_proved⟩) (c_is_proved : PySem.W.codeIn K cd_is_proved "is_proved" = true) (k_is_proved : PySem.W.keepIn K (.ref f_is_proved) = true)
    (a_all_hold : PySem.W.nsIn K mainGlobals "all_hold" = some (some (.ref f_all_hold))) (l_all_hold : K.lookup f_all_hold = some ⟨oc_all_hold, od_all_hold, .func (PySem.W.fnOf "all_hold" "all_hold" (defArgs s_all_hold) (defBody s_all_hold) (defScope s_all_hold) .none kV_all_hold dc_all_hold pm_all_hold an_all_hold cd_all_hold ct_all_hold), sl_all_hold⟩) (c_all_hold : PySem.W.codeIn K cd_all_hold "all_hold" = true) (k_all_hold : PySem.W.keepIn K (.ref f_all_hold) = true)
    (a__law_formula : PySem.W.nsIn K mainGlobals "_law_formula" = some (some (.ref f__law_formula))) (l__law_formula : K.lookup f__law_formula = some ⟨oc__law_formula, od__law_formula, .func (PySem.W.fnOf "_law_formula" "_law_formula" (defArgs s__law_formula) (defBody s__law_formula) (defScope s__law_formula) .none kV__law_formula dc__law_formula pm__law_formula an__law_formula cd__law_formula ct__law_formula), sl__law_formula⟩) (c__law_formula : PySem.W.codeIn K cd__law_formula "_law_formula" = true) (k__law_formula : PySem.W.keepIn K (.ref f__law_formula) = true)
    (a__law_told : PySem.W.nsIn K mainGlobals "_law_told" = some (some (.ref f__law_told))) (l__law_told : K.lookup f__law_told = some ⟨oc__law_told, od__law_told, .func (PySem.W.fnOf "_law_told" "_law_told" (defArgs s__law_told) (defBody s__law_told) (defScope s__law_told) .none kV__law_told dc__law_told pm__law_told an__law_told cd__law_told ct__law_told), sl__law_told⟩) (c__law_told : PySem.W.codeIn K cd__law_told "_law_told" = true) (k__law_told : PySem.W.keepIn K (.ref f__law_told) = true)
    (a__law_holds : PySem.W.nsIn K mainGlobals "_law_holds" = some (some (.ref f__law_holds))) (l__law_holds : K.lookup f__law_holds = some ⟨oc__law_holds, od__law_holds, .func (PySem.W.fnOf "_law_holds" "_law_holds" (defArgs s__law_holds) (defBody s__law_holds) (defScope s__law_holds) .none kV__law_holds dc__law_holds pm__law_holds an__law_holds cd__law_holds ct__law_holds), sl__law_holds⟩) (c__law_holds : PySem.W.codeIn K cd__law_holds "_law_holds" = true) (k__law_holds : PySem.W.keepIn K (.ref f__law_holds) = true)
    (a_proof_size : PySem.W.nsIn K mainGlobals "proof_size" = some (some (.ref f_proof_size))) (l_proof_size : K.lookup f_proof_size = some ⟨oc_proof_size, od_proof_size, .func (PySem.W.fnOf "proof_size" "proof_size" (defArgs s_proof_size) (defBody s_proof_size) (defScope s_proof_size) .none kV_proof_size dc_proof_size pm_proof_size an_proof_size cd_proof_size ct_proof_size), sl_proof_size⟩) (c_proof_size : PySem.W.codeIn K cd_proof_size "proof_size" = true) (k_proof_size : PySem.W.keepIn K (.ref f_proof_size) = true)
    (a__law_behind : PySem.W.nsIn K mainGlobals "_law_behind" = some (some (.ref f__law_behind))) (l__law_behind : K.lookup f__law_behind = some ⟨oc__law_behind, od__law_behind, .func (PySem.W.fnOf "_law_behind" "_law_behind" (defArgs s__law_behind) (defBody s__law_behind) (defScope s__law_behind) .none kV__law_behind dc__law_behind pm__law_behind an__law_behind cd__law_behind ct__law_behind), sl__law_behind⟩) (c__law_behind : PySem.W.codeIn K cd__law_behind "_law_behind" = true) (k__law_behind : PySem.W.keepIn K (.ref f__law_behind) = true)
    (a__law_steps : PySem.W.nsIn K mainGlobals "_law_steps" = some (some (.ref f__law_steps))) (l__law_steps : K.lookup f__law_steps = some ⟨oc__law_steps, od__law_steps, .func (PySem.W.fnOf "_law_steps" "_law_steps" (defArgs s__law_steps) (defBody s__law_steps) (defScope s__law_steps) .none kV__law_steps dc__law_steps pm__law_steps an__law_steps cd__law_steps ct__law_steps), sl__law_steps⟩) (c__law_steps : PySem.W.codeIn K cd__law_steps "_law_steps" = true) (k__law_steps : PySem.W.keepIn K (.ref f__law_steps) = true)
    (a__law_hand : PySem.W.nsIn K mainGlobals "_law_hand" = some (some (.ref f__law_hand))) (l__law_hand : K.lookup f__law_hand = some ⟨oc__law_hand, od__law_hand, .func (PySem.W.fnOf "_law_hand" "_law_hand" (defArgs s__law_hand) (defBody s__law_hand) (defScope s__law_hand) .none kV__law_hand dc__law_hand pm__law_hand an__law_hand cd__law_hand ct__law_hand), sl__law_hand⟩) (c__law_hand : PySem.W.codeIn K cd__law_hand "_law_hand" = true) (k__law_hand : PySem.W.keepIn K (.ref f__law_hand) = true)
    (a_law : PySem.W.nsIn K mainGlobals "law" = some (some (.ref f_law))) (l_law : K.lookup f_law = some ⟨oc_law, od_law, .func (PySem.W.fnOf "law" "law" (defArgs s_law) (defBody s_law) (defScope s_law) .none kV_law dc_law pm_law an_law cd_law ct_law), sl_law⟩) (c_law : PySem.W.codeIn K cd_law "law" = true) (k_law : PySem.W.keepIn K (.ref f_law) = true)
    (z_abs : PySem.W.nsIn K mainGlobals "abs" = some none)
    (z_all : PySem.W.nsIn K mainGlobals "all" = some none)
    (z_any : PySem.W.nsIn K mainGlobals "any" = some none)
    (z_bool : PySem.W.nsIn K mainGlobals "bool" = some none)
    (z_enumerate : PySem.W.nsIn K mainGlobals "enumerate" = some none)
    (z_int : PySem.W.nsIn K mainGlobals "int" = some none)
    (z_isinstance : PySem.W.nsIn K mainGlobals "isinstance" = some none)
    (z_len : PySem.W.nsIn K mainGlobals "len" = some none)
    (z_list : PySem.W.nsIn K mainGlobals "list" = some none)
    (z_max : PySem.W.nsIn K mainGlobals "max" = some none)
    (z_min : PySem.W.nsIn K mainGlobals "min" = some none)
    (z_range : PySem.W.nsIn K mainGlobals "range" = some none)
    (z_str : PySem.W.nsIn K mainGlobals "str" = some none)
    (z_sum : PySem.W.nsIn K mainGlobals "sum" = some none)
    (z_tuple : PySem.W.nsIn K mainGlobals "tuple" = some none)
    (z_zip : PySem.W.nsIn K mainGlobals "zip" = some none)
    (t1_DEEPEST : PySem.W.nsIn K mainGlobals "DEEPEST" = some (some (.int 12 ct_DEEPEST)))
    (t1_JOINS : PySem.W.nsIn K mainGlobals "JOINS" = some (some (.ref t_JOINS))) (t2_JOINS : K.lookup t_JOINS = some ⟨.type "tuple", td_JOINS, .seq ti_JOINS tn_JOINS, ts_JOINS⟩) (t3_JOINS : ti_JOINS.toList.map absV = ([.str "and", .str "or", .str "xor", .str "then", .str "same"] : List V).map some)
    (t1_MOST_LETTERS : PySem.W.nsIn K mainGlobals "MOST_LETTERS" = some (some (.int 5 ct_MOST_LETTERS)))
    (t1_MOST_SIDE : PySem.W.nsIn K mainGlobals "MOST_SIDE" = some (some (.int 8 ct_MOST_SIDE)))
    (t1_MOST_TOGETHER : PySem.W.nsIn K mainGlobals "MOST_TOGETHER" = some (some (.int 8 ct_MOST_TOGETHER)))
    (t1_MOST_WORDS : PySem.W.nsIn K mainGlobals "MOST_WORDS" = some (some (.int 12 ct_MOST_WORDS)))
    (t1_WORDS_proofs : PySem.W.nsIn K mainGlobals "WORDS_proofs" = some (some (.ref t_WORDS_proofs))) (t2_WORDS_proofs : K.lookup t_WORDS_proofs = some ⟨.type "tuple", td_WORDS_proofs, .seq ti_WORDS_proofs tn_WORDS_proofs, ts_WORDS_proofs⟩) (t3_WORDS_proofs : ti_WORDS_proofs.toList.map absV = ([.str "not", .str "and", .str "or", .str "then"] : List V).map some)
    (d1_WORDS_changing : PySem.W.nsIn K mainGlobals "WORDS_changing" = some (some (.ref d_WORDS_changing_a))) (d2_WORDS_changing : K.lookup d_WORDS_changing_a = some ⟨.type "dict", none, .dict es_WORDS_changing dn_WORDS_changing, #[]⟩) (d3_WORDS_changing : PySem.W.KeysLit w.params es_WORDS_changing.toList)
    (t1_WORDS_changing_0 : PySem.W.nsIn K d_WORDS_changing_a "and" = some (some (.ref t_WORDS_changing_0))) (t2_WORDS_changing_0 : K.lookup t_WORDS_changing_0 = some ⟨.type "tuple", td_WORDS_changing_0, .seq ti_WORDS_changing_0 tn_WORDS_changing_0, ts_WORDS_changing_0⟩) (t3_WORDS_changing_0 : ti_WORDS_changing_0.toList.map absV = ([.int 0, .int 0, .int 0, .int 1] : List V).map some)
    (t1_WORDS_changing_1 : PySem.W.nsIn K d_WORDS_changing_a "or" = some (some (.ref t_WORDS_changing_1))) (t2_WORDS_changing_1 : K.lookup t_WORDS_changing_1 = some ⟨.type "tuple", td_WORDS_changing_1, .seq ti_WORDS_changing_1 tn_WORDS_changing_1, ts_WORDS_changing_1⟩) (t3_WORDS_changing_1 : ti_WORDS_changing_1.toList.map absV = ([.int 0, .int 1, .int 1, .int 1] : List V).map some)
    (t1_WORDS_changing_2 : PySem.W.nsIn K d_WORDS_changing_a "xor" = some (some (.ref t_WORDS_changing_2))) (t2_WORDS_changing_2 : K.lookup t_WORDS_changing_2 = some ⟨.type "tuple", td_WORDS_changing_2, .seq ti_WORDS_changing_2 tn_WORDS_changing_2, ts_WORDS_changing_2⟩) (t3_WORDS_changing_2 : ti_WORDS_changing_2.toList.map absV = ([.int 0, .int 1, .int 1, .int 0] : List V).map some)
    (t1_WORDS_changing_3 : PySem.W.nsIn K d_WORDS_changing_a "then" = some (some (.ref t_WORDS_changing_3))) (t2_WORDS_changing_3 : K.lookup t_WORDS_changing_3 = some ⟨.type "tuple", td_WORDS_changing_3, .seq ti_WORDS_changing_3 tn_WORDS_changing_3, ts_WORDS_changing_3⟩) (t3_WORDS_changing_3 : ti_WORDS_changing_3.toList.map absV = ([.int 1, .int 1, .int 0, .int 1] : List V).map some)
    (t1_WORDS_changing_4 : PySem.W.nsIn K d_WORDS_changing_a "same" = some (some (.ref t_WORDS_changing_4))) (t2_WORDS_changing_4 : K.lookup t_WORDS_changing_4 = some ⟨.type "tuple", td_WORDS_changing_4, .seq ti_WORDS_changing_4 tn_WORDS_changing_4, ts_WORDS_changing_4⟩) (t3_WORDS_changing_4 : ti_WORDS_changing_4.toList.map absV = ([.int 1, .int 0, .int 0, .int 1] : List V).map some)
    (t1_WORDS_changing_5 : PySem.W.nsIn K d_WORDS_changing_a "nand" = some (some (.ref t_WORDS_changing_5))) (t2_WORDS_changing_5 : K.lookup t_WORDS_changing_5 = some ⟨.type "tuple", td_WORDS_changing_5, .seq ti_WORDS_changing_5 tn_WORDS_changing_5, ts_WORDS_changing_5⟩) (t3_WORDS_changing_5 : ti_WORDS_changing_5.toList.map absV = ([.int 1, .int 1, .int 1, .int 0] : List V).map some)
    (t1_WORDS_changing_6 : PySem.W.nsIn K d_WORDS_changing_a "nor" = some (some (.ref t_WORDS_changing_6))) (t2_WORDS_changing_6 : K.lookup t_WORDS_changing_6 = some ⟨.type "tuple", td_WORDS_changing_6, .seq ti_WORDS_changing_6 tn_WORDS_changing_6, ts_WORDS_changing_6⟩) (t3_WORDS_changing_6 : ti_WORDS_changing_6.toList.map absV = ([.int 1, .int 0, .int 0, .int 0] : List V).map some)
    : ∃ fd : FuncData, (∀ (s : Shared) (v : Value), BindsTo s fd ⟨[v], []⟩ [("script", v)]) ∧ ∀ base : Heap, K.In base → base.Ns mainGlobals mg → FnOk l.prog w K mg base CX0 29 fa fd ["script"] (spLaw K) := by
  have e := hfa.symm.trans (PySem.W.mg_of X G a_law)
  cases e
  have T : Tp K w mg := {
    f_is_tuple := ⟨f_is_tuple, _, fun_mk (st := s_is_tuple) l_is_tuple c_is_tuple k_is_tuple, PySem.W.mg_of X G a_is_tuple, (fun_mk (st := s_is_tuple) l_is_tuple c_is_tuple k_is_tuple).binds fun _ _ _ _ _ _ us hl => match us, hl with | [_, _, _], _ => rfl⟩
    f_words_in := ⟨f_words_in, _, fun_mk (st := s_words_in) l_words_in c_words_in k_words_in, PySem.W.mg_of X G a_words_in, (fun_mk (st := s_words_in) l_words_in c_words_in k_words_in).binds fun _ _ _ _ _ _ us hl => match us, hl with | [_], _ => rfl⟩
    f_is_integer := ⟨f_is_integer, _, fun_mk (st := s_is_integer) l_is_integer c_is_integer k_is_integer, PySem.W.mg_of X G a_is_integer, (fun_mk (st := s_is_integer) l_is_integer c_is_integer k_is_integer).binds fun _ _ _ _ _ _ us hl => match us, hl with | [_], _ => rfl⟩
    f_is_within := ⟨f_is_within, _, fun_mk (st := s_is_within) l_is_within c_is_within k_is_within, PySem.W.mg_of X G a_is_within, (fun_mk (st := s_is_within) l_is_within c_is_within k_is_within).binds fun _ _ _ _ _ _ us hl => match us, hl with | [_, _, _], _ => rfl⟩
    f_is_bit := ⟨f_is_bit, _, fun_mk (st := s_is_bit) l_is_bit c_is_bit k_is_bit, PySem.W.mg_of X G a_is_bit, (fun_mk (st := s_is_bit) l_is_bit c_is_bit k_is_bit).binds fun _ _ _ _ _ _ us hl => match us, hl with | [_], _ => rfl⟩
    f_shaped := ⟨f_shaped, _, fun_mk (st := s_shaped) l_shaped c_shaped k_shaped, PySem.W.mg_of X G a_shaped, (fun_mk (st := s_shaped) l_shaped c_shaped k_shaped).binds fun _ _ _ _ _ _ us hl => match us, hl with | [_, _, _], _ => rfl⟩
    f_formula_in := ⟨f_formula_in, _, fun_mk (st := s_formula_in) l_formula_in c_formula_in k_formula_in, PySem.W.mg_of X G a_formula_in, (fun_mk (st := s_formula_in) l_formula_in c_formula_in k_formula_in).binds fun _ _ _ _ _ _ us hl => match us, hl with | [_, _], _ => rfl⟩
    f_is_side := ⟨f_is_side, _, fun_mk (st := s_is_side) l_is_side c_is_side k_is_side, PySem.W.mg_of X G a_is_side, (fun_mk (st := s_is_side) l_is_side c_is_side k_is_side).binds fun _ _ _ _ _ _ us hl => match us, hl with | [_], _ => rfl⟩
    f_is_sequent := ⟨f_is_sequent, _, fun_mk (st := s_is_sequent) l_is_sequent c_is_sequent k_is_sequent, PySem.W.mg_of X G a_is_sequent, (fun_mk (st := s_is_sequent) l_is_sequent c_is_sequent k_is_sequent).binds fun _ _ _ _ _ _ us hl => match us, hl with | [_], _ => rfl⟩
    f_check_sequent := ⟨f_check_sequent, _, fun_mk (st := s_check_sequent) l_check_sequent c_check_sequent k_check_sequent, PySem.W.mg_of X G a_check_sequent, (fun_mk (st := s_check_sequent) l_check_sequent c_check_sequent k_check_sequent).binds fun _ _ _ _ _ _ us hl => match us, hl with | [_], _ => rfl⟩
    f_rows := ⟨f_rows, _, fun_mk (st := s_rows) l_rows c_rows k_rows, PySem.W.mg_of X G a_rows, (fun_mk (st := s_rows) l_rows c_rows k_rows).binds fun _ _ _ _ _ _ us hl => match us, hl with | [_], _ => rfl⟩
    f_told_at := ⟨f_told_at, _, fun_mk (st := s_told_at) l_told_at c_told_at k_told_at, PySem.W.mg_of X G a_told_at, (fun_mk (st := s_told_at) l_told_at c_told_at k_told_at).binds fun _ _ _ _ _ _ us hl => match us, hl with | [_, _], _ => rfl⟩
    f_holds_at := ⟨f_holds_at, _, fun_mk (st := s_holds_at) l_holds_at c_holds_at k_holds_at, PySem.W.mg_of X G a_holds_at, (fun_mk (st := s_holds_at) l_holds_at c_holds_at k_holds_at).binds fun _ _ _ _ _ _ us hl => match us, hl with | [_, _], _ => rfl⟩
    f_first_failing := ⟨f_first_failing, _, fun_mk (st := s_first_failing) l_first_failing c_first_failing k_first_failing, PySem.W.mg_of X G a_first_failing, (fun_mk (st := s_first_failing) l_first_failing c_first_failing k_first_failing).binds fun _ _ _ _ _ _ us hl => match us, hl with | [_], _ => rfl⟩
    f_shared := ⟨f_shared, _, fun_mk (st := s_shared) l_shared c_shared k_shared, PySem.W.mg_of X G a_shared, (fun_mk (st := s_shared) l_shared c_shared k_shared).binds fun _ _ _ _ _ _ us hl => match us, hl with | [_], _ => rfl⟩
    f_step_at := ⟨f_step_at, _, fun_mk (st := s_step_at) l_step_at c_step_at k_step_at, PySem.W.mg_of X G a_step_at, (fun_mk (st := s_step_at) l_step_at c_step_at k_step_at).binds fun _ _ _ _ _ _ us hl => match us, hl with | [_], _ => rfl⟩
    f_without := ⟨f_without, _, fun_mk (st := s_without) l_without c_without k_without, PySem.W.mg_of X G a_without, (fun_mk (st := s_without) l_without c_without k_without).binds fun _ _ _ _ _ _ us hl => match us, hl with | [_, _], _ => rfl⟩
    f_parts_put := ⟨f_parts_put, _, fun_mk (st := s_parts_put) l_parts_put c_parts_put k_parts_put, PySem.W.mg_of X G a_parts_put, (fun_mk (st := s_parts_put) l_parts_put c_parts_put k_parts_put).binds fun _ _ _ _ _ _ us hl => match us, hl with | [_, _], _ => rfl⟩
    f_behind := ⟨f_behind, _, fun_mk (st := s_behind) l_behind c_behind k_behind, PySem.W.mg_of X G a_behind, (fun_mk (st := s_behind) l_behind c_behind k_behind).binds fun _ _ _ _ _ _ us hl => match us, hl with | [_, _, _], _ => rfl⟩
    f_proof_of := ⟨f_proof_of, _, fun_mk (st := s_proof_of) l_proof_of c_proof_of k_proof_of, PySem.W.mg_of X G a_proof_of, (fun_mk (st := s_proof_of) l_proof_of c_proof_of k_proof_of).binds fun _ _ _ _ _ _ us hl => match us, hl with | [_], _ => rfl⟩
    f_proved := ⟨f_proved, _, fun_mk (st := s_proved) l_proved c_proved k_proved, PySem.W.mg_of X G a_proved, (fun_mk (st := s_proved) l_proved c_proved k_proved).binds fun _ _ _ _ _ _ us hl => match us, hl with | [_], _ => rfl⟩
    f_holds := ⟨f_holds, _, fun_mk (st := s_holds) l_holds c_holds k_holds, PySem.W.mg_of X G a_holds, (fun_mk (st := s_holds) l_holds c_holds k_holds).binds fun _ _ _ _ _ _ us hl => match us, hl with | [_], _ => rfl⟩
    f__law_draw := ⟨f__law_draw, _, fun_mk (st := s__law_draw) l__law_draw c__law_draw k__law_draw, PySem.W.mg_of X G a__law_draw, (fun_mk (st := s__law_draw) l__law_draw c__law_draw k__law_draw).binds fun _ _ _ _ _ _ us hl => match us, hl with | [_, _], _ => rfl⟩
    f__law_any := ⟨f__law_any, _, fun_mk (st := s__law_any) l__law_any c__law_any k__law_any, PySem.W.mg_of X G a__law_any, (fun_mk (st := s__law_any) l__law_any c__law_any k__law_any).binds fun _ _ _ _ _ _ us hl => match us, hl with | [_, _], _ => rfl⟩
    f__law_rows := ⟨f__law_rows, _, fun_mk (st := s__law_rows) l__law_rows c__law_rows k__law_rows, PySem.W.mg_of X G a__law_rows, (fun_mk (st := s__law_rows) l__law_rows c__law_rows k__law_rows).binds fun _ _ _ _ _ _ us hl => match us, hl with | [_], _ => rfl⟩
    f__law_is := ⟨f__law_is, _, fun_mk (st := s__law_is) l__law_is c__law_is k__law_is, PySem.W.mg_of X G a__law_is, (fun_mk (st := s__law_is) l__law_is c__law_is k__law_is).binds fun _ _ _ _ _ _ us hl => match us, hl with | [_, _], _ => rfl⟩
    f__law_words := ⟨f__law_words, _, fun_mk (st := s__law_words) l__law_words c__law_words k__law_words, PySem.W.mg_of X G a__law_words, (fun_mk (st := s__law_words) l__law_words c__law_words k__law_words).binds fun _ _ _ _ _ _ us hl => match us, hl with | [_], _ => rfl⟩
    f_are_bits := ⟨f_are_bits, _, fun_mk (st := s_are_bits) l_are_bits c_are_bits k_are_bits, PySem.W.mg_of X G a_are_bits, (fun_mk (st := s_are_bits) l_are_bits c_are_bits k_are_bits).binds fun _ _ _ _ _ _ us hl => match us, hl with | [_, _], _ => rfl⟩
    f_is_row := ⟨f_is_row, _, fun_mk (st := s_is_row) l_is_row c_is_row k_is_row, PySem.W.mg_of X G a_is_row, (fun_mk (st := s_is_row) l_is_row c_is_row k_is_row).binds fun _ _ _ _ _ _ us hl => match us, hl with | [_, _], _ => rfl⟩
    f_size_of := ⟨f_size_of, _, fun_mk (st := s_size_of) l_size_of c_size_of k_size_of, PySem.W.mg_of X G a_size_of, (fun_mk (st := s_size_of) l_size_of c_size_of k_size_of).binds fun _ _ _ _ _ _ us hl => match us, hl with | [_, _], _ => rfl⟩
    f_is_proved := ⟨f_is_proved, _, fun_mk (st := s_is_proved) l_is_proved c_is_proved k_is_proved, PySem.W.mg_of X G a_is_proved, (fun_mk (st := s_is_proved) l_is_proved c_is_proved k_is_proved).binds fun _ _ _ _ _ _ us hl => match us, hl with | [_, _], _ => rfl⟩
    f_all_hold := ⟨f_all_hold, _, fun_mk (st := s_all_hold) l_all_hold c_all_hold k_all_hold, PySem.W.mg_of X G a_all_hold, (fun_mk (st := s_all_hold) l_all_hold c_all_hold k_all_hold).binds fun _ _ _ _ _ _ us hl => match us, hl with | [_], _ => rfl⟩
    f__law_formula := ⟨f__law_formula, _, fun_mk (st := s__law_formula) l__law_formula c__law_formula k__law_formula, PySem.W.mg_of X G a__law_formula, (fun_mk (st := s__law_formula) l__law_formula c__law_formula k__law_formula).binds fun _ _ _ _ _ _ us hl => match us, hl with | [_, _, _], _ => rfl⟩
    f__law_told := ⟨f__law_told, _, fun_mk (st := s__law_told) l__law_told c__law_told k__law_told, PySem.W.mg_of X G a__law_told, (fun_mk (st := s__law_told) l__law_told c__law_told k__law_told).binds fun _ _ _ _ _ _ us hl => match us, hl with | [_, _], _ => rfl⟩
    f__law_holds := ⟨f__law_holds, _, fun_mk (st := s__law_holds) l__law_holds c__law_holds k__law_holds, PySem.W.mg_of X G a__law_holds, (fun_mk (st := s__law_holds) l__law_holds c__law_holds k__law_holds).binds fun _ _ _ _ _ _ us hl => match us, hl with | [_, _], _ => rfl⟩
    f_proof_size := ⟨f_proof_size, _, fun_mk (st := s_proof_size) l_proof_size c_proof_size k_proof_size, PySem.W.mg_of X G a_proof_size, (fun_mk (st := s_proof_size) l_proof_size c_proof_size k_proof_size).binds fun _ _ _ _ _ _ us hl => match us, hl with | [_, _], _ => rfl⟩
    f__law_behind := ⟨f__law_behind, _, fun_mk (st := s__law_behind) l__law_behind c__law_behind k__law_behind, PySem.W.mg_of X G a__law_behind, (fun_mk (st := s__law_behind) l__law_behind c__law_behind k__law_behind).binds fun _ _ _ _ _ _ us hl => match us, hl with | [_, _, _], _ => rfl⟩
    f__law_steps := ⟨f__law_steps, _, fun_mk (st := s__law_steps) l__law_steps c__law_steps k__law_steps, PySem.W.mg_of X G a__law_steps, (fun_mk (st := s__law_steps) l__law_steps c__law_steps k__law_steps).binds fun _ _ _ _ _ _ us hl => match us, hl with | [_, _], _ => rfl⟩
    f__law_hand := ⟨f__law_hand, _, fun_mk (st := s__law_hand) l__law_hand c__law_hand k__law_hand, PySem.W.mg_of X G a__law_hand, (fun_mk (st := s__law_hand) l__law_hand c__law_hand k__law_hand).binds fun _ _ _ _ _ _ us hl => match us, hl with | [_], _ => rfl⟩
    b_abs := PySem.W.mg_none_of X G z_abs
    b_all := PySem.W.mg_none_of X G z_all
    b_any := PySem.W.mg_none_of X G z_any
    b_bool := PySem.W.mg_none_of X G z_bool
    b_enumerate := PySem.W.mg_none_of X G z_enumerate
    b_int := PySem.W.mg_none_of X G z_int
    b_isinstance := PySem.W.mg_none_of X G z_isinstance
    b_len := PySem.W.mg_none_of X G z_len
    b_list := PySem.W.mg_none_of X G z_list
    b_max := PySem.W.mg_none_of X G z_max
    b_min := PySem.W.mg_none_of X G z_min
    b_range := PySem.W.mg_none_of X G z_range
    b_str := PySem.W.mg_none_of X G z_str
    b_sum := PySem.W.mg_none_of X G z_sum
    b_tuple := PySem.W.mg_none_of X G z_tuple
    b_zip := PySem.W.mg_none_of X G z_zip
    k_DEEPEST := ⟨_, .int 12, PySem.W.mg_of X G t1_DEEPEST, ⟨_, rfl⟩, by simp [k_DEEPEST, KRep]⟩
    k_JOINS := ⟨_, .ref t_JOINS, PySem.W.mg_of X G t1_JOINS, rfl, kt_flat t2_JOINS t3_JOINS (by decide) (by simp [KReps, KRep])⟩
    k_MOST_LETTERS := ⟨_, .int 5, PySem.W.mg_of X G t1_MOST_LETTERS, ⟨_, rfl⟩, by simp [k_MOST_LETTERS, KRep]⟩
    k_MOST_SIDE := ⟨_, .int 8, PySem.W.mg_of X G t1_MOST_SIDE, ⟨_, rfl⟩, by simp [k_MOST_SIDE, KRep]⟩
    k_MOST_TOGETHER := ⟨_, .int 8, PySem.W.mg_of X G t1_MOST_TOGETHER, ⟨_, rfl⟩, by simp [k_MOST_TOGETHER, KRep]⟩
    k_MOST_WORDS := ⟨_, .int 12, PySem.W.mg_of X G t1_MOST_WORDS, ⟨_, rfl⟩, by simp [k_MOST_WORDS, KRep]⟩
    k_WORDS_proofs := ⟨_, .ref t_WORDS_proofs, PySem.W.mg_of X G t1_WORDS_proofs, rfl, kt_flat t2_WORDS_proofs t3_WORDS_proofs (by decide) (by simp [KReps, KRep])⟩
    d_WORDS_changing := ⟨d_WORDS_changing_a, PySem.W.mg_of X G d1_WORDS_changing, by
      intro s t e
      unfold d_WORDS_changing at e
      refine gd_cons (p := fun s t => ∃ v, KDct K w d_WORDS_changing_a s v ∧ KRep K t v) e ⟨.ref t_WORDS_changing_0, ⟨es_WORDS_changing, dn_WORDS_changing, _, d2_WORDS_changing, d3_WORDS_changing, t1_WORDS_changing_0, rfl⟩, kt_flat t2_WORDS_changing_0 t3_WORDS_changing_0 (by decide) (by simp [KReps, KRep])⟩ fun e => ?_
      refine gd_cons (p := fun s t => ∃ v, KDct K w d_WORDS_changing_a s v ∧ KRep K t v) e ⟨.ref t_WORDS_changing_1, ⟨es_WORDS_changing, dn_WORDS_changing, _, d2_WORDS_changing, d3_WORDS_changing, t1_WORDS_changing_1, rfl⟩, kt_flat t2_WORDS_changing_1 t3_WORDS_changing_1 (by decide) (by simp [KReps, KRep])⟩ fun e => ?_
      refine gd_cons (p := fun s t => ∃ v, KDct K w d_WORDS_changing_a s v ∧ KRep K t v) e ⟨.ref t_WORDS_changing_2, ⟨es_WORDS_changing, dn_WORDS_changing, _, d2_WORDS_changing, d3_WORDS_changing, t1_WORDS_changing_2, rfl⟩, kt_flat t2_WORDS_changing_2 t3_WORDS_changing_2 (by decide) (by simp [KReps, KRep])⟩ fun e => ?_
      refine gd_cons (p := fun s t => ∃ v, KDct K w d_WORDS_changing_a s v ∧ KRep K t v) e ⟨.ref t_WORDS_changing_3, ⟨es_WORDS_changing, dn_WORDS_changing, _, d2_WORDS_changing, d3_WORDS_changing, t1_WORDS_changing_3, rfl⟩, kt_flat t2_WORDS_changing_3 t3_WORDS_changing_3 (by decide) (by simp [KReps, KRep])⟩ fun e => ?_
      refine gd_cons (p := fun s t => ∃ v, KDct K w d_WORDS_changing_a s v ∧ KRep K t v) e ⟨.ref t_WORDS_changing_4, ⟨es_WORDS_changing, dn_WORDS_changing, _, d2_WORDS_changing, d3_WORDS_changing, t1_WORDS_changing_4, rfl⟩, kt_flat t2_WORDS_changing_4 t3_WORDS_changing_4 (by decide) (by simp [KReps, KRep])⟩ fun e => ?_
      refine gd_cons (p := fun s t => ∃ v, KDct K w d_WORDS_changing_a s v ∧ KRep K t v) e ⟨.ref t_WORDS_changing_5, ⟨es_WORDS_changing, dn_WORDS_changing, _, d2_WORDS_changing, d3_WORDS_changing, t1_WORDS_changing_5, rfl⟩, kt_flat t2_WORDS_changing_5 t3_WORDS_changing_5 (by decide) (by simp [KReps, KRep])⟩ fun e => ?_
      refine gd_cons (p := fun s t => ∃ v, KDct K w d_WORDS_changing_a s v ∧ KRep K t v) e ⟨.ref t_WORDS_changing_6, ⟨es_WORDS_changing, dn_WORDS_changing, _, d2_WORDS_changing, d3_WORDS_changing, t1_WORDS_changing_6, rfl⟩, kt_flat t2_WORDS_changing_6 t3_WORDS_changing_6 (by decide) (by simp [KReps, KRep])⟩ fun e => ?_
      exact nomatch e⟩
  }
  exact ⟨PySem.W.fnOf "law" "law" (defArgs s_law) (defBody s_law) (defScope s_law) .none kV_law dc_law pm_law an_law cd_law ct_law, fun s v => .of_eq rfl, fun base _ _ => law_fn (C := RC0 K) T (fun_mk (st := s_law) l_law c_law k_law) plain⟩
end Law81
open PySem PySem.W PyProof.Rows
set_option maxHeartbeats 0 in
theorem PySem.Challenge.cw_bittables_k81_whole_sequents_proved_or_n_holds : PySem.Challenge.rw_bittables_k81_whole_sequents_proved_or_n.Holds := by
  w_on; o_law; k_head; (case hw => w_witness2)
  k_fill
  refine L2.walk_of (l := PySem.Challenge.rw_bittables_k81_whole_sequents_proved_or_n) (n := 63) (k := 29) (x := "script") (CX := fun _ => L2.CX0) (sp := fun w => Q.spLaw _) rfl (by decide) rfl ⟨rfl, by decide, by decide⟩ (fun w h Y => PySem.W.kIn_of Y) ?F (fun _ _ a ns hl _ hS => ⟨a, ns, rfl, hS, hl, fun _ => rfl⟩) (fun _ _ _ _ _ h => h)
  case F =>
    intro w mg fa h KX G hmg
    refine' Law81.all_mk Law81.plain KX G hmg (a_is_tuple := ?a_is_tuple) (l_is_tuple := ?l_is_tuple) (c_is_tuple := ?c_is_tuple) (k_is_tuple := ?k_is_tuple) (a_words_in := ?a_words_in) (l_words_in := ?l_words_in) (c_words_in := ?c_words_in) (k_words_in := ?k_words_in) (a_is_integer := ?a_is_integer) (l_is_integer := ?l_is_integer) (c_is_integer := ?c_is_integer) (k_is_integer := ?k_is_integer) (a_is_within := ?a_is_within) (l_is_within := ?l_is_within) (c_is_within := ?c_is_within) (k_is_within := ?k_is_within) (a_is_bit := ?a_is_bit) (l_is_bit := ?l_is_bit) (c_is_bit := ?c_is_bit) (k_is_bit := ?k_is_bit) (a_shaped := ?a_shaped) (l_shaped := ?l_shaped) (c_shaped := ?c_shaped) (k_shaped := ?k_shaped) (a_formula_in := ?a_formula_in) (l_formula_in := ?l_formula_in) (c_formula_in := ?c_formula_in) (k_formula_in := ?k_formula_in) (a_is_side := ?a_is_side) (l_is_side := ?l_is_side) (c_is_side := ?c_is_side) (k_is_side := ?k_is_side) (a_is_sequent := ?a_is_sequent) (l_is_sequent := ?l_is_sequent) (c_is_sequent := ?c_is_sequent) (k_is_sequent := ?k_is_sequent) (a_check_sequent := ?a_check_sequent) (l_check_sequent := ?l_check_sequent) (c_check_sequent := ?c_check_sequent) (k_check_sequent := ?k_check_sequent) (a_rows := ?a_rows) (l_rows := ?l_rows) (c_rows := ?c_rows) (k_rows := ?k_rows) (a_told_at := ?a_told_at) (l_told_at := ?l_told_at) (c_told_at := ?c_told_at) (k_told_at := ?k_told_at) (a_holds_at := ?a_holds_at) (l_holds_at := ?l_holds_at) (c_holds_at := ?c_holds_at) (k_holds_at := ?k_holds_at) (a_first_failing := ?a_first_failing) (l_first_failing := ?l_first_failing) (c_first_failing := ?c_first_failing) (k_first_failing := ?k_first_failing) (a_shared := ?a_shared) (l_shared := ?l_shared) (c_shared := ?c_shared) (k_shared := ?k_shared) (a_step_at := ?a_step_at) (l_step_at := ?l_step_at) (c_step_at := ?c_step_at) (k_step_at := ?k_step_at) (a_without := ?a_without) (l_without := ?l_without) (c_without := ?c_without) (k_without := ?k_without) (a_parts_put := ?a_parts_put) (l_parts_put := ?l_parts_put) (c_parts_put := ?c_parts_put) (k_parts_put := ?k_parts_put) (a_behind := ?a_behind) (l_behind := ?l_behind) (c_behind := ?c_behind) (k_behind := ?k_behind) (a_proof_of := ?a_proof_of) (l_proof_of := ?l_proof_of) (c_proof_of := ?c_proof_of) (k_proof_of := ?k_proof_of) (a_proved := ?a_proved) (l_proved := ?l_proved) (c_proved := ?c_proved) (k_proved := ?k_proved) (a_holds := ?a_holds) (l_holds := ?l_holds) (c_holds := ?c_holds) (k_holds := ?k_holds) (a__law_draw := ?a__law_draw) (l__law_draw := ?l__law_draw) (c__law_draw := ?c__law_draw) (k__law_draw := ?k__law_draw) (a__law_any := ?a__law_any) (l__law_any := ?l__law_any) (c__law_any := ?c__law_any) (k__law_any := ?k__law_any) (a__law_rows := ?a__law_rows) (l__law_rows := ?l__law_rows) (c__law_rows := ?c__law_rows) (k__law_rows := ?k__law_rows) (a__law_is := ?a__law_is) (l__law_is := ?l__law_is) (c__law_is := ?c__law_is) (k__law_is := ?k__law_is) (a__law_words := ?a__law_words) (l__law_words := ?l__law_words) (c__law_words := ?c__law_words) (k__law_words := ?k__law_words) (a_are_bits := ?a_are_bits) (l_are_bits := ?l_are_bits) (c_are_bits := ?c_are_bits) (k_are_bits := ?k_are_bits) (a_is_row := ?a_is_row) (l_is_row := ?l_is_row) (c_is_row := ?c_is_row) (k_is_row := ?k_is_row) (a_size_of := ?a_size_of) (l_size_of := ?l_size_of) (c_size_of := ?c_size_of) (k_size_of := ?k_size_of) (a_is_proved := ?a_is_proved) (l_is_proved := ?l_is_proved) (c_is_proved := ?c_is_proved) (k_is_proved := ?k_is_proved) (a_all_hold := ?a_all_hold) (l_all_hold := ?l_all_hold) (c_all_hold := ?c_all_hold) (k_all_hold := ?k_all_hold) (a__law_formula := ?a__law_formula) (l__law_formula := ?l__law_formula) (c__law_formula := ?c__law_formula) (k__law_formula := ?k__law_formula) (a__law_told := ?a__law_told) (l__law_told := ?l__law_told) (c__law_told := ?c__law_told) (k__law_told := ?k__law_told) (a__law_holds := ?a__law_holds) (l__law_holds := ?l__law_holds) (c__law_holds := ?c__law_holds) (k__law_holds := ?k__law_holds) (a_proof_size := ?a_proof_size) (l_proof_size := ?l_proof_size) (c_proof_size := ?c_proof_size) (k_proof_size := ?k_proof_size) (a__law_behind := ?a__law_behind) (l__law_behind := ?l__law_behind) (c__law_behind := ?c__law_behind) (k__law_behind := ?k__law_behind) (a__law_steps := ?a__law_steps) (l__law_steps := ?l__law_steps) (c__law_steps := ?c__law_steps) (k__law_steps := ?k__law_steps) (a__law_hand := ?a__law_hand) (l__law_hand := ?l__law_hand) (c__law_hand := ?c__law_hand) (k__law_hand := ?k__law_hand) (a_law := ?a_law) (l_law := ?l_law) (c_law := ?c_law) (k_law := ?k_law) (z_abs := ?z_abs) (z_all := ?z_all) (z_any := ?z_any) (z_bool := ?z_bool) (z_enumerate := ?z_enumerate) (z_int := ?z_int) (z_isinstance := ?z_isinstance) (z_len := ?z_len) (z_list := ?z_list) (z_max := ?z_max) (z_min := ?z_min) (z_range := ?z_range) (z_str := ?z_str) (z_sum := ?z_sum) (z_tuple := ?z_tuple) (z_zip := ?z_zip) (t1_DEEPEST := ?t1_DEEPEST) (t1_JOINS := ?t1_JOINS) (t2_JOINS := ?t2_JOINS) (t1_MOST_LETTERS := ?t1_MOST_LETTERS) (t1_MOST_SIDE := ?t1_MOST_SIDE) (t1_MOST_TOGETHER := ?t1_MOST_TOGETHER) (t1_MOST_WORDS := ?t1_MOST_WORDS) (t1_WORDS_proofs := ?t1_WORDS_proofs) (t2_WORDS_proofs := ?t2_WORDS_proofs) (d1_WORDS_changing := ?d1_WORDS_changing) (d2_WORDS_changing := ?d2_WORDS_changing) (t1_WORDS_changing_0 := ?t1_WORDS_changing_0) (t2_WORDS_changing_0 := ?t2_WORDS_changing_0) (t1_WORDS_changing_1 := ?t1_WORDS_changing_1) (t2_WORDS_changing_1 := ?t2_WORDS_changing_1) (t1_WORDS_changing_2 := ?t1_WORDS_changing_2) (t2_WORDS_changing_2 := ?t2_WORDS_changing_2) (t1_WORDS_changing_3 := ?t1_WORDS_changing_3) (t2_WORDS_changing_3 := ?t2_WORDS_changing_3) (t1_WORDS_changing_4 := ?t1_WORDS_changing_4) (t2_WORDS_changing_4 := ?t2_WORDS_changing_4) (t1_WORDS_changing_5 := ?t1_WORDS_changing_5) (t2_WORDS_changing_5 := ?t2_WORDS_changing_5) (t1_WORDS_changing_6 := ?t1_WORDS_changing_6) (t2_WORDS_changing_6 := ?t2_WORDS_changing_6) (t3_JOINS := ?t3_JOINS) (t3_WORDS_proofs := ?t3_WORDS_proofs) (d3_WORDS_changing := ?d3_WORDS_changing) (t3_WORDS_changing_0 := ?t3_WORDS_changing_0) (t3_WORDS_changing_1 := ?t3_WORDS_changing_1) (t3_WORDS_changing_2 := ?t3_WORDS_changing_2) (t3_WORDS_changing_3 := ?t3_WORDS_changing_3) (t3_WORDS_changing_4 := ?t3_WORDS_changing_4) (t3_WORDS_changing_5 := ?t3_WORDS_changing_5) (t3_WORDS_changing_6 := ?t3_WORDS_changing_6)
    (case a_is_tuple => k_is); (case l_is_tuple => k_is); (case c_is_tuple => k_is); (case k_is_tuple => k_is); (case a_words_in => k_is); (case l_words_in => k_is); (case c_words_in => k_is); (case k_words_in => k_is); (case a_is_integer => k_is); (case l_is_integer => k_is); (case c_is_integer => k_is); (case k_is_integer => k_is); (case a_is_within => k_is); (case l_is_within => k_is); (case c_is_within => k_is); (case k_is_within => k_is); (case a_is_bit => k_is); (case l_is_bit => k_is); (case c_is_bit => k_is); (case k_is_bit => k_is); (case a_shaped => k_is); (case l_shaped => k_is); (case c_shaped => k_is); (case k_shaped => k_is); (case a_formula_in => k_is); (case l_formula_in => k_is); (case c_formula_in => k_is); (case k_formula_in => k_is); (case a_is_side => k_is); (case l_is_side => k_is); (case c_is_side => k_is); (case k_is_side => k_is); (case a_is_sequent => k_is); (case l_is_sequent => k_is); (case c_is_sequent => k_is); (case k_is_sequent => k_is); (case a_check_sequent => k_is); (case l_check_sequent => k_is); (case c_check_sequent => k_is); (case k_check_sequent => k_is); (case a_rows => k_is); (case l_rows => k_is); (case c_rows => k_is); (case k_rows => k_is); (case a_told_at => k_is); (case l_told_at => k_is); (case c_told_at => k_is); (case k_told_at => k_is); (case a_holds_at => k_is); (case l_holds_at => k_is); (case c_holds_at => k_is); (case k_holds_at => k_is); (case a_first_failing => k_is); (case l_first_failing => k_is); (case c_first_failing => k_is); (case k_first_failing => k_is); (case a_shared => k_is); (case l_shared => k_is); (case c_shared => k_is); (case k_shared => k_is); (case a_step_at => k_is); (case l_step_at => k_is); (case c_step_at => k_is); (case k_step_at => k_is); (case a_without => k_is); (case l_without => k_is); (case c_without => k_is); (case k_without => k_is); (case a_parts_put => k_is); (case l_parts_put => k_is); (case c_parts_put => k_is); (case k_parts_put => k_is); (case a_behind => k_is); (case l_behind => k_is); (case c_behind => k_is); (case k_behind => k_is); (case a_proof_of => k_is); (case l_proof_of => k_is); (case c_proof_of => k_is); (case k_proof_of => k_is); (case a_proved => k_is); (case l_proved => k_is); (case c_proved => k_is); (case k_proved => k_is); (case a_holds => k_is); (case l_holds => k_is); (case c_holds => k_is); (case k_holds => k_is); (case a__law_draw => k_is); (case l__law_draw => k_is); (case c__law_draw => k_is); (case k__law_draw => k_is); (case a__law_any => k_is); (case l__law_any => k_is); (case c__law_any => k_is); (case k__law_any => k_is); (case a__law_rows => k_is); (case l__law_rows => k_is); (case c__law_rows => k_is); (case k__law_rows => k_is); (case a__law_is => k_is); (case l__law_is => k_is); (case c__law_is => k_is); (case k__law_is => k_is); (case a__law_words => k_is); (case l__law_words => k_is); (case c__law_words => k_is); (case k__law_words => k_is); (case a_are_bits => k_is); (case l_are_bits => k_is); (case c_are_bits => k_is); (case k_are_bits => k_is); (case a_is_row => k_is); (case l_is_row => k_is); (case c_is_row => k_is); (case k_is_row => k_is); (case a_size_of => k_is); (case l_size_of => k_is); (case c_size_of => k_is); (case k_size_of => k_is); (case a_is_proved => k_is); (case l_is_proved => k_is); (case c_is_proved => k_is); (case k_is_proved => k_is); (case a_all_hold => k_is); (case l_all_hold => k_is); (case c_all_hold => k_is); (case k_all_hold => k_is); (case a__law_formula => k_is); (case l__law_formula => k_is); (case c__law_formula => k_is); (case k__law_formula => k_is); (case a__law_told => k_is); (case l__law_told => k_is); (case c__law_told => k_is); (case k__law_told => k_is); (case a__law_holds => k_is); (case l__law_holds => k_is); (case c__law_holds => k_is); (case k__law_holds => k_is); (case a_proof_size => k_is); (case l_proof_size => k_is); (case c_proof_size => k_is); (case k_proof_size => k_is); (case a__law_behind => k_is); (case l__law_behind => k_is); (case c__law_behind => k_is); (case k__law_behind => k_is); (case a__law_steps => k_is); (case l__law_steps => k_is); (case c__law_steps => k_is); (case k__law_steps => k_is); (case a__law_hand => k_is); (case l__law_hand => k_is); (case c__law_hand => k_is); (case k__law_hand => k_is); (case a_law => k_is); (case l_law => k_is); (case c_law => k_is); (case k_law => k_is); (case z_abs => k_is); (case z_all => k_is); (case z_any => k_is); (case z_bool => k_is); (case z_enumerate => k_is); (case z_int => k_is); (case z_isinstance => k_is); (case z_len => k_is); (case z_list => k_is); (case z_max => k_is); (case z_min => k_is); (case z_range => k_is); (case z_str => k_is); (case z_sum => k_is); (case z_tuple => k_is); (case z_zip => k_is); (case t1_DEEPEST => k_is); (case t1_JOINS => k_is); (case t2_JOINS => k_is); (case t1_MOST_LETTERS => k_is); (case t1_MOST_SIDE => k_is); (case t1_MOST_TOGETHER => k_is); (case t1_MOST_WORDS => k_is); (case t1_WORDS_proofs => k_is); (case t2_WORDS_proofs => k_is); (case d1_WORDS_changing => k_is); (case d2_WORDS_changing => k_is); (case t1_WORDS_changing_0 => k_is); (case t2_WORDS_changing_0 => k_is); (case t1_WORDS_changing_1 => k_is); (case t2_WORDS_changing_1 => k_is); (case t1_WORDS_changing_2 => k_is); (case t2_WORDS_changing_2 => k_is); (case t1_WORDS_changing_3 => k_is); (case t2_WORDS_changing_3 => k_is); (case t1_WORDS_changing_4 => k_is); (case t2_WORDS_changing_4 => k_is); (case t1_WORDS_changing_5 => k_is); (case t2_WORDS_changing_5 => k_is); (case t1_WORDS_changing_6 => k_is); (case t2_WORDS_changing_6 => k_is)
    (case t3_JOINS => rfl)
    (case t3_WORDS_proofs => rfl)
    (case d3_WORDS_changing => exact ⟨⟨_, _, rfl, rfl⟩, ⟨⟨_, _, rfl, rfl⟩, ⟨⟨_, _, rfl, rfl⟩, ⟨⟨_, _, rfl, rfl⟩, ⟨⟨_, _, rfl, rfl⟩, ⟨⟨_, _, rfl, rfl⟩, ⟨⟨_, _, rfl, rfl⟩, trivial⟩⟩⟩⟩⟩⟩⟩)
    (case t3_WORDS_changing_0 => rfl)
    (case t3_WORDS_changing_1 => rfl)
    (case t3_WORDS_changing_2 => rfl)
    (case t3_WORDS_changing_3 => rfl)
    (case t3_WORDS_changing_4 => rfl)
    (case t3_WORDS_changing_5 => rfl)
    (case t3_WORDS_changing_6 => rfl)
