import PyProof.Rows.All
import Wide.All
import OpenK.AllK
import Wide.FinOn
import HandS.ForMost
import HandS.IsInst
import HandS.Style
import HandS.TupAny
import HandS.TupLe
import HandS.Wide
import HandS.Deep
import KE.SortData
import KE.DataCmp
import HandS.Zip
import HandS.Words
import HandS.Ends
import PyProof.Rows.KernelRfl
import PySem.Challenge.RW_stepsworn_k53_all_plans_of_a_program
set_option Elab.async false
set_option maxRecDepth 100000
set_option autoImplicit false
set_option maxHeartbeats 4000000
set_option linter.all false
/-! DVCore: the small language and its evaluator. -/
namespace DV
open PySem L2

/-! ### values, objects -/
/-- a value: a datum, a list of the store, a tuple that holds lists, a list that is only read -/
inductive W where
  | d (x : PyData) | ref (n : Nat) | tr (l : List W) | lv (l : List PyData)
  deriving Inhabited
inductive O where
  | lst (l : List W)
  deriving Inhabited
abbrev Sto := List O
abbrev Loc := List (Option W)

/-- written constants -/
inductive Cst where
  | non | bl (b : Bool) | int (i : Int) | str (s : Str)
  deriving DecidableEq, Inhabited
def Cst.toD : Cst → PyData
  | .non => .none | .bl b => .bool b | .int i => .int i | .str s => .str s

inductive Bin where | add | sub | mul | fdiv | mod | pow
  deriving DecidableEq
inductive Cm where | eq | ne | lt | le | gt | ge | is | isn | isin | notin
  deriving DecidableEq
inductive Bf where | len | all | any | tuple | list | sorted | int | max | min
  deriving DecidableEq
inductive Ty where | tuple | str | int | bool | list
  deriving DecidableEq
inductive Mt where | append | extend | pop
  deriving DecidableEq
inductive Tg where | nm (i : Nat) | tp (l : List Nat)
  deriving DecidableEq

mutual
inductive Ex where
  | v (i : Nat)
  | c (k : Cst)
  | g (x : Str) (k : Cst)
  | bin (o : Bin) (a b : Ex)
  | neg (a : Ex)
  | cmp (o : Cm) (a b : Ex)
  | and (a b : Ex)
  | or (a b : Ex)
  | not (a : Ex)
  | ite (t a b : Ex)
  | tup (l : Es)
  | lst (l : Es)
  | fn (f : Nat) (l : Es)
  | bf (f : Bf) (l : Es)
  | isi (a : Ex) (t : Ty)
  | ix (a i : Ex)
  | sl (a : Ex) (lo hi : Eo)
  | rev (a : Ex)
  | mt (m : Mt) (a : Ex) (l : Es)
  | lc (it : It) (g : Tg) (own : List Nat) (t e : Ex)
  | lc2 (it : It) (g : Tg) (t : Ex) (it1 : It) (g1 : Tg) (own own1 : List Nat) (t1 e : Ex)
  deriving DecidableEq
inductive Es where
  | nil | cons (a : Ex) (l : Es)
  deriving DecidableEq
inductive Eo where
  | no | so (a : Ex)
  deriving DecidableEq
inductive It where
  | seq (a : Ex) | rng1 (a : Ex) | rng3 (a b c : Ex) | zip (a b : Ex)
  deriving DecidableEq
end
mutual
inductive Sm where
  | expr (e : Ex)
  | asg (g : Tg) (e : Ex)
  | asgIx (o i e : Ex)
  | aug (i : Nat) (o : Bin) (e : Ex)
  | ret (e : Ex)
  | retN
  | ite (c : Ex) (a b : Ss)
  | whl (c : Ex) (b : Ss)
  | for (it : It) (g : Tg) (b : Ss)
  | brk | cont | pass | never
  deriving DecidableEq
inductive Ss where
  | nil | cons (a : Sm) (l : Ss)
  deriving DecidableEq
end

inductive Fl where
  | next | brk | cont | ret (w : W)

/-! ### operations -/
def capN : Nat := 100000
def allD : List W → Option (List PyData)
  | [] => some []
  | .d x :: r => match allD r with | some ds => some (x :: ds) | none => none
  | .ref _ :: _ => none
  | .tr _ :: _ => none
  | .lv _ :: _ => none
def mkT (l : List W) : W := match allD l with | some ds => .d (.tuple ds) | none => .tr l
def tupOf : W → Option (List W)
  | .d (.tuple xs) => some (xs.map .d)
  | .tr l => some l
  | _ => none
def getL (S : Sto) (n : Nat) : Option (List W) := match S[n]? with | some (.lst l) => some l | none => none
def lstOf (S : Sto) : W → Option (List W)
  | .ref n => getL S n
  | .lv l => some (l.map .d)
  | _ => none
/-- a new list -/
def newL (l : List W) (S : Sto) : W × Sto := (.ref S.length, S ++ [.lst l])
def mulOk (i j : Int) : Bool := decide (i.natAbs < 2 ^ 64) || decide (j.natAbs < 2 ^ 64)
def binF : Bin → W → W → Sto → Option (W × Sto)
  | .add, x, y, S => match x, y with
    | .d (.int i), .d (.int j) => some (.d (.int (i + j)), S)
    | .d (.str a), .d (.str b) => if a.length + b.length ≤ capN then some (.d (.str (a ++ b)), S) else none
    | x, y => match tupOf x with
      | some l => match tupOf y with
        | some m => if l.length + m.length ≤ capN then some (mkT (l ++ m), S) else none
        | none => none
      | none => match lstOf S x with
        | some l => match lstOf S y with
          | some m => if l.length + m.length ≤ capN then some (newL (l ++ m) S) else none
          | none => none
        | none => none
  | .sub, x, y, S => match x, y with
    | .d (.int i), .d (.int j) => some (.d (.int (i - j)), S)
    | _, _ => none
  | .mul, x, y, S => match x, y with
    | .d (.int i), .d (.int j) => if mulOk i j then some (.d (.int (i * j)), S) else none
    | .ref n, .d (.int k) => match getL S n with
      | some l => if decide (k.natAbs < 2 ^ 60) && decide (l.length * k.toNat ≤ capN) then some (newL (List.replicate k.toNat l).flatten S) else none
      | none => none
    | _, _ => none
  | .fdiv, x, y, S => match x, y with
    | .d (.int i), .d (.int j) => if decide (0 < j) && decide (j < 1073741824) then some (.d (.int (i / j)), S) else none
    | _, _ => none
  | .mod, x, y, S => match x, y with
    | .d (.int i), .d (.int j) => if decide (0 < j) then some (.d (.int (i % j)), S) else none
    | _, _ => none
  | .pow, x, y, S => match x, y with
    | .d (.int i), .d (.int j) => if decide (0 ≤ j) && decide (j ≤ 1000000) && decide (i.natAbs < 2 ^ 64) then some (.d (.int (i ^ j.toNat)), S) else none
    | _, _ => none
/-! data without holes: a hole is a list that stands as data -/
mutual
def noH : PyData → Bool
  | .tuple xs => noHs xs
  | .list _ => false
  | _ => true
def noHs : List PyData → Bool
  | [] => true
  | x :: r => noH x && noHs r
end
/-- data to be compared (a list's, too) -/
def datOf (S : Sto) : W → Option PyData
  | .d x => if noH x then some x else none
  | .lv l => if noHs l then some (.list l) else none
  | .ref n => match getL S n with
    | some l => match allD l with | some ds => if noHs ds then some (.list ds) else none | none => none
    | none => none
  | .tr _ => none
def eqF (S : Sto) (x y : W) : Option Bool := match x, y with
  | .d (.str a), .d (.str b) => some (a == b)
  | .d (.int a), .d (.int b) => some (a == b)
  | x, y => match datOf S x with
    | some a => match datOf S y with
      | some b => if SeqAt.shaped a && SeqAt.shaped b then some (PyData.eqv a b) else none
      | none => none
    | none => none
/-- data that can be compared by their order -/
def cmpOk (a b : PyData) : Bool := (noH a && noH b) && (PySem.W.alike a b && decide (a.depth ≤ 64) && (match a with | .none => false | _ => true))
def isNoneW : W → Bool
  | .d .none => true
  | _ => false
def cmpF : Cm → W → W → Sto → Option Bool
  | .eq, x, y, S => eqF S x y
  | .ne, x, y, S => (eqF S x y).map (!·)
  | .lt, x, y, _ => match x, y with
    | .d (.int i), .d (.int j) => some (decide (i < j))
    | .d a, .d b => if cmpOk a b then some (PySem.W.dataLt a b) else none
    | _, _ => none
  | .le, x, y, _ => match x, y with
    | .d (.int i), .d (.int j) => some (decide (i ≤ j))
    | .d a, .d b => if cmpOk a b then some (!PySem.W.dataLt b a) else none
    | _, _ => none
  | .gt, x, y, _ => match x, y with
    | .d (.int i), .d (.int j) => some (decide (j < i))
    | .d a, .d b => if cmpOk a b then some (PySem.W.dataLt b a) else none
    | _, _ => none
  | .ge, x, y, _ => match x, y with
    | .d (.int i), .d (.int j) => some (decide (j ≤ i))
    | .d a, .d b => if cmpOk a b then some (!PySem.W.dataLt a b) else none
    | _, _ => none
  | .is, x, y, _ => match x, y with
    | .d (.bool a), .d (.bool b) => some (a == b)
    | x, .d .none => some (isNoneW x)
    | _, _ => none
  | .isn, x, y, _ => match x, y with
    | .d (.bool a), .d (.bool b) => some (!(a == b))
    | x, .d .none => some (!isNoneW x)
    | _, _ => none
  | .isin, x, y, _ => match x, y with
    | .d (.str i), .d (.str j) => some (!(Builtin.Str.occurrences j i 0 j.length 1).isEmpty)
    | _, _ => none
  | .notin, x, y, _ => match x, y with
    | .d (.str i), .d (.str j) => some (!(!(Builtin.Str.occurrences j i 0 j.length 1).isEmpty))
    | _, _ => none
def boolsOf : List W → Option (List Bool)
  | [] => some []
  | .d (.bool b) :: r => match boolsOf r with | some bs => some (b :: bs) | none => none
  | _ :: _ => none
def seqOf (S : Sto) (x : W) : Option (List W) := match tupOf x with | some l => some l | none => lstOf S x
def sortable (ds : List PyData) : Bool := noHs ds && (
  ds.all (fun a => decide (a.depth ≤ 64)) && ds.all (fun a => ds.all (fun b => PySem.W.alike a b)) &&
    (ds.all (fun a => match a with | .tuple (_ :: _) => true | _ => false) || ds.all (fun a => match a with | .int _ => true | .str _ => true | _ => false)))
def insD (a : PyData) : List PyData → List PyData
  | [] => [a]
  | b :: r => if PySem.W.dataLe false id a b then a :: b :: r else b :: insD a r
def sortD : List PyData → List PyData
  | [] => []
  | a :: r => insD a (sortD r)
def bf1 (f : W → Sto → Option (W × Sto)) : List W → Sto → Option (W × Sto)
  | [x], S => f x S
  | _, _ => none
def bf2 (f : W → W → Sto → Option (W × Sto)) : List W → Sto → Option (W × Sto)
  | [x, y], S => f x y S
  | _, _ => none
def bLen (x : W) (S : Sto) : Option (W × Sto) := match x with
  | .d (.str z) => if z.length ≤ capN then some (.d (.int (z.length : Int)), S) else none
  | x => match seqOf S x with | some l => some (.d (.int (l.length : Int)), S) | none => none
def bAll (x : W) (S : Sto) : Option (W × Sto) := match lstOf S x with
  | some l => match boolsOf l with | some bs => some (.d (.bool (bs.all id)), S) | none => none
  | none => none
def bAny (x : W) (S : Sto) : Option (W × Sto) := match lstOf S x with
  | some l => match boolsOf l with | some bs => some (.d (.bool (bs.any id)), S) | none => none
  | none => none
def bTuple (x : W) (S : Sto) : Option (W × Sto) := match seqOf S x with
  | some l => if l.length ≤ capN then some (mkT l, S) else none
  | none => none
def bList (x : W) (S : Sto) : Option (W × Sto) := match seqOf S x with
  | some l => if l.length ≤ capN then some (newL l S) else none
  | none => none
def bSorted (x : W) (S : Sto) : Option (W × Sto) := match lstOf S x with
  | some l => match allD l with
    | some ds => if sortable ds && decide (ds.length ≤ capN) then some (newL ((sortD ds).map .d) S) else none
    | none => none
  | none => none
def bInt (x : W) (S : Sto) : Option (W × Sto) := match x with
  | .d (.int i) => some (.d (.int i), S)
  | _ => none
def bMax (x y : W) (S : Sto) : Option (W × Sto) := match x, y with
  | .d (.int i), .d (.int j) => some (.d (.int (if j > i then j else i)), S)
  | _, _ => none
def bMin (x y : W) (S : Sto) : Option (W × Sto) := match x, y with
  | .d (.int i), .d (.int j) => some (.d (.int (if j < i then j else i)), S)
  | _, _ => none
def bfF : Bf → List W → Sto → Option (W × Sto)
  | .len => bf1 bLen
  | .all => bf1 bAll
  | .any => bf1 bAny
  | .tuple => bf1 bTuple
  | .list => bf1 bList
  | .sorted => bf1 bSorted
  | .int => bf1 bInt
  | .max => bf2 bMax
  | .min => bf2 bMin
def Ty.name : Ty → String
  | .tuple => "tuple" | .str => "str" | .int => "int" | .bool => "bool" | .list => "list"
def tyOf : W → Option String
  | .d .none => some "NoneType"
  | .d (.bool _) => some "bool"
  | .d (.int _) => some "int"
  | .d (.str _) => some "str"
  | .d (.tuple _) => some "tuple"
  | .d (.list _) => none
  | .d (.dict _) => none
  | .ref _ => some "list"
  | .tr _ => some "tuple"
  | .lv _ => some "list"
/-- isinstance of built-in classes -/
def isiF (x : W) (t : Ty) : Option Bool := match x, t with
  | .d .none, _ => some false
  | .d (.bool _), .bool => some true
  | .d (.bool _), .int => some true
  | .d (.bool _), _ => some false
  | .d (.int _), .int => some true
  | .d (.int _), _ => some false
  | .d (.str _), .str => some true
  | .d (.str _), _ => some false
  | .d (.tuple _), .tuple => some true
  | .d (.tuple _), _ => some false
  | .tr _, .tuple => some true
  | .tr _, _ => some false
  | .ref _, .list => some true
  | .ref _, _ => some false
  | .lv _, .list => some true
  | .lv _, _ => some false
  | _, _ => none
def ixF (x i : W) (S : Sto) : Option W := match i with
  | .d (.int k) => match x with
    | .d (.str z) => if z.length ≤ capN then (atI z.cps.toList k).map (fun c => .d (.str ⟨#[c]⟩)) else none
    | x => match seqOf S x with | some l => atI l k | none => none
  | _ => none
def cutG {α : Type} (xs : List α) (lo hi : Option Int) : List α := (xs.drop (HT.sIx xs.length 0 lo)).take (HT.sIx xs.length xs.length hi - HT.sIx xs.length 0 lo)
def slF (x : W) (lo hi : Option Int) (S : Sto) : Option (W × Sto) := match x with
  | .d (.str z) => if z.length ≤ capN then some (.d (.str (cutS z lo hi)), S) else none
  | x => match tupOf x with
    | some l => some (mkT (cutG l lo hi), S)
    | none => match lstOf S x with
      | some l => some (newL (cutG l lo hi) S)
      | none => none
def mAppend (p : List Nat) (x : W) (q : List W) (S : Sto) : Option (W × Sto) := match x, q with
  | .ref n, [y] => if p.contains n then none else match getL S n with
    | some l => if l.length < capN then some (.d .none, S.set n (.lst (l ++ [y]))) else none
    | none => none
  | _, _ => none
def mExtend (p : List Nat) (x : W) (q : List W) (S : Sto) : Option (W × Sto) := match x, q with
  | .ref n, [.ref m] => if p.contains n then none else match getL S n with
    | some l => match getL S m with
      | some k => if l.length + k.length ≤ capN then some (.d .none, S.set n (.lst (l ++ k))) else none
      | none => none
    | none => none
  | _, _ => none
def mPop (p : List Nat) (x : W) (q : List W) (S : Sto) : Option (W × Sto) := match x, q with
  | .ref n, [] => if p.contains n then none else match getL S n with
    | some l => match l[l.length - 1]? with
      | some y => some (y, S.set n (.lst l.dropLast))
      | none => none
    | none => none
  | _, _ => none
def mtF (p : List Nat) : Mt → W → List W → Sto → Option (W × Sto)
  | .append => mAppend p
  | .extend => mExtend p
  | .pop => mPop p
def setIxF (p : List Nat) (o i x : W) (S : Sto) : Option Sto := match o, i with
  | .ref n, .d (.int k) => if p.contains n then none else match getL S n with
    | some l => match ixN l.length k with
      | some j => some (S.set n (.lst (l.set j x)))
      | none => none
    | none => none
  | _, _ => none
def setW (ws : Loc) (i : Nat) (w : W) : Option Loc := if i < ws.length then some (ws.set i (some w)) else none
def setWs : List Nat → List W → Loc → Option Loc
  | [], [], ws => some ws
  | i :: r, w :: q, ws => match setW ws i w with | some ws' => setWs r q ws' | none => none
  | _, _, _ => none
def setT : Tg → W → Loc → Option Loc
  | .nm i, w, ws => setW ws i w
  | .tp l, w, ws => match tupOf w with | some q => setWs l q ws | none => none
def wipeW (ws : Loc) : List Nat → Loc
  | [] => ws
  | v :: vs => (wipeW ws vs).set v none
def ofBool : W → Option Bool
  | .d (.bool b) => some b
  | _ => none

/-! ### loops -/
def forL (f : W → Loc → Sto → Option (Fl × Loc × Sto)) : List W → Loc → Sto → Option (Fl × Loc × Sto)
  | [], ws, S => some (.next, ws, S)
  | x :: r, ws, S => (f x ws S).bind fun q => match q.1 with
    | .next => forL f r q.2.1 q.2.2
    | .cont => forL f r q.2.1 q.2.2
    | .brk => some (.next, q.2.1, q.2.2)
    | .ret w => some (.ret w, q.2.1, q.2.2)
def whlL (c : Loc → Sto → Option (Bool × Sto)) (f : Loc → Sto → Option (Fl × Loc × Sto)) : Nat → Loc → Sto → Option (Fl × Loc × Sto)
  | 0, _, _ => none
  | n + 1, ws, S => (c ws S).bind fun b => match b.1 with
    | false => some (.next, ws, b.2)
    | true => (f ws b.2).bind fun q => match q.1 with
      | .next => whlL c f n q.2.1 q.2.2
      | .cont => whlL c f n q.2.1 q.2.2
      | .brk => some (.next, q.2.1, q.2.2)
      | .ret w => some (.ret w, q.2.1, q.2.2)
/-- a comprehension's loop: k the new list; a turn gives an item or none -/
def addL (k : Nat) (o : Option W) (S : Sto) : Option Sto := match o with
  | none => some S
  | some w => match getL S k with
    | some acc => if acc.length < capN then some (S.set k (.lst (acc ++ [w]))) else none
    | none => none
def compL (f : W → Sto → Option (Option W × Sto)) (k : Nat) : List W → Sto → Option Sto
  | [], S => some S
  | x :: r, S => (f x S).bind fun q => (addL k q.1 q.2).bind fun S' => compL f k r S'
/-- the outer loop of two: a turn is an inner loop -/
def compO (f : W → Sto → Option Sto) : List W → Sto → Option Sto
  | [], S => some S
  | x :: r, S => (f x S).bind fun S' => compO f r S'

abbrev CallT := Nat → List W → List Nat → Sto → Option (W × Sto)

/-! ### the evaluator -/
mutual
def ev (cl : CallT) (p : List Nat) : Ex → Loc → Sto → Option (W × Sto)
  | .v i, ws, S => match ws[i]? with | some (some w) => some (w, S) | _ => none
  | .c k, _, S => some (.d k.toD, S)
  | .g _ k, _, S => some (.d k.toD, S)
  | .bin o a b, ws, S => (ev cl p a ws S).bind fun x => (ev cl p b ws x.2).bind fun y => binF o x.1 y.1 y.2
  | .neg a, ws, S => (ev cl p a ws S).bind fun x => match x.1 with | .d (.int i) => some (.d (.int (-i)), x.2) | _ => none
  | .cmp o a b, ws, S => (ev cl p a ws S).bind fun x => (ev cl p b ws x.2).bind fun y => match cmpF o x.1 y.1 y.2 with | some t => some (.d (.bool t), y.2) | none => none
  | .and a b, ws, S => (ev cl p a ws S).bind fun x => match ofBool x.1 with
    | some true => ev cl p b ws x.2
    | some false => some (.d (.bool false), x.2)
    | none => none
  | .or a b, ws, S => (ev cl p a ws S).bind fun x => match ofBool x.1 with
    | some true => some (.d (.bool true), x.2)
    | some false => ev cl p b ws x.2
    | none => none
  | .not a, ws, S => (ev cl p a ws S).bind fun x => match ofBool x.1 with | some t => some (.d (.bool (!t)), x.2) | none => none
  | .ite t a b, ws, S => (ev cl p t ws S).bind fun x => match ofBool x.1 with
    | some true => ev cl p a ws x.2
    | some false => ev cl p b ws x.2
    | none => none
  | .tup l, ws, S => (evs cl p l ws S).bind fun x => if x.1.length ≤ capN then some (mkT x.1, x.2) else none
  | .lst l, ws, S => (evs cl p l ws S).bind fun x => if x.1.length ≤ capN then some (newL x.1 x.2) else none
  | .fn f l, ws, S => (evs cl p l ws S).bind fun x => cl f x.1 p x.2
  | .bf f l, ws, S => (evs cl p l ws S).bind fun x => bfF f x.1 x.2
  | .isi a t, ws, S => (ev cl p a ws S).bind fun x => match isiF x.1 t with | some b => some (.d (.bool b), x.2) | none => none
  | .ix a i, ws, S => (ev cl p a ws S).bind fun x => (ev cl p i ws x.2).bind fun y => match ixF x.1 y.1 y.2 with | some w => some (w, y.2) | none => none
  | .sl a lo hi, ws, S => (ev cl p a ws S).bind fun x => (evo cl p lo ws x.2).bind fun l => (evo cl p hi ws l.2).bind fun h => slF x.1 l.1 h.1 h.2
  | .rev a, ws, S => (ev cl p a ws S).bind fun x => match lstOf x.2 x.1 with | some l => some (newL l.reverse x.2) | none => none
  | .mt m a l, ws, S => (ev cl p a ws S).bind fun x => (evs cl p l ws x.2).bind fun y => mtF p m x.1 y.1 y.2
  | .lc it g own t e, ws, S => (evi cl p it ws S).bind fun i =>
      (compL (fun item S' => (setT g item (wipeW ws own)).bind fun ws' => (ev cl (i.2.1 ++ p) t ws' S').bind fun b => match ofBool b.1 with
        | some true => (ev cl (i.2.1 ++ p) e ws' b.2).bind fun w => some (some w.1, w.2)
        | some false => some (none, b.2)
        | none => none) i.2.2.length i.1 (i.2.2 ++ [.lst []])).bind fun S' => some (.ref i.2.2.length, S')
  | .lc2 it g t it1 g1 own own1 t1 e, ws, S => (evi cl p it ws S).bind fun i =>
      (compO (fun item S' => (setT g item (wipeW ws own)).bind fun ws' => (ev cl (i.2.1 ++ p) t ws' S').bind fun b => match ofBool b.1 with
        | some true => (evi cl (i.2.1 ++ p) it1 ws' b.2).bind fun j => if j.2.1.contains i.2.2.length then none else
            compL (fun item1 S2 => (setT g1 item1 (wipeW ws' own1)).bind fun ws2 => (ev cl (j.2.1 ++ (i.2.1 ++ p)) t1 ws2 S2).bind fun b1 => match ofBool b1.1 with
              | some true => (ev cl (j.2.1 ++ (i.2.1 ++ p)) e ws2 b1.2).bind fun w => some (some w.1, w.2)
              | some false => some (none, b1.2)
              | none => none) i.2.2.length j.1 j.2.2
        | some false => some b.2
        | none => none) i.1 (i.2.2 ++ [.lst []])).bind fun S' => some (.ref i.2.2.length, S')
def evs (cl : CallT) (p : List Nat) : Es → Loc → Sto → Option (List W × Sto)
  | .nil, _, S => some ([], S)
  | .cons a l, ws, S => (ev cl p a ws S).bind fun x => (evs cl p l ws x.2).bind fun y => some (x.1 :: y.1, y.2)
def evo (cl : CallT) (p : List Nat) : Eo → Loc → Sto → Option (Option Int × Sto)
  | .no, _, S => some (none, S)
  | .so a, ws, S => (ev cl p a ws S).bind fun x => match x.1 with | .d (.int i) => some (some i, x.2) | _ => none
/-- the items, the lists that are walked (not to be changed meanwhile), the store -/
def evi (cl : CallT) (p : List Nat) : It → Loc → Sto → Option (List W × List Nat × Sto)
  | .seq a, ws, S => (ev cl p a ws S).bind fun x => match x.1 with
    | .d (.str z) => if z.length ≤ capN then some (z.cps.toList.map (fun c => .d (.str ⟨#[c]⟩)), [], x.2) else none
    | .ref n => match getL x.2 n with | some l => some (l, [n], x.2) | none => none
    | .lv l => some (l.map .d, [], x.2)
    | w => match tupOf w with | some l => some (l, [], x.2) | none => none
  | .rng1 a, ws, S => (ev cl p a ws S).bind fun x => match x.1 with
    | .d (.int n) => if n.natAbs < 2 ^ 60 then some ((List.range n.toNat).map (fun (i : Nat) => .d (.int (i : Int))), [], x.2) else none
    | _ => none
  | .rng3 a b c, ws, S => (ev cl p a ws S).bind fun x => (ev cl p b ws x.2).bind fun y => (ev cl p c ws y.2).bind fun z => match x.1, y.1, z.1 with
    | .d (.int i), .d (.int j), .d (.int k) => if k = -1 ∧ i.natAbs < 2 ^ 30 ∧ j.natAbs < 2 ^ 30 then some ((List.range (i - j).toNat).map (fun (m : Nat) => .d (.int (i + (m : Int) * k))), [], z.2) else none
    | _, _, _ => none
  | .zip a b, ws, S => (ev cl p a ws S).bind fun x => (ev cl p b ws x.2).bind fun y => match tupOf x.1 with
    | some l => match tupOf y.1 with
      | some m => some ((l.zip m).map (fun q => mkT [q.1, q.2]), [], y.2)
      | none => none
    | none => none
end

def evT (cl : CallT) (p : List Nat) (e : Ex) (ws : Loc) (S : Sto) : Option (Bool × Sto) := (ev cl p e ws S).bind fun x => match ofBool x.1 with | some t => some (t, x.2) | none => none

mutual
def exS (cl : CallT) (L : Nat) (p : List Nat) : Sm → Loc → Sto → Option (Fl × Loc × Sto)
  | .expr e, ws, S => (ev cl p e ws S).bind fun x => some (.next, ws, x.2)
  | .asg g e, ws, S => (ev cl p e ws S).bind fun x => (setT g x.1 ws).bind fun ws' => some (.next, ws', x.2)
  | .asgIx o i e, ws, S => (ev cl p e ws S).bind fun x => (ev cl p o ws x.2).bind fun y => (ev cl p i ws y.2).bind fun z => (setIxF p y.1 z.1 x.1 z.2).bind fun S' => some (.next, ws, S')
  | .aug i o e, ws, S => match ws[i]? with
    | some (some (.d (.int a))) => (ev cl p e ws S).bind fun x => match x.1, o with
      | .d (.int b), .add => (setW ws i (.d (.int (a + b)))).bind fun ws' => some (.next, ws', x.2)
      | .d (.int b), .sub => (setW ws i (.d (.int (a - b)))).bind fun ws' => some (.next, ws', x.2)
      | _, _ => none
    | _ => none
  | .ret e, ws, S => (ev cl p e ws S).bind fun x => some (.ret x.1, ws, x.2)
  | .retN, ws, S => some (.ret (.d .none), ws, S)
  | .ite c a b, ws, S => (evT cl p c ws S).bind fun t => match t.1 with
    | true => exSs cl L p a ws t.2
    | false => exSs cl L p b ws t.2
  | .whl c b, ws, S => whlL (evT cl p c) (exSs cl L p b) L ws S
  | .for it g b, ws, S => (evi cl p it ws S).bind fun i => forL (fun x ws' S' => (setT g x ws').bind fun ws2 => exSs cl L (i.2.1 ++ p) b ws2 S') i.1 ws i.2.2
  | .brk, ws, S => some (.brk, ws, S)
  | .cont, ws, S => some (.cont, ws, S)
  | .pass, ws, S => some (.next, ws, S)
  | .never, _, _ => none
def exSs (cl : CallT) (L : Nat) (p : List Nat) : Ss → Loc → Sto → Option (Fl × Loc × Sto)
  | .nil, ws, S => some (.next, ws, S)
  | .cons a l, ws, S => (exS cl L p a ws S).bind fun q => match q.1 with
    | .next => exSs cl L p l q.2.1 q.2.2
    | .brk => some q
    | .cont => some q
    | .ret _ => some q
end

/-! ### functions -/
structure FnD where
  name : Str
  np : Nat
  nsl : Nat
  pure : Bool
  body : Ss
deriving DecidableEq
/-- an argument handed to a pure function: lists are handed to be read -/
def derW (S : Sto) : W → Option W
  | .d x => some (.d x)
  | .lv l => some (.lv l)
  | .ref n => match getL S n with
    | some l => match allD l with | some ds => some (.lv ds) | none => none
    | none => none
  | .tr _ => none
def derL (S : Sto) : List W → Option (List W)
  | [] => some []
  | w :: r => match derW S w with
    | some w' => match derL S r with | some r' => some (w' :: r') | none => none
    | none => none
/-- what a pure function hands back (T its own store): data, a list of data, a tuple of these with at most one list -/
def takeW (T : Sto) : W → Sto → Option (W × Sto)
  | .d x, S => some (.d x, S)
  | .ref k, S => match getL T k with
    | some l => match allD l with | some _ => some (newL l S) | none => none
    | none => none
  | _, _ => none
def takeL (T : Sto) : List W → Sto → Option (List W × Sto)
  | [], S => some ([], S)
  | .d x :: r, S => match takeL T r S with | some q => some (.d x :: q.1, q.2) | none => none
  | .ref k :: r, S => match allD r with
    | some _ => match takeW T (.ref k) S with | some q => some (q.1 :: r, q.2) | none => none
    | none => none
  | _, _ => none
def handW (T : Sto) (w : W) (S : Sto) : Option (W × Sto) := match w with
  | .tr l => match takeL T l S with | some q => some (.tr q.1, q.2) | none => none
  | w => takeW T w S
def begin (f : FnD) (args : List W) : Loc := args.map some ++ List.replicate (f.nsl - args.length) none
def fin : Option (Fl × Loc × Sto) → Option (W × Sto)
  | some (.ret w, _, S) => some (w, S)
  | some (.next, _, S) => some (.d .none, S)
  | _ => none
def callF (F : List FnD) (L : Nat) : Nat → CallT
  | 0, _, _, _, _ => none
  | n + 1, f, args, p, S => match F[f]? with
    | none => none
    | some d => if args.length = d.np then
        if d.pure then (derL S args).bind fun args' => (fin (exSs (callF F L n) L [] d.body (begin d args') [])).bind fun q => handW q.2 q.1 S
        else fin (exSs (callF F L n) L p d.body (begin d args) S)
      else none
end DV
/-! DVTrans: from the text's own terms to the small language. -/
namespace DV
open PySem L2

structure Tx where
  N : List Str
  sc : Scope
  fns : List Str
  cst : List (Str × Cst)

def idx (N : List Str) (x : Str) : Option Nat := match N.findIdx? (· == x) with
  | some i => if N[i]? = some x then some i else none
  | none => none
def okName (x : Str) : Bool := !(x == ("__debug__" : Str)) && !(x == ("__classdict__" : Str)) && !(x == ("__name__" : Str))
/-- a name of the def: its slot -/
def slotOf (T : Tx) (x : Str) : Option Nat := if okName x then (match T.sc.names.lookup x with
  | some .local => idx T.N x
  | some .cell => idx T.N x
  | some .free => idx T.N x
  | _ => none) else none
def isGl (T : Tx) (x : Str) : Bool := okName x && decide (T.sc.names.lookup x = some .globalImplicit)
/-- a built-in's name -/
def isB (T : Tx) (x : Str) (y : String) : Bool := isGl T x && decide (x = Str.ofString y)
def binOf : Operator → Option Bin
  | .Add => some .add | .Sub => some .sub | .Mult => some .mul | .FloorDiv => some .fdiv | .Mod => some .mod | .Pow => some .pow
  | _ => none
def cmOf : CmpOp → Cm
  | .Eq => .eq | .NotEq => .ne | .Lt => .lt | .LtE => .le | .Gt => .gt | .GtE => .ge | .Is => .is | .IsNot => .isn | .In => .isin | .NotIn => .notin
def bfTab : List (String × Bf) := [("len", .len), ("all", .all), ("any", .any), ("tuple", .tuple), ("list", .list), ("sorted", .sorted), ("int", .int), ("max", .max), ("min", .min)]
def bfOf (x : Str) : Option Bf := match bfTab.find? (fun p => decide (x = Str.ofString p.1)) with | some p => some p.2 | none => none
def tyTab : List (String × Ty) := [("tuple", .tuple), ("str", .str), ("int", .int), ("bool", .bool), ("list", .list)]
def tyName (x : Str) : Option Ty := match tyTab.find? (fun p => decide (x = Str.ofString p.1)) with | some p => some p.2 | none => none
def mtTab : List (String × Mt) := [("append", .append), ("extend", .extend), ("pop", .pop)]
def mtOf (x : Str) : Option Mt := match mtTab.find? (fun p => decide (x = Str.ofString p.1)) with | some p => some p.2 | none => none
def cstOf : Const → Option Cst
  | .none => some .non | .bool b => some (.bl b) | .int i => some (.int i) | .str s => some (.str s)
  | _ => none
def ownOf (N : List Str) (scope : Scope) : List (Str × Nat) := scope.names.filterMap fun y => match y.2 with
  | .local => (idx N y.1).map fun i => (y.1, i)
  | .cell => (idx N y.1).map fun i => (y.1, i)
  | _ => none
/-- the block of a comprehension -/
def blkT (T : Tx) (scope : Scope) : Tx := { T with sc := relS scope T.sc }
/-- a target; fb: the names whose cells are made here -/
def stOf (T : Tx) (fb : Str → Bool) (x : Str) : Option Nat := if okName x then (match T.sc.names.lookup x with
  | some .local => idx T.N x
  | some .cell => if fb x then idx T.N x else none
  | _ => none) else none
def tgName (T : Tx) (fb : Str → Bool) : Expr → Option Nat
  | .Name x _ => stOf T fb x
  | _ => none
def trTg (T : Tx) (fb : Str → Bool) : Expr → Option Tg
  | .Name x _ => (stOf T fb x).map .nm
  | .Tuple es _ _ => (es.mapM (tgName T fb)).map .tp
  | _ => none
def Tg.slots : Tg → List Nat
  | .nm i => [i]
  | .tp l => l
def isTupleE : Expr → Bool
  | .Tuple _ _ _ => true
  | _ => false
def isListE : Expr → Bool
  | .List _ _ => true
  | _ => false
def isNameE : Expr → Bool
  | .Name _ _ => true
  | _ => false
def isCompE : Expr → Bool
  | .ListComp _ _ _ _ => true
  | _ => false

mutual
def trE : Nat → Tx → Expr → Option Ex
  | 0, _, _ => none
  | n + 1, T, e => match e with
    | .Constant c _ _ => (cstOf c).map .c
    | .Name x _ => match slotOf T x with
      | some i => some (.v i)
      | none => if isGl T x then (match T.cst.lookup x with | some k => some (.g x k) | none => none) else none
    | .BinOp a o b _ => match binOf o, trE n T a, trE n T b with
      | some o, some a, some b => some (.bin o a b)
      | _, _, _ => none
    | .UnaryOp .USub a _ => (trE n T a).map .neg
    | .UnaryOp .Not a _ => (trE n T a).map .not
    | .BoolOp .And es _ => trA n T es
    | .BoolOp .Or es _ => trO n T es
    | .Compare a [o] [b] _ => match trE n T a, trE n T b with
      | some a, some b => some (.cmp (cmOf o) a b)
      | _, _ => none
    | .IfExp t a b _ => match trE n T t, trE n T a, trE n T b with
      | some t, some a, some b => some (.ite t a b)
      | _, _, _ => none
    | .Tuple es _ _ => (trEs n T es).map .tup
    | .List es _ => (trEs n T es).map .lst
    | .Call (.Name x _) es [] _ => match idx T.fns x with
      | some f => if isGl T x then (trEs n T es).map (.fn f) else none
      | none => if isB T x "isinstance" then (match es with
          | [a, .Name t _] => match tyName t, trE n T a with
            | some ty, some a => if isGl T t then some (.isi a ty) else none
            | _, _ => none
          | _ => none)
        else if isGl T x then (match bfOf x, es with
          | some f, _ :: _ => (trEs n T es).map (.bf f)
          | _, _ => none)
        else none
    | .Call (.Attribute o m apos) es [] cpos => if isNameE o && (apos.endLine == cpos.line) then (match mtOf m, trE n T o, trEs n T es with
        | some m, some o, some l => some (.mt m o l)
        | _, _, _ => none) else none
    | .Subscript a (.Slice none none (some (.UnaryOp .USub (.Constant (.int 1) _ _) _)) _) _ => (trE n T a).map .rev
    | .Subscript a (.Slice lo hi none _) _ => match trE n T a, trOp n T lo, trOp n T hi with
      | some a, some lo, some hi => some (.sl a lo hi)
      | _, _, _ => none
    | .Subscript a i _ => match trE n T a, trE n T i with
      | some a, some i => some (.ix a i)
      | _, _ => none
    | .ListComp elt [⟨tg, iter, ifs, 0⟩] scope _ =>
      if blkC T.N T.sc scope (ownOf T.N scope) then (match trI n T tg iter, trTg (blkT T scope) (fun x => scope.names.lookup x == some .cell) tg, trIf n (blkT T scope) ifs, trE n (blkT T scope) elt with
        | some it, some g, some t, some e => if g.slots.all (fun i => ((ownOf T.N scope).map (·.2)).contains i) then some (.lc it g ((ownOf T.N scope).map (·.2)) t e) else none
        | _, _, _, _ => none) else none
    | .ListComp elt [⟨tg, iter, ifs, 0⟩, ⟨tg1, iter1, ifs1, 0⟩] scope _ =>
      if blkC T.N T.sc scope (ownOf T.N scope) then (match trI n T tg iter, trTg (blkT T scope) (fun x => scope.names.lookup x == some .cell) tg, trIf n (blkT T scope) ifs, trE n (blkT T scope) elt with
        | some it, some g, some t, some e => match trI n (blkT T scope) tg1 iter1, trTg (blkT T scope) (fun x => scope.names.lookup x == some .cell) tg1, trIf n (blkT T scope) ifs1 with
          | some it1, some g1, some t1 =>
            if g.slots.all (fun i => ((ownOf T.N scope).map (·.2)).contains i) && g1.slots.all (fun i => ((ownOf T.N scope).map (·.2)).contains i)
            then some (.lc2 it g t it1 g1 ((ownOf T.N scope).map (·.2)) g1.slots t1 e) else none
          | _, _, _ => none
        | _, _, _, _ => none) else none
    | _ => none
def trEs : Nat → Tx → List Expr → Option Es
  | _, _, [] => some .nil
  | 0, _, _ => none
  | n + 1, T, e :: r => match trE n T e, trEs n T r with
    | some e, some r => some (.cons e r)
    | _, _ => none
def trA : Nat → Tx → List Expr → Option Ex
  | 0, _, _ => none
  | _, _, [] => none
  | n + 1, T, e :: r => match r with
    | [] => trE n T e
    | _ :: _ => match trE n T e, trA n T r with
      | some a, some b => some (.and a b)
      | _, _ => none
def trO : Nat → Tx → List Expr → Option Ex
  | 0, _, _ => none
  | _, _, [] => none
  | n + 1, T, e :: r => match r with
    | [] => trE n T e
    | _ :: _ => match trE n T e, trO n T r with
      | some a, some b => some (.or a b)
      | _, _ => none
def trOp : Nat → Tx → Option Expr → Option Eo
  | _, _, none => some .no
  | 0, _, _ => none
  | n + 1, T, some e => (trE n T e).map .so
def trIf : Nat → Tx → List Expr → Option Ex
  | _, _, [] => some (.c (.bl true))
  | 0, _, _ => none
  | n + 1, T, [e] => trE n T e
  | _, _, _ => none
def trI : Nat → Tx → Expr → Expr → Option It
  | 0, _, _, _ => none
  | n + 1, T, tg, e => match e with
    | .Call (.Name x _) [a] [] _ => if isB T x "range" && (idx T.fns x).isNone then (trE n T a).map .rng1 else (trE n T e).map .seq
    | .Call (.Name x _) [a, b, c] [] _ => if isB T x "range" && (idx T.fns x).isNone then (match trE n T a, trE n T b, trE n T c with
        | some a, some b, some c => some (.rng3 a b c)
        | _, _, _ => none) else (trE n T e).map .seq
    | .Call (.Name x _) [a, b] [] _ => if isB T x "zip" && (idx T.fns x).isNone then (if isTupleE tg then (match trE n T a, trE n T b with
        | some a, some b => some (.zip a b)
        | _, _ => none) else none) else (trE n T e).map .seq
    | e => (trE n T e).map .seq
end

mutual
def trS : Nat → Tx → Stmt → Option Sm
  | 0, _, _ => none
  | n + 1, T, s => match s with
    | .Expr (.Constant (.str _) _ _) _ => some .pass
    | .Expr e _ => if isCompE e then none else (trE n T e).map .expr
    | .Return none _ => some .retN
    | .Return (some e) _ => (trE n T e).map .ret
    | .Assign [.Name x p] e _ => match stOf T (fun _ => true) x, trE n T e with
      | some i, some e' => some (.asg (.nm i) e')
      | _, _ => none
    | .Assign [.Tuple es k p] e _ => if isTupleE e || isListE e || isCompE e then none else (match trTg T (fun _ => true) (.Tuple es k p), trE n T e with
      | some g, some e => some (.asg g e)
      | _, _ => none)
    | .Assign [.Subscript o i _] e _ => match trE n T o, trE n T i, trE n T e with
      | some o, some i, some e => some (.asgIx o i e)
      | _, _, _ => none
    | .AugAssign (.Name x _) o e _ => match stOf T (fun _ => true) x, binOf o, trE n T e with
      | some i, some .add, some e => some (.aug i .add e)
      | some i, some .sub, some e => some (.aug i .sub e)
      | _, _, _ => none
    | .If c a b _ => match trE n T c, trSs n T a, trSs n T b with
      | some c, some a, some b => some (.ite c a b)
      | _, _, _ => none
    | .While c b [] _ => match trE n T c, trSs n T b with
      | some c, some b => some (.whl c b)
      | _, _ => none
    | .For tg it b [] _ => match trI n T tg it, trTg T (fun _ => true) tg, trSs n T b with
      | some it, some g, some b => some (.for it g b)
      | _, _, _ => none
    | .Break _ => some .brk
    | .Continue _ => some .cont
    | .Pass _ => some .pass
    | .Raise _ _ _ => some .never
    | _ => none
def trSs : Nat → Tx → List Stmt → Option Ss
  | _, _, [] => some .nil
  | 0, _, _ => none
  | n + 1, T, s :: r => match trS n T s, trSs n T r with
    | some s, some r => some (.cons s r)
    | _, _ => none
end

/-- the scope of a def, looked at -/
def scopeC (N ps : List Str) (sc : Scope) : Bool :=
  (match sc.kind with | .function => true | _ => false) && !sc.isCoroutine && !sc.isGenerator && decide N.Nodup && decide (N.take ps.length = ps) &&
    ps.all (fun x => decide (sc.names.lookup x = some .local) || decide (sc.names.lookup x = some .cell)) && sc.names.all (fun y => match y.2 with | .free => false | _ => true)
/-- how arguments bind: plain parameters alone -/
def argsC (ps : List Str) (a : Arguments) : Bool :=
  a.posonlyargs.isEmpty && a.vararg.isNone && a.kwonlyargs.isEmpty && a.kwarg.isNone && a.defaults.isEmpty && decide (a.args.map (·.arg) = ps)
/-- a def of the table: its statement, the names by slot, the parameters -/
structure DefI where
  st : Stmt
  N : List Str
  ps : List Str
  pure : Bool
instance : Inhabited DefI := ⟨⟨.Pass ⟨0, 0, 0, 0⟩, [], [], false⟩⟩
def defName (s : Stmt) : Str := match s with
  | .FunctionDef n _ _ _ _ _ _ _ _ _ => n
  | _ => Str.ofString ""
def trFuel : Nat := 60
def trDef (fns : List Str) (cst : List (Str × Cst)) (d : DefI) : Option FnD :=
  if scopeC d.N d.ps (defScope d.st) && argsC d.ps (defArgs d.st) then
    match trSs trFuel ⟨d.N, defScope d.st, fns, cst⟩ (defBody d.st) with
    | some b => some ⟨defName d.st, d.ps.length, d.N.length, d.pure, b⟩
    | none => none
  else none
end DV
/-! DVRel: how the small language's values stand in the abstract heap. -/
namespace DV
open PySem L2

/-- a list of the written part -/
def KLst (K : PySem.W.Frag) (a : Addr) (xs : List V) : Prop :=
  ∃ (o : Obj) (its : Array Value) (n : Nat), K.lookup a = some o ∧ o.cls = .type "list" ∧ o.dict = none ∧ o.data = .seq its n ∧ its.size ≤ sizeLine ∧ Vals xs its.toList
/-- what the caller froze -/
abbrev Frz := Addr → HO → Prop
def RdL (K : PySem.W.Frag) (Z : Frz) (H : Hp) (a : Addr) (xs : List V) : Prop := Z a (.lst xs) ∨ (∃ o, H a = some (.frz o (.lst xs))) ∨ KLst K a xs

section
variable (K : PySem.W.Frag) (H : Hp)
mutual
def RD : PyData → V → Prop
  | .none, v => v = .non
  | .bool b, v => v = .bl b
  | .int i, v => v = .int i
  | .str s, v => v = .str s
  | .tuple xs, v => ∃ a vs, v = .ref a ∧ SqT K H a vs ∧ RDs xs vs
  | .list _, _ => False
  | .dict _, _ => False
def RDs : List PyData → List V → Prop
  | [], vs => vs = []
  | x :: xs, vs => ∃ v r, vs = v :: r ∧ RD x v ∧ RDs xs r
end
variable (Z : Frz) (mu : List Addr)
mutual
def RW : W → V → Prop
  | .d x, v => RD K H x v
  | .ref n, v => ∃ a, mu[n]? = some a ∧ v = .ref a
  | .tr l, v => ∃ a vs, v = .ref a ∧ SqT K H a vs ∧ RWs l vs
  | .lv l, v => ∃ a vs, v = .ref a ∧ RdL K Z H a vs ∧ RDs K H l vs
def RWs : List W → List V → Prop
  | [], vs => vs = []
  | x :: xs, vs => ∃ v r, vs = v :: r ∧ RW x v ∧ RWs xs r
end
end

structure RS (K : PySem.W.Frag) (Z : Frz) (mu : List Addr) (H : Hp) (S : Sto) : Prop where
  len : mu.length = S.length
  nd : mu.Nodup
  ob : ∀ (i : Nat) (l : List W), S[i]? = some (O.lst l) → ∃ a vs, mu[i]? = some a ∧ H a = some (.lst vs) ∧ RWs K H Z mu l vs
  fz : ∀ (a : Addr) (o : HO), Z a o → H a = some o
  sep : ∀ (a : Addr) (o : HO), Z a o → a ∉ mu
structure Ext (H H' : Hp) : Prop where
  tup : ∀ a xs, H a = some (.tup xs) → H' a = some (.tup xs)
  frz : ∀ a o u, H a = some (.frz o u) → H' a = some (.frz o u)
structure RL (K : PySem.W.Frag) (Z : Frz) (mu : List Addr) (H : Hp) (ws : Loc) (σ : L2.St) : Prop where
  len : ws.length = σ.length
  at' : ∀ (i : Nat) (w : W), ws[i]? = some (some w) → ∃ v, σ[i]? = some (some v) ∧ RW K H Z mu w v

theorem Ext.refl (H : Hp) : Ext H H := ⟨fun _ _ h => h, fun _ _ _ h => h⟩
theorem Ext.trans {H H1 H2 : Hp} (a : Ext H H1) (b : Ext H1 H2) : Ext H H2 := ⟨fun x o h => b.tup x o (a.tup x o h), fun x o u h => b.frz x o u (a.frz x o u h)⟩
theorem Ext.new {H : Hp} {p : Addr} {o : HO} (h : H p = none) : Ext H (upd H p o) :=
  ⟨fun a xs e => by rw [upd_ne (ne_of_none e h)]; exact e, fun a o u e => by rw [upd_ne (ne_of_none e h)]; exact e⟩
theorem Ext.set {H : Hp} {p : Addr} {xs : List V} {o : HO} (h : H p = some (.lst xs)) : Ext H (upd H p o) :=
  ⟨fun a ys e => by rw [upd_ne (fun z => by subst z; rw [h] at e; cases e)]; exact e, fun a ob u e => by rw [upd_ne (fun z => by subst z; rw [h] at e; cases e)]; exact e⟩
section
variable {K : PySem.W.Frag} {H H' : Hp} {Z : Frz} {mu mu' : List Addr} {S : Sto}

theorem Ext.sqT (e : Ext H H') {a : Addr} {xs : List V} (h : SqT K H a xs) : SqT K H' a xs := by
  rcases h with (h | ⟨o, h⟩) | h
  · exact .inl (.inl (e.tup _ _ h))
  · exact .inl (.inr ⟨o, e.frz _ _ _ h⟩)
  · exact .inr h
theorem Ext.rdL (e : Ext H H') {a : Addr} {xs : List V} (h : RdL K Z H a xs) : RdL K Z H' a xs := by
  rcases h with h | ⟨o, h⟩ | h
  · exact .inl h
  · exact .inr (.inl ⟨o, e.frz _ _ _ h⟩)
  · exact .inr (.inr h)
mutual
theorem RD.mono (e : Ext H H') : ∀ {x : PyData} {v : V}, RD K H x v → RD K H' x v
  | .none, _, h => by simp only [RD] at h ⊢; exact h
  | .bool _, _, h => by simp only [RD] at h ⊢; exact h
  | .int _, _, h => by simp only [RD] at h ⊢; exact h
  | .str _, _, h => by simp only [RD] at h ⊢; exact h
  | .tuple xs, v, h => by
    simp only [RD] at h ⊢
    obtain ⟨a, vs, e1, e2, e3⟩ := h
    exact ⟨a, vs, e1, e.sqT e2, RDs.mono e e3⟩
  | .list _, _, h => by simp only [RD] at h
  | .dict _, _, h => by simp only [RD] at h
theorem RDs.mono (e : Ext H H') : ∀ {xs : List PyData} {vs : List V}, RDs K H xs vs → RDs K H' xs vs
  | [], _, h => by simp only [RDs] at h ⊢; exact h
  | x :: xs, vs, h => by
    simp only [RDs] at h ⊢
    obtain ⟨v, r, e1, e2, e3⟩ := h
    exact ⟨v, r, e1, RD.mono e e2, RDs.mono e e3⟩
end
theorem pre_get {mu mu' : List Addr} (h : mu <+: mu') {n : Nat} {a : Addr} (e : mu[n]? = some a) : mu'[n]? = some a := by
  obtain ⟨t, rfl⟩ := h
  rw [List.getElem?_append_left (List.getElem?_eq_some_iff.mp e).1]
  exact e
mutual
theorem RW.mono (e : Ext H H') (hm : mu <+: mu') : ∀ {w : W} {v : V}, RW K H Z mu w v → RW K H' Z mu' w v
  | .d x, _, h => by simp only [RW] at h ⊢; exact h.mono e
  | .ref n, _, h => by
    simp only [RW] at h ⊢
    obtain ⟨a, e1, e2⟩ := h
    exact ⟨a, pre_get hm e1, e2⟩
  | .tr l, _, h => by
    simp only [RW] at h ⊢
    obtain ⟨a, vs, e1, e2, e3⟩ := h
    exact ⟨a, vs, e1, e.sqT e2, RWs.mono e hm e3⟩
  | .lv l, _, h => by
    simp only [RW] at h ⊢
    obtain ⟨a, vs, e1, e2, e3⟩ := h
    exact ⟨a, vs, e1, e.rdL e2, e3.mono e⟩
theorem RWs.mono (e : Ext H H') (hm : mu <+: mu') : ∀ {l : List W} {vs : List V}, RWs K H Z mu l vs → RWs K H' Z mu' l vs
  | [], _, h => by simp only [RWs] at h ⊢; exact h
  | x :: xs, vs, h => by
    simp only [RWs] at h ⊢
    obtain ⟨v, r, e1, e2, e3⟩ := h
    exact ⟨v, r, e1, RW.mono e hm e2, RWs.mono e hm e3⟩
end
theorem RL.mono {ws : Loc} {σ : L2.St} (e : Ext H H') (hm : mu <+: mu') (h : RL K Z mu H ws σ) : RL K Z mu' H' ws σ :=
  ⟨h.len, fun i w q => let ⟨v, e1, e2⟩ := h.at' i w q; ⟨v, e1, e2.mono e hm⟩⟩

/-! ### lists of values -/
theorem RWs.nil_iff {vs : List V} : RWs K H Z mu [] vs ↔ vs = [] := by simp only [RWs]
theorem RWs.cons_iff {w : W} {l : List W} {vs : List V} : RWs K H Z mu (w :: l) vs ↔ ∃ v r, vs = v :: r ∧ RW K H Z mu w v ∧ RWs K H Z mu l r := by simp only [RWs]
theorem RWs.cons {w : W} {l : List W} {v : V} {r : List V} (h : RW K H Z mu w v) (t : RWs K H Z mu l r) : RWs K H Z mu (w :: l) (v :: r) := RWs.cons_iff.mpr ⟨v, r, rfl, h, t⟩
theorem RWs.length : ∀ {l : List W} {vs : List V}, RWs K H Z mu l vs → l.length = vs.length
  | [], _, h => by rw [RWs.nil_iff.mp h]; rfl
  | w :: l, _, h => by
    obtain ⟨v, r, rfl, _, h2⟩ := RWs.cons_iff.mp h
    rw [List.length_cons, List.length_cons, RWs.length h2]
theorem RWs.get : ∀ {l : List W} {vs : List V} {i : Nat} {w : W}, RWs K H Z mu l vs → l[i]? = some w → ∃ v, vs[i]? = some v ∧ RW K H Z mu w v
  | [], _, i, w, _, e => by simp at e
  | x :: l, _, 0, w, h, e => by
    obtain ⟨v, r, rfl, h1, h2⟩ := RWs.cons_iff.mp h
    simp at e; subst e
    exact ⟨v, rfl, h1⟩
  | x :: l, _, i + 1, w, h, e => by
    obtain ⟨v, r, rfl, h1, h2⟩ := RWs.cons_iff.mp h
    obtain ⟨u, e1, e2⟩ := RWs.get h2 (show l[i]? = some w by simpa using e)
    exact ⟨u, by simpa using e1, e2⟩
theorem RWs.append : ∀ {l m : List W} {vs us : List V}, RWs K H Z mu l vs → RWs K H Z mu m us → RWs K H Z mu (l ++ m) (vs ++ us)
  | [], m, vs, us, h, g => by rw [RWs.nil_iff.mp h]; exact g
  | x :: l, m, _, us, h, g => by
    obtain ⟨v, r, rfl, h1, h2⟩ := RWs.cons_iff.mp h
    exact RWs.cons h1 (RWs.append h2 g)
theorem RWs.drop : ∀ {l : List W} {vs : List V} (n : Nat), RWs K H Z mu l vs → RWs K H Z mu (l.drop n) (vs.drop n)
  | _, _, 0, h => h
  | [], _, n + 1, h => by rw [RWs.nil_iff.mp h, List.drop_nil, List.drop_nil]; exact RWs.nil_iff.mpr rfl
  | x :: l, _, n + 1, h => by
    obtain ⟨v, r, rfl, h1, h2⟩ := RWs.cons_iff.mp h
    exact RWs.drop n h2
theorem RWs.take : ∀ {l : List W} {vs : List V} (n : Nat), RWs K H Z mu l vs → RWs K H Z mu (l.take n) (vs.take n)
  | _, _, 0, _ => by rw [List.take_zero, List.take_zero]; exact RWs.nil_iff.mpr rfl
  | [], _, n + 1, h => by rw [RWs.nil_iff.mp h, List.take_nil, List.take_nil]; exact RWs.nil_iff.mpr rfl
  | x :: l, _, n + 1, h => by
    obtain ⟨v, r, rfl, h1, h2⟩ := RWs.cons_iff.mp h
    exact RWs.cons h1 (RWs.take n h2)
theorem RWs.reverse : ∀ {l : List W} {vs : List V}, RWs K H Z mu l vs → RWs K H Z mu l.reverse vs.reverse
  | [], _, h => by rw [RWs.nil_iff.mp h]; exact RWs.nil_iff.mpr rfl
  | x :: l, _, h => by
    obtain ⟨v, r, rfl, h1, h2⟩ := RWs.cons_iff.mp h
    rw [List.reverse_cons, List.reverse_cons]
    exact (RWs.reverse h2).append (RWs.cons h1 (RWs.nil_iff.mpr rfl))
theorem RWs.set : ∀ {l : List W} {vs : List V} {w : W} {v : V} (j : Nat), RWs K H Z mu l vs → RW K H Z mu w v → RWs K H Z mu (l.set j w) (vs.set j v)
  | [], _, _, _, j, h, _ => by rw [RWs.nil_iff.mp h]; exact RWs.nil_iff.mpr rfl
  | x :: l, _, w, v, 0, h, g => by
    obtain ⟨u, r, rfl, h1, h2⟩ := RWs.cons_iff.mp h
    exact RWs.cons g h2
  | x :: l, _, w, v, j + 1, h, g => by
    obtain ⟨u, r, rfl, h1, h2⟩ := RWs.cons_iff.mp h
    exact RWs.cons h1 (RWs.set j h2 g)
theorem RWs.dropLast {l : List W} {vs : List V} (h : RWs K H Z mu l vs) : RWs K H Z mu l.dropLast vs.dropLast := by
  rw [List.dropLast_eq_take, List.dropLast_eq_take, h.length]
  exact h.take _
theorem RWs.rep {l : List W} {vs : List V} (h : RWs K H Z mu l vs) : ∀ k : Nat, RWs K H Z mu (List.replicate k l).flatten (List.replicate k vs).flatten
  | 0 => RWs.nil_iff.mpr rfl
  | k + 1 => by
    rw [List.replicate_succ, List.replicate_succ, List.flatten_cons, List.flatten_cons]
    exact h.append (RWs.rep h k)
theorem RWs.atI {l : List W} {vs : List V} {i : Int} {w : W} (h : RWs K H Z mu l vs) (e : L2.atI l i = some w) : ∃ v, L2.atI vs i = some v ∧ RW K H Z mu w v := by
  unfold L2.atI at e ⊢
  rw [← h.length]
  cases hj : ixN l.length i with
  | none => rw [hj] at e; cases e
  | some j =>
    rw [hj] at e
    exact h.get e
theorem RWs.cut {l : List W} {vs : List V} (lo hi : Option Int) (h : RWs K H Z mu l vs) : RWs K H Z mu (cutG l lo hi) (cutV vs lo hi) := by
  unfold cutG cutV
  rw [← h.length]
  exact (h.drop _).take _
theorem RWs.mapD : ∀ {ds : List PyData} {vs : List V}, RWs K H Z mu (ds.map .d) vs ↔ RDs K H ds vs
  | [], vs => by simp only [List.map_nil, RWs, RDs]
  | x :: ds, vs => by
    rw [List.map_cons, RWs.cons_iff]
    simp only [RDs, RW]
    constructor
    · rintro ⟨v, r, e, h1, h2⟩; exact ⟨v, r, e, h1, RWs.mapD.mp h2⟩
    · rintro ⟨v, r, e, h1, h2⟩; exact ⟨v, r, e, h1, RWs.mapD.mpr h2⟩
theorem allD_eq : ∀ {l : List W} {ds : List PyData}, allD l = some ds → l = ds.map .d
  | [], ds, h => by simp only [allD] at h; cases h; rfl
  | .d x :: l, ds, h => by
    simp only [allD] at h
    cases e : allD l with
    | none => rw [e] at h; cases h
    | some q => rw [e] at h; cases h; rw [List.map_cons, ← allD_eq e]
  | .ref _ :: _, _, h => by simp only [allD] at h; cases h
  | .tr _ :: _, _, h => by simp only [allD] at h; cases h
  | .lv _ :: _, _, h => by simp only [allD] at h; cases h
@[simp] theorem allD_map : ∀ ds : List PyData, allD (ds.map .d) = some ds
  | [] => rfl
  | x :: ds => by simp only [List.map_cons, allD, allD_map ds]
theorem RWs.allD {l : List W} {ds : List PyData} {vs : List V} (e : DV.allD l = some ds) : RWs K H Z mu l vs ↔ RDs K H ds vs := by rw [allD_eq e]; exact RWs.mapD
theorem RW.mkT {l : List W} {vs : List V} {a : Addr} (h : RWs K H Z mu l vs) (t : SqT K H a vs) : RW K H Z mu (mkT l) (.ref a) := by
  unfold DV.mkT
  cases e : DV.allD l with
  | none => simp only [RW]; exact ⟨a, vs, rfl, t, h⟩
  | some ds => simp only [RW, RD]; exact ⟨a, vs, rfl, t, (RWs.allD e).mp h⟩
theorem RW.tupOf {w : W} {l : List W} {v : V} (e : DV.tupOf w = some l) (h : RW K H Z mu w v) : ∃ a vs, v = .ref a ∧ SqT K H a vs ∧ RWs K H Z mu l vs := by
  cases w with
  | d x =>
    cases x with
    | tuple xs =>
      simp only [DV.tupOf] at e; cases e
      simp only [RW, RD] at h
      obtain ⟨a, vs, e1, e2, e3⟩ := h
      exact ⟨a, vs, e1, e2, RWs.mapD.mpr e3⟩
    | _ => simp [DV.tupOf] at e
  | tr q =>
    simp only [DV.tupOf] at e; cases e
    simp only [RW] at h
    exact h
  | _ => simp [DV.tupOf] at e
theorem RW.tupSame {w : W} {l : List W} {a : Addr} {vs : List V} (e : DV.tupOf w = some l) (h : RWs K H Z mu l vs) (t : SqT K H a vs) : RW K H Z mu w (.ref a) := by
  cases w with
  | d x =>
    cases x with
    | tuple xs =>
      simp only [DV.tupOf] at e; cases e
      simp only [RW, RD]
      exact ⟨a, vs, rfl, t, RWs.mapD.mp h⟩
    | _ => simp [DV.tupOf] at e
  | tr q =>
    simp only [DV.tupOf] at e; cases e
    simp only [RW]
    exact ⟨a, vs, rfl, t, h⟩
  | _ => simp [DV.tupOf] at e

/-! ### the store -/
theorem getL_some {n : Nat} {l : List W} (h : getL S n = some l) : S[n]? = some (.lst l) := by
  unfold getL at h
  split at h
  · cases h; assumption
  · cases h
theorem getL_of {n : Nat} {l : List W} (h : S[n]? = some (.lst l)) : getL S n = some l := by unfold getL; rw [h]
theorem RS.getL (r : RS K Z mu H S) {n : Nat} {l : List W} (e : DV.getL S n = some l) : ∃ a vs, mu[n]? = some a ∧ H a = some (.lst vs) ∧ RWs K H Z mu l vs := r.ob n l (getL_some e)
theorem RS.rdL (r : RS K Z mu H S) {a : Addr} {xs : List V} (h : RdL K Z H a xs) : SqL K H a xs := by
  rcases h with h | ⟨o, h⟩ | h
  · exact .inl (.inl (r.fz _ _ h))
  · exact .inl (.inr ⟨o, h⟩)
  · exact .inr h
theorem RS.lstOf (r : RS K Z mu H S) {w : W} {l : List W} {v : V} (e : DV.lstOf S w = some l) (h : RW K H Z mu w v) : ∃ a vs, v = .ref a ∧ SqL K H a vs ∧ RWs K H Z mu l vs := by
  cases w with
  | ref n =>
    simp only [DV.lstOf] at e
    simp only [RW] at h
    obtain ⟨a, e1, e2⟩ := h
    obtain ⟨b, vs, q1, q2, q3⟩ := r.getL e
    rw [e1] at q1; cases q1
    exact ⟨a, vs, e2, SqL.of q2, q3⟩
  | lv q =>
    simp only [DV.lstOf] at e; cases e
    simp only [RW] at h
    obtain ⟨a, vs, e1, e2, e3⟩ := h
    exact ⟨a, vs, e1, r.rdL e2, RWs.mapD.mpr e3⟩
  | d x => simp [DV.lstOf] at e
  | tr q => simp [DV.lstOf] at e
theorem RS.free (r : RS K Z mu H S) {p : Addr} (h : H p = none) : p ∉ mu := fun hp => by
  obtain ⟨i, hi, e⟩ := List.getElem_of_mem hp
  have hlt : i < S.length := by rw [← r.len]; exact hi
  cases hS : S[i] with
  | lst l =>
    obtain ⟨a, vs, q1, q2, _⟩ := r.ob i l (by rw [List.getElem?_eq_getElem hlt, hS])
    rw [List.getElem?_eq_getElem hi, e] at q1
    cases q1
    rw [h] at q2; cases q2
/-- a new list -/
theorem RS.alloc (r : RS K Z mu H S) {p : Addr} {l : List W} {vs : List V} (h : H p = none) (hl : RWs K H Z mu l vs) : RS K Z (mu ++ [p]) (upd H p (.lst vs)) (S ++ [.lst l]) := by
  have ext : Ext H (upd H p (.lst vs)) := Ext.new h
  have pre : mu <+: mu ++ [p] := List.prefix_append _ _
  refine ⟨by rw [List.length_append, List.length_append, r.len]; rfl, ?_, fun i m e => ?_, fun a o z => ?_, fun a o z hm => ?_⟩
  · rw [List.nodup_append]
    exact ⟨r.nd, by simp, fun x hx y hy => by
      rw [List.mem_singleton] at hy
      subst hy
      rintro rfl
      exact r.free h hx⟩
  · by_cases hi : i < S.length
    · rw [List.getElem?_append_left hi] at e
      obtain ⟨a, us, q1, q2, q3⟩ := r.ob i m e
      exact ⟨a, us, pre_get pre q1, by rw [upd_ne (ne_of_none q2 h)]; exact q2, q3.mono ext pre⟩
    · rw [List.getElem?_append_right (by omega)] at e
      have hi2 : i - S.length = 0 := by
        cases hq : i - S.length with
        | zero => rfl
        | succ k => rw [hq] at e; simp at e
      rw [hi2] at e
      simp at e
      subst e
      refine ⟨p, vs, ?_, upd_same, hl.mono ext pre⟩
      rw [List.getElem?_append_right (by rw [r.len]; omega), r.len, hi2]
      rfl
  · rw [upd_ne (ne_of_none (r.fz a o z) h)]
    exact r.fz a o z
  · rcases List.mem_append.mp hm with hm | hm
    · exact r.sep a o z hm
    · rw [List.mem_singleton] at hm
      subst hm
      rw [r.fz a o z] at h; cases h
/-- the new one's place -/
theorem RS.last (r : RS K Z mu H S) (p : Addr) : (mu ++ [p])[S.length]? = some p := by
  rw [← r.len, List.getElem?_append_right (Nat.le_refl _), Nat.sub_self]
  rfl
/-- objects that are not the store's may come -/
theorem RS.other (r : RS K Z mu H S) {p : Addr} {o : HO} (h : H p = none) : RS K Z mu (upd H p o) S := by
  have ext : Ext H (upd H p o) := Ext.new h
  refine ⟨r.len, r.nd, fun i m e => ?_, fun a u z => ?_, r.sep⟩
  · obtain ⟨a, us, q1, q2, q3⟩ := r.ob i m e
    exact ⟨a, us, q1, by rw [upd_ne (ne_of_none q2 h)]; exact q2, q3.mono ext (List.prefix_refl _)⟩
  · rw [upd_ne (ne_of_none (r.fz a u z) h)]
    exact r.fz a u z
/-- a list changes -/
theorem RS.set (r : RS K Z mu H S) {n : Nat} {a : Addr} {l l' : List W} {vs vs' : List V} (e : S[n]? = some (.lst l)) (ea : mu[n]? = some a) (hv : H a = some (.lst vs)) (h : RWs K H Z mu l' vs') :
    RS K Z mu (upd H a (.lst vs')) (S.set n (.lst l')) := by
  have ext : Ext H (upd H a (.lst vs')) := Ext.set hv
  have hn : n < S.length := (List.getElem?_eq_some_iff.mp e).1
  refine ⟨by rw [List.length_set]; exact r.len, r.nd, fun i m ei => ?_, fun b u z => ?_, r.sep⟩
  · by_cases hi : i = n
    · subst hi
      rw [List.getElem?_set_self hn] at ei
      cases ei
      exact ⟨a, vs', ea, upd_same, h.mono ext (List.prefix_refl _)⟩
    · rw [List.getElem?_set_ne (Ne.symm hi)] at ei
      obtain ⟨b, us, q1, q2, q3⟩ := r.ob i m ei
      have hb : b ≠ a := by
        rintro rfl
        obtain ⟨h1, e1⟩ := List.getElem?_eq_some_iff.mp q1
        obtain ⟨h2, e2⟩ := List.getElem?_eq_some_iff.mp ea
        exact hi ((List.getElem_inj r.nd).mp (e1.trans e2.symm))
      exact ⟨b, us, q1, by rw [upd_ne hb]; exact q2, q3.mono ext (List.prefix_refl _)⟩
  · have hb : b ≠ a := by
      rintro rfl
      exact r.sep _ _ z (List.mem_of_getElem? ea)
    rw [upd_ne hb]
    exact r.fz b u z

/-! ### locals -/
theorem RL.setW {ws ws' : Loc} {σ : L2.St} {i : Nat} {w : W} {v : V} (r : RL K Z mu H ws σ) (e : DV.setW ws i w = some ws') (h : RW K H Z mu w v) : RL K Z mu H ws' (σ.set i (some v)) := by
  unfold DV.setW at e
  split at e
  · rename_i hi
    cases e
    refine ⟨by rw [List.length_set, List.length_set]; exact r.len, fun j u q => ?_⟩
    by_cases hj : j = i
    · subst hj
      rw [List.getElem?_set_self hi] at q
      cases q
      exact ⟨v, by rw [List.getElem?_set_self (by rw [← r.len]; exact hi)], h⟩
    · rw [List.getElem?_set_ne (Ne.symm hj)] at q
      obtain ⟨u', e1, e2⟩ := r.at' j u q
      exact ⟨u', by rw [List.getElem?_set_ne (Ne.symm hj)]; exact e1, e2⟩
  · cases e
theorem RL.setN {ws : Loc} {σ : L2.St} {i : Nat} (r : RL K Z mu H ws σ) : RL K Z mu H (ws.set i none) (σ.set i none) := by
  refine ⟨by rw [List.length_set, List.length_set]; exact r.len, fun j u q => ?_⟩
  by_cases hj : j = i
  · subst hj
    by_cases hi : j < ws.length
    · rw [List.getElem?_set_self hi] at q; cases q
    · rw [List.getElem?_eq_none (by rw [List.length_set]; omega)] at q; cases q
  · rw [List.getElem?_set_ne (Ne.symm hj)] at q
    obtain ⟨u', e1, e2⟩ := r.at' j u q
    exact ⟨u', by rw [List.getElem?_set_ne (Ne.symm hj)]; exact e1, e2⟩
theorem RL.wipe {ws : Loc} {σ : L2.St} (r : RL K Z mu H ws σ) : ∀ vs : List Nat, RL K Z mu H (wipeW ws vs) (L2.wipe σ vs)
  | [] => r
  | v :: vs => by
    unfold wipeW L2.wipe
    exact (RL.wipe r vs).setN
end
end DV
/-! DVOps: each operation of the small language, by the hand layer's rules. -/
namespace DV
open PySem L2 PyProof.Rows

section
variable {K : PySem.W.Frag} {Z : Frz} {mu mu' : List Addr} {H H' : Hp} {S S' : Sto} {w : W} {v : V}

/-- what is wanted behind an expression -/
def After (K : PySem.W.Frag) (Z : Frz) (mu : List Addr) (H : Hp) (w : W) (S : Sto) (Q : VK) : Prop :=
  ∀ v H' mu', mu <+: mu' → Ext H H' → RS K Z mu' H' S → RW K H' Z mu' w v → Q v H'
theorem After.mono {Q : VK} (a : After K Z mu H w S Q) (hm : mu <+: mu') (e : Ext H H') : After K Z mu' H' w S Q :=
  fun v H2 mu2 h1 h2 h3 h4 => a v H2 mu2 (hm.trans h1) (e.trans h2) h3 h4
theorem After.here {Q : VK} (a : After K Z mu H w S Q) (r : RS K Z mu H S) (h : RW K H Z mu w v) : Q v H := a v H mu (List.prefix_refl _) (Ext.refl _) r h
theorem After.new {Q : VK} {l : List W} {vs : List V} {p : Addr} (a : After K Z mu H (.ref S.length) (S ++ [.lst l]) Q) (r : RS K Z mu H S) (hp : H p = none) (h : RWs K H Z mu l vs) : Q (.ref p) (upd H p (.lst vs)) :=
  a _ _ _ (List.prefix_append _ _) (Ext.new hp) (r.alloc hp h) (by simp only [RW]; exact ⟨p, r.last p, rfl⟩)
theorem After.tup {Q : VK} {l : List W} {vs : List V} {p : Addr} (a : After K Z mu H (mkT l) S Q) (r : RS K Z mu H S) (hp : H p = none) (h : RWs K H Z mu l vs) : Q (.ref p) (upd H p (.tup vs)) :=
  a _ _ _ (List.prefix_refl _) (Ext.new hp) (r.other hp) (RW.mkT (h.mono (Ext.new hp) (List.prefix_refl _)) (SqT.of upd_same))
theorem cap_le {n : Nat} (h : n ≤ capN) : n ≤ sizeLine := Nat.le_trans h (by decide)
theorem cap_lt {n : Nat} (h : n < capN) : n < sizeLine := Nat.lt_of_lt_of_le h (by decide)

/-! scalars -/
theorem rw_int {i : Int} : RW K H Z mu (.d (.int i)) v ↔ v = .int i := by simp only [RW, RD]
theorem rw_str {x : Str} : RW K H Z mu (.d (.str x)) v ↔ v = .str x := by simp only [RW, RD]
theorem rw_bool {b : Bool} : RW K H Z mu (.d (.bool b)) v ↔ v = .bl b := by simp only [RW, RD]
theorem rw_none : RW K H Z mu (.d .none) v ↔ v = .non := by simp only [RW, RD]
theorem ofBool_some {b : Bool} (h : ofBool w = some b) : w = .d (.bool b) := by
  cases w with
  | d x => cases x with
    | bool c => simp only [ofBool] at h; cases h; rfl
    | _ => simp [ofBool] at h
  | _ => simp [ofBool] at h

/-! data as the hand layer's -/
mutual
theorem RD.dp : ∀ {x : PyData} {v : V}, RD K H x v → Dp K H v x
  | .none, _, h => by simp only [RD] at h; subst h; exact .non
  | .bool b, _, h => by simp only [RD] at h; subst h; exact .bl b
  | .int i, _, h => by simp only [RD] at h; subst h; exact .int i
  | .str s, _, h => by simp only [RD] at h; subst h; exact .str s
  | .tuple xs, _, h => by
    simp only [RD] at h
    obtain ⟨a, vs, rfl, h1, h2⟩ := h
    exact .tup h1 (RDs.dp h2)
  | .list _, _, h => by simp only [RD] at h
  | .dict _, _, h => by simp only [RD] at h
theorem RDs.dp : ∀ {xs : List PyData} {vs : List V}, RDs K H xs vs → DpAll K H vs xs
  | [], _, h => by simp only [RDs] at h; subst h; exact .nil
  | x :: xs, _, h => by
    simp only [RDs] at h
    obtain ⟨v, r, rfl, h1, h2⟩ := h
    exact .cons (RD.dp h1) (RDs.dp h2)
end
theorem RS.dat (r : RS K Z mu H S) {d : PyData} (e : datOf S w = some d) (h : RW K H Z mu w v) : Dp K H v d := by
  cases w with
  | d x =>
    simp only [datOf] at e
    split at e <;> cases e
    simp only [RW] at h
    exact h.dp
  | lv l =>
    simp only [datOf] at e
    split at e <;> cases e
    simp only [RW] at h
    obtain ⟨a, vs, rfl, h1, h2⟩ := h
    exact .lst (r.rdL h1) h2.dp
  | ref n =>
    simp only [datOf] at e
    cases e1 : DV.getL S n with
    | none => rw [e1] at e; cases e
    | some l =>
      rw [e1] at e
      cases e2 : DV.allD l with
      | none => simp only [e2] at e; cases e
      | some ds =>
        simp only [e2] at e
        split at e <;> cases e
        simp only [RW] at h
        obtain ⟨a, h1, rfl⟩ := h
        obtain ⟨b, vs, q1, q2, q3⟩ := r.getL e1
        rw [h1] at q1; cases q1
        exact .lst (SqL.of q2) ((RWs.allD e2).mp q3).dp
  | tr l => simp [datOf] at e

/-! ### binary operators -/
def rB (K : PySem.W.Frag) (Z : Frz) (o : Bin) : R2 := fun x y H Q =>
  ∃ mu S wx wy w S', RS K Z mu H S ∧ RW K H Z mu wx x ∧ RW K H Z mu wy y ∧ binF o wx wy S = some (w, S') ∧ After K Z mu H w S' Q
end

section
variable {X : Cx} {Z : Frz}
theorem op_catL : OpR X (binaryOp .Add) (fun x y H Q => ∃ a b xs ys, x = .ref a ∧ y = .ref b ∧ SqL X.K H a xs ∧ SqL X.K H b ys ∧ xs.length + ys.length ≤ sizeLine ∧ ∀ p, H p = none → Q (.ref p) (upd H p (.lst (xs ++ ys)))) := by
  intro pins s σ H x y v u Q I rx ry h
  obtain ⟨a, b, xs, ys, ex, ey, hx, hy, hz, q⟩ := h
  subst ex; subst ey
  cases rx; cases ry
  obtain ⟨i1, r1, p1, z1⟩ := I.list hx
  obtain ⟨i2, r2, p2, z2⟩ := I.list hy
  have l1 := r1.length
  have l2 := r2.length
  obtain ⟨⟨c1, d1, da1, s1⟩, g1, k1, n1, e1⟩ := p1.isList
  obtain ⟨⟨c2, d2, da2, s2⟩, g2, k2, n2, e2⟩ := p2.isList
  simp only at k1 e1 k2 e2
  subst k1 e1 k2 e2
  have hs : i1.toArray.size + i2.toArray.size ≤ sizeLine := by rw [List.size_toArray, List.size_toArray]; omega
  refine concat_meets ⟨_, g1, rfl⟩ ⟨_, g2, rfl⟩ noFill_list_add seq_list_add PySem.F.slot_list_add PySem.F.entry_list_add (PySem.F.args_list_add_2 _ _) (list_addW a b i1.toArray i2.toArray n1 n2 d1 d2 s1 s2 hs) ⟨g1, g2, ?_⟩
  rw [List.append_toArray]
  exact ⟨.ref _, _, I.lnew (t' := s.toks) (r1.append r2) (by rw [List.length_append]; omega), rfl, q _ I.fresh⟩

theorem opB_add : OpR X (binaryOp .Add) (rB X.K Z .add) := by
  intro pins s σ H x y v u Q I rx ry h
  obtain ⟨mu, S, wx, wy, w, S', hS, hx, hy, hb, hQ⟩ := h
  simp only [binF] at hb
  split at hb
  · cases hb
    rw [rw_int] at hx hy
    exact op_add pins s σ H x y v u Q I rx ry ⟨_, _, hx, hy, hQ.here hS (rw_int.mpr rfl)⟩
  · split at hb
    · rename_i hl
      cases hb
      rw [rw_str] at hx hy
      exact op_add_str pins s σ H x y v u Q I rx ry ⟨_, _, hx, hy, cap_le hl, hQ.here hS (rw_str.mpr rfl)⟩
    · cases hb
  · split at hb
    · rename_i l e1
      split at hb
      · rename_i m e2
        split at hb
        · rename_i hl
          cases hb
          obtain ⟨a, vs, ex, tx, lx⟩ := RW.tupOf e1 hx
          obtain ⟨b, us, ey, ty, ly⟩ := RW.tupOf e2 hy
          have z1 := lx.length
          have z2 := ly.length
          refine op_catA pins s σ H x y v u Q I rx ry ⟨a, b, vs, us, ex, ey, tx, ty, cap_le (by rw [← z1, ← z2]; exact hl), fun e0 => ?_, fun _ e0 => ?_, fun _ _ p hp => hQ.tup hS hp (lx.append ly)⟩
          · subst e0
            have : l = [] := List.length_eq_zero_iff.mp (by rw [z1]; rfl)
            subst this
            exact hQ.here hS (RW.mkT ly ty)
          · subst e0
            have : m = [] := List.length_eq_zero_iff.mp (by rw [z2]; rfl)
            subst this
            rw [List.append_nil] at hQ
            exact hQ.here hS (RW.mkT lx tx)
        · cases hb
      · cases hb
    · split at hb
      · rename_i l e1
        split at hb
        · rename_i m e2
          split at hb
          · rename_i hl
            cases hb
            obtain ⟨a, vs, ex, tx, lx⟩ := hS.lstOf e1 hx
            obtain ⟨b, us, ey, ty, ly⟩ := hS.lstOf e2 hy
            exact op_catL pins s σ H x y v u Q I rx ry ⟨a, b, vs, us, ex, ey, tx, ty, cap_le (by rw [← lx.length, ← ly.length]; exact hl), fun p hp => hQ.new hS hp (lx.append ly)⟩
          · cases hb
        · cases hb
      · cases hb
theorem opB_sub : OpR X (binaryOp .Sub) (rB X.K Z .sub) := by
  intro pins s σ H x y v u Q I rx ry h
  obtain ⟨mu, S, wx, wy, w, S', hS, hx, hy, hb, hQ⟩ := h
  simp only [binF] at hb
  split at hb
  · cases hb
    rw [rw_int] at hx hy
    exact op_sub pins s σ H x y v u Q I rx ry ⟨_, _, hx, hy, hQ.here hS (rw_int.mpr rfl)⟩
  · cases hb
theorem abs64 {i : Int} (h : i.natAbs < 2 ^ 64) : -(2 ^ 64) < i ∧ i < 2 ^ 64 := by omega
theorem opB_mul : OpR X (binaryOp .Mult) (rB X.K Z .mul) := by
  intro pins s σ H x y v u Q I rx ry h
  obtain ⟨mu, S, wx, wy, w, S', hS, hx, hy, hb, hQ⟩ := h
  simp only [binF] at hb
  split at hb
  · split at hb
    · rename_i hm
      cases hb
      rw [rw_int] at hx hy
      refine op_mul pins s σ H x y v u Q I rx ry ⟨_, _, hx, hy, ?_, hQ.here hS (rw_int.mpr rfl)⟩
      unfold mulOk at hm
      simp only [Bool.or_eq_true, decide_eq_true_eq] at hm
      rcases hm with hm | hm
      · exact .inl (abs64 hm)
      · exact .inr (abs64 hm)
    · cases hb
  · split at hb
    · rename_i l e1
      split at hb
      · rename_i hm
        cases hb
        simp only [Bool.and_eq_true, decide_eq_true_eq] at hm
        rw [rw_int] at hy
        simp only [RW] at hx
        obtain ⟨a, h1, rfl⟩ := hx
        obtain ⟨b, vs, q1, q2, q3⟩ := hS.getL e1
        rw [h1] at q1; cases q1
        exact op_rep pins s σ H _ y v u Q I rx ry ⟨a, _, vs, rfl, hy, q2, by omega, by omega, cap_le (by rw [← q3.length]; exact hm.2), fun p hp => hQ.new hS hp (q3.rep _)⟩
      · cases hb
    · cases hb
  · cases hb
theorem opB_fdiv : OpR X (binaryOp .FloorDiv) (rB X.K Z .fdiv) := by
  intro pins s σ H x y v u Q I rx ry h
  obtain ⟨mu, S, wx, wy, w, S', hS, hx, hy, hb, hQ⟩ := h
  simp only [binF] at hb
  split at hb
  · split at hb
    · rename_i hm
      cases hb
      simp only [Bool.and_eq_true, decide_eq_true_eq] at hm
      rw [rw_int] at hx hy
      exact op_fdiv pins s σ H x y v u Q I rx ry ⟨_, _, hx, hy, hm, hQ.here hS (rw_int.mpr rfl)⟩
    · cases hb
  · cases hb
theorem opB_mod : OpR X (binaryOp .Mod) (rB X.K Z .mod) := by
  intro pins s σ H x y v u Q I rx ry h
  obtain ⟨mu, S, wx, wy, w, S', hS, hx, hy, hb, hQ⟩ := h
  simp only [binF] at hb
  split at hb
  · split at hb
    · rename_i hm
      cases hb
      simp only [decide_eq_true_eq] at hm
      rw [rw_int] at hx hy
      exact op_mod pins s σ H x y v u Q I rx ry ⟨_, _, hx, hy, hm, hQ.here hS (rw_int.mpr rfl)⟩
    · cases hb
  · cases hb
theorem opB_pow : OpR X (binaryOp .Pow) (rB X.K Z .pow) := by
  intro pins s σ H x y v u Q I rx ry h
  obtain ⟨mu, S, wx, wy, w, S', hS, hx, hy, hb, hQ⟩ := h
  simp only [binF] at hb
  split at hb
  · split at hb
    · rename_i hm
      cases hb
      simp only [Bool.and_eq_true, decide_eq_true_eq] at hm
      rw [rw_int] at hx hy
      exact op_pow pins s σ H x y v u Q I rx ry ⟨_, _, hx, hy, ⟨hm.1.1, hm.1.2, hm.2⟩, hQ.here hS (rw_int.mpr rfl)⟩
    · cases hb
  · cases hb
theorem opB {o : Operator} {b : Bin} (h : binOf o = some b) : OpR X (binaryOp o) (rB X.K Z b) := by
  cases o <;> simp only [binOf] at h <;> cases h
  · exact opB_add
  · exact opB_sub
  · exact opB_mul
  · exact opB_mod
  · exact opB_pow
  · exact opB_fdiv
end
end DV

namespace DV
open PySem L2 PyProof.Rows

section
variable {X : Cx} {Z : Frz}
/-! ### comparisons -/
def rC (K : PySem.W.Frag) (Z : Frz) (o : Cm) : R2 := fun x y H Q =>
  ∃ mu S wx wy b, RS K Z mu H S ∧ RW K H Z mu wx x ∧ RW K H Z mu wy y ∧ cmpF o wx wy S = some b ∧ Q (.bl b) H
/-- by what a comparison of data gives -/
theorem ordD {op : CmpOp} {f : PyData → PyData → Bool} {K : PySem.W.Frag} (hK : K = X.K) (hu : X.A.units + 64 < cLine)
    (rule : ∀ {E : Value → Shared → Prop} {s : Shared} {a b : Value} {da db : PyData} {as bs : List Addr} {Q : Value → Shared → Prop}, Reads s.heap a da as → Reads s.heap b db bs → PySem.W.alike da db = true → da ≠ .none → X.A.units + min da.depth db.depth < cLine → Q (.bool (f da db)) s → wpAny (model X.prog X.w) X.A (compareOp op a b) Q E s)
    {pins : List (Addr × Obj)} {s : Shared} {σ : L2.St} {H : Hp} {mu : List Addr} {x y : V} {v u : Value} {a b : PyData} {Q : VK} (I : Inv X pins σ H s) (rx : RelV x v) (ry : RelV y u) (hx : RW K H Z mu (.d a) x) (hy : RW K H Z mu (.d b) y) (ok : cmpOk a b = true) (q : Q (.bl (f a b)) H) :
    wpAny (model X.prog X.w) X.A (compareOp op v u) (EP X pins σ Q) X.xe s := by
  subst hK
  unfold cmpOk at ok
  simp only [Bool.and_eq_true, decide_eq_true_eq] at ok
  obtain ⟨_, ⟨k1, k2⟩, k3⟩ := ok
  simp only [RW] at hx hy
  obtain ⟨as, r1⟩ := Dp.reads I a x v hx.dp rx
  obtain ⟨bs, r2⟩ := Dp.reads I b y u hy.dp ry
  exact rule r1 r2 k1 (by rintro rfl; simp at k3) (by omega) ⟨.bl _, H, I, rfl, q⟩

theorem eqF_rule {op : CmpOp} {neg : Bool} (hu : X.A.units + 64 < cLine) (h1 : OpR X (compareOp op) (fun x y H Q => scal x y = true ∧ Q (.bl (if neg then !decide (x = y) else decide (x = y))) H))
    (h2 : OpR X (compareOp op) (fun x y H Q => ∃ d e, Dp X.K H x d ∧ Dp X.K H y e ∧ SeqAt.shaped d = true ∧ SeqAt.shaped e = true ∧ Q (.bl (if neg then !PyData.eqv d e else PyData.eqv d e)) H)) :
    OpR X (compareOp op) (fun x y H Q => ∃ mu S wx wy b, RS X.K Z mu H S ∧ RW X.K H Z mu wx x ∧ RW X.K H Z mu wy y ∧ eqF S wx wy = some b ∧ Q (.bl (if neg then !b else b)) H) := by
  intro pins s σ H x y v u Q I rx ry h
  obtain ⟨mu, S, wx, wy, b, hS, hx, hy, hb, hQ⟩ := h
  unfold eqF at hb
  split at hb
  · cases hb
    rw [rw_str] at hx hy
    subst hx; subst hy
    refine h1 pins s σ H _ _ v u Q I rx ry ⟨rfl, ?_⟩
    rw [dec_str]
    exact hQ
  · cases hb
    rw [rw_int] at hx hy
    subst hx; subst hy
    refine h1 pins s σ H _ _ v u Q I rx ry ⟨rfl, ?_⟩
    rw [dec_int]
    exact hQ
  · split at hb
    · rename_i a e1
      split at hb
      · rename_i c e2
        split at hb
        · rename_i hs
          cases hb
          simp only [Bool.and_eq_true] at hs
          exact h2 pins s σ H x y v u Q I rx ry ⟨a, c, hS.dat e1 hx, hS.dat e2 hy, hs.1, hs.2, hQ⟩
        · cases hb
      · cases hb
    · cases hb

theorem isNone_rw {K : PySem.W.Frag} {H : Hp} {mu : List Addr} {w : W} {x : V} (hx : RW K H Z mu w x) : decide (x = V.non) = isNoneW w := by
  cases w with
  | d z =>
    cases z with
    | none => rw [rw_none] at hx; subst hx; rfl
    | bool _ => rw [rw_bool] at hx; subst hx; rfl
    | int _ => rw [rw_int] at hx; subst hx; rfl
    | str _ => rw [rw_str] at hx; subst hx; rfl
    | tuple _ => simp only [RW, RD] at hx; obtain ⟨_, _, rfl, _⟩ := hx; rfl
    | list _ => simp only [RW, RD] at hx
    | dict _ => simp only [RW, RD] at hx
  | ref n => simp only [RW] at hx; obtain ⟨_, _, rfl⟩ := hx; rfl
  | tr l => simp only [RW] at hx; obtain ⟨_, _, rfl, _⟩ := hx; rfl
  | lv l => simp only [RW] at hx; obtain ⟨_, _, rfl, _⟩ := hx; rfl

theorem opC {o : CmpOp} (hu : X.A.units + 66 < cLine) : OpR X (compareOp o) (rC X.K Z (cmOf o)) := by
  have hu64 : X.A.units + 64 < cLine := by omega
  intro pins s σ H x y v u Q I rx ry h
  obtain ⟨mu, S, wx, wy, b, hS, hx, hy, hb, hQ⟩ := h
  cases o with
  | Eq => exact eqF_rule (neg := false) hu64 op_eq (op_eqD hu64) pins s σ H x y v u Q I rx ry ⟨mu, S, wx, wy, b, hS, hx, hy, hb, hQ⟩
  | NotEq =>
    simp only [cmOf, cmpF] at hb
    cases e : eqF S wx wy with
    | none => rw [e] at hb; cases hb
    | some c =>
      rw [e] at hb
      simp only [Option.map_some, Option.some.injEq] at hb
      subst hb
      exact eqF_rule (neg := true) hu64 op_ne (op_neD hu64) pins s σ H x y v u Q I rx ry ⟨mu, S, wx, wy, c, hS, hx, hy, e, hQ⟩
  | Lt =>
    simp only [cmOf, cmpF] at hb
    split at hb
    · cases hb
      rw [rw_int] at hx hy
      exact op_lt pins s σ H x y v u Q I rx ry ⟨_, _, hx, hy, hQ⟩
    · split at hb
      · rename_i ok
        cases hb
        exact ordD rfl hu64 PySem.W.lt_data I rx ry hx hy ok hQ
      · cases hb
    · cases hb
  | LtE =>
    simp only [cmOf, cmpF] at hb
    split at hb
    · cases hb
      rw [rw_int] at hx hy
      exact op_le pins s σ H x y v u Q I rx ry ⟨_, _, hx, hy, hQ⟩
    · split at hb
      · rename_i ok
        cases hb
        exact ordD (f := fun a b => !PySem.W.dataLt b a) rfl hu64 PySem.W.le_data I rx ry hx hy ok hQ
      · cases hb
    · cases hb
  | Gt =>
    simp only [cmOf, cmpF] at hb
    split at hb
    · cases hb
      rw [rw_int] at hx hy
      exact op_gt pins s σ H x y v u Q I rx ry ⟨_, _, hx, hy, hQ⟩
    · split at hb
      · rename_i ok
        cases hb
        exact ordD (f := fun a b => PySem.W.dataLt b a) rfl hu64 PySem.W.gt_data I rx ry hx hy ok hQ
      · cases hb
    · cases hb
  | GtE =>
    simp only [cmOf, cmpF] at hb
    split at hb
    · cases hb
      rw [rw_int] at hx hy
      exact op_ge pins s σ H x y v u Q I rx ry ⟨_, _, hx, hy, hQ⟩
    · split at hb
      · rename_i ok
        cases hb
        exact ordD (f := fun a b => !PySem.W.dataLt a b) rfl hu64 PySem.W.ge_data I rx ry hx hy ok hQ
      · cases hb
    · cases hb
  | Is =>
    simp only [cmOf, cmpF] at hb
    split at hb
    · cases hb
      rw [rw_bool] at hx hy
      exact op_isBl pins s σ H x y v u Q I rx ry ⟨_, _, hx, hy, by rw [← Bool.beq_eq_decide_eq]; exact hQ⟩
    · cases hb
      rw [rw_none] at hy
      refine op_isN pins s σ H x y v u Q I rx ry ⟨hy, ?_⟩
      have e := isNone_rw hx
      rw [e]
      exact hQ
    · cases hb
  | IsNot =>
    simp only [cmOf, cmpF] at hb
    split at hb
    · cases hb
      rw [rw_bool] at hx hy
      exact op_isnot_bl pins s σ H x y v u Q I rx ry ⟨_, _, hx, hy, by rw [← Bool.beq_eq_decide_eq]; exact hQ⟩
    · cases hb
      rw [rw_none] at hy
      refine op_notN pins s σ H x y v u Q I rx ry ⟨hy, ?_⟩
      have e := isNone_rw hx
      rw [e]
      exact hQ
    · cases hb
  | In =>
    simp only [cmOf, cmpF] at hb
    split at hb
    · cases hb
      rw [rw_str] at hx hy
      exact op_in_str pins s σ H x y v u Q I rx ry ⟨_, _, hx, hy, hQ⟩
    · cases hb
  | NotIn =>
    simp only [cmOf, cmpF] at hb
    split at hb
    · cases hb
      rw [rw_str] at hx hy
      exact op_notin_str pins s σ H x y v u Q I rx ry ⟨_, _, hx, hy, hQ⟩
    · cases hb
end
end DV

namespace DV
open PySem L2 PyProof.Rows
section
variable {X : Cx} {Z : Frz}
/-! ### built-in functions -/
def rF (K : PySem.W.Frag) (Z : Frz) (f : Bf) : List V → Hp → VK → Prop := fun vs H Q =>
  ∃ mu S wl w S', RS K Z mu H S ∧ RWs K H Z mu wl vs ∧ bfF f wl S = some (w, S') ∧ After K Z mu H w S' Q
theorem rws_one {K : PySem.W.Frag} {H : Hp} {mu : List Addr} {w : W} {vs : List V} (h : RWs K H Z mu [w] vs) : ∃ v, vs = [v] ∧ RW K H Z mu w v := by
  obtain ⟨v, r, e, h1, h2⟩ := RWs.cons_iff.mp h
  rw [RWs.nil_iff.mp h2] at e
  exact ⟨v, e, h1⟩
theorem rws_two {K : PySem.W.Frag} {H : Hp} {mu : List Addr} {w w' : W} {vs : List V} (h : RWs K H Z mu [w, w'] vs) : ∃ v v', vs = [v, v'] ∧ RW K H Z mu w v ∧ RW K H Z mu w' v' := by
  obtain ⟨v, r, e, h1, h2⟩ := RWs.cons_iff.mp h
  obtain ⟨v', e', h3⟩ := rws_one h2
  rw [e'] at e
  exact ⟨v, v', e, h1, h3⟩
theorem RS.seq {K : PySem.W.Frag} {H : Hp} {mu : List Addr} {S : Sto} {w : W} {l : List W} {v : V} (r : RS K Z mu H S) (e : seqOf S w = some l) (h : RW K H Z mu w v) :
    ∃ a vs, v = .ref a ∧ (SqL K H a vs ∨ SqT K H a vs) ∧ RWs K H Z mu l vs := by
  unfold seqOf at e
  split at e
  · rename_i q e1
    cases e
    obtain ⟨a, vs, e2, e3, e4⟩ := RW.tupOf e1 h
    exact ⟨a, vs, e2, .inr e3, e4⟩
  · obtain ⟨a, vs, e2, e3, e4⟩ := r.lstOf e h
    exact ⟨a, vs, e2, .inl e3, e4⟩
theorem boolsOf_eq : ∀ {l : List W} {bs : List Bool}, boolsOf l = some bs → l = bs.map fun b => W.d (.bool b)
  | [], bs, e => by simp only [boolsOf] at e; cases e; rfl
  | w :: l, bs, e => by
    unfold boolsOf at e
    split at e
    · rename_i h; cases h
    · rename_i b r' h
      cases h
      split at e
      · rename_i cs e1
        cases e
        rw [boolsOf_eq e1]
        rfl
      · cases e
    · cases e
theorem bools_rw {K : PySem.W.Frag} {H : Hp} {mu : List Addr} : ∀ {bs : List Bool} {vs : List V}, RWs K H Z mu (bs.map fun b => W.d (.bool b)) vs → vs = bs.map V.bl
  | [], vs, h => RWs.nil_iff.mp h
  | b :: bs, vs, h => by
    obtain ⟨v, r, rfl, h1, h2⟩ := RWs.cons_iff.mp h
    rw [rw_bool.mp h1, bools_rw h2]
    rfl
theorem bf1_some {f : W → Sto → Option (W × Sto)} {l : List W} {S : Sto} {q : W × Sto} (h : bf1 f l S = some q) : ∃ x, l = [x] ∧ f x S = some q := by
  unfold bf1 at h
  split at h
  · exact ⟨_, rfl, h⟩
  · cases h
theorem bf2_some {f : W → W → Sto → Option (W × Sto)} {l : List W} {S : Sto} {q : W × Sto} (h : bf2 f l S = some q) : ∃ x y, l = [x, y] ∧ f x y S = some q := by
  unfold bf2 at h
  split at h
  · exact ⟨_, _, rfl, h⟩
  · cases h
theorem opF_len : CallR X (.builtin "len") (rF X.K Z .len) := by
  intro pins s σ H vs us Q I r h
  obtain ⟨mu, S, wl, w, S', hS, hw, hb, hQ⟩ := h
  obtain ⟨x, rfl, hb⟩ := bf1_some (f := bLen) hb
  obtain ⟨v, rfl, hv⟩ := rws_one hw
  replace hb : bLen x S = some (w, S') := hb
  unfold bLen at hb
  split at hb
  · split at hb
    · rename_i hz
      cases hb
      rw [rw_str] at hv
      subst hv
      exact call_len pins s σ H _ us Q I r ⟨_, _, rfl, ⟨cap_le hz, rfl⟩, hQ.here hS (rw_int.mpr rfl)⟩
    · cases hb
  · split at hb
    · rename_i l e1
      cases hb
      obtain ⟨a, xs, rfl, e2, e3⟩ := hS.seq e1 hv
      have e4 : LenV X.K (.ref a) H l.length := by
        rcases e2 with e2 | e2
        · exact .inl ⟨xs, e2, e3.length⟩
        · exact .inr ⟨xs, e2, e3.length⟩
      exact call_len pins s σ H _ us Q I r ⟨_, l.length, rfl, e4, hQ.here hS (rw_int.mpr rfl)⟩
    · cases hb
theorem opF_all (hc : X.calm = true) : CallR X (.builtin "all") (rF X.K Z .all) := by
  intro pins s σ H vs us Q I r h
  obtain ⟨mu, S, wl, w, S', hS, hw, hb, hQ⟩ := h
  obtain ⟨x, rfl, hb⟩ := bf1_some (f := bAll) hb
  obtain ⟨v, rfl, hv⟩ := rws_one hw
  replace hb : bAll x S = some (w, S') := hb
  unfold bAll at hb
  split at hb
  · rename_i l e1
    split at hb
    · rename_i bs e2
      cases hb
      obtain ⟨a, xs, rfl, e3, e4⟩ := hS.lstOf e1 hv
      rw [boolsOf_eq e2] at e4
      have e5 := bools_rw e4
      subst e5
      exact cr_all hc pins s σ H _ us Q I r ⟨a, bs, rfl, e3, hQ.here hS (rw_bool.mpr rfl)⟩
    · cases hb
  · cases hb
theorem opF_any (hc : X.calm = true) : CallR X (.builtin "any") (rF X.K Z .any) := by
  intro pins s σ H vs us Q I r h
  obtain ⟨mu, S, wl, w, S', hS, hw, hb, hQ⟩ := h
  obtain ⟨x, rfl, hb⟩ := bf1_some (f := bAny) hb
  obtain ⟨v, rfl, hv⟩ := rws_one hw
  replace hb : bAny x S = some (w, S') := hb
  unfold bAny at hb
  split at hb
  · rename_i l e1
    split at hb
    · rename_i bs e2
      cases hb
      obtain ⟨a, xs, rfl, e3, e4⟩ := hS.lstOf e1 hv
      rw [boolsOf_eq e2] at e4
      have e5 := bools_rw e4
      subst e5
      exact cr_any hc pins s σ H _ us Q I r ⟨a, bs, rfl, e3, hQ.here hS (rw_bool.mpr rfl)⟩
    · cases hb
  · cases hb
theorem opF_tuple : CallR X (.type "tuple") (rF X.K Z .tuple) := by
  intro pins s σ H vs us Q I r h
  obtain ⟨mu, S, wl, w, S', hS, hw, hb, hQ⟩ := h
  obtain ⟨x, rfl, hb⟩ := bf1_some (f := bTuple) hb
  obtain ⟨v, rfl, hv⟩ := rws_one hw
  replace hb : bTuple x S = some (w, S') := hb
  unfold bTuple at hb
  split at hb
  · rename_i l e1
    split at hb
    · cases hb
      obtain ⟨a, xs, rfl, e2, e3⟩ := hS.seq e1 hv
      refine call_tuple_of pins s σ H _ us Q I r ⟨a, xs, rfl, ?_⟩
      rcases e2 with e2 | e2
      · exact .inl ⟨e2, fun p hp => hQ.tup hS hp e3⟩
      · exact .inr ⟨e2, hQ.here hS (RW.mkT e3 e2)⟩
    · cases hb
  · cases hb
theorem opF_list : CallR X (.type "list") (rF X.K Z .list) := by
  intro pins s σ H vs us Q I r h
  obtain ⟨mu, S, wl, w, S', hS, hw, hb, hQ⟩ := h
  obtain ⟨x, rfl, hb⟩ := bf1_some (f := bList) hb
  obtain ⟨v, rfl, hv⟩ := rws_one hw
  replace hb : bList x S = some (w, S') := hb
  unfold bList at hb
  split at hb
  · rename_i l e1
    split at hb
    · cases hb
      obtain ⟨a, xs, rfl, e2, e3⟩ := hS.seq e1 hv
      exact call_list_of pins s σ H _ us Q I r ⟨a, xs, rfl, e2, fun p hp => hQ.new hS hp e3⟩
    · cases hb
  · cases hb
theorem opF_int : CallR X (.type "int") (rF X.K Z .int) := by
  intro pins s σ H vs us Q I r h
  obtain ⟨mu, S, wl, w, S', hS, hw, hb, hQ⟩ := h
  obtain ⟨x, rfl, hb⟩ := bf1_some (f := bInt) hb
  obtain ⟨v, rfl, hv⟩ := rws_one hw
  replace hb : bInt x S = some (w, S') := hb
  unfold bInt at hb
  split at hb
  · cases hb
    rw [rw_int] at hv
    subst hv
    exact call_int1 pins s σ H _ us Q I r (.inl ⟨_, rfl, hQ.here hS (rw_int.mpr rfl)⟩)
  · cases hb
theorem opF_max (hc : X.calm = true) : CallR X (.builtin "max") (rF X.K Z .max) := by
  intro pins s σ H vs us Q I r h
  obtain ⟨mu, S, wl, w, S', hS, hw, hb, hQ⟩ := h
  obtain ⟨x, y, rfl, hb⟩ := bf2_some (f := bMax) hb
  obtain ⟨v, v', rfl, hv, hv'⟩ := rws_two hw
  replace hb : bMax x y S = some (w, S') := hb
  unfold bMax at hb
  split at hb
  · cases hb
    rw [rw_int] at hv hv'
    subst hv; subst hv'
    exact call_max2 hc pins s σ H _ us Q I r ⟨_, _, rfl, hQ.here hS (rw_int.mpr rfl)⟩
  · cases hb
theorem opF_min (hc : X.calm = true) : CallR X (.builtin "min") (rF X.K Z .min) := by
  intro pins s σ H vs us Q I r h
  obtain ⟨mu, S, wl, w, S', hS, hw, hb, hQ⟩ := h
  obtain ⟨x, y, rfl, hb⟩ := bf2_some (f := bMin) hb
  obtain ⟨v, v', rfl, hv, hv'⟩ := rws_two hw
  replace hb : bMin x y S = some (w, S') := hb
  unfold bMin at hb
  split at hb
  · cases hb
    rw [rw_int] at hv hv'
    subst hv; subst hv'
    exact call_min2 hc pins s σ H _ us Q I r ⟨_, _, rfl, hQ.here hS (rw_int.mpr rfl)⟩
  · cases hb

/-! sorted of data -/
theorem le_total : PySem.W.TotalLe (PySem.W.dataLe (β := PyData) false id) := PySem.W.sortLe_total _ false _
theorem insD_mid {a : PyData} : ∀ {l1 l2 : List PyData}, (∀ b ∈ l1, PySem.W.dataLe false id a b = false) → (∀ b, l2.head? = some b → PySem.W.dataLe false id a b = true) → insD a (l1 ++ l2) = l1 ++ a :: l2
  | [], [], _, _ => rfl
  | [], b :: r, _, h => by simp only [List.nil_append, insD, h b rfl, if_true]
  | b :: l1, l2, h, g => by
    simp only [List.cons_append, insD, h b List.mem_cons_self, Bool.false_eq_true, if_false]
    rw [insD_mid (fun c hc => h c (List.mem_cons_of_mem _ hc)) g]
theorem sortD_merge : ∀ ds : List PyData, ds.mergeSort (PySem.W.dataLe false id) = sortD ds
  | [] => by rw [List.mergeSort_nil]; rfl
  | a :: r => by
    obtain ⟨l1, l2, h1, h2, h3⟩ := List.mergeSort_cons (le := PySem.W.dataLe (β := PyData) false id) (fun a b c x y => le_total.trans a b c x y) (fun a b => by have := le_total.total a b; simpa using this) a r
    have hs := List.pairwise_mergeSort (le := PySem.W.dataLe (β := PyData) false id) (fun a b c x y => le_total.trans a b c x y) (fun a b => by have := le_total.total a b; simpa using this) (a :: r)
    rw [h1] at hs ⊢
    rw [sortD, ← sortD_merge r, h2, insD_mid (fun b hb => by simpa using h3 b hb) fun b hb => ?_]
    have h5 := (List.pairwise_append.mp hs).2.1
    cases l2 with
    | nil => cases hb
    | cons c l2 =>
      cases hb
      exact (List.pairwise_cons.mp h5).1 b List.mem_cons_self
theorem each_reads {s : Shared} {pins : List (Addr × Obj)} {σ : L2.St} {H : Hp} (I : Inv X pins σ H s) : ∀ {ds : List PyData} {vs : List V} {its : List Value}, RDs X.K H ds vs → Vals vs its →
    PySem.W.EachIs (fun (u : Value) (b : PyData) => ∃ as, Reads s.heap u (id b) as) its ds ∧ PySem.W.EachIs (fun (u : Value) (b : PyData) => ∃ x, RelV x u ∧ RD X.K H b x) its ds
  | [], vs, its, h, r => by
    simp only [RDs] at h
    subst h
    cases r
    exact ⟨.nil, .nil⟩
  | d :: ds, vs, its, h, r => by
    simp only [RDs] at h
    obtain ⟨v, vr, rfl, h1, h2⟩ := h
    cases r with
    | cons r1 r2 =>
      obtain ⟨q1, q2⟩ := each_reads I h2 r2
      exact ⟨.cons (Dp.reads I d v _ h1.dp r1) q1, .cons ⟨v, r1, h1⟩ q2⟩
theorem of_each {K : PySem.W.Frag} {H : Hp} : ∀ {ds : List PyData} {out : List Value}, PySem.W.EachIs (fun (u : Value) (b : PyData) => ∃ x, RelV x u ∧ RD K H b x) out ds → ∃ vs, Vals vs out ∧ RDs K H ds vs
  | _, _, .nil => ⟨[], .nil, by simp only [RDs]⟩
  | _, _, .cons ⟨x, r, h⟩ t => by
    obtain ⟨vs, q1, q2⟩ := of_each t
    exact ⟨x :: vs, .cons r q1, by simp only [RDs]; exact ⟨x, vs, rfl, h, q2⟩⟩
theorem opF_sorted (hu : X.A.units + 66 < cLine) : CallR X (.builtin "sorted") (rF X.K Z .sorted) := by
  intro pins s σ H vs us Q I r h
  obtain ⟨mu, S, wl, w, S', hS, hw, hb, hQ⟩ := h
  obtain ⟨x, rfl, hb⟩ := bf1_some (f := bSorted) hb
  obtain ⟨v, rfl, hv⟩ := rws_one hw
  replace hb : bSorted x S = some (w, S') := hb
  unfold bSorted at hb
  split at hb
  · rename_i l e1
    split at hb
    · rename_i ds e2
      split at hb
      · rename_i ok
        cases hb
        simp only [Bool.and_eq_true, decide_eq_true_eq] at ok
        obtain ⟨ok, hz⟩ := ok
        unfold sortable at ok
        simp only [Bool.and_eq_true, Bool.or_eq_true, List.all_eq_true, decide_eq_true_eq] at ok
        obtain ⟨_, ⟨o1, o2⟩, o3⟩ := ok
        obtain ⟨a, xs, rfl, e3, e4⟩ := hS.lstOf e1 hv
        have e5 := (RWs.allD e2).mp e4
        obtain ⟨its, rv, pl, _⟩ := I.list e3
        obtain ⟨c1, c2⟩ := each_reads I e5 rv
        rw [Vals.ref1 r]
        refine PySem.W.sorted_data (enc := id) pl.isList c2 c1 (fun d hd d' hd' => ?_) ?_ (cap_le hz) (fun b hb => ?_) fun out h1 h2 => ?_
        · rw [List.map_id] at hd hd'
          exact o2 d hd d' hd'
        · rw [List.map_id]
          rcases o3 with o3 | o3
          · refine .inl fun d hd => ?_
            have := o3 d hd
            split at this
            · exact ⟨_, _, rfl⟩
            · cases this
          · refine .inr fun d hd => ?_
            have := o3 d hd
            split at this
            · exact ⟨(fun e => nomatch e), fun xs e => nomatch e⟩
            · exact ⟨(fun e => nomatch e), fun xs e => nomatch e⟩
            · cases this
        · have := o1 b hb
          show X.A.units + 2 + PyData.depth b < cLine
          omega
        · obtain ⟨ys, q1, q2⟩ := of_each h2
          rw [sortD_merge] at q2
          obtain ⟨ep, he'⟩ := PyProof.Rows.sortedAll_at s.heap its out.toArray
          have hn : H (s.heap.objs.size + 1) = none := I.hok.fresh (Nat.le_succ _)
          refine ⟨.ref _, upd H (s.heap.objs.size + 1) (.lst ys), I.laid (t' := s.toks) (fun _ _ => PyProof.Rows.sortedAll_old) (Nat.le_succ _) ⟨?_, out, ep, q1, he'⟩, rfl, hQ.new hS hn (RWs.mapD.mpr q2)⟩
          rw [q1.length, h1]
          exact cap_le hz
      · cases hb
    · cases hb
  · cases hb

/-! isinstance -/
theorem isi_rule {H : Hp} {mu : List Addr} {S : Sto} {K : PySem.W.Frag} {w : W} {v : V} {t : Ty} {b : Bool} (hS : RS K Z mu H S) (h : RW K H Z mu w v) (e : isiF w t = some b) :
    ∃ tn : String, TyX K H v (.type tn) ∧ PySem.W.kitOne K (.type tn) (.type t.name) = some b := by
  have sq : ∀ {a : Addr} {vs : List V}, SqT K H a vs → TyX K H (.ref a) (.type "tuple") := fun {a vs} q => by
    rcases q with (q | ⟨o, q⟩) | ⟨o, _, _, q, c, _⟩
    · exact .base (.tup q)
    · exact .fTuple q
    · exact .kTuple q c
  cases w with
  | d x =>
    cases x with
    | none => rw [rw_none] at h; subst h; refine ⟨_, .base .non, kit_ty ?_⟩; cases t <;> simp only [isiF] at e <;> cases e <;> decide +kernel
    | bool c => rw [rw_bool] at h; subst h; refine ⟨_, .base (.bl _), kit_ty ?_⟩; cases t <;> simp only [isiF] at e <;> cases e <;> decide +kernel
    | int c => rw [rw_int] at h; subst h; refine ⟨_, .base (.int _), kit_ty ?_⟩; cases t <;> simp only [isiF] at e <;> cases e <;> decide +kernel
    | str c => rw [rw_str] at h; subst h; refine ⟨_, .base (.str _), kit_ty ?_⟩; cases t <;> simp only [isiF] at e <;> cases e <;> decide +kernel
    | tuple c =>
      simp only [RW, RD] at h
      obtain ⟨a, vs, rfl, h1, _⟩ := h
      refine ⟨_, sq h1, kit_ty ?_⟩
      cases t <;> simp only [isiF] at e <;> cases e <;> decide +kernel
    | list c => simp only [RW, RD] at h
    | dict c => simp only [RW, RD] at h
  | tr l =>
    simp only [RW] at h
    obtain ⟨a, vs, rfl, h1, _⟩ := h
    refine ⟨_, sq h1, kit_ty ?_⟩
    cases t <;> simp only [isiF] at e <;> cases e <;> decide +kernel
  | ref n =>
    simp only [RW] at h
    obtain ⟨a, h1, rfl⟩ := h
    have hn : n < S.length := by rw [← hS.len]; exact (List.getElem?_eq_some_iff.mp h1).1
    have e0 : ∃ l, S[n]? = some (.lst l) := by
      rw [List.getElem?_eq_getElem hn]
      cases S[n] with
      | lst l => exact ⟨l, rfl⟩
    obtain ⟨l, e0⟩ := e0
    obtain ⟨a', vs, q1, q2, _⟩ := hS.ob n l e0
    rw [h1] at q1; cases q1
    refine ⟨_, .base (.lst q2), kit_ty ?_⟩
    cases t <;> simp only [isiF] at e <;> cases e <;> decide +kernel
  | lv l =>
    simp only [RW] at h
    obtain ⟨a, vs, rfl, h1, _⟩ := h
    have : TyX K H (.ref a) (.type "list") := by
      rcases h1 with h1 | ⟨o, h1⟩ | ⟨o, _, _, h1, c, _⟩
      · exact .base (.lst (hS.fz _ _ h1))
      · exact .base (.frz h1)
      · exact .kList h1 c
    refine ⟨_, this, kit_ty ?_⟩
    cases t <;> simp only [isiF] at e <;> cases e <;> decide +kernel

/-! ### subscripts -/
def rX (K : PySem.W.Frag) (Z : Frz) : R2 := fun x y H Q =>
  ∃ mu S wx wy w, RS K Z mu H S ∧ RW K H Z mu wx x ∧ RW K H Z mu wy y ∧ ixF wx wy S = some w ∧ ∀ v, RW K H Z mu w v → Q v H
theorem ixD : IxR X (rX X.K Z) := by
  intro value slice pins s σ H x y v u Q I rx ry h hs
  obtain ⟨mu, S, wx, wy, w, hS, hx, hy, hb, hQ⟩ := h
  unfold ixF at hb
  split at hb
  · rw [rw_int] at hy
    split at hb
    · split at hb
      · rename_i hz
        rw [rw_str] at hx
        obtain ⟨c, e1, e2⟩ := Option.map_eq_some_iff.mp hb
        subst e2
        exact ix_seq value slice pins s σ H x y v u Q I rx ry (.inr (.inr ⟨_, _, c, hx, hy, cap_le hz, e1, hQ _ (rw_str.mpr rfl)⟩)) hs
      · cases hb
    · split at hb
      · rename_i l e1
        obtain ⟨a, xs, e2, e3, e4⟩ := hS.seq e1 hx
        obtain ⟨v', e5, e6⟩ := e4.atI hb
        rcases e3 with e3 | e3
        · exact ix_seq value slice pins s σ H x y v u Q I rx ry (.inl ⟨a, xs, _, v', e2, hy, e3, e5, hQ _ e6⟩) hs
        · exact ix_seq value slice pins s σ H x y v u Q I rx ry (.inr (.inl ⟨a, xs, _, v', e2, hy, e3, e5, hQ _ e6⟩)) hs
      · cases hb
  · cases hb
def rSl (K : PySem.W.Frag) (Z : Frz) : V → Option Int → Option Int → Hp → VK → Prop := fun x lo hi H Q =>
  ∃ mu S wx w S', RS K Z mu H S ∧ RW K H Z mu wx x ∧ slF wx lo hi S = some (w, S') ∧ After K Z mu H w S' Q
theorem slD : SlR X (rSl X.K Z) := by
  intro pins s σ H x v vl vu lo hi sl Q I rx hs p1 p2 h
  obtain ⟨mu, S, wx, w, S', hS, hx, hb, hQ⟩ := h
  unfold slF at hb
  split at hb
  · split at hb
    · rename_i hz
      cases hb
      rw [rw_str] at hx
      exact sl_str pins s σ H x v vl vu lo hi sl Q I rx hs p1 p2 ⟨_, hx, cap_le hz, hQ.here hS (rw_str.mpr rfl)⟩
    · cases hb
  · split at hb
    · rename_i l e1
      cases hb
      obtain ⟨a, xs, e2, e3, e4⟩ := RW.tupOf e1 hx
      refine sl_tupA pins s σ H x v vl vu lo hi sl Q I rx hs p1 p2 ⟨a, xs, e2, e3, fun e5 => ?_, fun _ p hp => hQ.tup hS hp (e4.cut lo hi)⟩
      have e6 : cutG l lo hi = l := by
        unfold cutG
        rw [e4.length, e5.1, e5.2, List.drop_zero, Nat.sub_zero, ← e4.length, List.take_length]
      rw [e6] at hQ
      exact hQ.here hS (RW.mkT e4 e3)
    · split at hb
      · rename_i l e1
        cases hb
        obtain ⟨a, xs, e2, e3, e4⟩ := hS.lstOf e1 hx
        exact sl_list pins s σ H x v vl vu lo hi sl Q I rx hs p1 p2 ⟨a, xs, e2, e3, fun p hp => hQ.new hS hp (e4.cut lo hi)⟩
      · cases hb

/-! ### methods of lists -/
def rMt (K : PySem.W.Frag) (Z : Frz) (p : List Nat) (m : Mt) : V → List V → Hp → VK → Prop := fun x xs H Q =>
  ∃ mu S wx wl w S', RS K Z mu H S ∧ RW K H Z mu wx x ∧ RWs K H Z mu wl xs ∧ mtF p m wx wl S = some (w, S') ∧ After K Z mu H w S' Q
theorem opM_append {p : List Nat} : MtM X "list.append" (rMt X.K Z p .append) := by
  intro pins s σ H x xs v us Q I rx rv h
  obtain ⟨mu, S, wx, wl, w, S', hS, hx, hl, hb, hQ⟩ := h
  replace hb : mAppend p wx wl S = some (w, S') := hb
  unfold mAppend at hb
  split at hb
  · rename_i n y
    split at hb
    · cases hb
    · split at hb
      · rename_i l e1
        split at hb
        · rename_i hz
          cases hb
          obtain ⟨yv, rfl, hy⟩ := rws_one hl
          simp only [RW] at hx
          obtain ⟨a, h1, rfl⟩ := hx
          obtain ⟨b, vs, q1, q2, q3⟩ := hS.getL e1
          rw [h1] at q1; cases q1
          refine mt_append pins s σ H _ _ v us Q I rx rv ⟨a, vs, yv, rfl, rfl, q2, cap_lt (by rw [← q3.length]; exact hz), ?_⟩
          exact hQ _ _ _ (List.prefix_refl _) (Ext.set q2) (hS.set (getL_some e1) h1 q2 (q3.append (RWs.cons hy (RWs.nil_iff.mpr rfl)))) (rw_none.mpr rfl)
        · cases hb
      · cases hb
  · cases hb
theorem opM_extend {p : List Nat} : MtM X "list.extend" (rMt X.K Z p .extend) := by
  intro pins s σ H x xs v us Q I rx rv h
  obtain ⟨mu, S, wx, wl, w, S', hS, hx, hl, hb, hQ⟩ := h
  replace hb : mExtend p wx wl S = some (w, S') := hb
  unfold mExtend at hb
  split at hb
  · rename_i n m
    split at hb
    · cases hb
    · split at hb
      · rename_i l e1
        split at hb
        · rename_i k e2
          split at hb
          · rename_i hz
            cases hb
            obtain ⟨yv, rfl, hy⟩ := rws_one hl
            simp only [RW] at hx hy
            obtain ⟨a, h1, rfl⟩ := hx
            obtain ⟨a2, h2, rfl⟩ := hy
            obtain ⟨b, vs, q1, q2, q3⟩ := hS.getL e1
            obtain ⟨b2, vs2, t1, t2, t3⟩ := hS.getL e2
            rw [h1] at q1; cases q1
            rw [h2] at t1; cases t1
            refine mt_extend pins s σ H _ _ v us Q I rx rv ⟨a, a2, vs, vs2, rfl, rfl, q2, t2, cap_le (by rw [← q3.length, ← t3.length]; exact hz), ?_⟩
            exact hQ _ _ _ (List.prefix_refl _) (Ext.set q2) (hS.set (getL_some e1) h1 q2 (q3.append t3)) (rw_none.mpr rfl)
          · cases hb
        · cases hb
      · cases hb
  · cases hb
theorem opM_pop {p : List Nat} : MtM X "list.pop" (rMt X.K Z p .pop) := by
  intro pins s σ H x xs v us Q I rx rv h
  obtain ⟨mu, S, wx, wl, w, S', hS, hx, hl, hb, hQ⟩ := h
  replace hb : mPop p wx wl S = some (w, S') := hb
  unfold mPop at hb
  split at hb
  · rename_i n
    split at hb
    · cases hb
    · split at hb
      · rename_i l e1
        split at hb
        · rename_i y e2
          cases hb
          have e0 := RWs.nil_iff.mp hl
          subst e0
          simp only [RW] at hx
          obtain ⟨a, h1, rfl⟩ := hx
          obtain ⟨b, vs, q1, q2, q3⟩ := hS.getL e1
          rw [h1] at q1; cases q1
          obtain ⟨yv, e3, e4⟩ := q3.get e2
          refine mt_pop pins s σ H _ _ v us Q I rx rv ⟨a, vs, yv, rfl, rfl, q2, by rw [← q3.length]; exact e3, ?_⟩
          exact hQ _ _ _ (List.prefix_refl _) (Ext.set q2) (hS.set (getL_some e1) h1 q2 q3.dropLast) (e4.mono (Ext.set q2) (List.prefix_refl _))
        · cases hb
      · cases hb
  · cases hb

/-! ### o[i] = v -/
def rSet (K : PySem.W.Frag) (Z : Frz) (p : List Nat) : TSet := fun o i v H Q =>
  ∃ mu S wo wi wv S', RS K Z mu H S ∧ RW K H Z mu wo o ∧ RW K H Z mu wi i ∧ RW K H Z mu wv v ∧ setIxF p wo wi wv S = some S' ∧ ∀ H' mu', mu <+: mu' → Ext H H' → RS K Z mu' H' S' → Q H'
theorem setD {p : List Nat} : PSet X (rSet X.K Z p) := by
  intro pins s σ H o i v ov iv u Q I ro ri rv h
  obtain ⟨mu, S, wo, wi, wv, S', hS, ho, hi, hv, hb, hQ⟩ := h
  unfold setIxF at hb
  split at hb
  · split at hb
    · cases hb
    · split at hb
      · rename_i l e1
        split at hb
        · rename_i j e2
          cases hb
          rw [rw_int] at hi
          simp only [RW] at ho
          obtain ⟨a, h1, rfl⟩ := ho
          obtain ⟨b, vs, q1, q2, q3⟩ := hS.getL e1
          rw [h1] at q1; cases q1
          refine set_list pins s σ H _ i v ov iv u Q I ro ri rv ⟨a, vs, _, j, rfl, hi, q2, by rw [← q3.length]; exact e2, ?_⟩
          exact hQ _ _ (List.prefix_refl _) (Ext.set q2) (hS.set (getL_some e1) h1 q2 (q3.set j hv))
        · cases hb
      · cases hb
  · cases hb
end
end DV
/-! DVFrame: the lists that are kept (p) stay as they are. -/
namespace DV
open PySem L2

structure Keep (p : List Nat) (b : Nat) (S S' : Sto) : Prop where
  len : S.length ≤ S'.length
  at' : ∀ j ∈ p, j < b → S'[j]? = S[j]?
theorem Keep.refl (p : List Nat) (b : Nat) (S : Sto) : Keep p b S S := ⟨Nat.le_refl _, fun _ _ _ => rfl⟩
theorem Keep.trans {p : List Nat} {b : Nat} {S S1 S2 : Sto} (h : Keep p b S S1) (g : Keep p b S1 S2) : Keep p b S S2 := ⟨Nat.le_trans h.len g.len, fun j hj hb => (g.at' j hj hb).trans (h.at' j hj hb)⟩
theorem Keep.sub {p p' : List Nat} {b b' : Nat} {S S' : Sto} (h : Keep p b S S') (hp : ∀ j ∈ p', j ∈ p) (hb : b' ≤ b) : Keep p' b' S S' := ⟨h.len, fun j hj hb' => h.at' j (hp j hj) (Nat.lt_of_lt_of_le hb' hb)⟩
theorem Keep.push {p : List Nat} {b : Nat} {S : Sto} {o : O} (hb : b ≤ S.length) : Keep p b S (S ++ [o]) :=
  ⟨by rw [List.length_append]; omega, fun j _ h => List.getElem?_append_left (by omega)⟩
theorem Keep.set {p : List Nat} {b : Nat} {S : Sto} {n : Nat} {o : O} (h : n ∉ p ∨ b ≤ n) : Keep p b S (S.set n o) :=
  ⟨by rw [List.length_set]; exact Nat.le_refl _, fun j hj hb => List.getElem?_set_ne (by rintro rfl; rcases h with h | h; exact h hj; omega)⟩
theorem not_mem_of {p : List Nat} {n : Nat} (h : ¬ p.contains n = true) : n ∉ p := fun hm => h (List.contains_iff_mem.mpr hm)

section
variable {p : List Nat} {b : Nat} {S S' : Sto} {w : W}
theorem newL_keep {l : List W} (hb : b ≤ S.length) : Keep p b S (newL l S).2 := Keep.push hb
theorem binF_keep {o : Bin} {x y : W} (h : binF o x y S = some (w, S')) (hb : b ≤ S.length) : Keep p b S S' := by
  cases o <;> simp only [binF] at h <;> (repeat' split at h) <;> first | (cases h; exact Keep.refl _ _ _) | (cases h; exact newL_keep hb) | cases h
theorem bfF_keep {f : Bf} {l : List W} (h : bfF f l S = some (w, S')) (hb : b ≤ S.length) : Keep p b S S' := by
  cases f
  case len =>
    obtain ⟨x, rfl, h⟩ := bf1_some (f := bLen) h
    replace h : bLen x S = some (w, S') := h
    unfold bLen at h
    (repeat' split at h) <;> first | (cases h; exact Keep.refl _ _ _) | (cases h; exact newL_keep hb) | cases h
  case all =>
    obtain ⟨x, rfl, h⟩ := bf1_some (f := bAll) h
    replace h : bAll x S = some (w, S') := h
    unfold bAll at h
    (repeat' split at h) <;> first | (cases h; exact Keep.refl _ _ _) | (cases h; exact newL_keep hb) | cases h
  case any =>
    obtain ⟨x, rfl, h⟩ := bf1_some (f := bAny) h
    replace h : bAny x S = some (w, S') := h
    unfold bAny at h
    (repeat' split at h) <;> first | (cases h; exact Keep.refl _ _ _) | (cases h; exact newL_keep hb) | cases h
  case tuple =>
    obtain ⟨x, rfl, h⟩ := bf1_some (f := bTuple) h
    replace h : bTuple x S = some (w, S') := h
    unfold bTuple at h
    (repeat' split at h) <;> first | (cases h; exact Keep.refl _ _ _) | (cases h; exact newL_keep hb) | cases h
  case list =>
    obtain ⟨x, rfl, h⟩ := bf1_some (f := bList) h
    replace h : bList x S = some (w, S') := h
    unfold bList at h
    (repeat' split at h) <;> first | (cases h; exact Keep.refl _ _ _) | (cases h; exact newL_keep hb) | cases h
  case int =>
    obtain ⟨x, rfl, h⟩ := bf1_some (f := bInt) h
    replace h : bInt x S = some (w, S') := h
    unfold bInt at h
    (repeat' split at h) <;> first | (cases h; exact Keep.refl _ _ _) | (cases h; exact newL_keep hb) | cases h
  case sorted =>
    obtain ⟨x, rfl, h⟩ := bf1_some (f := bSorted) h
    replace h : bSorted x S = some (w, S') := h
    unfold bSorted at h
    (repeat' split at h) <;> first | (cases h; exact Keep.refl _ _ _) | (cases h; exact newL_keep hb) | cases h
  case max =>
    obtain ⟨x, y, rfl, h⟩ := bf2_some (f := bMax) h
    replace h : bMax x y S = some (w, S') := h
    unfold bMax at h
    (repeat' split at h) <;> first | (cases h; exact Keep.refl _ _ _) | (cases h; exact newL_keep hb) | cases h
  case min =>
    obtain ⟨x, y, rfl, h⟩ := bf2_some (f := bMin) h
    replace h : bMin x y S = some (w, S') := h
    unfold bMin at h
    (repeat' split at h) <;> first | (cases h; exact Keep.refl _ _ _) | (cases h; exact newL_keep hb) | cases h
theorem slF_keep {x : W} {lo hi : Option Int} (h : slF x lo hi S = some (w, S')) (hb : b ≤ S.length) : Keep p b S S' := by
  unfold slF at h
  (repeat' split at h) <;> first | (cases h; exact Keep.refl _ _ _) | (cases h; exact newL_keep hb) | cases h
theorem mtF_keep {m : Mt} {x : W} {l : List W} (h : mtF p m x l S = some (w, S')) : Keep p b S S' := by
  cases m
  case append =>
    replace h : mAppend p x l S = some (w, S') := h
    unfold mAppend at h
    (repeat' split at h) <;> first | (cases h; exact Keep.set (.inl (not_mem_of (by assumption)))) | cases h
  case extend =>
    replace h : mExtend p x l S = some (w, S') := h
    unfold mExtend at h
    (repeat' split at h) <;> first | (cases h; exact Keep.set (.inl (not_mem_of (by assumption)))) | cases h
  case pop =>
    replace h : mPop p x l S = some (w, S') := h
    unfold mPop at h
    (repeat' split at h) <;> first | (cases h; exact Keep.set (.inl (not_mem_of (by assumption)))) | cases h
theorem setIxF_keep {o i x : W} (h : setIxF p o i x S = some S') : Keep p b S S' := by
  unfold setIxF at h
  (repeat' split at h) <;> first | (cases h; exact Keep.set (.inl (not_mem_of (by assumption)))) | cases h

theorem forL_keep {f : W → Loc → Sto → Option (Fl × Loc × Sto)} (hf : ∀ x ws S q, b ≤ S.length → f x ws S = some q → Keep p b S q.2.2) :
    ∀ (l : List W) (ws : Loc) (S : Sto) (q : Fl × Loc × Sto), b ≤ S.length → forL f l ws S = some q → Keep p b S q.2.2
  | [], ws, S, q, _, h => by simp only [forL] at h; cases h; exact Keep.refl _ _ _
  | x :: r, ws, S, q, hb, h => by
    simp only [forL] at h
    obtain ⟨⟨fl, ws1, S1⟩, h1, h2⟩ := Option.bind_eq_some_iff.mp h
    have k1 := hf x ws S _ hb h1
    cases fl with
    | next => exact k1.trans (forL_keep hf r ws1 S1 q (Nat.le_trans hb k1.len) h2)
    | cont => exact k1.trans (forL_keep hf r ws1 S1 q (Nat.le_trans hb k1.len) h2)
    | brk => cases h2; exact k1
    | ret w => cases h2; exact k1
theorem whlL_keep {c : Loc → Sto → Option (Bool × Sto)} {f : Loc → Sto → Option (Fl × Loc × Sto)} (hc : ∀ ws S q, b ≤ S.length → c ws S = some q → Keep p b S q.2) (hf : ∀ ws S q, b ≤ S.length → f ws S = some q → Keep p b S q.2.2) :
    ∀ (n : Nat) (ws : Loc) (S : Sto) (q : Fl × Loc × Sto), b ≤ S.length → whlL c f n ws S = some q → Keep p b S q.2.2
  | 0, ws, S, q, _, h => by simp only [whlL] at h; cases h
  | n + 1, ws, S, q, hb, h => by
    simp only [whlL] at h
    obtain ⟨⟨t, S0⟩, h1, h2⟩ := Option.bind_eq_some_iff.mp h
    have k0 := hc ws S _ hb h1
    cases t with
    | false => cases h2; exact k0
    | true =>
      obtain ⟨⟨fl, ws1, S1⟩, h3, h4⟩ := Option.bind_eq_some_iff.mp h2
      have k1 := k0.trans (hf ws S0 _ (Nat.le_trans hb k0.len) h3)
      cases fl with
      | next => exact k1.trans (whlL_keep hc hf n ws1 S1 q (Nat.le_trans hb k1.len) h4)
      | cont => exact k1.trans (whlL_keep hc hf n ws1 S1 q (Nat.le_trans hb k1.len) h4)
      | brk => cases h4; exact k1
      | ret w => cases h4; exact k1
theorem addL_keep {k : Nat} {o : Option W} (h : addL k o S = some S') (hk : b ≤ k) : Keep p b S S' := by
  unfold addL at h
  (repeat' split at h) <;> first | (cases h; exact Keep.refl _ _ _) | (cases h; exact Keep.set (.inr hk)) | cases h
theorem compL_keep {f : W → Sto → Option (Option W × Sto)} {k : Nat} (hk : b ≤ k) (hf : ∀ x S q, b ≤ S.length → f x S = some q → Keep p b S q.2) :
    ∀ (l : List W) (S S' : Sto), b ≤ S.length → compL f k l S = some S' → Keep p b S S'
  | [], S, S', _, h => by simp only [compL] at h; cases h; exact Keep.refl _ _ _
  | x :: r, S, S', hb, h => by
    simp only [compL] at h
    obtain ⟨⟨o, S1⟩, h1, h2⟩ := Option.bind_eq_some_iff.mp h
    obtain ⟨S2, h3, h4⟩ := Option.bind_eq_some_iff.mp h2
    have k1 := (hf x S _ hb h1).trans (addL_keep h3 hk)
    exact k1.trans (compL_keep hk hf r S2 S' (Nat.le_trans hb k1.len) h4)
theorem compO_keep {f : W → Sto → Option Sto} (hf : ∀ x S S', b ≤ S.length → f x S = some S' → Keep p b S S') :
    ∀ (l : List W) (S S' : Sto), b ≤ S.length → compO f l S = some S' → Keep p b S S'
  | [], S, S', _, h => by simp only [compO] at h; cases h; exact Keep.refl _ _ _
  | x :: r, S, S', hb, h => by
    simp only [compO] at h
    obtain ⟨S1, h1, h2⟩ := Option.bind_eq_some_iff.mp h
    have k1 := hf x S _ hb h1
    exact k1.trans (compO_keep hf r S1 S' (Nat.le_trans hb k1.len) h2)
end

def ClKeep (cl : CallT) : Prop := ∀ f args p S w S' b, b ≤ S.length → cl f args p S = some (w, S') → Keep p b S S'
theorem sub_app {q p : List Nat} : ∀ j ∈ p, j ∈ q ++ p := fun _ h => List.mem_append_right _ h
theorem le_t {b : Nat} {p : List Nat} {S S' : Sto} (hb : b ≤ S.length) (k : Keep p b S S') : b ≤ S'.length := Nat.le_trans hb k.len

mutual
theorem ev_keep {cl : CallT} (hcl : ClKeep cl) : ∀ (e : Ex) (p : List Nat) (ws : Loc) (S : Sto) (w : W) (S' : Sto) (b : Nat), b ≤ S.length → ev cl p e ws S = some (w, S') → Keep p b S S'
  | .v i, p, ws, S, w, S', b, hb, h => by
    simp only [ev] at h
    split at h <;> cases h
    exact Keep.refl _ _ _
  | .c k, p, ws, S, w, S', b, hb, h => by simp only [ev] at h; cases h; exact Keep.refl _ _ _
  | .g _ k, p, ws, S, w, S', b, hb, h => by simp only [ev] at h; cases h; exact Keep.refl _ _ _
  | .bin o x y, p, ws, S, w, S', b, hb, h => by
    simp only [ev] at h
    obtain ⟨⟨w1, S1⟩, h1, h2⟩ := Option.bind_eq_some_iff.mp h
    obtain ⟨⟨w2, S2⟩, h3, h4⟩ := Option.bind_eq_some_iff.mp h2
    have k1 := ev_keep hcl x p ws S w1 S1 b hb h1
    have k2 := k1.trans (ev_keep hcl y p ws S1 w2 S2 b (le_t hb k1) h3)
    exact k2.trans (binF_keep h4 (le_t hb k2))
  | .neg x, p, ws, S, w, S', b, hb, h => by
    simp only [ev] at h
    obtain ⟨⟨w1, S1⟩, h1, h2⟩ := Option.bind_eq_some_iff.mp h
    have k1 := ev_keep hcl x p ws S w1 S1 b hb h1
    split at h2 <;> cases h2
    exact k1
  | .cmp o x y, p, ws, S, w, S', b, hb, h => by
    simp only [ev] at h
    obtain ⟨⟨w1, S1⟩, h1, h2⟩ := Option.bind_eq_some_iff.mp h
    obtain ⟨⟨w2, S2⟩, h3, h4⟩ := Option.bind_eq_some_iff.mp h2
    have k1 := ev_keep hcl x p ws S w1 S1 b hb h1
    have k2 := k1.trans (ev_keep hcl y p ws S1 w2 S2 b (le_t hb k1) h3)
    split at h4 <;> cases h4
    exact k2
  | .and x y, p, ws, S, w, S', b, hb, h => by
    simp only [ev] at h
    obtain ⟨⟨w1, S1⟩, h1, h2⟩ := Option.bind_eq_some_iff.mp h
    have k1 := ev_keep hcl x p ws S w1 S1 b hb h1
    split at h2
    · exact k1.trans (ev_keep hcl y p ws S1 w S' b (le_t hb k1) h2)
    · cases h2; exact k1
    · cases h2
  | .or x y, p, ws, S, w, S', b, hb, h => by
    simp only [ev] at h
    obtain ⟨⟨w1, S1⟩, h1, h2⟩ := Option.bind_eq_some_iff.mp h
    have k1 := ev_keep hcl x p ws S w1 S1 b hb h1
    split at h2
    · cases h2; exact k1
    · exact k1.trans (ev_keep hcl y p ws S1 w S' b (le_t hb k1) h2)
    · cases h2
  | .not x, p, ws, S, w, S', b, hb, h => by
    simp only [ev] at h
    obtain ⟨⟨w1, S1⟩, h1, h2⟩ := Option.bind_eq_some_iff.mp h
    have k1 := ev_keep hcl x p ws S w1 S1 b hb h1
    split at h2 <;> cases h2
    exact k1
  | .ite t x y, p, ws, S, w, S', b, hb, h => by
    simp only [ev] at h
    obtain ⟨⟨w1, S1⟩, h1, h2⟩ := Option.bind_eq_some_iff.mp h
    have k1 := ev_keep hcl t p ws S w1 S1 b hb h1
    split at h2
    · exact k1.trans (ev_keep hcl x p ws S1 w S' b (le_t hb k1) h2)
    · exact k1.trans (ev_keep hcl y p ws S1 w S' b (le_t hb k1) h2)
    · cases h2
  | .tup l, p, ws, S, w, S', b, hb, h => by
    simp only [ev] at h
    obtain ⟨⟨w1, S1⟩, h1, h2⟩ := Option.bind_eq_some_iff.mp h
    have k1 := evs_keep hcl l p ws S w1 S1 b hb h1
    split at h2 <;> cases h2
    exact k1
  | .lst l, p, ws, S, w, S', b, hb, h => by
    simp only [ev] at h
    obtain ⟨⟨w1, S1⟩, h1, h2⟩ := Option.bind_eq_some_iff.mp h
    have k1 := evs_keep hcl l p ws S w1 S1 b hb h1
    split at h2 <;> cases h2
    exact k1.trans (newL_keep (le_t hb k1))
  | .fn f l, p, ws, S, w, S', b, hb, h => by
    simp only [ev] at h
    obtain ⟨⟨w1, S1⟩, h1, h2⟩ := Option.bind_eq_some_iff.mp h
    have k1 := evs_keep hcl l p ws S w1 S1 b hb h1
    exact k1.trans (hcl _ _ _ _ _ _ b (le_t hb k1) h2)
  | .bf f l, p, ws, S, w, S', b, hb, h => by
    simp only [ev] at h
    obtain ⟨⟨w1, S1⟩, h1, h2⟩ := Option.bind_eq_some_iff.mp h
    have k1 := evs_keep hcl l p ws S w1 S1 b hb h1
    exact k1.trans (bfF_keep h2 (le_t hb k1))
  | .isi x t, p, ws, S, w, S', b, hb, h => by
    simp only [ev] at h
    obtain ⟨⟨w1, S1⟩, h1, h2⟩ := Option.bind_eq_some_iff.mp h
    have k1 := ev_keep hcl x p ws S w1 S1 b hb h1
    split at h2 <;> cases h2
    exact k1
  | .ix x y, p, ws, S, w, S', b, hb, h => by
    simp only [ev] at h
    obtain ⟨⟨w1, S1⟩, h1, h2⟩ := Option.bind_eq_some_iff.mp h
    obtain ⟨⟨w2, S2⟩, h3, h4⟩ := Option.bind_eq_some_iff.mp h2
    have k1 := ev_keep hcl x p ws S w1 S1 b hb h1
    have k2 := k1.trans (ev_keep hcl y p ws S1 w2 S2 b (le_t hb k1) h3)
    split at h4 <;> cases h4
    exact k2
  | .sl x lo hi, p, ws, S, w, S', b, hb, h => by
    simp only [ev] at h
    obtain ⟨⟨w1, S1⟩, h1, h2⟩ := Option.bind_eq_some_iff.mp h
    obtain ⟨⟨w2, S2⟩, h3, h4⟩ := Option.bind_eq_some_iff.mp h2
    obtain ⟨⟨w3, S3⟩, h5, h6⟩ := Option.bind_eq_some_iff.mp h4
    have k1 := ev_keep hcl x p ws S w1 S1 b hb h1
    have k2 := k1.trans (evo_keep hcl lo p ws S1 w2 S2 b (le_t hb k1) h3)
    have k3 := k2.trans (evo_keep hcl hi p ws S2 w3 S3 b (le_t hb k2) h5)
    exact k3.trans (slF_keep h6 (le_t hb k3))
  | .rev x, p, ws, S, w, S', b, hb, h => by
    simp only [ev] at h
    obtain ⟨⟨w1, S1⟩, h1, h2⟩ := Option.bind_eq_some_iff.mp h
    have k1 := ev_keep hcl x p ws S w1 S1 b hb h1
    split at h2 <;> cases h2
    exact k1.trans (newL_keep (le_t hb k1))
  | .mt m x l, p, ws, S, w, S', b, hb, h => by
    simp only [ev] at h
    obtain ⟨⟨w1, S1⟩, h1, h2⟩ := Option.bind_eq_some_iff.mp h
    obtain ⟨⟨w2, S2⟩, h3, h4⟩ := Option.bind_eq_some_iff.mp h2
    have k1 := ev_keep hcl x p ws S w1 S1 b hb h1
    have k2 := k1.trans (evs_keep hcl l p ws S1 w2 S2 b (le_t hb k1) h3)
    exact k2.trans (mtF_keep h4)
  | .lc it g own t e, p, ws, S, w, S', b, hb, h => by
    simp only [ev] at h
    obtain ⟨⟨items, q, S1⟩, h1, h2⟩ := Option.bind_eq_some_iff.mp h
    obtain ⟨S2, h3, h4⟩ := Option.bind_eq_some_iff.mp h2
    have k1 := evi_keep hcl it p ws S items q S1 b hb h1
    have k2 := k1.trans (Keep.push (p := p) (o := .lst []) (le_t hb k1))
    cases h4
    refine k2.trans (compL_keep (le_t hb k1) (fun x S q' hb' hf => ?_) items _ _ (le_t hb k2) h3)
    obtain ⟨ws', f1, f2⟩ := Option.bind_eq_some_iff.mp hf
    obtain ⟨⟨wb, Sb⟩, f3, f4⟩ := Option.bind_eq_some_iff.mp f2
    have c1 := ev_keep hcl t _ ws' S wb Sb b hb' f3
    split at f4
    · obtain ⟨⟨we, Se⟩, f5, f6⟩ := Option.bind_eq_some_iff.mp f4
      cases f6
      exact (c1.trans (ev_keep hcl e _ ws' Sb we Se b (le_t hb' c1) f5)).sub sub_app (Nat.le_refl _)
    · cases f4
      exact c1.sub sub_app (Nat.le_refl _)
    · cases f4
  | .lc2 it g t it1 g1 own own1 t1 e, p, ws, S, w, S', b, hb, h => by
    simp only [ev] at h
    obtain ⟨⟨items, q, S1⟩, h1, h2⟩ := Option.bind_eq_some_iff.mp h
    obtain ⟨S2, h3, h4⟩ := Option.bind_eq_some_iff.mp h2
    have k1 := evi_keep hcl it p ws S items q S1 b hb h1
    have k2 := k1.trans (Keep.push (p := p) (o := .lst []) (le_t hb k1))
    cases h4
    refine k2.trans (compO_keep (fun x S S' hb' hf => ?_) items _ _ (le_t hb k2) h3)
    obtain ⟨ws', f1, f2⟩ := Option.bind_eq_some_iff.mp hf
    obtain ⟨⟨wb, Sb⟩, f3, f4⟩ := Option.bind_eq_some_iff.mp f2
    have c1 := ev_keep hcl t _ ws' S wb Sb b hb' f3
    split at f4
    · obtain ⟨⟨items1, q1, Sj⟩, f5, f6⟩ := Option.bind_eq_some_iff.mp f4
      have c2 := c1.trans (evi_keep hcl it1 _ ws' Sb items1 q1 Sj b (le_t hb' c1) f5)
      dsimp only at f6
      split at f6
      · cases f6
      refine (c2.sub (p' := p) sub_app (Nat.le_refl _)).trans (compL_keep (le_t hb k1) (fun y S3 q' hb3 hg => ?_) items1 _ _ (le_t hb' c2) f6)
      obtain ⟨ws2, g1, g2⟩ := Option.bind_eq_some_iff.mp hg
      obtain ⟨⟨wt, St⟩, g3, g4⟩ := Option.bind_eq_some_iff.mp g2
      have d1 := ev_keep hcl t1 _ ws2 S3 wt St b hb3 g3
      split at g4
      · obtain ⟨⟨we, Se⟩, g5, g6⟩ := Option.bind_eq_some_iff.mp g4
        cases g6
        exact (d1.trans (ev_keep hcl e _ ws2 St we Se b (le_t hb3 d1) g5)).sub (fun j hj => sub_app j (sub_app j hj)) (Nat.le_refl _)
      · cases g4
        exact d1.sub (fun j hj => sub_app j (sub_app j hj)) (Nat.le_refl _)
      · cases g4
    · cases f4
      exact c1.sub sub_app (Nat.le_refl _)
    · cases f4
theorem evs_keep {cl : CallT} (hcl : ClKeep cl) : ∀ (l : Es) (p : List Nat) (ws : Loc) (S : Sto) (w : List W) (S' : Sto) (b : Nat), b ≤ S.length → evs cl p l ws S = some (w, S') → Keep p b S S'
  | .nil, p, ws, S, w, S', b, hb, h => by simp only [evs] at h; cases h; exact Keep.refl _ _ _
  | .cons x l, p, ws, S, w, S', b, hb, h => by
    simp only [evs] at h
    obtain ⟨⟨w1, S1⟩, h1, h2⟩ := Option.bind_eq_some_iff.mp h
    obtain ⟨⟨w2, S2⟩, h3, h4⟩ := Option.bind_eq_some_iff.mp h2
    have k1 := ev_keep hcl x p ws S w1 S1 b hb h1
    cases h4
    exact k1.trans (evs_keep hcl l p ws S1 w2 S2 b (le_t hb k1) h3)
theorem evo_keep {cl : CallT} (hcl : ClKeep cl) : ∀ (l : Eo) (p : List Nat) (ws : Loc) (S : Sto) (w : Option Int) (S' : Sto) (b : Nat), b ≤ S.length → evo cl p l ws S = some (w, S') → Keep p b S S'
  | .no, p, ws, S, w, S', b, hb, h => by simp only [evo] at h; cases h; exact Keep.refl _ _ _
  | .so x, p, ws, S, w, S', b, hb, h => by
    simp only [evo] at h
    obtain ⟨⟨w1, S1⟩, h1, h2⟩ := Option.bind_eq_some_iff.mp h
    have k1 := ev_keep hcl x p ws S w1 S1 b hb h1
    split at h2 <;> cases h2
    exact k1
theorem evi_keep {cl : CallT} (hcl : ClKeep cl) : ∀ (it : It) (p : List Nat) (ws : Loc) (S : Sto) (l : List W) (q : List Nat) (S' : Sto) (b : Nat), b ≤ S.length → evi cl p it ws S = some (l, q, S') → Keep p b S S'
  | .seq x, p, ws, S, l, q, S', b, hb, h => by
    simp only [evi] at h
    obtain ⟨⟨w1, S1⟩, h1, h2⟩ := Option.bind_eq_some_iff.mp h
    have k1 := ev_keep hcl x p ws S w1 S1 b hb h1
    (repeat' split at h2) <;> first | (cases h2; exact k1) | cases h2
  | .rng1 x, p, ws, S, l, q, S', b, hb, h => by
    simp only [evi] at h
    obtain ⟨⟨w1, S1⟩, h1, h2⟩ := Option.bind_eq_some_iff.mp h
    have k1 := ev_keep hcl x p ws S w1 S1 b hb h1
    (repeat' split at h2) <;> first | (cases h2; exact k1) | cases h2
  | .rng3 x y z, p, ws, S, l, q, S', b, hb, h => by
    simp only [evi] at h
    obtain ⟨⟨w1, S1⟩, h1, h2⟩ := Option.bind_eq_some_iff.mp h
    obtain ⟨⟨w2, S2⟩, h3, h4⟩ := Option.bind_eq_some_iff.mp h2
    obtain ⟨⟨w3, S3⟩, h5, h6⟩ := Option.bind_eq_some_iff.mp h4
    have k1 := ev_keep hcl x p ws S w1 S1 b hb h1
    have k2 := k1.trans (ev_keep hcl y p ws S1 w2 S2 b (le_t hb k1) h3)
    have k3 := k2.trans (ev_keep hcl z p ws S2 w3 S3 b (le_t hb k2) h5)
    (repeat' split at h6) <;> first | (cases h6; exact k3) | cases h6
  | .zip x y, p, ws, S, l, q, S', b, hb, h => by
    simp only [evi] at h
    obtain ⟨⟨w1, S1⟩, h1, h2⟩ := Option.bind_eq_some_iff.mp h
    obtain ⟨⟨w2, S2⟩, h3, h4⟩ := Option.bind_eq_some_iff.mp h2
    have k1 := ev_keep hcl x p ws S w1 S1 b hb h1
    have k2 := k1.trans (ev_keep hcl y p ws S1 w2 S2 b (le_t hb k1) h3)
    (repeat' split at h4) <;> first | (cases h4; exact k2) | cases h4
end
theorem evT_keep {cl : CallT} (hcl : ClKeep cl) {e : Ex} {p : List Nat} {ws : Loc} {S : Sto} {q : Bool × Sto} {b : Nat} (hb : b ≤ S.length) (h : evT cl p e ws S = some q) : Keep p b S q.2 := by
  unfold evT at h
  obtain ⟨⟨w1, S1⟩, h1, h2⟩ := Option.bind_eq_some_iff.mp h
  have k1 := ev_keep hcl e p ws S w1 S1 b hb h1
  split at h2 <;> cases h2
  exact k1
mutual
theorem exS_keep {cl : CallT} (hcl : ClKeep cl) {L : Nat} : ∀ (s : Sm) (p : List Nat) (ws : Loc) (S : Sto) (q : Fl × Loc × Sto) (b : Nat), b ≤ S.length → exS cl L p s ws S = some q → Keep p b S q.2.2
  | .expr e, p, ws, S, q, b, hb, h => by
    simp only [exS] at h
    obtain ⟨⟨w1, S1⟩, h1, h2⟩ := Option.bind_eq_some_iff.mp h
    cases h2
    exact ev_keep hcl e p ws S w1 S1 b hb h1
  | .asg g e, p, ws, S, q, b, hb, h => by
    simp only [exS] at h
    obtain ⟨⟨w1, S1⟩, h1, h2⟩ := Option.bind_eq_some_iff.mp h
    obtain ⟨ws', h3, h4⟩ := Option.bind_eq_some_iff.mp h2
    cases h4
    exact ev_keep hcl e p ws S w1 S1 b hb h1
  | .asgIx o i e, p, ws, S, q, b, hb, h => by
    simp only [exS] at h
    obtain ⟨⟨w1, S1⟩, h1, h2⟩ := Option.bind_eq_some_iff.mp h
    obtain ⟨⟨w2, S2⟩, h3, h4⟩ := Option.bind_eq_some_iff.mp h2
    obtain ⟨⟨w3, S3⟩, h5, h6⟩ := Option.bind_eq_some_iff.mp h4
    obtain ⟨S4, h7, h8⟩ := Option.bind_eq_some_iff.mp h6
    have k1 := ev_keep hcl e p ws S w1 S1 b hb h1
    have k2 := k1.trans (ev_keep hcl o p ws S1 w2 S2 b (le_t hb k1) h3)
    have k3 := k2.trans (ev_keep hcl i p ws S2 w3 S3 b (le_t hb k2) h5)
    cases h8
    exact k3.trans (setIxF_keep h7)
  | .aug i o e, p, ws, S, q, b, hb, h => by
    simp only [exS] at h
    split at h
    · obtain ⟨⟨w1, S1⟩, h1, h2⟩ := Option.bind_eq_some_iff.mp h
      have k1 := ev_keep hcl e p ws S w1 S1 b hb h1
      split at h2
      · obtain ⟨ws', h3, h4⟩ := Option.bind_eq_some_iff.mp h2
        cases h4; exact k1
      · obtain ⟨ws', h3, h4⟩ := Option.bind_eq_some_iff.mp h2
        cases h4; exact k1
      · cases h2
    · cases h
  | .ret e, p, ws, S, q, b, hb, h => by
    simp only [exS] at h
    obtain ⟨⟨w1, S1⟩, h1, h2⟩ := Option.bind_eq_some_iff.mp h
    cases h2
    exact ev_keep hcl e p ws S w1 S1 b hb h1
  | .retN, p, ws, S, q, b, hb, h => by simp only [exS] at h; cases h; exact Keep.refl _ _ _
  | .ite c x y, p, ws, S, q, b, hb, h => by
    simp only [exS] at h
    obtain ⟨⟨t, S1⟩, h1, h2⟩ := Option.bind_eq_some_iff.mp h
    have k1 := evT_keep hcl hb h1
    cases t with
    | true => exact k1.trans (exSs_keep hcl x p ws S1 q b (le_t hb k1) h2)
    | false => exact k1.trans (exSs_keep hcl y p ws S1 q b (le_t hb k1) h2)
  | .whl c x, p, ws, S, q, b, hb, h => by
    simp only [exS] at h
    exact whlL_keep (fun ws S q hb h => evT_keep hcl hb h) (fun ws S q hb h => exSs_keep hcl x p ws S q b hb h) L ws S q hb h
  | .for it g x, p, ws, S, q, b, hb, h => by
    simp only [exS] at h
    obtain ⟨⟨items, r, S1⟩, h1, h2⟩ := Option.bind_eq_some_iff.mp h
    have k1 := evi_keep hcl it p ws S items r S1 b hb h1
    refine k1.trans (forL_keep (fun w ws S q hb h => ?_) items ws S1 q (le_t hb k1) h2)
    obtain ⟨ws2, h3, h4⟩ := Option.bind_eq_some_iff.mp h
    exact (exSs_keep hcl x _ ws2 S q b hb h4).sub sub_app (Nat.le_refl _)
  | .brk, p, ws, S, q, b, hb, h => by simp only [exS] at h; cases h; exact Keep.refl _ _ _
  | .cont, p, ws, S, q, b, hb, h => by simp only [exS] at h; cases h; exact Keep.refl _ _ _
  | .pass, p, ws, S, q, b, hb, h => by simp only [exS] at h; cases h; exact Keep.refl _ _ _
  | .never, p, ws, S, q, b, hb, h => by simp only [exS] at h; cases h
theorem exSs_keep {cl : CallT} (hcl : ClKeep cl) {L : Nat} : ∀ (s : Ss) (p : List Nat) (ws : Loc) (S : Sto) (q : Fl × Loc × Sto) (b : Nat), b ≤ S.length → exSs cl L p s ws S = some q → Keep p b S q.2.2
  | .nil, p, ws, S, q, b, hb, h => by simp only [exSs] at h; cases h; exact Keep.refl _ _ _
  | .cons x l, p, ws, S, q, b, hb, h => by
    simp only [exSs] at h
    obtain ⟨⟨fl, ws1, S1⟩, h1, h2⟩ := Option.bind_eq_some_iff.mp h
    have k1 := exS_keep hcl x p ws S _ b hb h1
    cases fl with
    | next => exact k1.trans (exSs_keep hcl l p ws1 S1 q b (le_t hb k1) h2)
    | cont => cases h2; exact k1
    | brk => cases h2; exact k1
    | ret w => cases h2; exact k1
end
theorem takeW_keep {T : Sto} {x w : W} {S S' : Sto} {p : List Nat} {b : Nat} (h : takeW T x S = some (w, S')) (hb : b ≤ S.length) : Keep p b S S' := by
  unfold takeW at h
  (repeat' split at h) <;> first | (cases h; exact Keep.refl _ _ _) | (cases h; exact newL_keep hb) | cases h
theorem takeL_keep {T : Sto} {p : List Nat} {b : Nat} : ∀ {l m : List W} {S S' : Sto}, takeL T l S = some (m, S') → b ≤ S.length → Keep p b S S'
  | [], m, S, S', h, hb => by simp only [takeL] at h; cases h; exact Keep.refl _ _ _
  | .d x :: r, m, S, S', h, hb => by
    simp only [takeL] at h
    split at h
    · rename_i q e
      cases h
      exact takeL_keep (l := r) (m := q.1) e hb
    · cases h
  | .ref k :: r, m, S, S', h, hb => by
    simp only [takeL] at h
    split at h
    · split at h
      · rename_i q e
        cases h
        exact takeW_keep (w := q.1) e hb
      · cases h
    · cases h
  | .tr _ :: r, m, S, S', h, hb => by simp [takeL] at h
  | .lv _ :: r, m, S, S', h, hb => by simp [takeL] at h
theorem handW_keep {T : Sto} {x w : W} {S S' : Sto} {p : List Nat} {b : Nat} (h : handW T x S = some (w, S')) (hb : b ≤ S.length) : Keep p b S S' := by
  unfold handW at h
  split at h
  · split at h
    · rename_i q e
      cases h
      exact takeL_keep (m := q.1) e hb
    · cases h
  · exact takeW_keep h hb
theorem fin_some {o : Option (Fl × Loc × Sto)} {w : W} {S : Sto} (h : fin o = some (w, S)) : ∃ ws, o = some (.ret w, ws, S) ∨ (w = .d .none ∧ o = some (.next, ws, S)) := by
  unfold fin at h
  split at h
  · cases h; exact ⟨_, .inl rfl⟩
  · cases h; exact ⟨_, .inr ⟨rfl, rfl⟩⟩
  · cases h
theorem callF_keep {F : List FnD} {L : Nat} : ∀ n : Nat, ClKeep (callF F L n)
  | 0 => fun f args p S w S' b hb h => by simp only [callF] at h; cases h
  | n + 1 => fun f args p S w S' b hb h => by
    simp only [callF] at h
    split at h
    · cases h
    · rename_i d e
      split at h
      · split at h
        · obtain ⟨args', h1, h2⟩ := Option.bind_eq_some_iff.mp h
          obtain ⟨q, h3, h4⟩ := Option.bind_eq_some_iff.mp h2
          exact handW_keep h4 hb
        · obtain ⟨ws, h1 | ⟨_, h1⟩⟩ := fin_some h
          · exact exSs_keep (callF_keep n) _ p _ S _ b hb h1
          · exact exSs_keep (callF_keep n) _ p _ S _ b hb h1
      · cases h
end DV
/-! DVRead: the evaluator's runs as readings of the hand layer. -/
namespace DV
open PySem L2 PyProof.Rows

section
variable (K : PySem.W.Frag) (Z : Frz) (cl : CallT) (L : Nat)
def AfterL (mu : List Addr) (H : Hp) (l : List W) (S : Sto) (Q : List V → Hp → Prop) : Prop :=
  ∀ vs H' mu', mu <+: mu' → Ext H H' → RS K Z mu' H' S → RWs K H' Z mu' l vs → Q vs H'
def AfterB (mu : List Addr) (H : Hp) (S : Sto) (Q : Hp → Prop) : Prop := ∀ H' mu', mu <+: mu' → Ext H H' → RS K Z mu' H' S → Q H'
/-- what an iterator gives: the items, while the lists in q stand as in S -/
def Gives (J : L2.It) (items : List W) (q : List Nat) (mu : List Addr) (H : Hp) (S : Sto) : Prop :=
  ∀ i mu2 H2 S2, mu <+: mu2 → Ext H H2 → RS K Z mu2 H2 S2 → (∀ j ∈ q, S2[j]? = S[j]?) →
    (items.length ≤ i → J.stop i H2) ∧ ∀ w, items[i]? = some w → J.go i H2 ∧ ∀ x H3, J.yld i H2 x H3 → RS K Z mu2 H3 S2 ∧ Ext H2 H3 ∧ RW K H3 Z mu2 w x
def AfterI (mu : List Addr) (H : Hp) (items : List W) (q : List Nat) (S : Sto) (R : L2.It → Hp → Prop) : Prop :=
  ∀ J H' mu', mu <+: mu' → Ext H H' → RS K Z mu' H' S → (∀ j ∈ q, j < S.length) → Gives K Z J items q mu' H' S → R J H'
def AfterS (mu : List Addr) (H : Hp) (r : Fl × Loc × Sto) (D : Ends) : Prop :=
  ∀ σ' H' mu', mu <+: mu' → Ext H H' → RS K Z mu' H' r.2.2 → RL K Z mu' H' r.2.1 σ' → match r.1 with
    | .next => D.nx σ' H'
    | .brk => D.bk σ' H'
    | .cont => D.ct σ' H'
    | .ret w => ∀ v, RW K H' Z mu' w v → D.rt v H'
end
section
variable (K : PySem.W.Frag) (cl : CallT) (L : Nat)
def tD (e : Ex) : TE := fun σ H Q => ∃ Z p ws mu S w S', RL K Z mu H ws σ ∧ RS K Z mu H S ∧ ev cl p e ws S = some (w, S') ∧ After K Z mu H w S' Q
def tDs (l : Es) : TA := fun σ H Q => ∃ Z p ws mu S w S', RL K Z mu H ws σ ∧ RS K Z mu H S ∧ evs cl p l ws S = some (w, S') ∧ AfterL K Z mu H w S' Q
def tDo (l : Eo) : TO := fun σ H Q => ∃ Z p ws mu S o S', RL K Z mu H ws σ ∧ RS K Z mu H S ∧ evo cl p l ws S = some (o, S') ∧ AfterB K Z mu H S' (Q o)
def tDT (e : Ex) : TT := fun σ H Q => ∃ Z p ws mu S b S', RL K Z mu H ws σ ∧ RS K Z mu H S ∧ evT cl p e ws S = some (b, S') ∧ AfterB K Z mu H S' (Q b)
def tDI (it : DV.It) : TI := fun σ H R => ∃ Z p ws mu S items q S', RL K Z mu H ws σ ∧ RS K Z mu H S ∧ evi cl p it ws S = some (items, q, S') ∧ AfterI K Z mu H items q S' R
def tDS (s : Sm) : TS := fun D σ H => ∃ Z p ws mu S r, RL K Z mu H ws σ ∧ RS K Z mu H S ∧ exS cl L p s ws S = some r ∧ AfterS K Z mu H r D
def tDSs (s : Ss) : TS := fun D σ H => ∃ Z p ws mu S r, RL K Z mu H ws σ ∧ RS K Z mu H S ∧ exSs cl L p s ws S = some r ∧ AfterS K Z mu H r D
end
/-- a def's promise: what the evaluator gives -/
def spD (K : PySem.W.Frag) (F : List FnD) (L n f : Nat) : Sp := fun vs H Q _ =>
  ∃ Z p ws mu S w S', RS K Z mu H S ∧ RWs K H Z mu ws vs ∧ callF F L n f ws p S = some (w, S') ∧ After K Z mu H w S' Q

/-! ### weaker readings -/
section
variable {X : Cx}
theorem PEi {e : Expr} {t t' : TE} (h : PE X e t) (i : ∀ σ H Q, t' σ H Q → t σ H Q) : PE X e t' := ⟨fun pins s σ H Q I w => h.run pins s σ H Q I (i σ H Q w)⟩
theorem PTi {e : Expr} {t t' : TT} (h : PT X e t) (i : ∀ σ H Q, t' σ H Q → t σ H Q) : PT X e t' := ⟨fun pins s σ H Q I w => h.run pins s σ H Q I (i σ H Q w)⟩
theorem PWi {e : Expr} {t t' : TT} (h : PW X e t) (i : ∀ σ H Q, t' σ H Q → t σ H Q) : PW X e t' := ⟨fun wh pins s σ H Q I w => h.run wh pins s σ H Q I (i σ H Q w)⟩
theorem PAi {e : List Expr} {t t' : TA} (h : PA X e t) (i : ∀ σ H Q, t' σ H Q → t σ H Q) : PA X e t' := ⟨fun pos pins s σ H Q I w => h.run pos pins s σ H Q I (i σ H Q w)⟩
theorem POi {e : Option Expr} {t t' : TO} (h : PO X e t) (i : ∀ σ H Q, t' σ H Q → t σ H Q) : PO X e t' := ⟨fun pins s σ H Q I w => h.run pins s σ H Q I (i σ H Q w)⟩
theorem PIi {tg e : Expr} {t t' : TI} (h : PI X tg e t) (i : ∀ σ H Q, t' σ H Q → t σ H Q) : PI X tg e t' := ⟨fun pins s σ H Q I w => h.run pins s σ H Q I (i σ H Q w)⟩
theorem PTsi {e : List Expr} {t t' : TT} (h : PTs X e t) (i : ∀ σ H Q, t' σ H Q → t σ H Q) : PTs X e t' := ⟨fun pins s σ H Q I w => h.run pins s σ H Q I (i σ H Q w)⟩
theorem PSi {e : Stmt} {t t' : TS} (h : PS X e t) (i : ∀ D σ H, t' D σ H → t D σ H) : PS X e t' := ⟨fun pins s σ H D I w => h.run pins s σ H D I (i D σ H w)⟩
theorem PSsi {e : List Stmt} {t t' : TS} (h : PSs X e t) (i : ∀ D σ H, t' D σ H → t D σ H) : PSs X e t' := ⟨fun pins s σ H D I w => h.run pins s σ H D I (i D σ H w)⟩
theorem OpRe {f : Value → Value → Sem Value} {ι : Sort _} {r : ι → R2} (h : ∀ z, OpR X f (r z)) : OpR X f (fun x y H Q => ∃ z, r z x y H Q) := fun pins s σ H x y v u Q I rx ry ⟨z, q⟩ => h z pins s σ H x y v u Q I rx ry q
theorem CallRe {f : Value} {ι : Sort _} {r : ι → List V → Hp → VK → Prop} (h : ∀ z, CallR X f (r z)) : CallR X f (fun vs H Q => ∃ z, r z vs H Q) := fun pins s σ H vs us Q I rx ⟨z, q⟩ => h z pins s σ H vs us Q I rx q
theorem IxRe {ι : Sort _} {r : ι → R2} (h : ∀ z, IxR X (r z)) : IxR X (fun x y H Q => ∃ z, r z x y H Q) := fun value slice pins s σ H x y v u Q I rx ry ⟨z, q⟩ hs => h z value slice pins s σ H x y v u Q I rx ry q hs
theorem SlRe {ι : Sort _} {r : ι → V → Option Int → Option Int → Hp → VK → Prop} (h : ∀ z, SlR X (r z)) : SlR X (fun x lo hi H Q => ∃ z, r z x lo hi H Q) := fun pins s σ H x v vl vu lo hi sl Q I rx hs p1 p2 ⟨z, q⟩ => h z pins s σ H x v vl vu lo hi sl Q I rx hs p1 p2 q
theorem MtMe {id : String} {ι : Sort _} {r : ι → V → List V → Hp → VK → Prop} (h : ∀ z, MtM X id (r z)) : MtM X id (fun x xs H Q => ∃ z, r z x xs H Q) := fun pins s σ H x xs v us Q I rx rv ⟨z, q⟩ => h z pins s σ H x xs v us Q I rx rv q
theorem PSete {ι : Sort _} {r : ι → TSet} (h : ∀ z, PSet X (r z)) : PSet X (fun o i v H Q => ∃ z, r z o i v H Q) := fun pins s σ H o i v ov iv u Q I ro ri rv ⟨z, q⟩ => h z pins s σ H o i v ov iv u Q I ro ri rv q
end

/-! ### expressions: from the evaluator's run to the rule's reading -/
section
variable {K : PySem.W.Frag} {cl : CallT} {σ : L2.St} {H : Hp} {Q : VK} {X : Cx}
theorem ev_bind {α β : Type} {o : Option α} {f : α → Option β} {b : β} (h : o.bind f = some b) : ∃ a, o = some a ∧ f a = some b := Option.bind_eq_some_iff.mp h
def Cst.toV : Cst → V
  | .non => .non | .bl b => .bl b | .int i => .int i | .str s => .str s
theorem rw_cst {Z : Frz} {mu : List Addr} {k : Cst} : RW K H Z mu (.d k.toD) k.toV := by cases k <;> simp only [RW, RD, Cst.toD, Cst.toV]
theorem evT_of {p : List Nat} {e : Ex} {ws : Loc} {S S1 : Sto} {w : W} {t : Bool} (h : ev cl p e ws S = some (w, S1)) (eb : ofBool w = some t) : evT cl p e ws S = some (t, S1) := by
  unfold evT; rw [h]; simp only [Option.bind_some, eb]
theorem i_v {i : Nat} (h : tD K cl (.v i) σ H Q) : tVar i σ H Q := by
  obtain ⟨Z, p, ws, mu, S, w, S', hL, hS, he, hQ⟩ := h
  simp only [ev] at he
  split at he
  · rename_i w' e
    cases he
    obtain ⟨v, e1, e2⟩ := hL.at' i _ e
    exact ⟨v, e1, hQ.here hS e2⟩
  · cases he
theorem i_c {k : Cst} (h : tD K cl (.c k) σ H Q) : tC k.toV σ H Q := by
  obtain ⟨Z, p, ws, mu, S, w, S', hL, hS, he, hQ⟩ := h
  simp only [ev] at he
  cases he
  exact hQ.here hS rw_cst
theorem i_g {x : Str} {k : Cst} (h : tD K cl (.g x k) σ H Q) : tC k.toV σ H Q := by
  obtain ⟨Z, p, ws, mu, S, w, S', hL, hS, he, hQ⟩ := h
  simp only [ev] at he
  cases he
  exact hQ.here hS rw_cst
theorem i_bin {o : Bin} {a b : Ex} (h : tD K cl (.bin o a b) σ H Q) : tOp (fun x y H Q => ∃ Z, rB K Z o x y H Q) (tD K cl a) (tD K cl b) σ H Q := by
  obtain ⟨Z, p, ws, mu, S, w, S', hL, hS, he, hQ⟩ := h
  simp only [ev] at he
  obtain ⟨⟨w1, S1⟩, h1, h2⟩ := ev_bind he
  obtain ⟨⟨w2, S2⟩, h3, h4⟩ := ev_bind h2
  exact ⟨Z, p, ws, mu, S, w1, S1, hL, hS, h1, fun v H1 mu1 m1 e1 s1 r1 => ⟨Z, p, ws, mu1, S1, w2, S2, hL.mono e1 m1, s1, h3, fun v2 H2 mu2 m2 e2 s2 r2 =>
    ⟨Z, mu2, S2, w1, w2, w, S', s2, r1.mono e2 m2, r2, h4, hQ.mono (m1.trans m2) (e1.trans e2)⟩⟩⟩
theorem i_neg {a : Ex} (h : tD K cl (.neg a) σ H Q) : tUn (rU fun i => .int (-i)) (tD K cl a) σ H Q := by
  obtain ⟨Z, p, ws, mu, S, w, S', hL, hS, he, hQ⟩ := h
  simp only [ev] at he
  obtain ⟨⟨w1, S1⟩, h1, h2⟩ := ev_bind he
  split at h2
  · rename_i i e
    cases h2
    refine ⟨Z, p, ws, mu, S, w1, S1, hL, hS, h1, fun v H1 mu1 m1 e1 s1 r1 => ?_⟩
    have e' : w1 = .d (.int i) := e
    subst e'
    rw [rw_int] at r1
    exact ⟨i, r1, hQ _ _ _ m1 e1 s1 (rw_int.mpr rfl)⟩
  · cases h2
theorem i_cmp {o : Cm} {a b : Ex} (h : tD K cl (.cmp o a b) σ H Q) : tOp (fun x y H Q => ∃ Z, rC K Z o x y H Q) (tD K cl a) (tD K cl b) σ H Q := by
  obtain ⟨Z, p, ws, mu, S, w, S', hL, hS, he, hQ⟩ := h
  simp only [ev] at he
  obtain ⟨⟨w1, S1⟩, h1, h2⟩ := ev_bind he
  obtain ⟨⟨w2, S2⟩, h3, h4⟩ := ev_bind h2
  split at h4
  · rename_i t e
    cases h4
    exact ⟨Z, p, ws, mu, S, w1, S1, hL, hS, h1, fun v H1 mu1 m1 e1 s1 r1 => ⟨Z, p, ws, mu1, S1, w2, S2, hL.mono e1 m1, s1, h3, fun v2 H2 mu2 m2 e2 s2 r2 =>
      ⟨Z, mu2, S2, w1, w2, t, s2, r1.mono e2 m2, r2, e, hQ _ _ _ (m1.trans m2) (e1.trans e2) s2 (rw_bool.mpr rfl)⟩⟩⟩
  · cases h4
theorem i_cmpT {o : Cm} {a b : Ex} {Q : Bool → Hp → Prop} (h : tDT K cl (.cmp o a b) σ H Q) : tTest (tOp (fun x y H Q => ∃ Z, rC K Z o x y H Q) (tD K cl a) (tD K cl b)) σ H Q := by
  obtain ⟨Z, p, ws, mu, S, t, S', hL, hS, he, hQ⟩ := h
  unfold evT at he
  obtain ⟨⟨w0, S0⟩, h0, h5⟩ := ev_bind he
  simp only [ev] at h0
  obtain ⟨⟨w1, S1⟩, h1, h2⟩ := ev_bind h0
  obtain ⟨⟨w2, S2⟩, h3, h4⟩ := ev_bind h2
  split at h4
  · rename_i t' e
    cases h4
    simp only [ofBool] at h5
    cases h5
    exact ⟨Z, p, ws, mu, S, w1, S1, hL, hS, h1, fun v H1 mu1 m1 e1 s1 r1 => ⟨Z, p, ws, mu1, S1, w2, _, hL.mono e1 m1, s1, h3, fun v2 H2 mu2 m2 e2 s2 r2 =>
      ⟨Z, mu2, _, w1, w2, t, s2, r1.mono e2 m2, r2, e, t, rfl, hQ _ _ (m1.trans m2) (e1.trans e2) s2⟩⟩⟩
  · cases h4
/-- a test by its value -/
theorem i_tB {e : Ex} {Q : Bool → Hp → Prop} (h : tDT K cl e σ H Q) : tB (tD K cl e) σ H Q := by
  obtain ⟨Z, p, ws, mu, S, t, S', hL, hS, he, hQ⟩ := h
  unfold evT at he
  obtain ⟨⟨w1, S1⟩, h1, h2⟩ := ev_bind he
  split at h2
  · rename_i b e
    cases h2
    have e' := ofBool_some e
    simp only at e'
    subst e'
    exact ⟨Z, p, ws, mu, S, _, S1, hL, hS, h1, fun v H1 mu1 m1 e1 s1 r1 => ⟨t, rw_bool.mp r1, hQ _ _ m1 e1 s1⟩⟩
  · cases h2
theorem i_and {a b : Ex} (h : tD K cl (.and a b) σ H Q) : tAndV (tD K cl a) (tD K cl b) σ H Q := by
  obtain ⟨Z, p, ws, mu, S, w, S', hL, hS, he, hQ⟩ := h
  simp only [ev] at he
  obtain ⟨⟨w1, S1⟩, h1, h2⟩ := ev_bind he
  refine ⟨Z, p, ws, mu, S, w1, S1, hL, hS, h1, fun v H1 mu1 m1 e1 s1 r1 => ?_⟩
  split at h2
  · rename_i e
    have e' := ofBool_some e
    simp only at e'
    subst e'
    refine ⟨true, rw_bool.mp r1, ?_⟩
    refine iteT ?_
    exact ⟨Z, p, ws, mu1, S1, w, S', hL.mono e1 m1, s1, h2, hQ.mono m1 e1⟩
  · rename_i e
    have e' := ofBool_some e
    simp only at e'
    subst e'
    cases h2
    refine ⟨false, rw_bool.mp r1, ?_⟩
    refine iteF ?_
    exact hQ _ _ _ m1 e1 s1 (rw_bool.mpr rfl)
  · cases h2
theorem i_or {a b : Ex} (h : tD K cl (.or a b) σ H Q) : tOrV (tD K cl a) (tD K cl b) σ H Q := by
  obtain ⟨Z, p, ws, mu, S, w, S', hL, hS, he, hQ⟩ := h
  simp only [ev] at he
  obtain ⟨⟨w1, S1⟩, h1, h2⟩ := ev_bind he
  refine ⟨Z, p, ws, mu, S, w1, S1, hL, hS, h1, fun v H1 mu1 m1 e1 s1 r1 => ?_⟩
  split at h2
  · rename_i e
    have e' := ofBool_some e
    simp only at e'
    subst e'
    cases h2
    refine ⟨true, rw_bool.mp r1, ?_⟩
    refine iteT ?_
    exact hQ _ _ _ m1 e1 s1 (rw_bool.mpr rfl)
  · rename_i e
    have e' := ofBool_some e
    simp only at e'
    subst e'
    refine ⟨false, rw_bool.mp r1, ?_⟩
    refine iteF ?_
    exact ⟨Z, p, ws, mu1, S1, w, S', hL.mono e1 m1, s1, h2, hQ.mono m1 e1⟩
  · cases h2
theorem i_andT {a b : Ex} {Q : Bool → Hp → Prop} (h : tDT K cl (.and a b) σ H Q) : tAnd (tDT K cl a) (tDT K cl b) σ H Q := by
  obtain ⟨Z, p, ws, mu, S, t, S', hL, hS, he, hQ⟩ := h
  unfold evT at he
  obtain ⟨⟨w0, S0⟩, h0, h5⟩ := ev_bind he
  simp only [ev] at h0
  obtain ⟨⟨w1, S1⟩, h1, h2⟩ := ev_bind h0
  split at h2
  · rename_i e
    refine ⟨Z, p, ws, mu, S, true, _, hL, hS, evT_of h1 e, fun H1 mu1 m1 e1 s1 => ?_⟩
    · refine iteT ?_
      refine ⟨Z, p, ws, mu1, S1, t, S', hL.mono e1 m1, s1, ?_, fun H2 mu2 m2 e2 s2 => hQ _ _ (m1.trans m2) (e1.trans e2) s2⟩
      unfold evT; rw [h2]; exact h5
  · rename_i e
    cases h2
    simp only [ofBool] at h5
    cases h5
    refine ⟨Z, p, ws, mu, S, false, _, hL, hS, evT_of h1 e, fun H1 mu1 m1 e1 s1 => ?_⟩
    · refine iteF ?_
      exact hQ _ _ m1 e1 s1
  · cases h2
theorem i_orT {a b : Ex} {Q : Bool → Hp → Prop} (h : tDT K cl (.or a b) σ H Q) : tOr (tDT K cl a) (tDT K cl b) σ H Q := by
  obtain ⟨Z, p, ws, mu, S, t, S', hL, hS, he, hQ⟩ := h
  unfold evT at he
  obtain ⟨⟨w0, S0⟩, h0, h5⟩ := ev_bind he
  simp only [ev] at h0
  obtain ⟨⟨w1, S1⟩, h1, h2⟩ := ev_bind h0
  split at h2
  · rename_i e
    cases h2
    simp only [ofBool] at h5
    cases h5
    refine ⟨Z, p, ws, mu, S, true, _, hL, hS, evT_of h1 e, fun H1 mu1 m1 e1 s1 => ?_⟩
    · refine iteT ?_
      exact hQ _ _ m1 e1 s1
  · rename_i e
    refine ⟨Z, p, ws, mu, S, false, _, hL, hS, evT_of h1 e, fun H1 mu1 m1 e1 s1 => ?_⟩
    · refine iteF ?_
      refine ⟨Z, p, ws, mu1, S1, t, S', hL.mono e1 m1, s1, ?_, fun H2 mu2 m2 e2 s2 => hQ _ _ (m1.trans m2) (e1.trans e2) s2⟩
      unfold evT; rw [h2]; exact h5
  · cases h2
theorem i_not {a : Ex} (h : tD K cl (.not a) σ H Q) : tNotV (tD K cl a) σ H Q := by
  obtain ⟨Z, p, ws, mu, S, w, S', hL, hS, he, hQ⟩ := h
  simp only [ev] at he
  obtain ⟨⟨w1, S1⟩, h1, h2⟩ := ev_bind he
  refine ⟨Z, p, ws, mu, S, w1, S1, hL, hS, h1, fun v H1 mu1 m1 e1 s1 r1 => ?_⟩
  split at h2
  · rename_i t e
    have e' := ofBool_some e
    simp only at e'
    subst e'
    cases h2
    exact ⟨t, rw_bool.mp r1, hQ _ _ _ m1 e1 s1 (rw_bool.mpr rfl)⟩
  · cases h2
theorem i_notT {a : Ex} {Q : Bool → Hp → Prop} (h : tDT K cl (.not a) σ H Q) : tNot (tDT K cl a) σ H Q := by
  obtain ⟨Z, p, ws, mu, S, t, S', hL, hS, he, hQ⟩ := h
  unfold evT at he
  obtain ⟨⟨w0, S0⟩, h0, h5⟩ := ev_bind he
  simp only [ev] at h0
  obtain ⟨⟨w1, S1⟩, h1, h2⟩ := ev_bind h0
  split at h2
  · rename_i u e
    cases h2
    simp only [ofBool] at h5
    cases h5
    exact ⟨Z, p, ws, mu, S, u, _, hL, hS, evT_of h1 e, fun H1 mu1 m1 e1 s1 => hQ _ _ m1 e1 s1⟩
  · cases h2
theorem i_ite {t a b : Ex} (h : tD K cl (.ite t a b) σ H Q) : tIf (tDT K cl t) (tD K cl a) (tD K cl b) σ H Q := by
  obtain ⟨Z, p, ws, mu, S, w, S', hL, hS, he, hQ⟩ := h
  simp only [ev] at he
  obtain ⟨⟨w1, S1⟩, h1, h2⟩ := ev_bind he
  split at h2
  · rename_i e
    refine ⟨Z, p, ws, mu, S, true, S1, hL, hS, evT_of h1 e, fun H1 mu1 m1 e1 s1 => ?_⟩
    refine iteT ?_
    exact ⟨Z, p, ws, mu1, S1, w, S', hL.mono e1 m1, s1, h2, hQ.mono m1 e1⟩
  · rename_i e
    refine ⟨Z, p, ws, mu, S, false, S1, hL, hS, evT_of h1 e, fun H1 mu1 m1 e1 s1 => ?_⟩
    refine iteF ?_
    exact ⟨Z, p, ws, mu1, S1, w, S', hL.mono e1 m1, s1, h2, hQ.mono m1 e1⟩
  · cases h2
theorem i_iteT {t a b : Ex} {Q : Bool → Hp → Prop} (h : tDT K cl (.ite t a b) σ H Q) : (tDT K cl t) σ H (fun c H1 => if c = true then tDT K cl a σ H1 Q else tDT K cl b σ H1 Q) := by
  obtain ⟨Z, p, ws, mu, S, u, S', hL, hS, he, hQ⟩ := h
  unfold evT at he
  obtain ⟨⟨w0, S0⟩, h0, h5⟩ := ev_bind he
  simp only [ev] at h0
  obtain ⟨⟨w1, S1⟩, h1, h2⟩ := ev_bind h0
  split at h2
  · rename_i e
    refine ⟨Z, p, ws, mu, S, true, _, hL, hS, evT_of h1 e, fun H1 mu1 m1 e1 s1 => ?_⟩
    refine iteT ?_
    exact ⟨Z, p, ws, mu1, S1, u, S', hL.mono e1 m1, s1, by unfold evT; rw [h2]; exact h5, fun H2 mu2 m2 e2 s2 => hQ _ _ (m1.trans m2) (e1.trans e2) s2⟩
  · rename_i e
    refine ⟨Z, p, ws, mu, S, false, _, hL, hS, evT_of h1 e, fun H1 mu1 m1 e1 s1 => ?_⟩
    refine iteF ?_
    exact ⟨Z, p, ws, mu1, S1, u, S', hL.mono e1 m1, s1, by unfold evT; rw [h2]; exact h5, fun H2 mu2 m2 e2 s2 => hQ _ _ (m1.trans m2) (e1.trans e2) s2⟩
  · cases h2
theorem i_nil {Q : List V → Hp → Prop} (h : tDs K cl .nil σ H Q) : tNil σ H Q := by
  obtain ⟨Z, p, ws, mu, S, w, S', hL, hS, he, hQ⟩ := h
  simp only [evs] at he
  cases he
  exact hQ _ _ _ (List.prefix_refl _) (Ext.refl _) hS (RWs.nil_iff.mpr rfl)
theorem i_cons {a : Ex} {l : Es} {Q : List V → Hp → Prop} (h : tDs K cl (.cons a l) σ H Q) : tCons (tD K cl a) (tDs K cl l) σ H Q := by
  obtain ⟨Z, p, ws, mu, S, w, S', hL, hS, he, hQ⟩ := h
  simp only [evs] at he
  obtain ⟨⟨w1, S1⟩, h1, h2⟩ := ev_bind he
  obtain ⟨⟨w2, S2⟩, h3, h4⟩ := ev_bind h2
  cases h4
  exact ⟨Z, p, ws, mu, S, w1, S1, hL, hS, h1, fun v H1 mu1 m1 e1 s1 r1 => ⟨Z, p, ws, mu1, S1, w2, S2, hL.mono e1 m1, s1, h3, fun vs H2 mu2 m2 e2 s2 r2 =>
    hQ _ _ _ (m1.trans m2) (e1.trans e2) s2 (RWs.cons (r1.mono e2 m2) r2)⟩⟩
theorem i_tup {l : Es} (h : tD K cl (.tup l) σ H Q) : tTup (tDs K cl l) σ H Q := by
  obtain ⟨Z, p, ws, mu, S, w, S', hL, hS, he, hQ⟩ := h
  simp only [ev] at he
  obtain ⟨⟨w1, S1⟩, h1, h2⟩ := ev_bind he
  split at h2
  · rename_i hz
    cases h2
    refine ⟨Z, p, ws, mu, S, w1, S1, hL, hS, h1, fun vs H1 mu1 m1 e1 s1 r1 => ⟨cap_le (by rw [← r1.length]; exact hz), fun q hq => (hQ.mono m1 e1).tup s1 hq r1⟩⟩
  · cases h2
theorem i_lst {l : Es} (h : tD K cl (.lst l) σ H Q) : tLst (tDs K cl l) σ H Q := by
  obtain ⟨Z, p, ws, mu, S, w, S', hL, hS, he, hQ⟩ := h
  simp only [ev] at he
  obtain ⟨⟨w1, S1⟩, h1, h2⟩ := ev_bind he
  split at h2
  · rename_i hz
    cases h2
    refine ⟨Z, p, ws, mu, S, w1, S1, hL, hS, h1, fun vs H1 mu1 m1 e1 s1 r1 => ⟨cap_le (by rw [← r1.length]; exact hz), fun q hq => (hQ.mono m1 e1).new s1 hq r1⟩⟩
  · cases h2
theorem i_fn {F : List FnD} {L n f : Nat} {l : Es} (h : tD K (callF F L n) (.fn f l) σ H Q) : tCall (spD K F L n f) [] E0 (tDs K (callF F L n) l) σ H Q := by
  obtain ⟨Z, p, ws, mu, S, w, S', hL, hS, he, hQ⟩ := h
  simp only [ev] at he
  obtain ⟨⟨w1, S1⟩, h1, h2⟩ := ev_bind he
  refine ⟨Z, p, ws, mu, S, w1, S1, hL, hS, h1, fun vs H1 mu1 m1 e1 s1 r1 => ⟨Z, p, w1, mu1, S1, w, S', s1, ?_, h2, hQ.mono m1 e1⟩⟩
  rw [List.append_nil]
  exact r1
theorem i_bf {f : Bf} {l : Es} (h : tD K cl (.bf f l) σ H Q) : tCB (fun vs H Q => ∃ Z, rF K Z f vs H Q) (tDs K cl l) σ H Q := by
  obtain ⟨Z, p, ws, mu, S, w, S', hL, hS, he, hQ⟩ := h
  simp only [ev] at he
  obtain ⟨⟨w1, S1⟩, h1, h2⟩ := ev_bind he
  exact ⟨Z, p, ws, mu, S, w1, S1, hL, hS, h1, fun vs H1 mu1 m1 e1 s1 r1 => ⟨Z, mu1, S1, w1, w, S', s1, r1, h2, hQ.mono m1 e1⟩⟩
theorem i_isi {a : Ex} {t : Ty} (h : tD K cl (.isi a t) σ H Q) : tCB (rIsi K) (tCons (tD K cl a) (tCons (tC (.ty t.name)) tNil)) σ H Q := by
  obtain ⟨Z, p, ws, mu, S, w, S', hL, hS, he, hQ⟩ := h
  simp only [ev] at he
  obtain ⟨⟨w1, S1⟩, h1, h2⟩ := ev_bind he
  split at h2
  · rename_i b e
    cases h2
    refine ⟨Z, p, ws, mu, S, w1, S1, hL, hS, h1, fun v H1 mu1 m1 e1 s1 r1 => ?_⟩
    obtain ⟨tn, t1, t2⟩ := isi_rule s1 r1 e
    exact ⟨v, .ty t.name, _, _, b, rfl, .ty _, t1, t2, hQ _ _ _ m1 e1 s1 (rw_bool.mpr rfl)⟩
  · cases h2
theorem i_ix {a b : Ex} (h : tD K cl (.ix a b) σ H Q) : tOp (fun x y H Q => ∃ Z, rX K Z x y H Q) (tD K cl a) (tD K cl b) σ H Q := by
  obtain ⟨Z, p, ws, mu, S, w, S', hL, hS, he, hQ⟩ := h
  simp only [ev] at he
  obtain ⟨⟨w1, S1⟩, h1, h2⟩ := ev_bind he
  obtain ⟨⟨w2, S2⟩, h3, h4⟩ := ev_bind h2
  split at h4
  · rename_i u e
    cases h4
    exact ⟨Z, p, ws, mu, S, w1, S1, hL, hS, h1, fun v H1 mu1 m1 e1 s1 r1 => ⟨Z, p, ws, mu1, S1, w2, S2, hL.mono e1 m1, s1, h3, fun v2 H2 mu2 m2 e2 s2 r2 =>
      ⟨Z, mu2, S2, w1, w2, w, s2, r1.mono e2 m2, r2, e, fun v3 r3 => hQ _ _ _ (m1.trans m2) (e1.trans e2) s2 r3⟩⟩⟩
  · cases h4
theorem i_no {Q : Option Int → Hp → Prop} (h : tDo K cl .no σ H Q) : tNoPart σ H Q := by
  obtain ⟨Z, p, ws, mu, S, w, S', hL, hS, he, hQ⟩ := h
  simp only [evo] at he
  cases he
  exact hQ _ _ (List.prefix_refl _) (Ext.refl _) hS
theorem i_so {a : Ex} {Q : Option Int → Hp → Prop} (h : tDo K cl (.so a) σ H Q) : tPart (tD K cl a) σ H Q := by
  obtain ⟨Z, p, ws, mu, S, w, S', hL, hS, he, hQ⟩ := h
  simp only [evo] at he
  obtain ⟨⟨w1, S1⟩, h1, h2⟩ := ev_bind he
  split at h2
  · rename_i i e
    cases h2
    refine ⟨Z, p, ws, mu, S, w1, S1, hL, hS, h1, fun v H1 mu1 m1 e1 s1 r1 => ?_⟩
    have e' : w1 = .d (.int i) := e
    subst e'
    exact ⟨i, rw_int.mp r1, hQ _ _ m1 e1 s1⟩
  · cases h2
theorem i_sl {a : Ex} {lo hi : Eo} (h : tD K cl (.sl a lo hi) σ H Q) : L2.tSl (fun x l u H Q => ∃ Z, rSl K Z x l u H Q) (tD K cl a) (tDo K cl lo) (tDo K cl hi) σ H Q := by
  obtain ⟨Z, p, ws, mu, S, w, S', hL, hS, he, hQ⟩ := h
  simp only [ev] at he
  obtain ⟨⟨w1, S1⟩, h1, h2⟩ := ev_bind he
  obtain ⟨⟨w2, S2⟩, h3, h4⟩ := ev_bind h2
  obtain ⟨⟨w3, S3⟩, h5, h6⟩ := ev_bind h4
  exact ⟨Z, p, ws, mu, S, w1, S1, hL, hS, h1, fun v H1 mu1 m1 e1 s1 r1 => ⟨Z, p, ws, mu1, S1, w2, S2, hL.mono e1 m1, s1, h3, fun H2 mu2 m2 e2 s2 =>
    ⟨Z, p, ws, mu2, S2, w3, S3, hL.mono (e1.trans e2) (m1.trans m2), s2, h5, fun H3 mu3 m3 e3 s3 =>
      ⟨Z, mu3, S3, w1, w, S', s3, r1.mono (e2.trans e3) (m2.trans m3), h6, hQ.mono (m1.trans (m2.trans m3)) (e1.trans (e2.trans e3))⟩⟩⟩⟩
theorem i_rev {a : Ex} (h : tD K cl (.rev a) σ H Q) : tRevL K (tD K cl a) σ H Q := by
  obtain ⟨Z, p, ws, mu, S, w, S', hL, hS, he, hQ⟩ := h
  simp only [ev] at he
  obtain ⟨⟨w1, S1⟩, h1, h2⟩ := ev_bind he
  split at h2
  · rename_i l e
    cases h2
    refine ⟨Z, p, ws, mu, S, w1, S1, hL, hS, h1, fun v H1 mu1 m1 e1 s1 r1 => ?_⟩
    obtain ⟨a', vs, q1, q2, q3⟩ := s1.lstOf e r1
    exact ⟨a', vs, q1, q2, fun q hq => (hQ.mono m1 e1).new s1 hq q3.reverse⟩
  · cases h2
theorem i_mt {m : Mt} {a : Ex} {l : Es} (h : tD K cl (.mt m a l) σ H Q) : tBM K "list" (fun x xs H Q => ∃ (z : Frz × List Nat), rMt K z.1 z.2 m x xs H Q) (tD K cl a) (tDs K cl l) σ H Q := by
  obtain ⟨Z, p, ws, mu, S, w, S', hL, hS, he, hQ⟩ := h
  simp only [ev] at he
  obtain ⟨⟨w1, S1⟩, h1, h2⟩ := ev_bind he
  obtain ⟨⟨w2, S2⟩, h3, h4⟩ := ev_bind h2
  refine ⟨Z, p, ws, mu, S, w1, S1, hL, hS, h1, fun v H1 mu1 m1 e1 s1 r1 => ⟨?_, Z, p, ws, mu1, S1, w2, S2, hL.mono e1 m1, s1, h3, fun vs H2 mu2 m2 e2 s2 r2 =>
    ⟨(Z, p), mu2, S2, w1, w2, w, S', s2, r1.mono e2 m2, r2, h4, hQ.mono (m1.trans m2) (e1.trans e2)⟩⟩⟩
  have hr : ∃ n, w1 = .ref n := by
    cases m with
    | append => replace h4 : mAppend p w1 w2 S2 = some (w, S') := h4; unfold mAppend at h4; split at h4; exact ⟨_, rfl⟩; cases h4
    | extend => replace h4 : mExtend p w1 w2 S2 = some (w, S') := h4; unfold mExtend at h4; split at h4; exact ⟨_, rfl⟩; cases h4
    | pop => replace h4 : mPop p w1 w2 S2 = some (w, S') := h4; unfold mPop at h4; split at h4; exact ⟨_, rfl⟩; cases h4
  obtain ⟨n, rfl⟩ := hr
  simp only [RW] at r1
  obtain ⟨b, b1, rfl⟩ := r1
  have hn : n < S1.length := by rw [← s1.len]; exact (List.getElem?_eq_some_iff.mp b1).1
  cases e0 : S1[n] with
  | lst l0 =>
    obtain ⟨b', vs, q1, q2, _⟩ := s1.ob n l0 (by rw [List.getElem?_eq_getElem hn, e0])
    rw [b1] at q1; cases q1
    exact .inl ⟨rfl, vs, SqL.of q2⟩
theorem i_mt0 {m : Mt} {a : Ex} (h : tD K cl (.mt m a .nil) σ H Q) : tBM0 K "list" (fun x xs H Q => ∃ (z : Frz × List Nat), rMt K z.1 z.2 m x xs H Q) (tD K cl a) σ H Q := by
  obtain ⟨Z, p, ws, mu, S, w, S', hL, hS, he, hQ⟩ := h
  have h := i_mt (Q := Q) (H := H) (σ := σ) (K := K) (cl := cl) (m := m) (a := a) (l := .nil) ⟨Z, p, ws, mu, S, w, S', hL, hS, he, hQ⟩
  simp only [ev, evs] at he
  obtain ⟨⟨w1, S1⟩, h1, h2⟩ := ev_bind he
  simp only [Option.bind_some] at h2
  refine ⟨Z, p, ws, mu, S, w1, S1, hL, hS, h1, fun v H1 mu1 m1 e1 s1 r1 => ⟨?_, (Z, p), mu1, S1, w1, [], w, S', s1, r1, RWs.nil_iff.mpr rfl, h2, hQ.mono m1 e1⟩⟩
  have hr : ∃ n, w1 = .ref n := by
    cases m with
    | append => replace h2 : mAppend p w1 [] S1 = some (w, S') := h2; unfold mAppend at h2; split at h2; exact ⟨_, rfl⟩; cases h2
    | extend => replace h2 : mExtend p w1 [] S1 = some (w, S') := h2; unfold mExtend at h2; split at h2; exact ⟨_, rfl⟩; cases h2
    | pop => replace h2 : mPop p w1 [] S1 = some (w, S') := h2; unfold mPop at h2; split at h2; exact ⟨_, rfl⟩; cases h2
  obtain ⟨n, rfl⟩ := hr
  simp only [RW] at r1
  obtain ⟨b, b1, rfl⟩ := r1
  have hn : n < S1.length := by rw [← s1.len]; exact (List.getElem?_eq_some_iff.mp b1).1
  cases e0 : S1[n] with
  | lst l0 =>
    obtain ⟨b', vs, q1, q2, _⟩ := s1.ob n l0 (by rw [List.getElem?_eq_getElem hn, e0])
    rw [b1] at q1; cases q1
    exact .inl ⟨rfl, vs, SqL.of q2⟩
end
end DV
/-! DVLoop: targets, what is walked, comprehensions, statements, loops. -/
namespace DV
open PySem L2 PyProof.Rows

/-! ### targets -/
def gTs : List Nat → TGs
  | [] => gNil
  | i :: r => gCons (gName i) (gTs r)
def gT (K : PySem.W.Frag) : Tg → TG
  | .nm i => gName i
  | .tp l => gTup K l.length (gTs l)
theorem wipe_in {σ : L2.St} {i : Nat} {x : Option V} : ∀ vs : List Nat, (i ∈ vs → L2.wipe (σ.set i x) vs = L2.wipe σ vs) ∧ (i ∉ vs → L2.wipe (σ.set i x) vs = (L2.wipe σ vs).set i x)
  | [] => ⟨fun h => absurd h (by simp), fun _ => rfl⟩
  | v :: vs => by
    obtain ⟨h1, h2⟩ := wipe_in (σ := σ) (i := i) (x := x) vs
    unfold L2.wipe
    by_cases e : i = v
    · subst e
      refine ⟨fun _ => ?_, fun h => absurd List.mem_cons_self h⟩
      by_cases hm : i ∈ vs
      · rw [h1 hm]
      · rw [h2 hm, List.set_set]
    · refine ⟨fun h => ?_, fun h => ?_⟩
      · rw [h1 (by rcases List.mem_cons.mp h with q | q; exact absurd q e; exact q)]
      · rw [h2 (fun q => h (List.mem_cons_of_mem _ q)), List.set_comm _ _ e]
theorem wipe_set {σ : L2.St} {i : Nat} {x : Option V} {vs : List Nat} (h : i ∈ vs) : L2.wipe (σ.set i x) vs = L2.wipe σ vs := (wipe_in vs).1 h

theorem wipe_get {σ : L2.St} {i : Nat} : ∀ vs : List Nat, (L2.wipe σ vs)[i]? = if i ∈ vs ∧ i < σ.length then some none else σ[i]?
  | [] => by rw [if_neg (by simp)]; rfl
  | v :: vs => by
    unfold L2.wipe
    by_cases e : v = i
    · subst e
      by_cases hl : v < σ.length
      · rw [List.getElem?_set_self (by rw [wipe_length]; exact hl), if_pos ⟨List.mem_cons_self, hl⟩]
      · rw [List.getElem?_eq_none (by rw [List.length_set, wipe_length]; omega), if_neg (fun q => hl q.2), List.getElem?_eq_none (by omega)]
    · rw [List.getElem?_set_ne e, wipe_get vs]
      by_cases hm : i ∈ vs
      · by_cases hl : i < σ.length
        · rw [if_pos ⟨hm, hl⟩, if_pos ⟨List.mem_cons_of_mem _ hm, hl⟩]
        · rw [if_neg (fun q => hl q.2), if_neg (fun q => hl q.2)]
      · rw [if_neg (fun q => hm q.1), if_neg (fun q => (List.mem_cons.mp q.1).elim (fun z => e z.symm) hm)]
theorem wipe_wipe (σ : L2.St) (vs : List Nat) : L2.wipe (L2.wipe σ vs) vs = L2.wipe σ vs := by
  refine List.ext_getElem? fun i => ?_
  rw [wipe_get, wipe_get, wipe_length]
  split <;> rfl

section
variable {K : PySem.W.Frag} {Z : Frz} {mu : List Addr} {H : Hp}
theorem gTs_ok : ∀ {l : List Nat} {q : List W} {ws ws' : Loc} {vs : List V} {σ : L2.St} {Q : L2.St → Hp → Prop}, setWs l q ws = some ws' → RWs K H Z mu q vs → RL K Z mu H ws σ →
    (∀ σ', RL K Z mu H ws' σ' → (∀ us : List Nat, (∀ i ∈ l, i ∈ us) → L2.wipe σ' us = L2.wipe σ us) → Q σ' H) → gTs l vs σ H Q
  | [], [], ws, ws', vs, σ, Q, e, h, r, k => by
    simp only [setWs] at e
    cases e
    exact ⟨RWs.nil_iff.mp h, k σ r fun us _ => rfl⟩
  | i :: l, w :: q, ws, ws', vs, σ, Q, e, h, r, k => by
    simp only [setWs] at e
    split at e
    · rename_i ws1 e1
      obtain ⟨v, rest, rfl, h1, h2⟩ := RWs.cons_iff.mp h
      refine ⟨v, rest, rfl, ?_⟩
      exact gTs_ok e h2 (r.setW e1 h1) fun σ' r' hw => k σ' r' fun us hu => by
        rw [hw us fun j hj => hu j (List.mem_cons_of_mem _ hj), wipe_set (hu i List.mem_cons_self)]
    · cases e
  | [], _ :: _, _, _, _, _, _, e, _, _, _ => by simp [setWs] at e
  | _ :: _, [], _, _, _, _, _, e, _, _, _ => by simp [setWs] at e
theorem gTs_len : ∀ {l : List Nat} {q : List W} {ws ws' : Loc}, setWs l q ws = some ws' → q.length = l.length
  | [], [], _, _, _ => rfl
  | i :: l, w :: q, ws, ws', e => by
    simp only [setWs] at e
    split at e
    · rw [List.length_cons, List.length_cons, gTs_len e]
    · cases e
  | [], _ :: _, _, _, e => by simp [setWs] at e
  | _ :: _, [], _, _, e => by simp [setWs] at e
theorem gT_ok {g : Tg} {w : W} {v : V} {ws ws' : Loc} {σ : L2.St} {Q : L2.St → Hp → Prop} (e : setT g w ws = some ws') (h : RW K H Z mu w v) (r : RL K Z mu H ws σ)
    (k : ∀ σ', RL K Z mu H ws' σ' → (∀ us : List Nat, (∀ i ∈ g.slots, i ∈ us) → L2.wipe σ' us = L2.wipe σ us) → Q σ' H) : gT K g v σ H Q := by
  cases g with
  | nm i => exact k _ (r.setW e h) fun us hu => wipe_set (hu i (by simp [Tg.slots]))
  | tp l =>
    simp only [setT] at e
    split at e
    · rename_i q e1
      obtain ⟨a, vs, rfl, h1, h2⟩ := RW.tupOf e1 h
      exact ⟨a, vs, rfl, h1, by rw [← h2.length, gTs_len e], gTs_ok e h2 r k⟩
    · cases e
end

/-! ### what is walked -/
def iSeq (K : PySem.W.Frag) (te : TE) : TI := fun σ H R => te σ H fun x H1 =>
  (∃ a, x = .ref a ∧ (∃ xs, SqL K H1 a xs) ∧ R (Itl K a) H1) ∨ (∃ a, x = .ref a ∧ (∃ xs, SqT K H1 a xs) ∧ R (Itt K a) H1) ∨ (∃ z, x = .str z ∧ R (Its z) H1)
theorem pi_any {X : Cx} {tg e : Expr} {te : TE} (he : PE X e te) : PI X tg e (iSeq X.K te) := by
  refine ⟨fun pins s σ H R I h => ?_⟩
  refine thn (he.run pins s σ H _ I h) fun v s1 hq => ?_
  obtain ⟨y, H1, I1, r1, hq⟩ := hq
  rcases hq with ⟨a, rfl, ⟨xs, hx⟩, q⟩ | ⟨a, rfl, ⟨xs, hx⟩, q⟩ | ⟨z, rfl, q⟩
  · cases r1
    obtain ⟨its, _, pl, _⟩ := I1.list hx
    exact wpAny_pyIter_list pl.isList (pi_one (tk := s1.toks) I1 _ (turn_list a _) ⟨_, Heap.get?_push_size _ rfl, rfl, rfl⟩ q)
  · cases r1
    obtain ⟨its, _, pl, _⟩ := I1.tuple hx
    exact wpAny_pyIter_tuple (items := its.toArray) pl (pi_one (tk := s1.toks) I1 _ (turn_tuple a _) ⟨_, Heap.get?_push_size _ rfl, rfl, rfl⟩ q)
  · obtain ⟨t, rfl⟩ := r1
    cases ha : z.cps.all (· < 128)
    · exact wpAny_pyIter_wide ha (pi_one (tk := s1.toks) I1 _ (turn_str _ z t "str_iterator" (.inr rfl)) ⟨_, Heap.get?_push_size _ rfl, rfl, rfl⟩ q)
    · exact wpAny_pyIter_ascii ha (pi_one (tk := s1.toks) I1 _ (turn_str _ z t "str_ascii_iterator" (.inl rfl)) ⟨_, Heap.get?_push_size _ rfl, rfl, rfl⟩ q)

section
variable {K : PySem.W.Frag} {Z : Frz} {mu : List Addr} {H : Hp} {S : Sto}
theorem gives_sq {J : L2.It} {a : Addr} {l : List W} {q : List Nat} {Sq : Hp → List V → Prop}
    (hg : ∀ i H, (∃ xs x, Sq H xs ∧ xs[i]? = some x) → J.go i H) (hs : ∀ i H, (∃ xs, Sq H xs ∧ xs.length ≤ i) → J.stop i H) (hy : ∀ i H x H', J.yld i H x H' → H' = H ∧ ∀ xs, Sq H xs → xs[i]? = some x)
    (k : ∀ mu2 H2 S2, mu <+: mu2 → Ext H H2 → RS K Z mu2 H2 S2 → (∀ j ∈ q, S2[j]? = S[j]?) → ∃ vs, Sq H2 vs ∧ RWs K H2 Z mu2 l vs) : Gives K Z J l q mu H S := by
  intro i mu2 H2 S2 hm he r hq
  obtain ⟨vs, h1, h2⟩ := k mu2 H2 S2 hm he r hq
  refine ⟨fun hl => hs i H2 ⟨vs, h1, by rw [← h2.length]; exact hl⟩, fun w hw => ?_⟩
  obtain ⟨v, h3, h4⟩ := h2.get hw
  refine ⟨hg i H2 ⟨vs, v, h1, h3⟩, fun x H3 y => ?_⟩
  obtain ⟨rfl, y2⟩ := hy i H2 x H3 y
  have := y2 vs h1
  rw [h3] at this
  cases this
  exact ⟨r, Ext.refl _, h4⟩
theorem gives_list {n : Nat} {l : List W} {a : Addr} (ha : mu[n]? = some a) (e : getL S n = some l) : Gives K Z (Itl K a) l [n] mu H S :=
  gives_sq (a := a) (Sq := fun H xs => SqL K H a xs) (fun i H h => h) (fun i H h => h) (fun i H x H' h => h) fun mu2 H2 S2 hm he r hq => by
    have e2 : S2[n]? = some (.lst l) := (hq n (by simp)).trans (getL_some e)
    obtain ⟨b, vs, q1, q2, q3⟩ := r.ob n l e2
    rw [pre_get hm ha] at q1; cases q1
    exact ⟨vs, SqL.of q2, q3⟩
theorem gives_lv {l : List PyData} {a : Addr} {vs : List V} (h : RdL K Z H a vs) (g : RDs K H l vs) : Gives K Z (Itl K a) (l.map .d) [] mu H S :=
  gives_sq (a := a) (Sq := fun H xs => SqL K H a xs) (fun i H h => h) (fun i H h => h) (fun i H x H' h => h) fun mu2 H2 S2 hm he r hq => ⟨vs, r.rdL (he.rdL h), RWs.mapD.mpr (g.mono he)⟩
theorem gives_tup {l : List W} {a : Addr} {vs : List V} (h : SqT K H a vs) (g : RWs K H Z mu l vs) : Gives K Z (Itt K a) l [] mu H S :=
  gives_sq (a := a) (Sq := fun H xs => SqT K H a xs) (fun i H h => h) (fun i H h => h) (fun i H x H' h => h) fun mu2 H2 S2 hm he r hq => ⟨vs, he.sqT h, g.mono he hm⟩
theorem gives_str {z : Str} : Gives K Z (Its z) (z.cps.toList.map (fun c => .d (.str ⟨#[c]⟩))) [] mu H S := by
  intro i mu2 H2 S2 hm he r hq
  refine ⟨fun hl => ?_, fun w hw => ?_⟩
  · show z.cps.size ≤ i
    rw [List.length_map, Array.length_toList] at hl
    exact hl
  · rw [List.getElem?_map] at hw
    obtain ⟨c, e1, e2⟩ := Option.map_eq_some_iff.mp hw
    have e3 : z.cps[i]? = some c := by rw [← Array.getElem?_toList]; exact e1
    refine ⟨?_, fun x H3 y => ?_⟩
    · show i < z.cps.size
      rw [← Array.length_toList]
      exact (List.getElem?_eq_some_iff.mp e1).1
    · obtain ⟨rfl, c', y1, y2⟩ := y
      rw [e3] at y1; cases y1
      subst e2
      exact ⟨r, Ext.refl _, rw_str.mpr y2⟩
theorem gives_rng {n : Nat} : Gives K Z (Itr 0 n) ((List.range n).map (fun (i : Nat) => W.d (.int (i : Int)))) [] mu H S := by
  intro i mu2 H2 S2 hm he r hq
  refine ⟨fun hl => ?_, fun w hw => ?_⟩
  · show n ≤ i
    rw [List.length_map, List.length_range] at hl
    exact hl
  · rw [List.getElem?_map] at hw
    obtain ⟨c, e1, e2⟩ := Option.map_eq_some_iff.mp hw
    have hlt : i < n := by
      have := (List.getElem?_eq_some_iff.mp e1).1
      rwa [List.length_range] at this
    rw [List.getElem?_range hlt] at e1
    cases e1
    refine ⟨hlt, fun x H3 y => ?_⟩
    obtain ⟨rfl, y2⟩ := y
    subst e2
    exact ⟨r, Ext.refl _, rw_int.mpr (by rw [y2, Int.zero_add])⟩
theorem gives_rngC {n : Nat} {lo c : Int} : Gives K Z (Itc lo c n) ((List.range n).map (fun (i : Nat) => W.d (.int (lo + (i : Int) * c)))) [] mu H S := by
  intro i mu2 H2 S2 hm he r hq
  refine ⟨fun hl => ?_, fun w hw => ?_⟩
  · show n ≤ i
    rw [List.length_map, List.length_range] at hl
    exact hl
  · rw [List.getElem?_map] at hw
    obtain ⟨m, e1, e2⟩ := Option.map_eq_some_iff.mp hw
    have hlt : i < n := by
      have := (List.getElem?_eq_some_iff.mp e1).1
      rwa [List.length_range] at this
    rw [List.getElem?_range hlt] at e1
    cases e1
    refine ⟨hlt, fun x H3 y => ?_⟩
    obtain ⟨rfl, y2⟩ := y
    subst e2
    exact ⟨r, Ext.refl _, rw_int.mpr y2⟩
theorem gives_zip {l m : List W} {a b : Addr} {vs us : List V} (h1 : SqT K H a vs) (g1 : RWs K H Z mu l vs) (h2 : SqT K H b us) (g2 : RWs K H Z mu m us) : Gives K Z (RZ.ItzT K a b) ((l.zip m).map (fun q => mkT [q.1, q.2])) [] mu H S := by
  intro i mu2 H2 S2 hm he r hq
  have t1 := he.sqT h1
  have t2 := he.sqT h2
  have k1 := g1.mono he hm
  have k2 := g2.mono he hm
  refine ⟨fun hl => ?_, fun w hw => ?_⟩
  · refine ⟨vs, us, t1, t2, ?_⟩
    rw [List.length_map, List.length_zip] at hl
    rw [← k1.length, ← k2.length]
    omega
  · rw [List.getElem?_map] at hw
    obtain ⟨⟨w1, w2⟩, e1, e2⟩ := Option.map_eq_some_iff.mp hw
    obtain ⟨e3, e4⟩ := List.getElem?_zip_eq_some.mp e1
    obtain ⟨v1, f1, f2⟩ := k1.get e3
    obtain ⟨v2, f3, f4⟩ := k2.get e4
    refine ⟨⟨vs, us, v1, v2, t1, t2, f1, f3⟩, fun x H3 y => ?_⟩
    obtain ⟨T, x1, x2, rfl, hT, rfl, y1, y2⟩ := y
    have z1 := y1 vs t1
    have z2 := y2 us t2
    rw [f1] at z1; cases z1
    rw [f3] at z2; cases z2
    have ext : Ext H2 (upd H2 T (.tup [v1, v2])) := Ext.new hT
    refine ⟨r.other hT, ext, ?_⟩
    subst e2
    exact RW.mkT (RWs.cons (f2.mono ext (List.prefix_refl _)) (RWs.cons (f4.mono ext (List.prefix_refl _)) (RWs.nil_iff.mpr rfl))) (SqT.of upd_same)
end
section
variable {K : PySem.W.Frag} {cl : CallT} {σ : L2.St} {H : Hp} {R : L2.It → Hp → Prop}
theorem i_seq {a : Ex} (h : tDI K cl (.seq a) σ H R) : iSeq K (tD K cl a) σ H R := by
  obtain ⟨Z, p, ws, mu, S, items, q, S', hL, hS, he, hR⟩ := h
  simp only [evi] at he
  obtain ⟨⟨w1, S1⟩, h1, h2⟩ := ev_bind he
  refine ⟨Z, p, ws, mu, S, w1, S1, hL, hS, h1, fun v H1 mu1 m1 e1 s1 r1 => ?_⟩
  dsimp only at h2
  split at h2
  · split at h2
    · cases h2
      exact .inr (.inr ⟨_, rw_str.mp r1, hR _ _ _ m1 e1 s1 (fun j hj => absurd hj (by simp)) gives_str⟩)
    · cases h2
  · rename_i n
    split at h2
    · rename_i l e
      cases h2
      simp only [RW] at r1
      obtain ⟨b, b1, rfl⟩ := r1
      obtain ⟨b', vs, q1, q2, _⟩ := s1.getL e
      rw [b1] at q1; cases q1
      refine .inl ⟨b, rfl, ⟨vs, SqL.of q2⟩, hR _ _ _ m1 e1 s1 (fun j hj => ?_) (gives_list b1 e)⟩
      have : j = n := by simpa using hj
      subst this
      exact (List.getElem?_eq_some_iff.mp (getL_some e)).1
    · cases h2
  · cases h2
    simp only [RW] at r1
    obtain ⟨b, vs, rfl, b1, b2⟩ := r1
    exact .inl ⟨b, rfl, ⟨vs, s1.rdL b1⟩, hR _ _ _ m1 e1 s1 (fun j hj => absurd hj (by simp)) (gives_lv b1 b2)⟩
  · split at h2
    · rename_i l e
      cases h2
      obtain ⟨b, vs, rfl, b1, b2⟩ := RW.tupOf e r1
      exact .inr (.inl ⟨b, rfl, ⟨vs, b1⟩, hR _ _ _ m1 e1 s1 (fun j hj => absurd hj (by simp)) (gives_tup b1 b2)⟩)
    · cases h2
theorem i_rng1 {a : Ex} (h : tDI K cl (.rng1 a) σ H R) : iRng1 (tCons (tD K cl a) tNil) σ H R := by
  obtain ⟨Z, p, ws, mu, S, items, q, S', hL, hS, he, hR⟩ := h
  simp only [evi] at he
  obtain ⟨⟨w1, S1⟩, h1, h2⟩ := ev_bind he
  refine ⟨Z, p, ws, mu, S, w1, S1, hL, hS, h1, fun v H1 mu1 m1 e1 s1 r1 => ?_⟩
  dsimp only at h2
  split at h2
  · split at h2
    · rename_i n hn
      cases h2
      exact ⟨n, by rw [rw_int.mp r1], by omega, by omega, hR _ _ _ m1 e1 s1 (fun j hj => absurd hj (by simp)) gives_rng⟩
    · cases h2
  · cases h2
theorem i_rng3 {a b c : Ex} (h : tDI K cl (.rng3 a b c) σ H R) : iRng3 (tCons (tD K cl a) (tCons (tD K cl b) (tCons (tD K cl c) tNil))) σ H R := by
  obtain ⟨Z, p, ws, mu, S, items, q, S', hL, hS, he, hR⟩ := h
  simp only [evi] at he
  obtain ⟨⟨w1, S1⟩, h1, h2⟩ := ev_bind he
  obtain ⟨⟨w2, S2⟩, h3, h4⟩ := ev_bind h2
  obtain ⟨⟨w3, S3⟩, h5, h6⟩ := ev_bind h4
  refine ⟨Z, p, ws, mu, S, w1, S1, hL, hS, h1, fun v H1 mu1 m1 e1 s1 r1 => ⟨Z, p, ws, mu1, S1, w2, S2, hL.mono e1 m1, s1, h3, fun v2 H2 mu2 m2 e2 s2 r2 =>
    ⟨Z, p, ws, mu2, S2, w3, S3, hL.mono (e1.trans e2) (m1.trans m2), s2, h5, fun v3 H3 mu3 m3 e3 s3 r3 => ?_⟩⟩⟩
  dsimp only at h6
  split at h6
  · rename_i i j k
    split at h6
    · rename_i hk
      obtain ⟨rfl, hi, hj⟩ := hk
      cases h6
      rw [rw_int] at r1 r2 r3
      subst r1; subst r2; subst r3
      exact ⟨i, j, -1, _, rfl, RgC.neg (by omega) (by omega) (by omega) (by omega), hR _ _ _ (m1.trans (m2.trans m3)) (e1.trans (e2.trans e3)) s3 (fun j hj => absurd hj (by simp)) gives_rngC⟩
    · cases h6
  · cases h6
theorem i_zip {a b : Ex} (h : tDI K cl (.zip a b) σ H R) : RZ.iZipA K (tCons (tD K cl a) (tCons (tD K cl b) tNil)) σ H R := by
  obtain ⟨Z, p, ws, mu, S, items, q, S', hL, hS, he, hR⟩ := h
  simp only [evi] at he
  obtain ⟨⟨w1, S1⟩, h1, h2⟩ := ev_bind he
  obtain ⟨⟨w2, S2⟩, h3, h4⟩ := ev_bind h2
  refine ⟨Z, p, ws, mu, S, w1, S1, hL, hS, h1, fun v H1 mu1 m1 e1 s1 r1 => ⟨Z, p, ws, mu1, S1, w2, S2, hL.mono e1 m1, s1, h3, fun v2 H2 mu2 m2 e2 s2 r2 => ?_⟩⟩
  dsimp only at h4
  split at h4
  · rename_i l f1
    split at h4
    · rename_i m f2
      cases h4
      obtain ⟨b1, vs, rfl, t1, t2⟩ := RW.tupOf f1 (r1.mono e2 m2)
      obtain ⟨b2, us, rfl, t3, t4⟩ := RW.tupOf f2 r2
      exact ⟨b1, b2, vs, us, rfl, .inr ⟨t1, t3, hR _ _ _ (m1.trans m2) (e1.trans e2) s2 (fun j hj => absurd hj (by simp)) (gives_zip t1 t2 t3 t4)⟩⟩
    · cases h4
  · cases h4
end

/-! ### comprehensions -/
section
variable {K : PySem.W.Frag} {cl : CallT} {σ : L2.St} {H : Hp} {Q : VK}
theorem addL_none {k : Nat} {S S' : Sto} (h : addL k none S = some S') : S' = S := by simp only [addL] at h; cases h; rfl
theorem addL_some {k : Nat} {w : W} {S S' : Sto} (h : addL k (some w) S = some S') : ∃ acc, getL S k = some acc ∧ acc.length < capN ∧ S' = S.set k (.lst (acc ++ [w])) := by
  simp only [addL] at h
  split at h
  · rename_i acc e
    split at h
    · cases h; exact ⟨acc, e, by assumption, rfl⟩
    · cases h
  · cases h
/-- a turn's item goes to the new list -/
theorem item_in {Z : Frz} {mu1 mu : List Addr} {S S' : Sto} {D : Addr} {k : Nat} {w : W} {v : V} {H : Hp} (hk : mu1[k]? = some D) (pre : mu1 <+: mu) (r : RS K Z mu H S) (h : RW K H Z mu w v) (c : addL k (some w) S = some S') :
    ∃ acc, H D = some (.lst acc) ∧ acc.length < sizeLine ∧ RS K Z mu (upd H D (.lst (acc ++ [v]))) S' ∧ Ext H (upd H D (.lst (acc ++ [v]))) := by
  obtain ⟨acc, a1, a2, rfl⟩ := addL_some c
  obtain ⟨b, vs, b1, b2, b3⟩ := r.getL a1
  rw [pre_get pre hk] at b1; cases b1
  exact ⟨vs, b2, cap_lt (by rw [← b3.length]; exact a2), r.set (getL_some a1) (pre_get pre hk) b2 (b3.append (RWs.cons h (RWs.nil_iff.mpr rfl))), Ext.set b2⟩

theorem i_lc {it : DV.It} {g : Tg} {own : List Nat} {t e : Ex} (hcl : ClKeep cl) (hg : ∀ i ∈ g.slots, i ∈ own) (h : tD K cl (.lc it g own t e) σ H Q) :
    tLc (tDI K cl it) (gT K g) (tDT K cl t) (tD K cl e) own σ H Q := by
  obtain ⟨Z, p, ws, mu, S, w, S', hL, hS, he, hQ⟩ := h
  simp only [ev] at he
  obtain ⟨⟨items, q, S1⟩, h1, h2⟩ := ev_bind he
  obtain ⟨Sf, h3, h4⟩ := ev_bind h2
  dsimp only at h3 h4
  cases h4
  refine ⟨Z, p, ws, mu, S, items, q, S1, hL, hS, h1, fun J H1 mu1 m1 e1 s1 hq hG D hD => ?_⟩
  have hk : (mu1 ++ [D])[S1.length]? = some D := s1.last D
  have pre1 : mu1 <+: mu1 ++ [D] := List.prefix_append _ _
  refine ⟨fun i m H2 => m = items.length - i ∧ i ≤ items.length ∧ ∃ mu2 S2, mu1 ++ [D] <+: mu2 ∧ Ext H1 H2 ∧ RS K Z mu2 H2 S2 ∧ Keep (q ++ p) S1.length S1 S2 ∧ compL _ S1.length (items.drop i) S2 = some S',
    ⟨items.length, rfl, Nat.zero_le _, mu1 ++ [D], S1 ++ [.lst []], List.prefix_refl _, Ext.new hD, s1.alloc hD (RWs.nil_iff.mpr rfl), Keep.push (Nat.le_refl _), h3⟩, ?_⟩
  rintro i m H2 ⟨rfl, hi, mu2, S2, pre, ext, r2, kp, hc⟩
  obtain ⟨hstop, hgo⟩ := hG i mu2 H2 S2 (pre1.trans pre) ext r2 fun j hj => kp.at' j (List.mem_append_left _ hj) (hq j hj)
  by_cases hlt : i < items.length
  · obtain ⟨go, yl⟩ := hgo items[i] (List.getElem?_eq_getElem hlt)
    refine .inr ⟨go, fun H' => ∃ mu3 S3, mu1 ++ [D] <+: mu3 ∧ Ext H1 H' ∧ RS K Z mu3 H' S3 ∧ Keep (q ++ p) S1.length S1 S3 ∧ compL _ S1.length (items.drop (i + 1)) S3 = some S',
      fun H' hw => ⟨items.length - (i + 1), by omega, rfl, hlt, hw⟩, fun x H3 hy => ?_⟩
    obtain ⟨r3, e3, rx⟩ := yl x H3 hy
    rw [List.drop_eq_getElem_cons hlt] at hc
    simp only [compL] at hc
    obtain ⟨⟨o, S3⟩, c1, c2⟩ := ev_bind hc
    obtain ⟨S4, c3, c4⟩ := ev_bind c2
    obtain ⟨ws', f1, f2⟩ := ev_bind c1
    obtain ⟨⟨wb, Sb⟩, f3, f4⟩ := ev_bind f2
    have ex1 : Ext H1 H3 := ext.trans e3
    have hb : S1.length ≤ S2.length := kp.len
    have k1 := kp.trans (ev_keep hcl t _ ws' S2 wb Sb S1.length hb f3)
    refine gT_ok f1 rx ((hL.mono (e1.trans ex1) (m1.trans (pre1.trans pre))).wipe own) fun σ2 hL2 hw2 => ⟨(hw2 own hg).trans (wipe_wipe σ own), ?_⟩
    dsimp only at f4
    split at f4
    · rename_i eb
      obtain ⟨⟨we, Se⟩, f5, f6⟩ := ev_bind f4
      cases f6
      refine ⟨Z, q ++ p, ws', mu2, S2, true, Sb, hL2, r3, evT_of f3 eb, fun H4 mu4 m4 e4 s4 => iteT ?_⟩
      refine ⟨Z, q ++ p, ws', mu4, Sb, we, _, hL2.mono e4 m4, s4, f5, fun v H5 mu5 m5 e5 s5 r5 => ?_⟩
      obtain ⟨acc, b1, b2, b3, b4⟩ := item_in hk (pre.trans (m4.trans m5)) s5 r5 c3
      have k2 := (k1.trans (ev_keep hcl e _ ws' Sb we _ S1.length k1.len f5)).trans (addL_keep c3 (Nat.le_refl _))
      exact ⟨acc, b1, b2, mu5, S4, pre.trans (m4.trans m5), ex1.trans (e4.trans (e5.trans b4)), b3, k2, c4⟩
    · rename_i eb
      cases f4
      have := addL_none c3
      subst this
      refine ⟨Z, q ++ p, ws', mu2, S2, false, _, hL2, r3, evT_of f3 eb, fun H4 mu4 m4 e4 s4 => iteF ?_⟩
      exact ⟨mu4, _, pre.trans m4, ex1.trans e4, s4, k1, c4⟩
    · cases f4
  · have hi2 : i = items.length := by omega
    refine .inl ⟨hstop (by omega), ?_⟩
    rw [hi2, List.drop_length] at hc
    simp only [compL] at hc
    cases hc
    exact hQ _ _ _ (m1.trans (pre1.trans pre)) (e1.trans ext) r2 (by simp only [RW]; exact ⟨D, pre_get pre hk, rfl⟩)
end
end DV

namespace DV
open PySem L2 PyProof.Rows
section
variable {K : PySem.W.Frag} {cl : CallT} {σ : L2.St} {H : Hp} {Q : VK}
theorem i_lc2 {it it1 : DV.It} {g g1 : Tg} {own : List Nat} {t t1 e : Ex} (hcl : ClKeep cl) (hg : ∀ i ∈ g.slots, i ∈ own) (h : tD K cl (.lc2 it g t it1 g1 own g1.slots t1 e) σ H Q) :
    tLc2 (tDI K cl it) (gT K g) (tDT K cl t) (tDI K cl it1) (gT K g1) (tDT K cl t1) (tD K cl e) own g1.slots σ H Q := by
  obtain ⟨Z, p, ws, mu, S, w, S', hL, hS, he, hQ⟩ := h
  simp only [ev] at he
  obtain ⟨⟨items, q, S1⟩, h1, h2⟩ := ev_bind he
  obtain ⟨Sf, h3, h4⟩ := ev_bind h2
  dsimp only at h3 h4
  cases h4
  refine ⟨Z, p, ws, mu, S, items, q, S1, hL, hS, h1, fun J H1 mu1 m1 e1 s1 hq hG D hD => ?_⟩
  have hk : (mu1 ++ [D])[S1.length]? = some D := s1.last D
  have pre1 : mu1 <+: mu1 ++ [D] := List.prefix_append _ _
  refine ⟨fun i m H2 => m = items.length - i ∧ i ≤ items.length ∧ ∃ mu2 S2, mu1 ++ [D] <+: mu2 ∧ Ext H1 H2 ∧ RS K Z mu2 H2 S2 ∧ Keep (q ++ p) S1.length S1 S2 ∧ compO _ (items.drop i) S2 = some S',
    ⟨items.length, rfl, Nat.zero_le _, mu1 ++ [D], S1 ++ [.lst []], List.prefix_refl _, Ext.new hD, s1.alloc hD (RWs.nil_iff.mpr rfl), Keep.push (Nat.le_refl _), h3⟩, ?_⟩
  rintro i m H2 ⟨rfl, hi, mu2, S2, pre, ext, r2, kp, hc⟩
  obtain ⟨hstop, hgo⟩ := hG i mu2 H2 S2 (pre1.trans pre) ext r2 fun j hj => kp.at' j (List.mem_append_left _ hj) (hq j hj)
  by_cases hlt : i < items.length
  · obtain ⟨go, yl⟩ := hgo items[i] (List.getElem?_eq_getElem hlt)
    refine .inr ⟨go, fun H' => ∃ mu3 S3, mu1 ++ [D] <+: mu3 ∧ Ext H1 H' ∧ RS K Z mu3 H' S3 ∧ Keep (q ++ p) S1.length S1 S3 ∧ compO _ (items.drop (i + 1)) S3 = some S',
      fun H' hw => ⟨items.length - (i + 1), by omega, rfl, hlt, hw⟩, fun x H3 hy => ?_⟩
    obtain ⟨r3, e3, rx⟩ := yl x H3 hy
    rw [List.drop_eq_getElem_cons hlt] at hc
    simp only [compO] at hc
    obtain ⟨S4, c1, c4⟩ := ev_bind hc
    obtain ⟨ws', f1, f2⟩ := ev_bind c1
    obtain ⟨⟨wb, Sb⟩, f3, f4⟩ := ev_bind f2
    have ex1 : Ext H1 H3 := ext.trans e3
    have hb : S1.length ≤ S2.length := kp.len
    have k1 := kp.trans (ev_keep hcl t _ ws' S2 wb Sb S1.length hb f3)
    refine gT_ok f1 rx ((hL.mono (e1.trans ex1) (m1.trans (pre1.trans pre))).wipe own) fun σ2 hL2 hw2 => ⟨(hw2 own hg).trans (wipe_wipe σ own), ?_⟩
    dsimp only at f4
    split at f4
    · rename_i eb
      obtain ⟨⟨items1, q1, Sj⟩, f5, f6⟩ := ev_bind f4
      refine ⟨Z, q ++ p, ws', mu2, S2, true, Sb, hL2, r3, evT_of f3 eb, fun H4 mu4 m4 e4 s4 => iteT ?_⟩
      refine ⟨Z, q ++ p, ws', mu4, Sb, items1, q1, Sj, hL2.mono e4 m4, s4, f5, fun J1 H5 mu5 m5 e5 s5 hq1 hG1 => ?_⟩
      have k2 := k1.trans (evi_keep hcl it1 _ ws' Sb items1 q1 Sj S1.length k1.len f5)
      dsimp only at f6
      split at f6
      · cases f6
      rename_i hcont
      have hnot : S1.length ∉ q1 := not_mem_of hcont
      refine ⟨fun j m H6 => m = items1.length - j ∧ j ≤ items1.length ∧ ∃ mu6 S6, mu5 <+: mu6 ∧ Ext H5 H6 ∧ RS K Z mu6 H6 S6 ∧ Keep (q ++ p) S1.length S1 S6 ∧ Keep (q1 ++ (q ++ p)) S1.length Sj S6 ∧ (∀ y ∈ q1, S6[y]? = Sj[y]?) ∧ compL _ S1.length (items1.drop j) S6 = some S4,
        ⟨items1.length, rfl, Nat.zero_le _, mu5, Sj, List.prefix_refl _, Ext.refl _, s5, k2, Keep.refl _ _ _, fun _ _ => rfl, f6⟩, ?_⟩
      rintro j m H6 ⟨rfl, hj, mu6, S6, pre6, ext6, r6, kp6, kq6, kr6, hc6⟩
      obtain ⟨hstop1, hgo1⟩ := hG1 j mu6 H6 S6 pre6 ext6 r6 kr6
      have preD : mu1 ++ [D] <+: mu6 := pre.trans (m4.trans (m5.trans pre6))
      by_cases hlt1 : j < items1.length
      · obtain ⟨go1, yl1⟩ := hgo1 items1[j] (List.getElem?_eq_getElem hlt1)
        refine .inr ⟨go1, fun H' => ∃ mu7 S7, mu5 <+: mu7 ∧ Ext H5 H' ∧ RS K Z mu7 H' S7 ∧ Keep (q ++ p) S1.length S1 S7 ∧ Keep (q1 ++ (q ++ p)) S1.length Sj S7 ∧ (∀ y ∈ q1, S7[y]? = Sj[y]?) ∧ compL _ S1.length (items1.drop (j + 1)) S7 = some S4,
          fun H' hw => ⟨items1.length - (j + 1), by omega, rfl, hlt1, hw⟩, fun x1 H7 hy1 => ?_⟩
        obtain ⟨r7, e7, rx1⟩ := yl1 x1 H7 hy1
        rw [List.drop_eq_getElem_cons hlt1] at hc6
        simp only [compL] at hc6
        obtain ⟨⟨o, S8⟩, d1, d2⟩ := ev_bind hc6
        obtain ⟨S9, d3, d4⟩ := ev_bind d2
        obtain ⟨ws2, g1', g2⟩ := ev_bind d1
        obtain ⟨⟨wt, St⟩, g3, g4⟩ := ev_bind g2
        have ex7 : Ext H5 H7 := ext6.trans e7
        have hb6 : Sj.length ≤ S6.length := kq6.len
        have hb7 : S1.length ≤ S6.length := kp6.len
        have n1 := ev_keep hcl t1 _ ws2 S6 wt St S1.length hb7 g3
        have n1' := ev_keep hcl t1 _ ws2 S6 wt St Sj.length hb6 g3
        refine gT_ok g1' rx1 ((hL2.mono (e4.trans (e5.trans ex7)) (m4.trans (m5.trans pre6))).wipe g1.slots) fun σ3 hL3 hw3 => ⟨(hw3 g1.slots fun _ z => z).trans (wipe_wipe _ _), ?_⟩
        have notk : ∀ (y : Nat), y ∈ q1 → y ≠ S1.length ∨ True := fun _ _ => .inr trivial
        dsimp only at g4
        split at g4
        · rename_i ebt
          obtain ⟨⟨we, Se⟩, g5, g6⟩ := ev_bind g4
          cases g6
          refine ⟨Z, q1 ++ (q ++ p), ws2, mu6, S6, true, St, hL3, r7, evT_of g3 ebt, fun Ha mua ma ea sa => iteT ?_⟩
          refine ⟨Z, q1 ++ (q ++ p), ws2, mua, St, we, _, hL3.mono ea ma, sa, g5, fun v Hb mub mb eb' sb rb => ?_⟩
          obtain ⟨acc, b1, b2, b3, b4⟩ := item_in hk (preD.trans (ma.trans mb)) sb rb d3
          have n2 := n1.trans (ev_keep hcl e _ ws2 St we _ S1.length (Nat.le_trans hb7 n1.len) g5)
          have n2' := n1'.trans (ev_keep hcl e _ ws2 St we _ Sj.length (Nat.le_trans hb6 n1'.len) g5)
          obtain ⟨acc', a1, a2, a3⟩ := addL_some d3
          refine ⟨acc, b1, b2, mub, S9, pre6.trans (ma.trans mb), ex7.trans (ea.trans (eb'.trans b4)), b3, ?_, ?_, fun y hy => ?_, d4⟩
          · exact kp6.trans ((n2.sub sub_app (Nat.le_refl _)).trans (addL_keep d3 (Nat.le_refl _)))
          · exact kq6.trans (n2.trans (addL_keep d3 (Nat.le_refl _)))
          · have hyl : y < Sj.length := hq1 y hy
            have e9 := n2'.at' y (List.mem_append_left _ hy) hyl
            rw [a3]
            by_cases hyk : y = S1.length
            · exact absurd (hyk ▸ hy) hnot
            · rw [List.getElem?_set_ne (fun z => hyk z.symm), e9]
              exact kr6 y hy
        · rename_i ebt
          cases g4
          have := addL_none d3
          subst this
          refine ⟨Z, q1 ++ (q ++ p), ws2, mu6, S6, false, _, hL3, r7, evT_of g3 ebt, fun Ha mua ma ea sa => iteF ?_⟩
          exact ⟨mua, _, pre6.trans ma, ex7.trans ea, sa, kp6.trans (n1.sub sub_app (Nat.le_refl _)), kq6.trans n1, fun y hy => (n1'.at' y (List.mem_append_left _ hy) (hq1 y hy)).trans (kr6 y hy), d4⟩
        · cases g4
      · have hj2 : j = items1.length := by omega
        refine .inl ⟨hstop1 (by omega), ?_⟩
        rw [hj2, List.drop_length] at hc6
        simp only [compL] at hc6
        cases hc6
        exact ⟨mu6, _, preD, ex1.trans (e4.trans (e5.trans ext6)), r6, kp6, c4⟩
    · rename_i eb
      cases f4
      refine ⟨Z, q ++ p, ws', mu2, S2, false, _, hL2, r3, evT_of f3 eb, fun H4 mu4 m4 e4 s4 => iteF ?_⟩
      exact ⟨mu4, _, pre.trans m4, ex1.trans e4, s4, k1, c4⟩
    · cases f4
  · have hi2 : i = items.length := by omega
    refine .inl ⟨hstop (by omega), ?_⟩
    rw [hi2, List.drop_length] at hc
    simp only [compO] at hc
    cases hc
    exact hQ _ _ _ (m1.trans (pre1.trans pre)) (e1.trans ext) r2 (by simp only [RW]; exact ⟨D, pre_get pre hk, rfl⟩)
end
end DV
/-! DVStm: statements: from the evaluator's run to the rule's reading. -/
namespace DV
open PySem L2 PyProof.Rows
section
variable {K : PySem.W.Frag} {cl : CallT} {L : Nat} {σ : L2.St} {H : Hp} {D : Ends}
theorem AfterS.mono {Z : Frz} {mu mu' : List Addr} {H H' : Hp} {r : Fl × Loc × Sto} (a : AfterS K Z mu H r D) (hm : mu <+: mu') (e : Ext H H') : AfterS K Z mu' H' r D :=
  fun σ' H2 mu2 h1 h2 h3 h4 => a σ' H2 mu2 (hm.trans h1) (e.trans h2) h3 h4
theorem j_expr {e : Ex} (h : tDS K cl L (.expr e) D σ H) : tDrop (tD K cl e) D σ H := by
  obtain ⟨Z, p, ws, mu, S, r, hL, hS, he, hQ⟩ := h
  simp only [exS] at he
  obtain ⟨⟨w1, S1⟩, h1, h2⟩ := ev_bind he
  cases h2
  exact ⟨Z, p, ws, mu, S, w1, S1, hL, hS, h1, fun v H1 mu1 m1 e1 s1 r1 => hQ σ H1 mu1 m1 e1 s1 (hL.mono e1 m1)⟩
theorem j_asg {g : Tg} {e : Ex} (h : tDS K cl L (.asg g e) D σ H) : tAsg (tD K cl e) (gT K g) D σ H := by
  obtain ⟨Z, p, ws, mu, S, r, hL, hS, he, hQ⟩ := h
  simp only [exS] at he
  obtain ⟨⟨w1, S1⟩, h1, h2⟩ := ev_bind he
  obtain ⟨ws', h3, h4⟩ := ev_bind h2
  cases h4
  exact ⟨Z, p, ws, mu, S, w1, S1, hL, hS, h1, fun v H1 mu1 m1 e1 s1 r1 => gT_ok h3 r1 (hL.mono e1 m1) fun σ' hL' _ => hQ σ' H1 mu1 m1 e1 s1 hL'⟩
theorem j_asgIx {o i e : Ex} (h : tDS K cl L (.asgIx o i e) D σ H) : tAsg (tD K cl e) (gSub (tD K cl o) (tD K cl i) (fun o i v H Q => ∃ z : Frz × List Nat, rSet K z.1 z.2 o i v H Q)) D σ H := by
  obtain ⟨Z, p, ws, mu, S, r, hL, hS, he, hQ⟩ := h
  simp only [exS] at he
  obtain ⟨⟨w1, S1⟩, h1, h2⟩ := ev_bind he
  obtain ⟨⟨w2, S2⟩, h3, h4⟩ := ev_bind h2
  obtain ⟨⟨w3, S3⟩, h5, h6⟩ := ev_bind h4
  obtain ⟨S4, h7, h8⟩ := ev_bind h6
  cases h8
  exact ⟨Z, p, ws, mu, S, w1, S1, hL, hS, h1, fun v H1 mu1 m1 e1 s1 r1 => ⟨Z, p, ws, mu1, S1, w2, S2, hL.mono e1 m1, s1, h3, fun v2 H2 mu2 m2 e2 s2 r2 =>
    ⟨Z, p, ws, mu2, S2, w3, S3, hL.mono (e1.trans e2) (m1.trans m2), s2, h5, fun v3 H3 mu3 m3 e3 s3 r3 =>
      ⟨(Z, p), mu3, S3, w2, w3, w1, S4, s3, r2.mono e3 m3, r3, r1.mono (e2.trans e3) (m2.trans m3), h7, fun H4 mu4 m4 e4 s4 =>
        hQ σ H4 mu4 (m1.trans (m2.trans (m3.trans m4))) (e1.trans (e2.trans (e3.trans e4))) s4 (hL.mono (e1.trans (e2.trans (e3.trans e4))) (m1.trans (m2.trans (m3.trans m4))))⟩⟩⟩⟩
theorem j_add {i : Nat} {e : Ex} (h : tDS K cl L (.aug i .add e) D σ H) : tAug i (tD K cl e) (ipI fun i j => i + j) D σ H := by
  obtain ⟨Z, p, ws, mu, S, r, hL, hS, he, hQ⟩ := h
  simp only [exS] at he
  split at he
  · rename_i a ea
    obtain ⟨⟨w1, S1⟩, h1, h2⟩ := ev_bind he
    obtain ⟨v, v1, v2⟩ := hL.at' i _ ea
    refine ⟨v, v1, Z, p, ws, mu, S, w1, S1, hL, hS, h1, fun u H1 mu1 m1 e1 s1 r1 => ?_⟩
    dsimp only at h2
    split at h2
    · obtain ⟨ws', h3, h4⟩ := ev_bind h2
      cases h4
      exact ⟨a, _, rw_int.mp v2, rw_int.mp r1, hQ _ H1 mu1 m1 e1 s1 ((hL.mono e1 m1).setW h3 (rw_int.mpr rfl))⟩
    · rename_i hh; cases hh
    · cases h2
  · cases he
theorem j_sub {i : Nat} {e : Ex} (h : tDS K cl L (.aug i .sub e) D σ H) : tAug i (tD K cl e) (ipI fun i j => i - j) D σ H := by
  obtain ⟨Z, p, ws, mu, S, r, hL, hS, he, hQ⟩ := h
  simp only [exS] at he
  split at he
  · rename_i a ea
    obtain ⟨⟨w1, S1⟩, h1, h2⟩ := ev_bind he
    obtain ⟨v, v1, v2⟩ := hL.at' i _ ea
    refine ⟨v, v1, Z, p, ws, mu, S, w1, S1, hL, hS, h1, fun u H1 mu1 m1 e1 s1 r1 => ?_⟩
    dsimp only at h2
    split at h2
    · rename_i hh; cases hh
    · obtain ⟨ws', h3, h4⟩ := ev_bind h2
      cases h4
      exact ⟨a, _, rw_int.mp v2, rw_int.mp r1, hQ _ H1 mu1 m1 e1 s1 ((hL.mono e1 m1).setW h3 (rw_int.mpr rfl))⟩
    · cases h2
  · cases he
theorem j_ret {e : Ex} (h : tDS K cl L (.ret e) D σ H) : tRet (tD K cl e) D σ H := by
  obtain ⟨Z, p, ws, mu, S, r, hL, hS, he, hQ⟩ := h
  simp only [exS] at he
  obtain ⟨⟨w1, S1⟩, h1, h2⟩ := ev_bind he
  cases h2
  exact ⟨Z, p, ws, mu, S, w1, S1, hL, hS, h1, fun v H1 mu1 m1 e1 s1 r1 => hQ σ H1 mu1 m1 e1 s1 (hL.mono e1 m1) v r1⟩
theorem j_retN (h : tDS K cl L .retN D σ H) : tRetN D σ H := by
  obtain ⟨Z, p, ws, mu, S, r, hL, hS, he, hQ⟩ := h
  simp only [exS] at he
  cases he
  exact hQ σ H mu (List.prefix_refl _) (Ext.refl _) hS hL _ (rw_none.mpr rfl)
theorem j_pass (h : tDS K cl L .pass D σ H) : tNext D σ H := by
  obtain ⟨Z, p, ws, mu, S, r, hL, hS, he, hQ⟩ := h
  simp only [exS] at he
  cases he
  exact hQ σ H mu (List.prefix_refl _) (Ext.refl _) hS hL
theorem j_brk (h : tDS K cl L .brk D σ H) : tBreak D σ H := by
  obtain ⟨Z, p, ws, mu, S, r, hL, hS, he, hQ⟩ := h
  simp only [exS] at he
  cases he
  exact hQ σ H mu (List.prefix_refl _) (Ext.refl _) hS hL
theorem j_cont (h : tDS K cl L .cont D σ H) : tCont D σ H := by
  obtain ⟨Z, p, ws, mu, S, r, hL, hS, he, hQ⟩ := h
  simp only [exS] at he
  cases he
  exact hQ σ H mu (List.prefix_refl _) (Ext.refl _) hS hL
theorem j_never (h : tDS K cl L .never D σ H) : tNever D σ H := by
  obtain ⟨Z, p, ws, mu, S, r, hL, hS, he, hQ⟩ := h
  simp only [exS] at he
  cases he
theorem j_nil (h : tDSs K cl L .nil D σ H) : tNext D σ H := by
  obtain ⟨Z, p, ws, mu, S, r, hL, hS, he, hQ⟩ := h
  simp only [exSs] at he
  cases he
  exact hQ σ H mu (List.prefix_refl _) (Ext.refl _) hS hL
theorem j_cons {a : Sm} {l : Ss} (h : tDSs K cl L (.cons a l) D σ H) : tSeq (tDS K cl L a) (tDSs K cl L l) D σ H := by
  obtain ⟨Z, p, ws, mu, S, r, hL, hS, he, hQ⟩ := h
  simp only [exSs] at he
  obtain ⟨⟨fl, ws1, S1⟩, h1, h2⟩ := ev_bind he
  refine ⟨Z, p, ws, mu, S, _, hL, hS, h1, fun σ' H1 mu1 m1 e1 s1 l1 => ?_⟩
  cases fl with
  | next => exact ⟨Z, p, ws1, mu1, S1, r, l1, s1, h2, hQ.mono m1 e1⟩
  | brk => cases h2; exact hQ σ' H1 mu1 m1 e1 s1 l1
  | cont => cases h2; exact hQ σ' H1 mu1 m1 e1 s1 l1
  | ret w => cases h2; exact hQ σ' H1 mu1 m1 e1 s1 l1
theorem j_ite {c : Ex} {a b : Ss} (h : tDS K cl L (.ite c a b) D σ H) : tIfS (tDT K cl c) (tDSs K cl L a) (tDSs K cl L b) D σ H := by
  obtain ⟨Z, p, ws, mu, S, r, hL, hS, he, hQ⟩ := h
  simp only [exS] at he
  obtain ⟨⟨t, S1⟩, h1, h2⟩ := ev_bind he
  refine ⟨Z, p, ws, mu, S, t, S1, hL, hS, h1, fun H1 mu1 m1 e1 s1 => ?_⟩
  cases t with
  | true => exact iteT ⟨Z, p, ws, mu1, S1, r, hL.mono e1 m1, s1, h2, hQ.mono m1 e1⟩
  | false => exact iteF ⟨Z, p, ws, mu1, S1, r, hL.mono e1 m1, s1, h2, hQ.mono m1 e1⟩
theorem j_whl {c : Ex} {b : Ss} (h : tDS K cl L (.whl c b) D σ H) : tWhile (tDT K cl c) (tDSs K cl L b) D σ H := by
  obtain ⟨Z, p, ws, mu, S, r, hL, hS, he, hQ⟩ := h
  simp only [exS] at he
  refine ⟨fun m σ H => ∃ ws mu S, RL K Z mu H ws σ ∧ RS K Z mu H S ∧ whlL (evT cl p c) (exSs cl L p b) m ws S = some r ∧ AfterS K Z mu H r D, ⟨L, ws, mu, S, hL, hS, he, hQ⟩, ?_⟩
  rintro m σ1 H1 ⟨ws1, mu1, S1, hL1, hS1, he1, hQ1⟩
  cases m with
  | zero => simp only [whlL] at he1; cases he1
  | succ m =>
    simp only [whlL] at he1
    obtain ⟨⟨t, S2⟩, h1, h2⟩ := ev_bind he1
    refine ⟨Z, p, ws1, mu1, S1, t, S2, hL1, hS1, h1, fun H2 mu2 m2 e2 s2 => ?_⟩
    cases t with
    | false =>
      refine iteF ?_
      cases h2
      exact hQ1 σ1 H2 mu2 m2 e2 s2 (hL1.mono e2 m2)
    | true =>
      obtain ⟨⟨fl, ws3, S3⟩, h3, h4⟩ := ev_bind h2
      refine iteT ⟨fun σ H => ∃ ws mu S, RL K Z mu H ws σ ∧ RS K Z mu H S ∧ whlL (evT cl p c) (exSs cl L p b) m ws S = some r ∧ AfterS K Z mu H r D, fun σ' H' hn => ⟨m, Nat.lt_succ_self m, hn⟩, ?_⟩
      refine ⟨Z, p, ws1, mu2, S2, _, hL1.mono e2 m2, s2, h3, fun σ4 H4 mu4 m4 e4 s4 l4 => ?_⟩
      cases fl with
      | next => exact ⟨ws3, mu4, S3, l4, s4, h4, hQ1.mono (m2.trans m4) (e2.trans e4)⟩
      | cont => exact ⟨ws3, mu4, S3, l4, s4, h4, hQ1.mono (m2.trans m4) (e2.trans e4)⟩
      | brk => cases h4; exact hQ1 σ4 H4 mu4 (m2.trans m4) (e2.trans e4) s4 l4
      | ret w => cases h4; exact hQ1 σ4 H4 mu4 (m2.trans m4) (e2.trans e4) s4 l4
theorem j_for {it : DV.It} {g : Tg} {b : Ss} (hcl : ClKeep cl) (h : tDS K cl L (.for it g b) D σ H) : tFor (tDI K cl it) (gT K g) (tDSs K cl L b) D σ H := by
  obtain ⟨Z, p, ws, mu, S, r, hL, hS, he, hQ⟩ := h
  simp only [exS] at he
  obtain ⟨⟨items, q, S1⟩, h1, h2⟩ := ev_bind he
  dsimp only at h2
  refine ⟨Z, p, ws, mu, S, items, q, S1, hL, hS, h1, fun J H1 mu1 m1 e1 s1 hq hG => ?_⟩
  refine ⟨fun i m σ2 H2 => m = items.length - i ∧ i ≤ items.length ∧ ∃ ws2 mu2 S2, mu1 <+: mu2 ∧ Ext H1 H2 ∧ RL K Z mu2 H2 ws2 σ2 ∧ RS K Z mu2 H2 S2 ∧ Keep (q ++ p) S1.length S1 S2 ∧ forL _ (items.drop i) ws2 S2 = some r,
    ⟨items.length, rfl, Nat.zero_le _, ws, mu1, S1, List.prefix_refl _, Ext.refl _, hL.mono e1 m1, s1, Keep.refl _ _ _, h2⟩, ?_⟩
  rintro i m σ2 H2 ⟨rfl, hi, ws2, mu2, S2, pre, ext, l2, r2, kp, hc⟩
  obtain ⟨hstop, hgo⟩ := hG i mu2 H2 S2 pre ext r2 fun j hj => kp.at' j (List.mem_append_left _ hj) (hq j hj)
  by_cases hlt : i < items.length
  · obtain ⟨go, yl⟩ := hgo items[i] (List.getElem?_eq_getElem hlt)
    refine .inr ⟨go, fun σ' H' => ∃ ws2 mu2 S2, mu1 <+: mu2 ∧ Ext H1 H' ∧ RL K Z mu2 H' ws2 σ' ∧ RS K Z mu2 H' S2 ∧ Keep (q ++ p) S1.length S1 S2 ∧ forL _ (items.drop (i + 1)) ws2 S2 = some r,
      fun σ' H' hw => ⟨items.length - (i + 1), by omega, rfl, hlt, hw⟩, fun x H3 hy => ?_⟩
    obtain ⟨r3, e3, rx⟩ := yl x H3 hy
    rw [List.drop_eq_getElem_cons hlt] at hc
    simp only [forL] at hc
    obtain ⟨⟨fl, ws4, S4⟩, c1, c2⟩ := ev_bind hc
    obtain ⟨ws3, f1, f2⟩ := ev_bind c1
    have ex1 : Ext H1 H3 := ext.trans e3
    have k1 := kp.trans (exSs_keep hcl b _ ws3 S2 _ S1.length kp.len f2)
    refine gT_ok f1 rx (l2.mono e3 (List.prefix_refl _)) fun σ3 hL3 _ => ?_
    refine ⟨Z, q ++ p, ws3, mu2, S2, _, hL3, r3, f2, fun σ5 H5 mu5 m5 e5 s5 l5 => ?_⟩
    cases fl with
    | next => exact ⟨ws4, mu5, S4, pre.trans m5, ex1.trans e5, l5, s5, k1, c2⟩
    | cont => exact ⟨ws4, mu5, S4, pre.trans m5, ex1.trans e5, l5, s5, k1, c2⟩
    | brk => cases c2; exact hQ σ5 H5 mu5 (m1.trans (pre.trans m5)) (e1.trans (ex1.trans e5)) s5 l5
    | ret w => cases c2; exact hQ σ5 H5 mu5 (m1.trans (pre.trans m5)) (e1.trans (ex1.trans e5)) s5 l5
  · have hi2 : i = items.length := by omega
    refine .inl ⟨hstop (by omega), ?_⟩
    rw [hi2, List.drop_length] at hc
    simp only [forL] at hc
    cases hc
    exact hQ σ2 H2 mu2 (m1.trans pre) (e1.trans ext) r2 l2
end
end DV
/-! DVSound: what the translator takes runs as the evaluator says. -/
namespace DV
open PySem L2 PyProof.Rows

def bltNames : List String := ["len", "all", "any", "tuple", "list", "sorted", "int", "max", "min", "isinstance", "str", "bool", "range", "zip"]
structure Ok (F : List FnD) (L lev : Nat) (X : Cx) (T : Tx) (fb : Str → Bool) : Prop where
  N : X.N = T.N
  nd : T.N.Nodup
  sc : X.env.scope = T.sc
  fn : ∀ x, fb x = true → X.fn x = true
  calm : X.calm = true
  xe : X.xe = fun _ _ => False
  room : Room lev X.A
  fns : ∀ (f : Nat) (x : Str), T.fns[f]? = some x → ∃ a fd ps, X.mg x = some (.ref a) ∧ PySem.W.keepIn X.K (.ref a) = true ∧ Binds X.K fd ps [] ∧ FnOk X.prog X.w X.K X.mg X.base CX0 lev a fd ps (spD X.K F L lev f)
  cst : ∀ (x : Str) (k : Cst), T.cst.lookup x = some k → ∃ u, X.mg x = some u ∧ RelV k.toV u
  blt : ∀ y ∈ bltNames, X.mg (Str.ofString y) = none

theorem Ok.blk {F : List FnD} {L lev : Nat} {X : Cx} {T : Tx} {fb : Str → Bool} (ok : Ok F L lev X T fb) (scope : Scope) (s : Shared) (H : Hp) (C : Addr) (cl : List (Str × Addr)) (fp : List Addr) :
    Ok F L lev (X.blk s H scope (compEnvC scope cl C X.env) fp) (blkT T scope) (fun x => scope.names.lookup x == some .cell) where
  N := ok.N
  nd := ok.nd
  sc := by
    show relS scope X.env.scope = relS scope T.sc
    rw [ok.sc]
  fn := fun x h => h
  calm := ok.calm
  xe := rfl
  room := ok.room
  fns := ok.fns
  cst := ok.cst
  blt := ok.blt

/-! names -/
theorem idx_some {N : List Str} {x : Str} {i : Nat} (h : idx N x = some i) : N[i]? = some x := by
  unfold idx at h
  split at h
  · split at h
    · cases h; assumption
    · cases h
  · cases h
theorem okName_of {x : Str} (h : okName x = true) : (x == ("__debug__" : Str)) = false ∧ (x == ("__classdict__" : Str)) = false ∧ x ≠ "__name__" := by
  unfold okName at h
  simp only [Bool.and_eq_true, Bool.not_eq_true'] at h
  exact ⟨h.1.1, h.1.2, fun e => by rw [e] at h; simp at h⟩
theorem slot_some {T : Tx} {x : Str} {i : Nat} (h : slotOf T x = some i) : okName x = true ∧ T.N[i]? = some x ∧ Vis T.sc x := by
  unfold slotOf at h
  split at h
  · rename_i hn
    split at h
    · rename_i e; exact ⟨hn, idx_some h, .inl e⟩
    · rename_i e; exact ⟨hn, idx_some h, .inr (.inl e)⟩
    · rename_i e; exact ⟨hn, idx_some h, .inr (.inr e)⟩
    · cases h
  · cases h
theorem gl_of {T : Tx} {x : Str} (h : isGl T x = true) : okName x = true ∧ T.sc.names.lookup x = some .globalImplicit := by
  unfold isGl at h
  simp only [Bool.and_eq_true, decide_eq_true_eq] at h
  exact h
theorem isB_of {T : Tx} {x : Str} {y : String} (h : isB T x y = true) : isGl T x = true ∧ x = Str.ofString y := by
  unfold isB at h
  simp only [Bool.and_eq_true, decide_eq_true_eq] at h
  exact h
theorem st_some {T : Tx} {fb : Str → Bool} {x : Str} {i : Nat} (h : stOf T fb x = some i) : T.N[i]? = some x ∧ L2.Loc T.sc x ∧ (fb x = true ∨ T.sc.names.lookup x = some .local) := by
  unfold stOf at h
  split at h
  · split at h
    · rename_i e; exact ⟨idx_some h, .inl e, .inr e⟩
    · rename_i e
      split at h
      · rename_i hf; exact ⟨idx_some h, .inr e, .inl hf⟩
      · cases h
    · cases h
  · cases h
theorem bf_some {x : Str} {f : Bf} (h : bfOf x = some f) : ∃ y, (y, f) ∈ bfTab ∧ x = Str.ofString y := by
  unfold bfOf at h
  split at h
  · rename_i q e
    cases h
    have h1 := List.find?_some e
    exact ⟨q.1, List.mem_of_find?_eq_some e, of_decide_eq_true h1⟩
  · cases h
theorem ty_some {x : Str} {t : Ty} (h : tyName x = some t) : x = Str.ofString t.name := by
  unfold tyName at h
  split at h
  · rename_i q e
    cases h
    have h1 := List.find?_some e
    have h2 := List.mem_of_find?_eq_some e
    have h3 : x = Str.ofString q.1 := of_decide_eq_true h1
    simp only [tyTab, List.mem_cons, List.not_mem_nil, or_false] at h2
    rcases h2 with rfl | rfl | rfl | rfl | rfl <;> exact h3
  · cases h
theorem mt_some {x : Str} {m : Mt} (h : mtOf x = some m) : (m = .append ∧ x = Str.ofString "append") ∨ (m = .extend ∧ x = Str.ofString "extend") ∨ (m = .pop ∧ x = Str.ofString "pop") := by
  unfold mtOf at h
  split at h
  · rename_i q e
    cases h
    have h1 := List.find?_some e
    have h2 := List.mem_of_find?_eq_some e
    have h3 : x = Str.ofString q.1 := of_decide_eq_true h1
    simp only [mtTab, List.mem_cons, List.not_mem_nil, or_false] at h2
    rcases h2 with rfl | rfl | rfl
    · exact .inl ⟨rfl, h3⟩
    · exact .inr (.inl ⟨rfl, h3⟩)
    · exact .inr (.inr ⟨rfl, h3⟩)
  · cases h

/-! forms -/
def isStarE : Expr → Bool
  | .Starred _ _ => true
  | _ => false
def isSetE : Expr → Bool
  | .Set _ _ _ => true
  | _ => false
def isSliceE : Expr → Bool
  | .Slice _ _ _ _ => true
  | _ => false
theorem tr_form {n : Nat} {T : Tx} {e : Expr} {c : Ex} (h : trE n T e = some c) : isStarE e = false ∧ isSetE e = false ∧ isSliceE e = false := by
  cases n with
  | zero => simp [trE] at h
  | succ n => cases e <;> first | exact ⟨rfl, rfl, rfl⟩ | (simp [trE] at h)
theorem star_of {e : Expr} {es : List Expr} {env : PySem.Env} (h : isStarE e = false) : starEach (e :: es) env = (false, eval e env) :: starEach es env := by
  cases e <;> first | rfl | (simp [isStarE] at h)
theorem mark_of {op : CmpOp} {e : Expr} (h : isSetE e = false) : behindInMarks op e = false := by
  cases e <;> first | rfl | (simp [isSetE] at h)
theorem folded_of {e : Expr} {env : PySem.Env} (h : isSetE e = false) : ∀ x, foldedSetIterable e env x = pure x := by
  intro x
  cases e <;> first | rfl | (simp [isSetE] at h)
theorem plainIx_of {e : Expr} (h : isSliceE e = false) : PlainIx e := by
  intro o i
  cases e <;> first | rfl | (simp [isSliceE] at h)
theorem stars_of : ∀ {es : List Expr} {n : Nat} {T : Tx} {l : Es} {pos : Pos} {env : PySem.Env}, trEs n T es = some l → (backTo pos (starEach es env)).any (·.1) = false
  | [], _, _, _, _, _, _ => rfl
  | e :: es, n, T, l, pos, env, h => by
    cases n with
    | zero => simp [trEs] at h
    | succ n =>
      simp only [trEs] at h
      split at h
      · rename_i c r h1 h2
        rw [star_of (tr_form h1).1]
        have ih := stars_of (pos := pos) (env := env) h2
        show (false || (backTo pos (starEach es env)).any (·.1)) = false
        rw [ih]
        rfl
      · cases h

section
variable {F : List FnD} {L lev : Nat}
/-! targets -/
theorem pg_nm {X : Cx} {T : Tx} {fb : Str → Bool} {e : Expr} {i : Nat} (ok : Ok F L lev X T fb) (h : tgName T fb e = some i) : PG X e (gName i) := by
  cases e with
  | Name x pos =>
    simp only [tgName] at h
    obtain ⟨h1, h2, h3⟩ := st_some h
    exact pg_name (by rw [ok.N]; exact ok.nd) (by rw [ok.N]; exact h1) (by rw [ok.sc]; exact h2) (h3.elim (fun q => .inl (ok.fn x q)) (fun q => .inr (by rw [ok.sc]; exact q)))
  | _ => simp [tgName] at h
theorem tg_name {T : Tx} {fb : Str → Bool} {e : Expr} {i : Nat} (h : tgName T fb e = some i) : ∃ x p, e = .Name x p := by
  cases e with
  | Name x pos => exact ⟨x, pos, rfl⟩
  | _ => simp [tgName] at h
theorem pgs_nm {X : Cx} {T : Tx} {fb : Str → Bool} (ok : Ok F L lev X T fb) : ∀ {es : List Expr} {l : List Nat}, es.mapM (tgName T fb) = some l →
    PGs X es (gTs l) ∧ (assignEach es X.env).length = l.length ∧ (assignEach es X.env).findIdx? (·.1) = none
  | [], l, h => by
    simp only [List.mapM_nil] at h
    cases h
    exact ⟨pgs_nil, rfl, rfl⟩
  | e :: es, l, h => by
    rw [List.mapM_cons] at h
    obtain ⟨i, h1, h2⟩ := ev_bind h
    obtain ⟨r, h3, h4⟩ := ev_bind h2
    cases h4
    obtain ⟨k1, k2, k3⟩ := pgs_nm ok h3
    obtain ⟨x, p, rfl⟩ := tg_name h1
    refine ⟨pgs_cons (pg_nm ok h1) k1 rfl, ?_, ?_⟩
    · show (assignEach es X.env).length + 1 = r.length + 1
      rw [k2]
    · show List.findIdx? (·.1) ((false, assign (.Name x p) X.env) :: assignEach es X.env) = none
      rw [List.findIdx?_cons, if_neg Bool.false_ne_true, k3]
      rfl
theorem pg_tg {X : Cx} {T : Tx} {fb : Str → Bool} {e : Expr} {g : Tg} (ok : Ok F L lev X T fb) (h : trTg T fb e = some g) : PG X e (gT X.K g) := by
  cases e with
  | Name x pos =>
    simp only [trTg] at h
    obtain ⟨i, h1, h2⟩ := Option.map_eq_some_iff.mp h
    subst h2
    exact pg_nm (e := .Name x pos) ok h1
  | Tuple es k pos =>
    simp only [trTg] at h
    obtain ⟨l, h1, h2⟩ := Option.map_eq_some_iff.mp h
    subst h2
    obtain ⟨k1, k2, k3⟩ := pgs_nm ok h1
    exact pg_tup ok.calm k1 k2 k3
  | _ => simp [trTg] at h

/-! ### the theorem -/
abbrev cF (F : List FnD) (L lev : Nat) : CallT := callF F L lev
def SE (F : List FnD) (L lev n : Nat) : Prop := ∀ (T : Tx) (X : Cx) (fb : Str → Bool) (e : Expr) (c : Ex), Ok F L lev X T fb → trE n T e = some c → PE X e (tD X.K (cF F L lev) c) ∧ PT X e (tDT X.K (cF F L lev) c)
def SEs (F : List FnD) (L lev n : Nat) : Prop := ∀ (T : Tx) (X : Cx) (fb : Str → Bool) (e : List Expr) (c : Es), Ok F L lev X T fb → trEs n T e = some c → PA X e (tDs X.K (cF F L lev) c)
def SA (F : List FnD) (L lev n : Nat) : Prop := ∀ (T : Tx) (X : Cx) (fb : Str → Bool) (e : List Expr) (c : Ex) (pos : Pos), Ok F L lev X T fb → trA n T e = some c → PE X (.BoolOp .And e pos) (tD X.K (cF F L lev) c) ∧ PW X (.BoolOp .And e pos) (tDT X.K (cF F L lev) c)
def SO (F : List FnD) (L lev n : Nat) : Prop := ∀ (T : Tx) (X : Cx) (fb : Str → Bool) (e : List Expr) (c : Ex) (pos : Pos), Ok F L lev X T fb → trO n T e = some c → PE X (.BoolOp .Or e pos) (tD X.K (cF F L lev) c) ∧ PW X (.BoolOp .Or e pos) (tDT X.K (cF F L lev) c)
def SOp (F : List FnD) (L lev n : Nat) : Prop := ∀ (T : Tx) (X : Cx) (fb : Str → Bool) (e : Option Expr) (c : Eo), Ok F L lev X T fb → trOp n T e = some c → PO X e (tDo X.K (cF F L lev) c)
def SIf (F : List FnD) (L lev n : Nat) : Prop := ∀ (T : Tx) (X : Cx) (fb : Str → Bool) (e : List Expr) (c : Ex), Ok F L lev X T fb → trIf n T e = some c → PTs X e (tDT X.K (cF F L lev) c)
def SI (F : List FnD) (L lev n : Nat) : Prop := ∀ (T : Tx) (X : Cx) (fb : Str → Bool) (tg e : Expr) (c : DV.It), Ok F L lev X T fb → trI n T tg e = some c → PI X tg e (tDI X.K (cF F L lev) c)

theorem pt_of {X : Cx} {e : Expr} {c : Ex} {K : PySem.W.Frag} {cl : CallT} (h : PE X e (tD K cl c)) (he : ∀ whole, isTrue e X.env whole = (do let v ← whole; standAt e.pos; holding [v] (truthy v))) : PT X e (tDT K cl c) := PTi (pt_val h he) fun σ H Q => i_tB

theorem s_Es {n : Nat} (hE : SE F L lev n) (hEs : SEs F L lev n) : SEs F L lev (n + 1) := by
  intro T X fb es c ok h
  cases es with
  | nil => simp only [trEs] at h; cases h; exact PAi pa_nil fun σ H Q => i_nil
  | cons e es =>
    simp only [trEs] at h
    split at h
    · rename_i a r h1 h2
      cases h
      exact PAi (pa_cons (hE T X fb e a ok h1).1 (hEs T X fb es r ok h2) (star_of (tr_form h1).1)) fun σ H Q => i_cons
    · cases h
theorem s_A {n : Nat} (hE : SE F L lev n) (hA : SA F L lev n) : SA F L lev (n + 1) := by
  intro T X fb es c pos ok h
  cases es with
  | nil => simp [trA] at h
  | cons e r =>
    cases r with
    | nil =>
      simp only [trA] at h
      exact ⟨pe_one (hE T X fb e c ok h).1, pw_and1 (hE T X fb e c ok h).2⟩
    | cons e2 r =>
      simp only [trA] at h
      split at h
      · rename_i a b h1 h2
        cases h
        obtain ⟨q1, q2⟩ := hA T X fb (e2 :: r) b pos ok h2
        exact ⟨PEi (pe_and (hE T X fb e a ok h1).1 q1) fun σ H Q => i_and, PWi (pw_and (hE T X fb e a ok h1).2 q2) fun σ H Q => i_andT⟩
      · cases h
theorem s_O {n : Nat} (hE : SE F L lev n) (hO : SO F L lev n) : SO F L lev (n + 1) := by
  intro T X fb es c pos ok h
  cases es with
  | nil => simp [trO] at h
  | cons e r =>
    cases r with
    | nil =>
      simp only [trO] at h
      exact ⟨pe_one (hE T X fb e c ok h).1, pw_or1 (hE T X fb e c ok h).2⟩
    | cons e2 r =>
      simp only [trO] at h
      split at h
      · rename_i a b h1 h2
        cases h
        obtain ⟨q1, q2⟩ := hO T X fb (e2 :: r) b pos ok h2
        exact ⟨PEi (pe_or (hE T X fb e a ok h1).1 q1) fun σ H Q => i_or, PWi (pw_or (hE T X fb e a ok h1).2 q2) fun σ H Q => i_orT⟩
      · cases h
theorem s_Op {n : Nat} (hE : SE F L lev n) : SOp F L lev (n + 1) := by
  intro T X fb o c ok h
  cases o with
  | none => simp only [trOp] at h; cases h; exact POi po_none fun σ H Q => i_no
  | some e =>
    simp only [trOp] at h
    obtain ⟨a, h1, h2⟩ := Option.map_eq_some_iff.mp h
    subst h2
    exact POi (po_some (hE T X fb e a ok h1).1) fun σ H Q => i_so
theorem i_yes {K : PySem.W.Frag} {cl : CallT} {σ : L2.St} {H : Hp} {Q : Bool → Hp → Prop} (h : tDT K cl (.c (.bl true)) σ H Q) : tYes σ H Q := by
  obtain ⟨Z, p, ws, mu, S, t, S', hL, hS, he, hQ⟩ := h
  unfold evT at he
  simp only [ev, Cst.toD, Option.bind_some, ofBool] at he
  cases he
  exact hQ _ _ (List.prefix_refl _) (Ext.refl _) hS
theorem s_If {n : Nat} (hE : SE F L lev n) : SIf F L lev (n + 1) := by
  intro T X fb es c ok h
  cases es with
  | nil => simp only [trIf] at h; cases h; exact PTsi pts_nil fun σ H Q => i_yes
  | cons e r =>
    cases r with
    | nil => simp only [trIf] at h; exact pts_one (hE T X fb e c ok h).2
    | cons _ _ => simp [trIf] at h
theorem pa1 {n : Nat} (hE : SE F L lev n) {T : Tx} {X : Cx} {fb : Str → Bool} {e : Expr} {c : Ex} {es : List Expr} {t : TA} (ok : Ok F L lev X T fb) (h : trE n T e = some c) (r : PA X es t) : PA X (e :: es) (tCons (tD X.K (cF F L lev) c) t) :=
  pa_cons (hE T X fb e c ok h).1 r (star_of (tr_form h).1)
theorem glX {X : Cx} {T : Tx} {fb : Str → Bool} {x : Str} (ok : Ok F L lev X T fb) (h : isGl T x = true) : Gl X x := by
  show X.env.scope.names.lookup x = _
  rw [ok.sc]
  exact (gl_of h).2
theorem s_I {n : Nat} (hE : SE F L lev n) : SI F L lev (n + 1) := by
  intro T X fb tg e c ok h
  have any : ∀ {e : Expr} {c : DV.It}, (trE n T e).map DV.It.seq = some c → PI X tg e (tDI X.K (cF F L lev) c) := fun {e c} h => by
    obtain ⟨a, h1, h2⟩ := Option.map_eq_some_iff.mp h
    subst h2
    exact PIi (pi_any (hE T X fb e a ok h1).1) fun σ H Q => i_seq
  simp only [trI] at h
  split at h
  · rename_i x p a q
    split at h
    · rename_i hb
      simp only [Bool.and_eq_true] at hb
      obtain ⟨hg, rfl⟩ := isB_of hb.1
      obtain ⟨a', h1, h2⟩ := Option.map_eq_some_iff.mp h
      subst h2
      exact PIi (pi_range1 (glX ok hg) (ok.blt "range" (by decide)) (pa1 hE ok h1 pa_nil) (star_of (tr_form h1).1)) fun σ H Q => i_rng1
    · exact any h
  · rename_i x p a b c' q
    split at h
    · rename_i hb
      simp only [Bool.and_eq_true] at hb
      obtain ⟨hg, rfl⟩ := isB_of hb.1
      split at h
      · rename_i a1 b1 c1 h1 h2 h3
        cases h
        refine PIi (pi_range3 (glX ok hg) (ok.blt "range" (by decide)) (pa1 hE ok h1 (pa1 hE ok h2 (pa1 hE ok h3 pa_nil))) (star_of (tr_form h1).1) ?_) fun σ H Q => i_rng3
        rw [star_of (tr_form h2).1, star_of (tr_form h3).1]
        rfl
      · cases h
    · exact any h
  · rename_i x p a b q
    split at h
    · rename_i hb
      simp only [Bool.and_eq_true] at hb
      obtain ⟨hg, rfl⟩ := isB_of hb.1
      split at h
      · rename_i ht
        split at h
        · rename_i a1 b1 h1 h2
          cases h
          cases tg with
          | Tuple elts kk tpos =>
            refine PIi (RZ.pi_zipA (glX ok hg) (ok.blt "zip" (by decide)) (pa1 hE ok h1 (pa1 hE ok h2 pa_nil)) (star_of (tr_form h1).1) ?_) fun σ H Q => i_zip
            rw [star_of (tr_form h2).1]
            rfl
          | _ => simp [isTupleE] at ht
        · cases h
      · cases h
    · exact any h
  · exact any h
end
end DV

namespace DV
open PySem L2 PyProof.Rows
section
variable {F : List FnD} {L lev : Nat}
theorem hu_ok {X : Cx} {T : Tx} {fb : Str → Bool} (ok : Ok F L lev X T fb) : X.A.units + 66 < cLine := by have := ok.room.un; omega

/-- the parts of a comprehension with one clause -/
structure Parts1 (F : List FnD) (L lev : Nat) (X : Cx) (T : Tx) (elt tg iter : Expr) (ifs : List Expr) (scope : Scope) (it : DV.It) (g : Tg) (t e : Ex) : Prop where
  pi : PI X tg iter (tDI X.K (cF F L lev) it)
  blk : BlkOk X.N X.env.scope scope (ownOf T.N scope)
  pg : ∀ (s : Shared) (H : Hp) (C : Addr) (cl : List (Str × Addr)) (fp : List Addr), PG (X.blk s H scope (compEnvC scope cl C X.env) fp) tg (gT X.K g)
  pt : ∀ (s : Shared) (H : Hp) (C : Addr) (cl : List (Str × Addr)) (fp : List Addr), PTs (X.blk s H scope (compEnvC scope cl C X.env) fp) ifs (tDT X.K (cF F L lev) t)
  pe : ∀ (s : Shared) (H : Hp) (C : Addr) (cl : List (Str × Addr)) (fp : List Addr), PE (X.blk s H scope (compEnvC scope cl C X.env) fp) elt (tD X.K (cF F L lev) e)
  fs : ∀ x, foldedSetIterable iter X.env x = pure x
  sub : ∀ i ∈ g.slots, i ∈ (ownOf T.N scope).map (·.2)
theorem trI_set {n : Nat} {T : Tx} {tg e : Expr} {c : DV.It} (h : trI n T tg e = some c) : isSetE e = false := by
  cases n with
  | zero => simp [trI] at h
  | succ n =>
    cases e <;> first
      | rfl
      | (simp only [trI] at h
         obtain ⟨a, h1, _⟩ := Option.map_eq_some_iff.mp h
         exact (tr_form h1).2.1)
theorem sub_of {g : Tg} {l : List Nat} (h : g.slots.all (fun i => l.contains i) = true) : ∀ i ∈ g.slots, i ∈ l := fun i hi => List.contains_iff_mem.mp (List.all_eq_true.mp h i hi)
theorem parts1 {n : Nat} (hE : SE F L lev n) (hIf : SIf F L lev n) (hI : SI F L lev n) {T : Tx} {X : Cx} {fb : Str → Bool} {elt tg iter : Expr} {ifs : List Expr} {scope : Scope} {it : DV.It} {g : Tg} {t e : Ex} (ok : Ok F L lev X T fb)
    (hb : blkC T.N T.sc scope (ownOf T.N scope) = true) (h1 : trI n T tg iter = some it) (h2 : trTg (blkT T scope) (fun x => scope.names.lookup x == some .cell) tg = some g) (h3 : trIf n (blkT T scope) ifs = some t) (h4 : trE n (blkT T scope) elt = some e)
    (h5 : ∀ i ∈ g.slots, i ∈ (ownOf T.N scope).map (·.2)) : Parts1 F L lev X T elt tg iter ifs scope it g t e where
  pi := hI T X fb tg iter it ok h1
  blk := by
    rw [ok.N, ok.sc]
    exact blkOk_by hb
  pg := fun s H C cl fp => pg_tg (ok.blk scope s H C cl fp) h2
  pt := fun s H C cl fp => hIf _ _ _ ifs t (ok.blk scope s H C cl fp) h3
  pe := fun s H C cl fp => (hE _ _ _ elt e (ok.blk scope s H C cl fp) h4).1
  fs := folded_of (trI_set h1)
  sub := h5
structure Parts2 (F : List FnD) (L lev : Nat) (X : Cx) (tg1 iter1 : Expr) (ifs1 : List Expr) (scope : Scope) (it1 : DV.It) (g1 : Tg) (t1 : Ex) : Prop where
  pi : ∀ (s : Shared) (H : Hp) (C : Addr) (cl : List (Str × Addr)) (fp : List Addr), PI (X.blk s H scope (compEnvC scope cl C X.env) fp) tg1 iter1 (tDI X.K (cF F L lev) it1)
  pg : ∀ (s : Shared) (H : Hp) (C : Addr) (cl : List (Str × Addr)) (fp : List Addr), PG (X.blk s H scope (compEnvC scope cl C X.env) fp) tg1 (gT X.K g1)
  pt : ∀ (s : Shared) (H : Hp) (C : Addr) (cl : List (Str × Addr)) (fp : List Addr), PTs (X.blk s H scope (compEnvC scope cl C X.env) fp) ifs1 (tDT X.K (cF F L lev) t1)
  fs : ∀ env x, foldedSetIterable iter1 env x = pure x
theorem parts2 {n : Nat} (hE : SE F L lev n) (hIf : SIf F L lev n) (hI : SI F L lev n) {T : Tx} {X : Cx} {fb : Str → Bool} {tg1 iter1 : Expr} {ifs1 : List Expr} {scope : Scope} {it1 : DV.It} {g1 : Tg} {t1 : Ex} (ok : Ok F L lev X T fb)
    (h1 : trI n (blkT T scope) tg1 iter1 = some it1) (h2 : trTg (blkT T scope) (fun x => scope.names.lookup x == some .cell) tg1 = some g1) (h3 : trIf n (blkT T scope) ifs1 = some t1) : Parts2 F L lev X tg1 iter1 ifs1 scope it1 g1 t1 where
  pi := fun s H C cl fp => hI _ _ _ tg1 iter1 it1 (ok.blk scope s H C cl fp) h1
  pg := fun s H C cl fp => pg_tg (ok.blk scope s H C cl fp) h2
  pt := fun s H C cl fp => hIf _ _ _ ifs1 t1 (ok.blk scope s H C cl fp) h3
  fs := fun env => folded_of (trI_set h1)

/-- a comprehension that the translator took: its parts -/
inductive CompIs (F : List FnD) (L lev : Nat) (X : Cx) (T : Tx) : Expr → Ex → Prop where
  | one {elt tg iter : Expr} {ifs : List Expr} {scope : Scope} {pos : Pos} {it : DV.It} {g : Tg} {t e : Ex} (h : Parts1 F L lev X T elt tg iter ifs scope it g t e) :
      CompIs F L lev X T (.ListComp elt [⟨tg, iter, ifs, 0⟩] scope pos) (.lc it g ((ownOf T.N scope).map (·.2)) t e)
  | two {elt tg iter tg1 iter1 : Expr} {ifs ifs1 : List Expr} {scope : Scope} {pos : Pos} {it it1 : DV.It} {g g1 : Tg} {t t1 e : Ex} (h : Parts1 F L lev X T elt tg iter ifs scope it g t e) (h2 : Parts2 F L lev X tg1 iter1 ifs1 scope it1 g1 t1)
      (hs : ∀ i ∈ g1.slots, i ∈ (ownOf T.N scope).map (·.2)) :
      CompIs F L lev X T (.ListComp elt [⟨tg, iter, ifs, 0⟩, ⟨tg1, iter1, ifs1, 0⟩] scope pos) (.lc2 it g t it1 g1 ((ownOf T.N scope).map (·.2)) g1.slots t1 e)
theorem comp_is {n : Nat} (hE : SE F L lev n) (hIf : SIf F L lev n) (hI : SI F L lev n) {T : Tx} {X : Cx} {fb : Str → Bool} {elt : Expr} {gens : List Comprehension} {scope : Scope} {pos : Pos} {c : Ex} (ok : Ok F L lev X T fb)
    (h : trE (n + 1) T (.ListComp elt gens scope pos) = some c) : CompIs F L lev X T (.ListComp elt gens scope pos) c := by
  simp only [trE] at h
  split at h <;> rename_i heq <;> try (cases heq; done)
  all_goals try (cases h; done)
  · cases heq
    split at h
    · rename_i hb
      split at h
      · rename_i it g t e h1 h2 h3 h4
        split at h
        · rename_i hs
          cases h
          exact .one (parts1 hE hIf hI ok hb h1 h2 h3 h4 (sub_of hs))
        · cases h
      · cases h
    · cases h
  · cases heq
    split at h
    · rename_i hb
      split at h
      · rename_i it g t e h1 h2 h3 h4
        split at h
        · rename_i it1 g1 t1 k1 k2 k3
          split at h
          · rename_i hs
            simp only [Bool.and_eq_true] at hs
            cases h
            exact .two (parts1 hE hIf hI ok hb h1 h2 h3 h4 (sub_of hs.1)) (parts2 hE hIf hI ok k1 k2 k3) (sub_of hs.2)
          · cases h
        · cases h
      · cases h
    · cases h
theorem comp_pe {T : Tx} {X : Cx} {fb : Str → Bool} {e : Expr} {c : Ex} (ok : Ok F L lev X T fb) (h : CompIs F L lev X T e c) : PE X e (tD X.K (cF F L lev) c) := by
  have nd : X.N.Nodup := by rw [ok.N]; exact ok.nd
  cases h with
  | one h => exact PEi (pe_lc ok.calm nd h.pi h.blk h.pg h.pt h.pe h.fs) fun σ H Q => i_lc (callF_keep lev) h.sub
  | two h h2 hs => exact PEi (pe_lc2 ok.calm nd h.pi h.blk hs h.pg h.pt h2.pi h2.pg h2.pt h.pe h.fs h2.fs) fun σ H Q => i_lc2 (callF_keep lev) h.sub
end
end DV

namespace DV
open PySem L2 PyProof.Rows
section
variable {F : List FnD} {L lev : Nat}
theorem boot_isi : bootBuiltins (Str.ofString "isinstance") = some (.builtin "isinstance") := by decide +kernel
theorem boot_ty (t : Ty) : bootBuiltins (Str.ofString t.name) = some (.type t.name) := by cases t <;> decide +kernel
theorem cst_of {X : Cx} {c : Const} {k : Cst} {j : Nat} {pos : Pos} (h : cstOf c = some k) : PE X (.Constant c j pos) (tC k.toV) := by
  cases c with
  | none => simp only [cstOf] at h; cases h; exact pe_non
  | bool b => simp only [cstOf] at h; cases h; exact pe_bl
  | int i => simp only [cstOf] at h; cases h; exact pe_int
  | str s => simp only [cstOf] at h; cases h; exact pe_str
  | _ => simp [cstOf] at h
theorem call_ok {n : Nat} (hE : SE F L lev n) (hEs : SEs F L lev n) {T : Tx} {X : Cx} {fb : Str → Bool} {x : Str} {xp : Pos} {es : List Expr} {pos : Pos} {c : Ex} (ok : Ok F L lev X T fb)
    (h : trE (n + 1) T (.Call (.Name x xp) es [] pos) = some c) : PE X (.Call (.Name x xp) es [] pos) (tD X.K (cF F L lev) c) := by
  simp only [trE] at h
  split at h
  · rename_i f hf
    split at h
    · rename_i hg
      obtain ⟨l, h1, h2⟩ := Option.map_eq_some_iff.mp h
      subst h2
      obtain ⟨a, fd, ps, k1, k2, k3, k4⟩ := ok.fns f x (idx_some hf)
      obtain ⟨n1, n2, n3⟩ := okName_of (gl_of hg).1
      have hx := hEs T X fb es l ok h1
      cases es with
      | nil =>
        refine PEi (pe_call0 (E := E0) k4 ok.room (glX ok hg) k1 k2 k3 .nil pass0 n1) fun σ H Q q => ?_
        have e0 : l = .nil := by
          cases n <;> (simp only [trEs] at h1; cases h1; rfl)
        subst e0
        obtain ⟨Z, p, ws, mu, S, w, S', r1, r2, r3, r4⟩ := i_fn q
        simp only [evs] at r3
        cases r3
        exact r4 [] H mu (List.prefix_refl _) (Ext.refl _) r2 (RWs.nil_iff.mpr rfl)
      | cons e r =>
        have hs : isStarE e = false := by
          cases n with
          | zero => simp [trEs] at h1
          | succ n =>
            simp only [trEs] at h1
            split at h1
            · rename_i q1 q2; exact (tr_form q1).1
            · cases h1
        have hp : (backTo pos (starEach r X.env)).any (·.1) = false := by
          have := stars_of (pos := pos) (env := X.env) h1
          rw [star_of hs] at this
          exact (Bool.or_eq_false_iff.mp this).2
        exact PEi (pe_call k4 ok.room (glX ok hg) k1 k2 k3 .nil pass0 hx n1 (star_of hs) hp) fun σ H Q => i_fn
    · cases h
  · split at h
    · rename_i hb
      obtain ⟨hg, rfl⟩ := isB_of hb
      split at h
      · rename_i a t tp
        split at h
        · rename_i ty a' h1 h2
          split at h
          · rename_i hg2
            cases h
            have et := ty_some h1
            subst et
            obtain ⟨n1, n2, n3⟩ := okName_of (gl_of hg).1
            obtain ⟨m1, m2, m3⟩ := okName_of (gl_of hg2).1
            have pt : PE X (.Name (Str.ofString ty.name) tp) (tC (.ty ty.name)) := pe_bltn (glX ok hg2) (ok.blt ty.name (by cases ty <;> decide)) (boot_ty ty) rfl m3 m1
            exact PEi (pe_callB call_isi (glX ok hg) (ok.blt "isinstance" (by decide)) boot_isi (pa_cons (hE T X fb a a' ok h2).1 (pa_cons pt pa_nil) (star_of (tr_form h2).1)) n3 n1 (star_of (tr_form h2).1) rfl) fun σ H Q => i_isi
          · cases h
        · cases h
      · cases h
    · split at h
      · rename_i hg
        split at h
        · rename_i f e r hf
          obtain ⟨l, h1, h2⟩ := Option.map_eq_some_iff.mp h
          subst h2
          obtain ⟨n1, n2, n3⟩ := okName_of (gl_of hg).1
          have hx := hEs T X fb _ l ok h1
          have hs : isStarE e = false := by
            cases n with
            | zero => simp [trEs] at h1
            | succ n =>
              simp only [trEs] at h1
              split at h1
              · rename_i q1 q2; exact (tr_form q1).1
              · cases h1
          have hp : (backTo pos (starEach r X.env)).any (·.1) = false := by
            have := stars_of (pos := pos) (env := X.env) h1
            rw [star_of hs] at this
            exact (Bool.or_eq_false_iff.mp this).2
          have hu := hu_ok ok
          obtain ⟨y, hm, rfl⟩ := bf_some hf
          simp only [bfTab, List.mem_cons, List.not_mem_nil, or_false, Prod.mk.injEq] at hm
          rcases hm with ⟨rfl, rfl⟩ | ⟨rfl, rfl⟩ | ⟨rfl, rfl⟩ | ⟨rfl, rfl⟩ | ⟨rfl, rfl⟩ | ⟨rfl, rfl⟩ | ⟨rfl, rfl⟩ | ⟨rfl, rfl⟩ | ⟨rfl, rfl⟩
          · exact PEi (pe_callB (CallRe fun Z => opF_len) (glX ok hg) (ok.blt "len" (by decide)) (by decide +kernel) hx n3 n1 (star_of hs) hp) fun σ H Q => i_bf
          · exact PEi (pe_callB (CallRe fun Z => opF_all ok.calm) (glX ok hg) (ok.blt "all" (by decide)) (by decide +kernel) hx n3 n1 (star_of hs) hp) fun σ H Q => i_bf
          · exact PEi (pe_callB (CallRe fun Z => opF_any ok.calm) (glX ok hg) (ok.blt "any" (by decide)) (by decide +kernel) hx n3 n1 (star_of hs) hp) fun σ H Q => i_bf
          · exact PEi (pe_callTy (CallRe fun Z => opF_tuple) (glX ok hg) (ok.blt "tuple" (by decide)) (by decide +kernel) hx n3 n1 (star_of hs) hp) fun σ H Q => i_bf
          · exact PEi (pe_callTy (CallRe fun Z => opF_list) (glX ok hg) (ok.blt "list" (by decide)) (by decide +kernel) hx n3 n1 (star_of hs) hp) fun σ H Q => i_bf
          · exact PEi (pe_callB (CallRe fun Z => opF_sorted hu) (glX ok hg) (ok.blt "sorted" (by decide)) (by decide +kernel) hx n3 n1 (star_of hs) hp) fun σ H Q => i_bf
          · exact PEi (pe_callTy (CallRe fun Z => opF_int) (glX ok hg) (ok.blt "int" (by decide)) (by decide +kernel) hx n3 n1 (star_of hs) hp) fun σ H Q => i_bf
          · exact PEi (pe_callB (CallRe fun Z => opF_max ok.calm) (glX ok hg) (ok.blt "max" (by decide)) (by decide +kernel) hx n3 n1 (star_of hs) hp) fun σ H Q => i_bf
          · exact PEi (pe_callB (CallRe fun Z => opF_min ok.calm) (glX ok hg) (ok.blt "min" (by decide)) (by decide +kernel) hx n3 n1 (star_of hs) hp) fun σ H Q => i_bf
        · cases h
      · cases h
theorem fewArgs {es : List Expr} {e : Expr} {cpos : Pos} {env : PySem.Env} (hs : (backTo cpos (starEach (e :: es) env)).any (·.1) = false) (hl : (e :: es).length < 10) :
    ((backTo cpos (starEach (e :: es) env)).all (fun x => !x.1) && (backToKw cpos (keywordEach [] env)).all (fun x => x.1.isSome)
      && decide ((e :: es).length + ([] : List Keyword).length + (if ([] : List Keyword).isEmpty then 0 else 1) < 30)) = true := by
  have h1 : (backTo cpos (starEach (e :: es) env)).all (fun x => !x.1) = true := by
    rw [List.all_eq_true]
    intro x hx
    have := List.any_eq_false.mp hs x hx
    simpa using this
  have h2 : (e :: es).length + ([] : List Keyword).length + (if ([] : List Keyword).isEmpty then 0 else 1) < 30 := by
    show (e :: es).length + 0 + 0 < 30
    omega
  rw [h1, decide_eq_true h2]
  rfl
theorem trEs_len : ∀ {es : List Expr} {n : Nat} {T : Tx} {l : Es}, trEs n T es = some l → es = [] ∨ ∃ e r, es = e :: r
  | [], _, _, _, _ => .inl rfl
  | e :: r, _, _, _, _ => .inr ⟨e, r, rfl⟩
theorem meth_ok {n : Nat} (hE : SE F L lev n) (hEs : SEs F L lev n) {T : Tx} {X : Cx} {fb : Str → Bool} {o : Expr} {m : Str} {apos : Pos} {es : List Expr} {cpos : Pos} {c : Ex} (ok : Ok F L lev X T fb)
    (h : trE (n + 1) T (.Call (.Attribute o m apos) es [] cpos) = some c) : PE X (.Call (.Attribute o m apos) es [] cpos) (tD X.K (cF F L lev) c) := by
  simp only [trE] at h
  split at h
  · rename_i hn
    simp only [Bool.and_eq_true] at hn
    obtain ⟨hn, hline⟩ := hn
    have hbase : attributeBase o m X.env (eval o X.env) = eval o X.env := by
      cases o <;> first | rfl | (simp [isNameE] at hn)
    split at h
    · rename_i mm o' l h1 h2 h3
      cases h
      have po := (hE T X fb o o' ok h2).1
      cases es with
      | nil =>
        have e0 : l = .nil := by
          cases n <;> (simp only [trEs] at h3; cases h3; rfl)
        subst e0
        rcases mt_some h1 with ⟨rfl, rfl⟩ | ⟨rfl, rfl⟩ | ⟨rfl, rfl⟩
        · exact PEi (pe_bm0 PySem.F.plainAttrs_list PySem.F.slot_list_append PySem.F.type_list_append (MtMe fun z => opM_append) po hbase hline) fun σ H Q => i_mt0
        · exact PEi (pe_bm0 PySem.F.plainAttrs_list PySem.F.slot_list_extend PySem.F.type_list_extend (MtMe fun z => opM_extend) po hbase hline) fun σ H Q => i_mt0
        · exact PEi (pe_bm0 PySem.F.plainAttrs_list PySem.F.slot_list_pop PySem.F.type_list_pop (MtMe fun z => opM_pop) po hbase hline) fun σ H Q => i_mt0
      | cons e r =>
        have hx := hEs T X fb _ l ok h3
        have hall := stars_of (pos := cpos) (env := X.env) h3
        have hs : isStarE e = false := by
          cases n with
          | zero => simp [trEs] at h3
          | succ n =>
            simp only [trEs] at h3
            split at h3
            · rename_i q1 q2; exact (tr_form q1).1
            · cases h3
        have hp : (backTo cpos (starEach r X.env)).any (·.1) = false := by
          have := hall
          rw [star_of hs] at this
          exact (Bool.or_eq_false_iff.mp this).2
        -- more than one argument: the evaluator gives nothing
        cases r with
        | nil =>
          have hf := fewArgs hall (show (e :: []).length < 10 by simp)
          rcases mt_some h1 with ⟨rfl, rfl⟩ | ⟨rfl, rfl⟩ | ⟨rfl, rfl⟩
          · exact PEi (pe_bm PySem.F.plainAttrs_list PySem.F.slot_list_append PySem.F.type_list_append (MtMe fun z => opM_append) po hx hbase hf hline (star_of hs) hp) fun σ H Q => i_mt
          · exact PEi (pe_bm PySem.F.plainAttrs_list PySem.F.slot_list_extend PySem.F.type_list_extend (MtMe fun z => opM_extend) po hx hbase hf hline (star_of hs) hp) fun σ H Q => i_mt
          · exact PEi (pe_bm PySem.F.plainAttrs_list PySem.F.slot_list_pop PySem.F.type_list_pop (MtMe fun z => opM_pop) po hx hbase hf hline (star_of hs) hp) fun σ H Q => i_mt
        | cons e2 r2 =>
          refine ⟨fun pins s σ H Q I q => ?_⟩
          exfalso
          obtain ⟨Z, p, ws, mu, S, w, S', hL, hS, he, hQ⟩ := q
          simp only [ev] at he
          obtain ⟨⟨w1, S1⟩, q1, q2⟩ := ev_bind he
          obtain ⟨⟨w2, S2⟩, q3, q4⟩ := ev_bind q2
          have hlen : 2 ≤ w2.length := by
            cases n with
            | zero => simp [trEs] at h3
            | succ n =>
              simp only [trEs] at h3
              split at h3
              · rename_i a1 b1 k1 k2
                cases h3
                cases n with
                | zero => simp [trEs] at k2
                | succ n =>
                  simp only [trEs] at k2
                  split at k2
                  · cases k2
                    simp only [evs] at q3
                    obtain ⟨u1, u2, u3⟩ := ev_bind q3
                    obtain ⟨u4, u5, u6⟩ := ev_bind u3
                    obtain ⟨u7, u8, u9⟩ := ev_bind u5
                    obtain ⟨v1, v2, v3⟩ := ev_bind u9
                    cases v3
                    cases u6
                    simp
                  · cases k2
              · cases h3
          have dead : ∀ {mm : Mt}, mtF p mm w1 w2 S2 = some (w, S') → False := fun {mm} hm => by
            match w2, hlen with
            | a :: b :: t, _ =>
              cases mm with
              | append => replace hm : mAppend p w1 (a :: b :: t) S2 = some (w, S') := hm; unfold mAppend at hm; split at hm <;> simp_all
              | extend => replace hm : mExtend p w1 (a :: b :: t) S2 = some (w, S') := hm; unfold mExtend at hm; split at hm <;> simp_all
              | pop => replace hm : mPop p w1 (a :: b :: t) S2 = some (w, S') := hm; unfold mPop at hm; split at hm <;> simp_all
          exact dead q4
    · cases h
  · cases h
theorem sub_ok {n : Nat} (hE : SE F L lev n) (hOp : SOp F L lev n) {T : Tx} {X : Cx} {fb : Str → Bool} {a i : Expr} {pos : Pos} {c : Ex} (ok : Ok F L lev X T fb)
    (h : trE (n + 1) T (.Subscript a i pos) = some c) : PE X (.Subscript a i pos) (tD X.K (cF F L lev) c) := by
  simp only [trE] at h
  split at h <;> rename_i heq <;> try (cases heq; done)
  all_goals try (cases h; done)
  · cases heq
    obtain ⟨a', h1, h2⟩ := Option.map_eq_some_iff.mp h
    subst h2
    exact PEi (pe_revL (hE T X fb _ a' ok h1).1) fun σ H Q => i_rev
  · cases heq
    split at h
    · rename_i a' lo hi h1 h2 h3
      cases h
      exact PEi (pe_slice (SlRe fun Z => slD) (hE T X fb _ a' ok h1).1 (hOp T X fb _ lo ok h2) (hOp T X fb _ hi ok h3)) fun σ H Q => i_sl
    · cases h
  · cases heq
    split at h
    · rename_i a' i' h1 h2
      cases h
      exact PEi (pe_ix (IxRe fun Z => ixD) (hE T X fb _ a' ok h1).1 (hE T X fb _ i' ok h2).1 (plainIx_of (tr_form h2).2.2)) fun σ H Q => i_ix
    · cases h
end
end DV
/-! DVSound2: the theorem for expressions, statements. -/

namespace DV
open PySem L2 PyProof.Rows
section
variable {F : List FnD} {L lev : Nat}
theorem isTrue_ite {X : Cx} {t a b : Expr} {pos : Pos} {tt ta tb : TT} (ht : PT X t tt) (ha : PT X a ta) (hb : PT X b tb) : PT X (.IfExp t a b pos) (fun σ H Q => tt σ H fun c H1 => if c = true then ta σ H1 Q else tb σ H1 Q) := by
  refine ⟨fun pins s σ H Q I h => ?_⟩
  show wpAny _ _ (do if ← isTrue t X.env (eval t X.env) then isTrue a X.env (eval a X.env) else isTrue b X.env (eval b X.env)) _ _ s
  refine wpAny_bind (thn (ht.run pins s σ H _ I h) fun c s1 hq => ?_)
  obtain ⟨H1, I1, q⟩ := hq
  cases c with
  | true => exact ha.run pins s1 σ H1 Q I1 q
  | false => exact hb.run pins s1 σ H1 Q I1 q
theorem s_E {n : Nat} (hE : SE F L lev n) (hEs : SEs F L lev n) (hA : SA F L lev n) (hO : SO F L lev n) (hOp : SOp F L lev n) (hIf : SIf F L lev n) (hI : SI F L lev n) : SE F L lev (n + 1) := by
  intro T X fb e c ok h
  cases e with
  | Constant k j pos =>
    simp only [trE] at h
    obtain ⟨k', h1, h2⟩ := Option.map_eq_some_iff.mp h
    subst h2
    have q : PE X (.Constant k j pos) (tD X.K (cF F L lev) (.c k')) := PEi (cst_of h1) fun σ H Q => i_c
    exact ⟨q, pt_of q fun _ => rfl⟩
  | Name x pos =>
    have q : PE X (.Name x pos) (tD X.K (cF F L lev) c) := by
      simp only [trE] at h
      split at h
      · rename_i i hs
        cases h
        obtain ⟨n0, h1, h2⟩ := slot_some hs
        obtain ⟨n1, n2, n3⟩ := okName_of n0
        exact PEi (pe_var (by rw [ok.N]; exact h1) (by rw [ok.sc]; exact h2) n1 n2) fun σ H Q => i_v
      · split at h
        · rename_i hg
          split at h
          · rename_i k hk
            cases h
            obtain ⟨u, h1, h2⟩ := ok.cst x k hk
            obtain ⟨n1, n2, n3⟩ := okName_of (gl_of hg).1
            exact PEi (pe_glob (glX ok hg) h1 h2 n1) fun σ H Q => i_g
          · cases h
        · cases h
    exact ⟨q, pt_of q fun _ => rfl⟩
  | BinOp a o b pos =>
    have q : PE X (.BinOp a o b pos) (tD X.K (cF F L lev) c) := by
      simp only [trE] at h
      split at h
      · rename_i o' a' b' h1 h2 h3
        cases h
        exact PEi (pe_op (OpRe fun Z => opB h1) (hE T X fb a a' ok h2).1 (hE T X fb b b' ok h3).1) fun σ H Q => i_bin
      · cases h
    exact ⟨q, pt_of q fun _ => rfl⟩
  | UnaryOp o a pos =>
    cases o with
    | USub =>
      have q : PE X (.UnaryOp .USub a pos) (tD X.K (cF F L lev) c) := by
        simp only [trE] at h
        obtain ⟨a', h1, h2⟩ := Option.map_eq_some_iff.mp h
        subst h2
        exact PEi (pe_un un_neg (hE T X fb a a' ok h1).1) fun σ H Q => i_neg
      exact ⟨q, pt_of q fun _ => rfl⟩
    | Not =>
      simp only [trE] at h
      obtain ⟨a', h1, h2⟩ := Option.map_eq_some_iff.mp h
      subst h2
      obtain ⟨q1, q2⟩ := hE T X fb a a' ok h1
      exact ⟨PEi (pe_not q1) fun σ H Q => i_not, PTi (pt_not q2) fun σ H Q => i_notT⟩
    | Invert => simp [trE] at h
    | UAdd => simp [trE] at h
  | BoolOp o es pos =>
    cases o with
    | And =>
      simp only [trE] at h
      obtain ⟨q1, q2⟩ := hA T X fb es c pos ok h
      exact ⟨q1, q2.pt⟩
    | Or =>
      simp only [trE] at h
      obtain ⟨q1, q2⟩ := hO T X fb es c pos ok h
      exact ⟨q1, q2.pt⟩
  | Compare a ops cs pos =>
    match ops, cs with
    | [o], [b] =>
      simp only [trE] at h
      split at h
      · rename_i a' b' h1 h2
        cases h
        have r := OpRe (X := X) (f := compareOp o) fun Z => opC (Z := Z) (hu_ok ok)
        exact ⟨PEi (pe_cmpR r (hE T X fb a a' ok h1).1 (hE T X fb b b' ok h2).1 (mark_of (tr_form h2).2.1)) fun σ H Q => i_cmp,
          PTi (pt_cmpR r (hE T X fb a a' ok h1).1 (hE T X fb b b' ok h2).1 (mark_of (tr_form h2).2.1)) fun σ H Q => i_cmpT⟩
      · cases h
    | [], _ => simp [trE] at h
    | _ :: _ :: _, _ => simp [trE] at h
    | [_], [] => simp [trE] at h
    | [_], _ :: _ :: _ => simp [trE] at h
  | IfExp t a b pos =>
    simp only [trE] at h
    split at h
    · rename_i t' a' b' h1 h2 h3
      cases h
      obtain ⟨q1, q2⟩ := hE T X fb t t' ok h1
      obtain ⟨q3, q4⟩ := hE T X fb a a' ok h2
      obtain ⟨q5, q6⟩ := hE T X fb b b' ok h3
      exact ⟨PEi (pe_ifExp q2 q3 q5) fun σ H Q => i_ite, PTi (isTrue_ite q2 q4 q6) fun σ H Q => i_iteT⟩
    · cases h
  | Tuple es k pos =>
    have q : PE X (.Tuple es k pos) (tD X.K (cF F L lev) c) := by
      simp only [trE] at h
      obtain ⟨l, h1, h2⟩ := Option.map_eq_some_iff.mp h
      subst h2
      exact PEi (pe_tup (hEs T X fb es l ok h1)) fun σ H Q => i_tup
    exact ⟨q, pt_of q fun _ => rfl⟩
  | List es pos =>
    have q : PE X (.List es pos) (tD X.K (cF F L lev) c) := by
      simp only [trE] at h
      obtain ⟨l, h1, h2⟩ := Option.map_eq_some_iff.mp h
      subst h2
      exact PEi (pe_lst (hEs T X fb es l ok h1)) fun σ H Q => i_lst
    exact ⟨q, pt_of q fun _ => rfl⟩
  | Call f es kws pos =>
    have q : PE X (.Call f es kws pos) (tD X.K (cF F L lev) c) := by
      cases kws with
      | cons k ks => cases f <;> simp [trE] at h
      | nil =>
        cases f with
        | Name x xp => exact call_ok hE hEs ok h
        | Attribute o m apos => exact meth_ok hE hEs ok h
        | _ => simp [trE] at h
    exact ⟨q, pt_of q fun _ => by cases f <;> rfl⟩
  | Subscript a i pos =>
    have q := sub_ok hE hOp ok h
    exact ⟨q, pt_of q fun _ => rfl⟩
  | ListComp elt gens scope pos =>
    have q := comp_pe ok (comp_is hE hIf hI ok h)
    exact ⟨q, pt_of q fun _ => rfl⟩
  | _ => simp [trE] at h

/-- THE THEOREM for expressions -/
theorem sound : ∀ n : Nat, SE F L lev n ∧ SEs F L lev n ∧ SA F L lev n ∧ SO F L lev n ∧ SOp F L lev n ∧ SIf F L lev n ∧ SI F L lev n
  | 0 => ⟨fun T X fb e c ok h => by simp [trE] at h, fun T X fb e c ok h => by cases e with
      | nil => simp only [trEs] at h; cases h; exact PAi pa_nil fun σ H Q => i_nil
      | cons a r => simp [trEs] at h, fun T X fb e c pos ok h => by simp [trA] at h, fun T X fb e c pos ok h => by simp [trO] at h, fun T X fb e c ok h => by cases e with
      | none => simp only [trOp] at h; cases h; exact POi po_none fun σ H Q => i_no
      | some a => simp [trOp] at h, fun T X fb e c ok h => by cases e with
      | nil => simp only [trIf] at h; cases h; exact PTsi pts_nil fun σ H Q => i_yes
      | cons a r => simp [trIf] at h, fun T X fb tg e c ok h => by simp [trI] at h⟩
  | n + 1 => by
    obtain ⟨hE, hEs, hA, hO, hOp, hIf, hI⟩ := sound n
    exact ⟨s_E hE hEs hA hO hOp hIf hI, s_Es hE hEs, s_A hE hA, s_O hE hO, s_Op hE, s_If hE, s_I hE⟩

/-! ### statements -/
theorem swaps_none {e : Expr} {line : Nat} {env : PySem.Env} {n : Nat} {T : Tx} {c : Ex} (h : isCompE e = false) (ht : trE n T e = some c) : swapsWith e none line env = pure false := by
  cases n with
  | zero => simp [trE] at ht
  | succ n => cases e <;> first | rfl | (simp [trE] at ht; done) | (simp [isCompE] at h; done)
theorem swaps_name {e : Expr} {line : Nat} {env : PySem.Env} {n : Nat} {T : Tx} {c : Ex} {tg : Option Expr} (h : isCompE e = false) (ht : trE n T e = some c) : swapsWith e tg line env = pure false := by
  cases n with
  | zero => simp [trE] at ht
  | succ n => cases e <;> first | rfl | (simp [trE] at ht; done) | (simp [isCompE] at h; done)
/-- name = value, any value -/
theorem asg_name {n : Nat} {T : Tx} {X : Cx} {fb : Str → Bool} {x : Str} {p pos : Pos} {e : Expr} {i : Nat} {c : Ex} (ok : Ok F L lev X T fb) (h1 : stOf T fb x = some i) (h2 : trE n T e = some c) :
    PS X (.Assign [.Name x p] e pos) (tAsg (tD X.K (cF F L lev) c) (gName i)) := by
  have nd : X.N.Nodup := by rw [ok.N]; exact ok.nd
  obtain ⟨k1, k2, k3⟩ := st_some h1
  have k1' : X.N[i]? = some x := by rw [ok.N]; exact k1
  have k2' : L2.Loc X.env.scope x := by rw [ok.sc]; exact k2
  have k3' : X.fn x = true ∨ X.env.scope.names.lookup x = some .local := k3.elim (fun q => .inl (ok.fn x q)) (fun q => .inr (by rw [ok.sc]; exact q))
  cases hc : isCompE e with
  | false => exact ps_set nd k1' k2' ((sound n).1 T X fb e c ok h2).1 (swaps_name hc h2) k3'
  | true =>
    cases n with
    | zero => simp [trE] at h2
    | succ n =>
      obtain ⟨hE, hEs, hA, hO, hOp, hIf, hI⟩ := sound (F := F) (L := L) (lev := lev) n
      cases e with
      | ListComp elt gens scope cpos =>
        have hci := comp_is hE hIf hI ok h2
        have sw : ∃ b : Bool, swapsWith (.ListComp elt gens scope cpos) (some (.Name x p)) pos.line X.env = pure b ∧ (b = true → X.env.scope.names.lookup x = some .local) := by
          refine ⟨_, rfl, fun hb => ?_⟩
          simp only [Bool.and_eq_true] at hb
          have := hb.1.1.2
          simpa [Env.kindOf] using this
        obtain ⟨b, sb, sl⟩ := sw
        cases b with
        | false => exact ps_set nd k1' k2' (comp_pe ok hci) sb k3'
        | true =>
          have hl := sl rfl
          cases hci with
          | one h =>
            exact PSi (ps_setLc ok.calm nd k1' hl sb h.pi h.blk h.pg h.pt h.pe h.fs) fun D σ H q => i_lc (callF_keep lev) h.sub q
          | two h hp hs =>
            exact PSi (ps_setLc2 ok.calm nd k1' hl sb h.pi h.blk hs h.pg h.pt hp.pi hp.pg hp.pt h.pe h.fs hp.fs) fun D σ H q => i_lc2 (callF_keep lev) h.sub q
      | _ => simp [isCompE] at hc
end
end DV
/-! DVSound3: the theorem for statements. -/
namespace DV
open PySem L2 PyProof.Rows
section
variable {F : List FnD} {L lev : Nat}
def SS (F : List FnD) (L lev n : Nat) : Prop := ∀ (T : Tx) (X : Cx) (s : Stmt) (c : Sm), Ok F L lev X T (fun _ => true) → trS n T s = some c → PS X s (tDS X.K (cF F L lev) L c)
def SSs (F : List FnD) (L lev n : Nat) : Prop := ∀ (T : Tx) (X : Cx) (s : List Stmt) (c : Ss), Ok F L lev X T (fun _ => true) → trSs n T s = some c → PSs X s (tDSs X.K (cF F L lev) L c)
theorem noComp_tr {n : Nat} {T : Tx} {e : Expr} {c : Ex} {env : PySem.Env} {a : Expr} (h : trE n T e = some c) (h1 : isTupleE e = false) (h2 : isListE e = false) : swappedStores [a] e env = pure none := by
  cases n with
  | zero => simp [trE] at h
  | succ n => cases e <;> first | (simp [isTupleE] at h1; done) | (simp [isListE] at h2; done) | (cases a <;> rfl)
theorem sub_noSwap {n : Nat} {T : Tx} {e : Expr} {c : Ex} {env : PySem.Env} {o i : Expr} {p : Pos} (h : trE n T e = some c) : swappedStores [.Subscript o i p] e env = pure none := by
  cases n with
  | zero => simp [trE] at h
  | succ n => cases e <;> rfl
theorem sub_form {i : Expr} {o : Expr} {pos : Pos} {env : PySem.Env} (h : isSliceE i = false) : ∀ v, assign (.Subscript o i pos) env v = (do
      let ov ← holding [v] (eval o env)
      let iv ← holding [v, ov] (eval i env)
      standAt pos
      holding [v, ov, iv] (setItem ov iv v)
      release [v, ov, iv] []) := by
  intro v
  cases i <;> first | rfl | (simp [isSliceE] at h; done)
theorem sole_no {e : Expr} {line : Nat} {env : PySem.Env} {n : Nat} {T : Tx} {c : Ex} {tg : Expr} (h : isCompE e = false) (ht : trE n T e = some c) : swapsWithSole [tg] e line env = pure false := by
  cases n with
  | zero => simp [trE] at ht
  | succ n => cases e <;> first | rfl | (simp [trE] at ht; done) | (simp [isCompE] at h; done)
theorem never_own {X : Cx} {T : Tx} {fb : Str → Bool} (ok : Ok F L lev X T fb) : PassesOwn (model X.prog X.w) X.A X.env X.xe := by
  rw [ok.xe]; exact PassesOwn.never
theorem s_S {n : Nat} (hS : SS F L lev n) (hSs : SSs F L lev n) : SS F L lev (n + 1) := by
  obtain ⟨hE, hEs, hA, hO, hOp, hIf, hI⟩ := sound (F := F) (L := L) (lev := lev) n
  intro T X s c ok h
  have nd : X.N.Nodup := by rw [ok.N]; exact ok.nd
  cases s with
  | Expr e pos =>
    by_cases hd : ∃ x j p, e = .Constant (.str x) j p
    · obtain ⟨x, j, p, rfl⟩ := hd
      simp only [trS] at h
      cases h
      exact PSi ps_doc fun D σ H q => j_pass q
    · have h' : (if isCompE e then none else (trE n T e).map .expr) = some c := by
        cases e <;> first | exact h | skip
        rename_i k j p
        cases k <;> first | exact h | skip
        exact absurd ⟨_, _, _, rfl⟩ hd
      split at h'
      · cases h'
      · rename_i hc
        obtain ⟨e', h1, h2⟩ := Option.map_eq_some_iff.mp h'
        subst h2
        have hc' : isCompE e = false := by simpa using hc
        exact PSi (ps_expr (hE T X _ e e' ok h1).1 (swaps_none hc' h1)) fun D σ H q => j_expr q
  | Return e pos =>
    cases e with
    | none => simp only [trS] at h; cases h; exact PSi ps_retN fun D σ H q => j_retN q
    | some e =>
      simp only [trS] at h
      obtain ⟨e', h1, h2⟩ := Option.map_eq_some_iff.mp h
      subst h2
      exact PSi (ps_ret (hE T X _ e e' ok h1).1) fun D σ H q => j_ret q
  | Assign tgs e pos =>
    cases tgs with
    | nil => simp [trS] at h
    | cons t r =>
      cases r with
      | cons t2 r => cases t <;> simp [trS] at h
      | nil =>
        cases t with
        | Name x p =>
          simp only [trS] at h
          split at h
          · rename_i i e' h1 h2
            cases h
            exact PSi (asg_name ok h1 h2) fun D σ H q => j_asg q
          · cases h
        | Tuple es k p =>
          simp only [trS] at h
          split at h
          · cases h
          · rename_i hc
            have hc' : isTupleE e = false ∧ isListE e = false ∧ isCompE e = false := by
              simpa [Bool.or_eq_true, not_or, and_assoc] using hc
            split at h
            · rename_i g e' h1 h2
              cases h
              exact PSi (ps_asg (hE T X _ e e' ok h2).1 (pg_tg ok h1) (sole_no hc'.2.2 h2) (noComp_tr h2 hc'.1 hc'.2.1) (by rfl)) fun D σ H q => j_asg q
            · cases h
        | Subscript o i p =>
          simp only [trS] at h
          split at h
          · rename_i o' i' e' h1 h2 h3
            cases h
            refine PSi (ps_asg (hE T X _ e e' ok h3).1 (pg_sub (hE T X _ o o' ok h1).1 (hE T X _ i i' ok h2).1 (PSete (fun z : Frz × List Nat => setD (Z := z.1) (p := z.2))) (sub_form (tr_form h2).2.2)) ?_ (sub_noSwap h3) (by rfl)) fun D σ H q => j_asgIx q
            cases n with
            | zero => simp [trE] at h3
            | succ n => cases e <;> rfl
          · cases h
        | _ => simp [trS] at h
  | AugAssign tg o e pos =>
    cases tg with
    | Name x p =>
      simp only [trS] at h
      split at h
      · rename_i i e' h1 h2 h3
        cases h
        obtain ⟨k1, k2, k3⟩ := st_some h1
        have ho : o = .Add := by cases o <;> simp [binOf] at h2 <;> rfl
        subst ho
        exact PSi (ps_aug nd (by rw [ok.N]; exact k1) (by rw [ok.sc]; exact k2) (hE T X _ e e' ok h3).1 ip_add (.inl (ok.fn x rfl))) fun D σ H q => j_add q
      · rename_i i e' h1 h2 h3
        cases h
        obtain ⟨k1, k2, k3⟩ := st_some h1
        have ho : o = .Sub := by cases o <;> simp [binOf] at h2 <;> rfl
        subst ho
        exact PSi (ps_aug nd (by rw [ok.N]; exact k1) (by rw [ok.sc]; exact k2) (hE T X _ e e' ok h3).1 ip_sub (.inl (ok.fn x rfl))) fun D σ H q => j_sub q
      · cases h
    | _ => simp [trS] at h
  | If cnd a b pos =>
    simp only [trS] at h
    split at h
    · rename_i c' a' b' h1 h2 h3
      cases h
      exact PSi (ps_if (hE T X _ cnd c' ok h1).2 (hSs T X a a' ok h2) (hSs T X b b' ok h3)) fun D σ H q => j_ite q
    · cases h
  | While cnd b el pos =>
    cases el with
    | cons x r => simp [trS] at h
    | nil =>
      simp only [trS] at h
      split at h
      · rename_i c' b' h1 h2
        cases h
        exact PSi (ps_while (never_own ok) (hE T X _ cnd c' ok h1).2 (hSs T X b b' ok h2)) fun D σ H q => j_whl q
      · cases h
  | For tg it b el pos =>
    cases el with
    | cons x r => simp [trS] at h
    | nil =>
      simp only [trS] at h
      split at h
      · rename_i i' g' b' h1 h2 h3
        cases h
        exact PSi (ps_for (never_own ok) ok.calm (hI T X _ tg it i' ok h1) (pg_tg ok h2) (hSs T X b b' ok h3) (folded_of (trI_set h1))) fun D σ H q => j_for (callF_keep lev) q
      · cases h
  | Break pos => simp only [trS] at h; cases h; exact PSi ps_break fun D σ H q => j_brk q
  | Continue pos => simp only [trS] at h; cases h; exact PSi ps_continue fun D σ H q => j_cont q
  | Pass pos => simp only [trS] at h; cases h; exact PSi ps_pass fun D σ H q => j_pass q
  | Raise a b pos => simp only [trS] at h; cases h; exact PSi ps_never fun D σ H q => j_never q
  | _ => simp [trS] at h
theorem s_Ss {n : Nat} (hS : SS F L lev n) (hSs : SSs F L lev n) : SSs F L lev (n + 1) := by
  intro T X s c ok h
  cases s with
  | nil => simp only [trSs] at h; cases h; exact PSsi pss_nil fun D σ H q => j_nil q
  | cons a r =>
    simp only [trSs] at h
    split at h
    · rename_i a' r' h1 h2
      cases h
      exact PSsi (pss_cons (hS T X a a' ok h1) (hSs T X r r' ok h2)) fun D σ H q => j_cons q
    · cases h
/-- THE THEOREM for statements -/
theorem soundS : ∀ n : Nat, SS F L lev n ∧ SSs F L lev n
  | 0 => ⟨fun T X s c ok h => by simp [trS] at h, fun T X s c ok h => by cases s with
      | nil => simp only [trSs] at h; cases h; exact PSsi pss_nil fun D σ H q => j_nil q
      | cons a r => simp [trSs] at h⟩
  | n + 1 => ⟨s_S (soundS n).1 (soundS n).2, s_Ss (soundS n).1 (soundS n).2⟩
end
end DV
/-! DVDef: a table of defs keeps its promises, by the depth of calls. -/
namespace DV
open PySem L2 PyProof.Rows
section
variable {K : PySem.W.Frag} {Z Z' : Frz} {mu mu' : List Addr} {H H' : Hp} {S S' T0 : Sto} {Q : VK}
/-- a list of another store joins this one -/
theorem RS.adopt (r : RS K Z mu H S) {a : Addr} {l : List W} {vs : List V} (ha : a ∉ mu) (e : H a = some (.lst vs)) (h : RWs K H Z mu l vs) (hz : ∀ o, ¬ Z a o) : RS K Z (mu ++ [a]) H (S ++ [.lst l]) where
  len := by simp [r.len]
  nd := by
    rw [List.nodup_append]
    exact ⟨r.nd, by simp, fun x hx y hy => by
      simp only [List.mem_singleton] at hy
      subst hy
      exact fun z => ha (z ▸ hx)⟩
  ob := fun i l1 h1 => by
    rw [List.getElem?_append] at h1
    split at h1
    · obtain ⟨b, us, h2, h3, h4⟩ := r.ob i l1 h1
      exact ⟨b, us, pre_get (List.prefix_append _ _) h2, h3, h4.mono (Ext.refl _) (List.prefix_append _ _)⟩
    · rename_i hi
      have hi2 : i = S.length := by
        by_cases hq : i = S.length
        · exact hq
        · rw [List.getElem?_eq_none (by simp only [List.length_singleton]; omega)] at h1
          cases h1
      subst hi2
      simp only [Nat.sub_self, List.getElem?_cons_zero, Option.some.injEq, O.lst.injEq] at h1
      subst h1
      refine ⟨a, vs, ?_, e, h.mono (Ext.refl _) (List.prefix_append _ _)⟩
      rw [← r.len]
      simp
  fz := r.fz
  sep := fun b o hb hm => by
    rcases List.mem_append.mp hm with q | q
    · exact r.sep b o hb q
    · simp only [List.mem_singleton] at q
      subst q
      exact hz o hb
/-- what the caller's lists are, frozen -/
def frzOf (Z : Frz) (mu : List Addr) (H : Hp) (S : Sto) : Frz := fun a o => Z a o ∨ ∃ (i : Nat) (l : List W), S[i]? = some (O.lst l) ∧ mu[i]? = some a ∧ H a = some o
theorem derW_ok (r : RS K Z mu H S) {w w' : W} {v : V} (h : derW S w = some w') (hv : RW K H Z mu w v) : RW K H (frzOf Z mu H S) [] w' v := by
  cases w with
  | d x => simp only [derW] at h; cases h; simp only [RW] at hv ⊢; exact hv
  | lv l =>
    simp only [derW] at h; cases h
    simp only [RW] at hv ⊢
    obtain ⟨a, vs, h1, h2, h3⟩ := hv
    refine ⟨a, vs, h1, ?_, h3⟩
    rcases h2 with q | q | q
    · exact .inl (.inl q)
    · exact .inr (.inl q)
    · exact .inr (.inr q)
  | ref n =>
    simp only [derW] at h
    split at h
    · rename_i l hl
      split at h
      · rename_i ds hd
        cases h
        simp only [RW] at hv ⊢
        obtain ⟨a, h1, h2⟩ := hv
        obtain ⟨a', vs, h3, h4, h5⟩ := r.getL hl
        rw [h1] at h3
        cases h3
        exact ⟨a, vs, h2, .inl (.inr ⟨n, l, getL_some hl, h1, h4⟩), (RWs.allD hd).mp h5⟩
      · cases h
    · cases h
  | tr l => simp only [derW] at h; cases h
theorem derL_ok (r : RS K Z mu H S) : ∀ {l l' : List W} {vs : List V}, derL S l = some l' → RWs K H Z mu l vs → RWs K H (frzOf Z mu H S) [] l' vs
  | [], _, _, h, hv => by simp only [derL] at h; cases h; rw [RWs.nil_iff] at hv ⊢; exact hv
  | w :: l, _, _, h, hv => by
    simp only [derL] at h
    split at h
    · rename_i w' h1
      split at h
      · rename_i l' h2
        cases h
        obtain ⟨v, vs, rfl, h3, h4⟩ := RWs.cons_iff.mp hv
        exact RWs.cons (derW_ok r h1 h3) (derL_ok r h2 h4)
      · cases h
    · cases h
theorem derL_len {S : Sto} : ∀ {l l' : List W}, derL S l = some l' → l'.length = l.length
  | [], _, h => by simp only [derL] at h; cases h; rfl
  | w :: l, _, h => by
    simp only [derL] at h
    split at h
    · split at h
      · rename_i h2; cases h; simp [derL_len h2]
      · cases h
    · cases h
theorem RS.frz (r : RS K Z mu H S) : RS K (frzOf Z mu H S) [] H [] where
  len := rfl
  nd := List.nodup_nil
  ob := fun i l h => by simp at h
  fz := fun a o h => h.elim (r.fz a o) fun ⟨_, _, _, _, e⟩ => e
  sep := fun a o h => by simp
theorem RS.same (r : RS K Z mu H S) (e : Ext H H') (s : RS K (frzOf Z mu H S) mu' H' T0) : RS K Z mu H' S where
  len := r.len
  nd := r.nd
  ob := fun i l h => by
    obtain ⟨a, vs, h1, h2, h3⟩ := r.ob i l h
    exact ⟨a, vs, h1, s.fz a _ (.inr ⟨i, l, h, h1, h2⟩), h3.mono e (List.prefix_refl _)⟩
  fz := fun a o h => s.fz a o (.inl h)
  sep := r.sep
theorem RS.apart (r : RS K Z mu H S) (s : RS K (frzOf Z mu H S) mu' H' T0) {a : Addr} (ha : a ∈ mu') : a ∉ mu ∧ ∀ o, ¬ Z a o := by
  refine ⟨fun hm => ?_, fun o ho => s.sep a o (.inl ho) ha⟩
  obtain ⟨i, hi⟩ := List.mem_iff_getElem?.mp hm
  have hlt : i < S.length := by rw [← r.len]; exact (List.getElem?_eq_some_iff.mp hi).1
  cases hS : S[i]? with
  | none => rw [List.getElem?_eq_none_iff] at hS; omega
  | some o =>
    obtain ⟨l⟩ := o
    obtain ⟨b, vs, h1, h2, h3⟩ := r.ob i l hS
    rw [hi] at h1
    cases h1
    exact s.sep a _ (.inr ⟨i, l, hS, hi, h2⟩) ha
theorem takeW_ok (r : RS K Z mu H S) (e : Ext H H') (s : RS K (frzOf Z mu H S) mu' H' T0) {x w : W} {S' : Sto} {v : V} (h : takeW T0 x S = some (w, S')) (hv : RW K H' (frzOf Z mu H S) mu' x v) :
    ∃ mu2, mu <+: mu2 ∧ RS K Z mu2 H' S' ∧ RW K H' Z mu2 w v := by
  cases x with
  | d x =>
    simp only [takeW] at h
    cases h
    simp only [RW] at hv
    exact ⟨mu, List.prefix_refl _, r.same e s, by simp only [RW]; exact hv⟩
  | ref k =>
    simp only [takeW] at h
    split at h
    · rename_i l hl
      split at h
      · rename_i ds hd
        simp only [newL, Option.some.injEq, Prod.mk.injEq] at h
        obtain ⟨h1, h2⟩ := h
        subst h1 h2
        simp only [RW] at hv
        obtain ⟨a, h1, h2⟩ := hv
        obtain ⟨a', us, h3, h4, h5⟩ := s.getL hl
        rw [h1] at h3
        cases h3
        have hm : a ∈ mu' := List.mem_iff_getElem?.mpr ⟨k, h1⟩
        obtain ⟨p1, p2⟩ := r.apart s hm
        refine ⟨mu ++ [a], List.prefix_append _ _, (r.same e s).adopt p1 h4 ((RWs.allD hd).mpr ((RWs.allD hd).mp h5)) p2, ?_⟩
        simp only [RW]
        exact ⟨a, (r.same e s).last a, h2⟩
      · cases h
    · cases h
  | tr l => simp only [takeW] at h; cases h
  | lv l => simp only [takeW] at h; cases h
theorem takeL_ok (r : RS K Z mu H S) (e : Ext H H') (s : RS K (frzOf Z mu H S) mu' H' T0) : ∀ {l l' : List W} {S' : Sto} {vs : List V}, takeL T0 l S = some (l', S') → RWs K H' (frzOf Z mu H S) mu' l vs →
    ∃ mu2, mu <+: mu2 ∧ RS K Z mu2 H' S' ∧ RWs K H' Z mu2 l' vs
  | [], _, _, _, h, hv => by
    simp only [takeL] at h
    cases h
    exact ⟨mu, List.prefix_refl _, r.same e s, by rw [RWs.nil_iff] at hv ⊢; exact hv⟩
  | x :: l, l', S', vs, h, hv => by
    obtain ⟨v, vs, rfl, h3, h4⟩ := RWs.cons_iff.mp hv
    cases x with
    | d x =>
      simp only [takeL] at h
      split at h
      · rename_i q hq
        cases h
        obtain ⟨mu2, m1, m2, m3⟩ := takeL_ok r e s (l' := q.1) (S' := q.2) hq h4
        exact ⟨mu2, m1, m2, RWs.cons (by simp only [RW] at h3 ⊢; exact h3) m3⟩
      · cases h
    | ref k =>
      simp only [takeL] at h
      split at h
      · rename_i ds hd
        split at h
        · rename_i q hq
          cases h
          obtain ⟨mu2, m1, m2, m3⟩ := takeW_ok r e s (w := q.1) (S' := q.2) hq h3
          exact ⟨mu2, m1, m2, RWs.cons m3 ((RWs.allD hd).mpr ((RWs.allD hd).mp h4))⟩
        · cases h
      · cases h
    | tr l => simp only [takeL] at h; cases h
    | lv l => simp only [takeL] at h; cases h
theorem hand_ok (r : RS K Z mu H S) (e : Ext H H') (s : RS K (frzOf Z mu H S) mu' H' T0) {x w : W} {S' : Sto} {v : V} (h : handW T0 x S = some (w, S')) (hv : RW K H' (frzOf Z mu H S) mu' x v) :
    ∃ mu2, mu <+: mu2 ∧ RS K Z mu2 H' S' ∧ RW K H' Z mu2 w v := by
  cases x with
  | tr l =>
    simp only [handW] at h
    split at h
    · rename_i q hq
      cases h
      simp only [RW] at hv
      obtain ⟨a, vs, h1, h2, h3⟩ := hv
      obtain ⟨mu2, m1, m2, m3⟩ := takeL_ok r e s (l' := q.1) (S' := q.2) hq h3
      exact ⟨mu2, m1, m2, by simp only [RW]; exact ⟨a, vs, h1, h2, m3⟩⟩
    · cases h
  | d x => exact takeW_ok r e s (x := .d x) (by simpa only [handW] using h) hv
  | ref k => exact takeW_ok r e s (x := .ref k) (by simpa only [handW] using h) hv
  | lv l => exact takeW_ok r e s (x := .lv l) (by simpa only [handW] using h) hv
theorem start_ok {N : List Str} {D : FnD} (hN : D.nsl = N.length) {ws : List W} {vs : List V} (h : RWs K H Z mu ws vs) (hl : vs.length ≤ N.length) : RL K Z mu H (begin D ws) (L2.start N vs) where
  len := by
    have := h.length
    simp only [begin, L2.start, List.length_append, List.length_map, List.length_replicate]
    omega
  at' := fun i w e => by
    have hlen := h.length
    unfold begin at e
    rw [List.getElem?_append] at e
    split at e
    · rename_i hi
      rw [List.getElem?_map] at e
      obtain ⟨w', h1, h2⟩ := Option.map_eq_some_iff.mp e
      cases h2
      obtain ⟨v, h3, h4⟩ := h.get h1
      refine ⟨v, ?_, h4⟩
      unfold L2.start
      rw [List.getElem?_append_left (by simp only [List.length_map] at hi ⊢; omega), List.getElem?_map, h3]
      rfl
    · rw [List.getElem?_replicate] at e
      split at e <;> cases e
end

structure Tab (K : PySem.W.Frag) (mg : Str → Option Value) (F : List FnD) (fns : List Str) (cst : List (Str × Cst)) (defs : List DefI) : Prop where
  tr : defs.map (trDef fns cst) = F.map some
  nm : fns.length = defs.length
  fn : ∀ (i : Nat) (d : DefI) (x : Str), defs[i]? = some d → fns[i]? = some x → ∃ a fd q, mg x = some (.ref a) ∧ Fun K x q d.st a fd ∧ Binds K fd d.ps []
  cst : ∀ (x : Str) (k : Cst), cst.lookup x = some k → ∃ u, mg x = some u ∧ RelV k.toV u
  blt : ∀ y ∈ bltNames, mg (Str.ofString y) = none

theorem scope_of {N ps : List Str} {sc : Scope} (h : scopeC N ps sc = true) : FnScope N ps sc := by
  unfold scopeC at h
  simp only [Bool.and_eq_true, Bool.not_eq_true', decide_eq_true_eq, List.all_eq_true, Bool.or_eq_true] at h
  obtain ⟨⟨⟨⟨⟨⟨h1, h2⟩, h3⟩, h4⟩, h5⟩, h6⟩, h7⟩ := h
  refine ⟨?_, h2, h3, h4, h5, h6, fun y hy => ?_⟩
  · split at h1
    · assumption
    · cases h1
  · have := h7 y hy
    intro e
    rw [e] at this
    cases this
section
variable {P : Program} {w : World} {K : PySem.W.Frag} {mg : Str → Option Value} {base : Heap} {F : List FnD} {L : Nat} {fns : List Str} {cst : List (Str × Cst)} {defs : List DefI}
theorem Tab.get (tb : Tab K mg F fns cst defs) {i : Nat} {d : DefI} (h : defs[i]? = some d) : ∃ D, F[i]? = some D ∧ trDef fns cst d = some D := by
  have := congrArg (fun l => l[i]?) tb.tr
  simp only [List.getElem?_map, h] at this
  cases hF : F[i]? with
  | none => rw [hF] at this; cases this
  | some D =>
    rw [hF] at this
    simp only [Option.map_some, Option.some.injEq] at this
    exact ⟨D, rfl, this⟩
theorem trDef_of {d : DefI} {D : FnD} (h : trDef fns cst d = some D) : FnScope d.N d.ps (defScope d.st) ∧ trSs trFuel ⟨d.N, defScope d.st, fns, cst⟩ (defBody d.st) = some D.body ∧ D.np = d.ps.length ∧ D.nsl = d.N.length := by
  unfold trDef at h
  split at h
  · rename_i hc
    rw [Bool.and_eq_true] at hc
    split at h
    · rename_i b hb
      cases h
      exact ⟨scope_of hc.1, hb, rfl, rfl⟩
    · cases h
  · cases h
/-- what a def keeps, given what its callees keep -/
theorem def_ok (tb : Tab K mg F fns cst defs) {n i : Nat} {d : DefI} {x q : Str} {a : Addr} {fd : FuncData} (h1 : defs[i]? = some d) (k2 : Fun K x q d.st a fd)
    (hfns : ∀ (f : Nat) (x : Str), fns[f]? = some x → ∃ a fd ps, mg x = some (.ref a) ∧ PySem.W.keepIn K (.ref a) = true ∧ Binds K fd ps [] ∧ FnOk P w K mg base CX0 n a fd ps (spD K F L n f)) :
    FnOk P w K mg base CX0 (n + 1) a fd d.ps (spD K F L (n + 1) i) := by
    obtain ⟨D, hF, hD⟩ := tb.get h1
    obtain ⟨hS, hB, hnp, hnsl⟩ := trDef_of hD
    have unf : ∀ {ws : List W} {p : List Nat} {S : Sto} {r : W × Sto}, callF F L (n + 1) i ws p S = some r → ws.length = d.ps.length ∧
        (if D.pure then (derL S ws).bind fun args' => (fin (exSs (callF F L n) L [] D.body (begin D args') [])).bind fun q => handW q.2 q.1 S else fin (exSs (callF F L n) L p D.body (begin D ws) S)) = some r := fun {ws p S r} h => by
      simp only [callF, hF] at h
      split at h
      · rename_i hl; exact ⟨by rw [← hnp]; exact hl, h⟩
      · cases h
    have hps : d.ps.length ≤ d.N.length := by
      have := congrArg List.length hS.pre
      rw [List.length_take] at this
      omega
    refine k2.ok hS (fun vs H Q E ⟨Z, p, ws, mu, S, w, S', _, hW, h, _⟩ => ?_) (fun cdv A outer s H vs Q E hr ⟨Z, p, ws, mu, S, w, S', hR, hW, h, hQ⟩ => ?_)
    · rw [← hW.length]; exact (unf h).1
    · obtain ⟨hl, h⟩ := unf h
      refine ⟨tDSs K (cF F L n) L D.body, (soundS trFuel).2 ⟨d.N, defScope d.st, fns, cst⟩ _ _ D.body ?_ hB, ?_⟩
      · exact { N := rfl, nd := hS.nd, sc := rfl, fn := fun _ _ => rfl, calm := rfl, xe := rfl, room := hr, fns := hfns, cst := tb.cst, blt := tb.blt }
      · have hvl : vs.length ≤ d.N.length := by rw [← hW.length]; omega
        cases hp : D.pure with
        | false =>
          rw [hp] at h
          simp only [Bool.false_eq_true, if_false] at h
          obtain ⟨ws', hh⟩ := fin_some h
          rcases hh with hh | ⟨rfl, hh⟩
          · exact ⟨Z, p, begin D ws, mu, S, _, start_ok hnsl hW hvl, hR, hh, fun σ' H' mu' m e s l v hv => hQ v H' mu' m e s hv⟩
          · exact ⟨Z, p, begin D ws, mu, S, _, start_ok hnsl hW hvl, hR, hh, fun σ' H' mu' m e s l => hQ .non H' mu' m e s (rw_none.mpr rfl)⟩
        | true =>
          rw [hp] at h
          simp only [if_true] at h
          obtain ⟨ws', hd, h⟩ := ev_bind h
          obtain ⟨⟨w0, T0⟩, hf, h⟩ := ev_bind h
          have hW' := derL_ok hR hd hW
          obtain ⟨ws2, hh⟩ := fin_some hf
          rcases hh with hh | ⟨rfl, hh⟩
          · refine ⟨frzOf Z mu H S, [], begin D ws', [], [], _, start_ok hnsl hW' hvl, hR.frz, hh, fun σ' H' mu' m e s l v hv => ?_⟩
            obtain ⟨mu2, m1, m2, m3⟩ := hand_ok hR e s h hv
            exact hQ v H' mu2 m1 e m2 m3
          · refine ⟨frzOf Z mu H S, [], begin D ws', [], [], _, start_ok hnsl hW' hvl, hR.frz, hh, fun σ' H' mu' m e s l => ?_⟩
            obtain ⟨mu2, m1, m2, m3⟩ := hand_ok hR e s h (v := .non) (rw_none.mpr rfl)
            exact hQ .non H' mu2 m1 e m2 m3
/-- THE THEOREM for defs -/
theorem tab_ok (tb : Tab K mg F fns cst defs) : ∀ (n f : Nat) (x : Str), fns[f]? = some x →
    ∃ a fd ps, mg x = some (.ref a) ∧ PySem.W.keepIn K (.ref a) = true ∧ Binds K fd ps [] ∧ FnOk P w K mg base CX0 n a fd ps (spD K F L n f)
  | 0, f, x, hy => by
    have hlt : f < defs.length := by rw [← tb.nm]; exact (List.getElem?_eq_some_iff.mp hy).1
    obtain ⟨a, fd, q, k1, k2, k3⟩ := tb.fn f defs[f] x (List.getElem?_eq_getElem hlt) hy
    refine ⟨a, fd, _, k1, k2.kp, k3, ⟨fun vs H Q E ⟨Z, p, ws, mu, S, w, S', _, _, h, _⟩ => ?_, fun A outer s H args us vs Q E _ _ _ _ ⟨Z, p, ws, mu, S, w, S', _, _, h, _⟩ => ?_⟩⟩
    · simp only [callF] at h; cases h
    · simp only [callF] at h; cases h
  | n + 1, f, x, hy => by
    have hlt : f < defs.length := by rw [← tb.nm]; exact (List.getElem?_eq_some_iff.mp hy).1
    obtain ⟨a, fd, q, k1, k2, k3⟩ := tb.fn f defs[f] x (List.getElem?_eq_getElem hlt) hy
    exact ⟨a, fd, _, k1, k2.kp, k3, def_ok tb (List.getElem?_eq_getElem hlt) k2 (tab_ok tb n)⟩
end
/-! ### the program's top -/
def DefAt (K : PySem.W.Frag) (mg : Str → Option Value) (x : Str) (d : DefI) : Prop := ∃ a fd q, mg x = some (.ref a) ∧ Fun K x q d.st a fd ∧ Binds K fd d.ps []
def AllAt (K : PySem.W.Frag) (mg : Str → Option Value) : List DefI → List Str → Prop
  | d :: ds, x :: xs => DefAt K mg x d ∧ AllAt K mg ds xs
  | _, _ => True
theorem AllAt.get {K : PySem.W.Frag} {mg : Str → Option Value} : ∀ {ds : List DefI} {xs : List Str} {i : Nat} {d : DefI} {x : Str}, AllAt K mg ds xs → ds[i]? = some d → xs[i]? = some x → DefAt K mg x d
  | [], _, _, _, _, _, h, _ => by simp at h
  | _ :: _, [], _, _, _, _, _, h => by simp at h
  | e :: ds, y :: xs, 0, d, x, ⟨h, _⟩, h1, h2 => by
    simp only [List.getElem?_cons_zero, Option.some.injEq] at h1 h2
    subst h1 h2
    exact h
  | e :: ds, y :: xs, i + 1, d, x, ⟨_, h⟩, h1, h2 => h.get (by simpa using h1) (by simpa using h2)
theorem cst_at {mg : Str → Option Value} {cst : List (Str × Cst)} {x : Str} {k : Cst} (h : ∀ p ∈ cst, ∃ u, mg p.1 = some u ∧ RelV p.2.toV u) (e : cst.lookup x = some k) : ∃ u, mg x = some u ∧ RelV k.toV u :=
  h (x, k) (PySem.mem_of_lookup e)
theorem def_at {K : PySem.W.Frag} {h : Heap} {mg : Str → Option Value} {x q : Str} {d : DefI} {f : Addr} {od an : Option Addr} {sl : Array (Option Value)} {oc kV dc pm cd ct : Value} (X : K.In h) (G : h.Ns mainGlobals mg)
    (a : PySem.W.nsIn K mainGlobals x = some (some (.ref f))) (l : K.lookup f = some ⟨oc, od, .func (PySem.W.fnOf x q (defArgs d.st) (defBody d.st) (defScope d.st) .none kV dc pm an cd ct), sl⟩)
    (c : PySem.W.codeIn K cd q = true) (k : PySem.W.keepIn K (.ref f) = true)
    (b : ∀ (kV doc pm : Value) (an : Option Addr) (cdv ct : Value) (us : List Value), us.length = d.ps.length → bindArgs (PySem.W.fnOf x q (defArgs d.st) (defBody d.st) (defScope d.st) .none kV doc pm an cdv ct) ⟨us, []⟩ = pure (d.ps.zip us)) : DefAt K mg x d := by
  have F := fun_mk (st := d.st) l c k
  exact ⟨f, _, q, PySem.W.mg_of X G a, F, F.binds b⟩
theorem top_at {l : PySem.W.OpenLaw} {w : World} {K : PySem.W.Frag} {h : Heap} {mg : Str → Option Value} {fa f : Addr} {x q p : Str} {d : DefI} {od an : Option Addr} {sl : Array (Option Value)} {oc kV dc pm cd ct : Value} {F : List FnD} {fns : List Str} {cst : List (Str × Cst)} {defs : List DefI} {L n i : Nat}
    (X : K.In h) (G : h.Ns mainGlobals mg) (hfa : mg x = some (.ref fa)) (tb : Tab K mg F fns cst defs) (hd : defs[i]? = some d) (hp : d.ps = [p])
    (a : PySem.W.nsIn K mainGlobals x = some (some (.ref f))) (lk : K.lookup f = some ⟨oc, od, .func (PySem.W.fnOf x q (defArgs d.st) (defBody d.st) (defScope d.st) .none kV dc pm an cd ct), sl⟩)
    (c : PySem.W.codeIn K cd q = true) (k : PySem.W.keepIn K (.ref f) = true)
    (b : ∀ (kV doc pm : Value) (an : Option Addr) (cdv ct : Value) (us : List Value), us.length = d.ps.length → bindArgs (PySem.W.fnOf x q (defArgs d.st) (defBody d.st) (defScope d.st) .none kV doc pm an cdv ct) ⟨us, []⟩ = pure (d.ps.zip us)) :
    ∃ fd : FuncData, (∀ (s : Shared) (v : Value), BindsTo s fd ⟨[v], []⟩ [(p, v)]) ∧ ∀ base : Heap, K.In base → base.Ns mainGlobals mg → FnOk l.prog w K mg base CX0 (n + 1) fa fd [p] (spD K F L (n + 1) i) := by
  have e := hfa.symm.trans (PySem.W.mg_of X G a)
  cases e
  refine ⟨_, fun s v => .of_eq ((b kV dc pm an cd ct [v] (by rw [hp]; rfl)).trans (by rw [hp]; rfl)), fun base _ _ => ?_⟩
  have := def_ok (P := l.prog) (w := w) (base := base) (L := L) (n := n) tb hd (fun_mk (st := d.st) lk c k) (tab_ok tb n)
  rw [hp] at this
  exact this
theorem walkD {l : PySem.W.OpenLaw} {q : Program} {loose : List Str} {XP : (Str → Option Value) → Heap → Prop} {YP : World → Heap → Prop} {d : DefRec} {K : Params → PySem.W.Frag} {F : List FnD} {L n i m : Nat} {p : Str} (hn : l.most = some m) (hm : m ≤ sizeLine) (hdf : d.params.defaults = []) (hr : Room (n + 1) callerA)
    (hY : ∀ (w : World) (h : Heap), YP w h → (K w.params).In h)
    (law : ∀ ns : List Int, ns.length ≤ m → ∃ S', callF F L (n + 1) i [.lv (ns.map .int)] [] [] = some (.d (.bool true), S'))
    (hF : ∀ (w : World) (mg : Str → Option Value) (fa : Addr) (h : Heap), (K w.params).In h → h.Ns mainGlobals mg → mg d.name = some (.ref fa) →
      ∃ fd : FuncData, (∀ (s : Shared) (u : Value), BindsTo s fd ⟨[u], []⟩ [(p, u)]) ∧ ∀ base : Heap, (K w.params).In base → base.Ns mainGlobals mg → FnOk l.prog w (K w.params) mg base CX0 (n + 1) fa fd [p] (spD (K w.params) F L (n + 1) i)) :
    PySem.W.WalkO q loose XP YP l.row.toRowW d [] (fun f vs => PySem.call f vs) :=
  L2.walk_of (n := m) (k := n + 1) (x := p) (CX := fun _ => CX0) (sp := fun w => spD (K w.params) F L (n + 1) i) hn hm hdf hr hY hF (fun w H a ns hl ho hS => by
    obtain ⟨S', hc⟩ := law ns hl
    have hrd : ∀ ns : List Int, RDs (K w.params) H (ns.map .int) (ns.map V.int) := fun ns => by
      induction ns with
      | nil => simp only [List.map_nil, RDs]
      | cons z r ih => simp only [List.map_cons, RDs]; exact ⟨_, _, rfl, by simp only [RD], ih⟩
    refine ⟨fun _ _ => False, [], _, [], [], _, S', ⟨rfl, List.nodup_nil, fun i l h => by simp at h, fun _ _ h => h.elim, fun _ _ h => h.elim⟩, RWs.cons ?_ (RWs.nil_iff.mpr rfl), hc, fun v H' mu' _ _ _ hv => rw_bool.mp hv⟩
    simp only [RW]
    refine ⟨a, ns.map V.int, rfl, ?_, hrd ns⟩
    rcases hS with hS | hS
    · rcases hS with hS | ⟨o, hS⟩
      · rcases ho a with e | ⟨o, xs, e⟩
        · rw [e] at hS; cases hS
        · rw [e] at hS; cases hS
      · exact .inr (.inl ⟨o, hS⟩)
    · exact .inr (.inr hS)) fun _ _ _ _ _ z => z
end DV
/-! DVHole: a run on data with holes stands for every run. A hole is a list that stands as data; th fills it. The run's own lists lie behind the lists S0 of the run that it stands for. -/
namespace DV
open PySem
section
variable (th : List PyData → PyData)
mutual
def hD : PyData → PyData
  | .tuple xs => .tuple (hDs xs)
  | .list xs => th xs
  | .none => .none
  | .bool b => .bool b
  | .int i => .int i
  | .str s => .str s
  | .dict x => .dict x
def hDs : List PyData → List PyData
  | [] => []
  | x :: r => hD x :: hDs r
end
variable (k : Nat)
mutual
def hW : W → W
  | .d x => .d (hD th x)
  | .ref n => .ref (n + k)
  | .tr l => .tr (hWs l)
  | .lv l => .lv (hDs th l)
def hWs : List W → List W
  | [] => []
  | x :: r => hW x :: hWs r
end
def hO : O → O
  | .lst l => .lst (hWs th k l)
def hS (S0 S : Sto) : Sto := S0 ++ S.map (hO th S0.length)
end
section
variable {th : List PyData → PyData} {k : Nat} {S0 S S' : Sto} {x y w : W}
theorem hDs_map : ∀ l : List PyData, hDs th l = l.map (hD th)
  | [] => rfl
  | x :: r => by simp only [hDs, List.map_cons, hDs_map r]
theorem hWs_map : ∀ l : List W, hWs th k l = l.map (hW th k)
  | [] => rfl
  | x :: r => by simp only [hWs, List.map_cons, hWs_map r]
mutual
theorem noH_id : ∀ {x : PyData}, noH x = true → hD th x = x
  | .none, _ => rfl
  | .bool _, _ => rfl
  | .int _, _ => rfl
  | .str _, _ => rfl
  | .dict _, _ => rfl
  | .list _, h => by simp [noH] at h
  | .tuple xs, h => by simp only [noH] at h; simp only [hD, noHs_id h]
theorem noHs_id : ∀ {x : List PyData}, noHs x = true → hDs th x = x
  | [], _ => rfl
  | x :: r, h => by simp only [noHs, Bool.and_eq_true] at h; simp only [hDs, noH_id h.1, noHs_id h.2]
end
theorem map_d (l : List PyData) : (l.map W.d).map (hW th k) = (hDs th l).map W.d := by
  rw [hDs_map]
  induction l with
  | nil => rfl
  | cons x r ih => simp only [List.map_cons, ih]; rfl
theorem allD_h : ∀ {l : List W} {ds : List PyData}, allD l = some ds → allD (l.map (hW th k)) = some (hDs th ds)
  | [], _, h => by simp only [allD] at h; cases h; rfl
  | .d x :: r, _, h => by
    simp only [allD] at h
    split at h
    · rename_i ds e
      cases h
      simp only [List.map_cons, hW, allD, allD_h e, hDs]
    · cases h
  | .ref _ :: _, _, h => by simp only [allD] at h; cases h
  | .tr _ :: _, _, h => by simp only [allD] at h; cases h
  | .lv _ :: _, _, h => by simp only [allD] at h; cases h
theorem allD_n : ∀ {l : List W}, allD l = none → allD (l.map (hW th k)) = none
  | [], h => by simp [allD] at h
  | .d x :: r, h => by
    simp only [allD] at h
    split at h
    · cases h
    · rename_i e
      simp only [List.map_cons, hW, allD, allD_n e]
  | .ref _ :: _, _ => rfl
  | .tr _ :: _, _ => rfl
  | .lv _ :: _, _ => rfl
theorem mkT_h (l : List W) : mkT (l.map (hW th k)) = hW th k (mkT l) := by
  unfold mkT
  cases e : allD l with
  | none => rw [allD_n e]; simp only [hW, hWs_map]
  | some ds => rw [allD_h e]; simp only [hW, hD]
theorem tupOf_h {l : List W} (h : tupOf x = some l) : tupOf (hW th k x) = some (l.map (hW th k)) := by
  unfold tupOf at h
  split at h
  · cases h; simp only [hW, hD, tupOf, map_d]
  · cases h; simp only [hW, tupOf, hWs_map]
  · cases h
theorem getL_h {n : Nat} {l : List W} (h : getL S n = some l) : getL (hS th S0 S) (n + S0.length) = some (l.map (hW th S0.length)) := by
  unfold getL at h ⊢
  unfold hS
  rw [List.getElem?_append_right (by omega), Nat.add_sub_cancel, List.getElem?_map]
  cases e : S[n]? with
  | none => rw [e] at h; cases h
  | some o =>
    obtain ⟨m⟩ := o
    rw [e] at h
    cases h
    simp only [Option.map_some, hO, hWs_map]
theorem lstOf_h {l : List W} (h : lstOf S x = some l) : lstOf (hS th S0 S) (hW th S0.length x) = some (l.map (hW th S0.length)) := by
  cases x with
  | ref n => simp only [lstOf] at h; simp only [hW, lstOf]; exact getL_h h
  | lv m => simp only [lstOf] at h; cases h; simp only [hW, lstOf, map_d]
  | d x => simp only [lstOf] at h; cases h
  | tr x => simp only [lstOf] at h; cases h
theorem hS_len : (hS th S0 S).length = S.length + S0.length := by unfold hS; simp [Nat.add_comm]
theorem hS_push (l : List W) : hS th S0 (S ++ [.lst l]) = hS th S0 S ++ [.lst (l.map (hW th S0.length))] := by
  unfold hS
  simp only [List.map_append, List.map_cons, List.map_nil, hO, hWs_map, List.append_assoc]
theorem hS_set (n : Nat) (l : List W) : hS th S0 (S.set n (.lst l)) = (hS th S0 S).set (n + S0.length) (.lst (l.map (hW th S0.length))) := by
  unfold hS
  rw [List.set_append_right _ _ (by omega), Nat.add_sub_cancel, List.map_set]
  simp only [hO, hWs_map]
theorem newL_h (l : List W) : newL (l.map (hW th S0.length)) (hS th S0 S) = (hW th S0.length (newL l S).1, hS th S0 (newL l S).2) := by
  unfold newL
  simp only [hW, hS_len, hS_push]
theorem seqOf_h {l : List W} (h : seqOf S x = some l) : seqOf (hS th S0 S) (hW th S0.length x) = some (l.map (hW th S0.length)) := by
  unfold seqOf at h ⊢
  cases e : tupOf x with
  | some m => rw [e] at h; cases h; rw [tupOf_h e]
  | none =>
    rw [e] at h
    have e2 : tupOf (hW th S0.length x) = none := by
      cases x with
      | d x => cases h
      | tr x => cases h
      | ref n => rfl
      | lv n => rfl
    dsimp only at h
    rw [e2]
    exact lstOf_h h
theorem seqOf_d {d : PyData} {l : List W} (h : seqOf S (.d d) = some l) : ∃ xs, d = .tuple xs := by
  cases d <;> first | exact ⟨_, rfl⟩ | (simp only [seqOf, tupOf, lstOf] at h; cases h)
theorem datOf_h {d : PyData} (h : datOf S x = some d) : datOf (hS th S0 S) (hW th S0.length x) = some d := by
  cases x with
  | d x =>
    simp only [datOf] at h
    split at h
    · rename_i hn
      cases h
      simp only [hW, noH_id hn, datOf, hn, if_true]
    · cases h
  | lv l =>
    simp only [datOf] at h
    split at h
    · rename_i hn
      cases h
      simp only [hW, noHs_id hn, datOf, hn, if_true]
    · cases h
  | ref n =>
    simp only [datOf] at h
    cases e : getL S n with
    | none => rw [e] at h; cases h
    | some l =>
      simp only [e] at h
      cases e2 : allD l with
      | none => simp only [e2] at h; cases h
      | some ds =>
        simp only [e2] at h
        split at h
        · rename_i hn
          cases h
          simp only [hW, datOf, getL_h e, allD_h e2, noHs_id hn, hn, if_true]
        · cases h
  | tr l => simp only [datOf] at h; cases h
theorem eqF_d {a b : PyData} : eqF (hS th S0 S) (.d a) (.d b) = eqF S (.d a) (.d b) := by cases a <;> cases b <;> rfl
theorem eqF_h {b : Bool} (h : eqF S x y = some b) : eqF (hS th S0 S) (hW th S0.length x) (hW th S0.length y) = some b := by
  have key2 : ∀ {x y : W} {S : Sto}, (∀ a c, x = .d a → y = .d c → False) → eqF S x y = (match datOf S x with | some a => (match datOf S y with | some b => if SeqAt.shaped a && SeqAt.shaped b then some (PyData.eqv a b) else none | none => none) | none => none) := by
    intro x y S hn
    cases x <;> first | rfl | skip
    rename_i a
    cases y <;> first | exact (hn _ _ rfl rfl).elim | (cases a <;> rfl)
  by_cases hd : ∃ a c, x = .d a ∧ y = .d c
  · obtain ⟨a, c, rfl, rfl⟩ := hd
    have ha : hD th a = a ∧ hD th c = c := by
      have : (∃ s t, a = .str s ∧ c = .str t) ∨ (∃ i j, a = .int i ∧ c = .int j) ∨ (noH a = true ∧ noH c = true) := by
        cases hna : noH a with
        | true =>
          cases hnc : noH c with
          | true => exact .inr (.inr ⟨rfl, rfl⟩)
          | false =>
            cases a <;> cases c <;> first | exact .inl ⟨_, _, rfl, rfl⟩ | exact .inr (.inl ⟨_, _, rfl, rfl⟩) | (simp [noH] at hnc; done) | (simp [eqF, datOf, hna, hnc] at h; done)
        | false =>
          cases a <;> cases c <;> first | exact .inl ⟨_, _, rfl, rfl⟩ | exact .inr (.inl ⟨_, _, rfl, rfl⟩) | (simp [noH] at hna; done) | (simp [eqF, datOf, hna] at h; done)
      rcases this with ⟨s, t, rfl, rfl⟩ | ⟨i, j, rfl, rfl⟩ | ⟨h1, h2⟩
      · exact ⟨rfl, rfl⟩
      · exact ⟨rfl, rfl⟩
      · exact ⟨noH_id h1, noH_id h2⟩
    simp only [hW, ha.1, ha.2]
    rw [eqF_d]
    exact h
  · have hn : ∀ a c, x = .d a → y = .d c → False := fun a c e1 e2 => hd ⟨a, c, e1, e2⟩
    have hn2 : ∀ a c, hW th S0.length x = .d a → hW th S0.length y = .d c → False := fun a c e1 e2 => by
      cases x <;> cases y <;> first | exact hn _ _ rfl rfl | (simp [hW] at e1; done) | (simp [hW] at e2; done)
    rw [key2 hn] at h
    rw [key2 hn2]
    cases e1 : datOf S x with
    | none => rw [e1] at h; cases h
    | some a =>
      rw [e1] at h
      cases e2 : datOf S y with
      | none => rw [e2] at h; cases h
      | some c =>
        rw [e2] at h
        rw [datOf_h e1, datOf_h e2]
        exact h

theorem add_h {x y w : W} (h : binF .add x y S = some (w, S')) : binF .add (hW th S0.length x) (hW th S0.length y) (hS th S0 S) = some (hW th S0.length w, hS th S0 S') := by
  have ls : ∀ {l : List W} {x y : W} {S : Sto}, lstOf S x = some l → binF .add x y S = (match lstOf S y with | some m => if l.length + m.length ≤ capN then some (newL (l ++ m) S) else none | none => none) := by
    intro l x y S hx
    cases x with
    | d a => simp [lstOf] at hx
    | tr a => simp [lstOf] at hx
    | ref a => (simp only [binF, hx, tupOf]) <;> (cases lstOf S y <;> rfl)
    | lv a => (simp only [binF, hx, tupOf]) <;> (cases lstOf S y <;> rfl)
  have sq2 : ∀ {l : List W} {x y : W} {S : Sto}, tupOf x = some l → binF .add x y S = (match tupOf y with | some m => if l.length + m.length ≤ capN then some (mkT (l ++ m), S) else none | none => none) := by
    intro l x y S hx
    cases x with
    | d a => cases a <;> first | (simp [tupOf] at hx; done) | ((simp only [binF, hx]) <;> (cases tupOf y <;> rfl))
    | tr a => (simp only [binF, hx]) <;> (cases tupOf y <;> rfl)
    | ref a => simp [tupOf] at hx
    | lv a => simp [tupOf] at hx
  cases e : tupOf x with
  | some l =>
    rw [sq2 e] at h
    rw [sq2 (tupOf_h e)]
    cases e2 : tupOf y with
    | none => rw [e2] at h; cases h
    | some m =>
      rw [e2] at h
      dsimp only at h
      rw [tupOf_h e2]
      dsimp only
      split at h
      · rename_i hl
        cases h
        rw [if_pos (by simpa using hl), ← List.map_append, mkT_h]
      · cases h
  | none =>
    cases e1 : lstOf S x with
    | some l =>
      rw [ls e1] at h
      rw [ls (lstOf_h e1)]
      cases e2 : lstOf S y with
      | none => rw [e2] at h; cases h
      | some m =>
        rw [e2] at h
        dsimp only at h
        rw [lstOf_h e2]
        dsimp only
        split at h
        · rename_i hl
          cases h
          rw [if_pos (by simpa using hl), ← List.map_append, newL_h]
          rfl
        · cases h
    | none =>
      cases x with
      | d a => cases a <;> first | (simp [binF, e, e1] at h; done) | skip
               all_goals (cases y with
                 | d c => cases c <;> first | (simp [binF, e, e1] at h; done) | skip
                          all_goals first | (cases h; rfl) | (simp only [binF] at h; split at h <;> cases h; simp only [hW, hD, binF]; rw [if_pos (by assumption)])
                 | _ => simp [binF, e, e1] at h)
      | tr a => simp [tupOf] at e
      | ref a => simp [binF, e, e1] at h
      | lv a => simp [lstOf] at e1
theorem binF_h {o : Bin} {x y w : W} (h : binF o x y S = some (w, S')) : binF o (hW th S0.length x) (hW th S0.length y) (hS th S0 S) = some (hW th S0.length w, hS th S0 S') := by
  cases o with
  | add => exact add_h h
  | mul =>
    simp only [binF] at h
    split at h
    · split at h <;> cases h
      simp only [hW, hD, binF]
      rw [if_pos (by assumption)]
    · cases e : getL S _ with
      | none => rw [e] at h; cases h
      | some l =>
        rw [e] at h
        dsimp only at h
        split at h
        · rename_i hc
          cases h
          simp only [hW, hD, binF, getL_h e]
          rw [if_pos (by simpa using hc), ← List.map_replicate, ← List.map_flatten, newL_h]
          rfl
        · cases h
    · cases h
  | sub => simp only [binF] at h; split at h <;> first | (cases h; rfl) | cases h
  | fdiv => simp only [binF] at h; split at h <;> first | cases h | skip
            split at h <;> cases h
            simp only [hW, hD, binF]
            rw [if_pos (by assumption)]
  | mod => simp only [binF] at h; split at h <;> first | cases h | skip
           split at h <;> cases h
           simp only [hW, hD, binF]
           rw [if_pos (by assumption)]
  | pow => simp only [binF] at h; split at h <;> first | cases h | skip
           split at h <;> cases h
           simp only [hW, hD, binF]
           rw [if_pos (by assumption)]
theorem cmpOk_h {a b : PyData} (h : cmpOk a b = true) : hD th a = a ∧ hD th b = b := by
  unfold cmpOk at h
  simp only [Bool.and_eq_true] at h
  exact ⟨noH_id h.1.1, noH_id h.1.2⟩
theorem ord_h {f : W → W → Option Bool} (g : PyData → PyData → Bool) {x y : W} {b : Bool} (hf : ∀ i j, f (.d (.int i)) (.d (.int j)) = f (.d (.int i)) (.d (.int j)))
    (h1 : f x y = some b) (h2 : (∃ i j, x = .d (.int i) ∧ y = .d (.int j)) ∨ ∃ a c, x = .d a ∧ y = .d c ∧ cmpOk a c = true) : f (hW th k x) (hW th k y) = some b := by
  rcases h2 with ⟨i, j, rfl, rfl⟩ | ⟨a, c, rfl, rfl, h3⟩
  · exact h1
  · simp only [hW, (cmpOk_h h3).1, (cmpOk_h h3).2]; exact h1
theorem cmpF_h (hn : ∀ xs, th xs ≠ .none) {c : Cm} {b : Bool} (h : cmpF c x y S = some b) : cmpF c (hW th S0.length x) (hW th S0.length y) (hS th S0 S) = some b := by
  have sd : ∀ {f : W → W → Option Bool} {g : PyData → PyData → Bool}, f x y = some b → (f x y = (match x, y with
    | .d (.int i), .d (.int j) => f (.d (.int i)) (.d (.int j))
    | .d a, .d c => if cmpOk a c then some (g a c) else none
    | _, _ => none)) → f (hW th S0.length x) (hW th S0.length y) = some b := by
    intro f g h1 h2
    refine ord_h g (fun _ _ => rfl) h1 ?_
    rw [h1] at h2
    split at h2
    · exact .inl ⟨_, _, rfl, rfl⟩
    · split at h2
      · rename_i hc; exact .inr ⟨_, _, rfl, rfl, hc⟩
      · cases h2
    · cases h2
  cases c with
  | eq => exact eqF_h h
  | ne =>
    simp only [cmpF] at h ⊢
    obtain ⟨t, h1, h2⟩ := Option.map_eq_some_iff.mp h
    rw [eqF_h h1]
    exact congrArg some h2
  | lt => exact sd (f := fun x y => cmpF .lt x y S) (g := fun a b => PySem.W.dataLt a b) h (by cases x <;> first | rfl | (rename_i a; cases a <;> cases y <;> first | rfl | (rename_i c; cases c <;> rfl)))
  | le => exact sd (f := fun x y => cmpF .le x y S) (g := fun a b => !PySem.W.dataLt b a) h (by cases x <;> first | rfl | (rename_i a; cases a <;> cases y <;> first | rfl | (rename_i c; cases c <;> rfl)))
  | gt => exact sd (f := fun x y => cmpF .gt x y S) (g := fun a b => PySem.W.dataLt b a) h (by cases x <;> first | rfl | (rename_i a; cases a <;> cases y <;> first | rfl | (rename_i c; cases c <;> rfl)))
  | ge => exact sd (f := fun x y => cmpF .ge x y S) (g := fun a b => !PySem.W.dataLt a b) h (by cases x <;> first | rfl | (rename_i a; cases a <;> cases y <;> first | rfl | (rename_i c; cases c <;> rfl)))
  | is =>
    simp only [cmpF] at h
    split at h
    · cases h; rfl
    · cases h
      cases x <;> first | rfl | skip
      rename_i a
      cases a <;> first | rfl | skip
      rename_i xs
      simp only [hW, hD]
      cases e : th xs <;> first | rfl | exact absurd e (hn xs)
    · cases h
  | isn =>
    simp only [cmpF] at h
    split at h
    · cases h; rfl
    · cases h
      cases x <;> first | rfl | skip
      rename_i a
      cases a <;> first | rfl | skip
      rename_i xs
      simp only [hW, hD]
      cases e : th xs <;> first | rfl | exact absurd e (hn xs)
    · cases h
  | isin => simp only [cmpF] at h; split at h <;> first | (cases h; rfl) | cases h
  | notin => simp only [cmpF] at h; split at h <;> first | (cases h; rfl) | cases h

theorem boolsOf_h : ∀ {l : List W} {bs : List Bool}, boolsOf l = some bs → boolsOf (l.map (hW th k)) = some bs
  | [], _, h => h
  | .d (.bool b) :: r, _, h => by
    simp only [boolsOf] at h
    split at h
    · rename_i e
      cases h
      simp only [List.map_cons, hW, hD, boolsOf, boolsOf_h e]
    · cases h
  | .d .none :: _, _, h => by simp [boolsOf] at h
  | .d (.int _) :: _, _, h => by simp [boolsOf] at h
  | .d (.str _) :: _, _, h => by simp [boolsOf] at h
  | .d (.tuple _) :: _, _, h => by simp [boolsOf] at h
  | .d (.list _) :: _, _, h => by simp [boolsOf] at h
  | .d (.dict _) :: _, _, h => by simp [boolsOf] at h
  | .ref _ :: _, _, h => by simp [boolsOf] at h
  | .tr _ :: _, _, h => by simp [boolsOf] at h
  | .lv _ :: _, _, h => by simp [boolsOf] at h
theorem insD_mem {a x : PyData} : ∀ {l : List PyData}, x ∈ insD a l → x = a ∨ x ∈ l
  | [], h => by simp only [insD, List.mem_singleton] at h; exact .inl h
  | b :: r, h => by
    simp only [insD] at h
    split at h
    · exact (List.mem_cons.mp h).imp id id
    · rcases List.mem_cons.mp h with h | h
      · exact .inr (h ▸ List.mem_cons_self)
      · exact (insD_mem h).imp id (List.mem_cons_of_mem _)
theorem sortD_mem {x : PyData} : ∀ {l : List PyData}, x ∈ sortD l → x ∈ l
  | [], h => h
  | a :: r, h => by
    rcases insD_mem (by simpa only [sortD] using h) with h | h
    · exact h ▸ List.mem_cons_self
    · exact List.mem_cons_of_mem _ (sortD_mem h)
theorem noHs_all : ∀ {l : List PyData}, noHs l = true ↔ ∀ x ∈ l, noH x = true
  | [] => by simp [noHs]
  | x :: r => by simp only [noHs, Bool.and_eq_true, noHs_all, List.mem_cons, forall_eq_or_imp]
theorem bf1_h {f : W → Sto → Option (W × Sto)} (hf : ∀ x w S', f x S = some (w, S') → f (hW th S0.length x) (hS th S0 S) = some (hW th S0.length w, hS th S0 S')) {l : List W} (h : bf1 f l S = some (w, S')) :
    bf1 f (l.map (hW th S0.length)) (hS th S0 S) = some (hW th S0.length w, hS th S0 S') := by
  unfold bf1 at h
  split at h
  · exact hf _ _ _ h
  · cases h
theorem bf2_h {f : W → W → Sto → Option (W × Sto)} (hf : ∀ x y w S', f x y S = some (w, S') → f (hW th S0.length x) (hW th S0.length y) (hS th S0 S) = some (hW th S0.length w, hS th S0 S')) {l : List W} (h : bf2 f l S = some (w, S')) :
    bf2 f (l.map (hW th S0.length)) (hS th S0 S) = some (hW th S0.length w, hS th S0 S') := by
  unfold bf2 at h
  split at h
  · exact hf _ _ _ _ h
  · cases h
theorem len_h {x w : W} {S' : Sto} (h : bLen x S = some (w, S')) : bLen (hW th S0.length x) (hS th S0 S) = some (hW th S0.length w, hS th S0 S') := by
  have sq : ∀ {x : W} {l : List W} {S : Sto}, seqOf S x = some l → bLen x S = some (.d (.int (l.length : Int)), S) := by
    intro x l S e
    cases x with
    | d a => obtain ⟨xs, rfl⟩ := seqOf_d e; simp only [bLen, e]
    | _ => simp only [bLen, e]
  cases e : seqOf S x with
  | some l =>
    rw [sq e] at h
    rw [sq (seqOf_h e)]
    cases h
    simp only [hW, hD, List.length_map]
  | none =>
    cases x with
    | d a => cases a <;> first | (simp [bLen, e] at h; done) | skip
             simp only [bLen] at h
             split at h <;> cases h
             simp only [hW, hD, bLen]
             rw [if_pos (by assumption)]
    | _ => simp [bLen, e] at h
theorem bfF_h {f : Bf} {l : List W} (h : bfF f l S = some (w, S')) : bfF f (l.map (hW th S0.length)) (hS th S0 S) = some (hW th S0.length w, hS th S0 S') := by
  cases f with
  | len => exact bf1_h (fun x w S' h => len_h h) h
  | all =>
    refine bf1_h (fun x w S' h => ?_) h
    unfold bAll at h ⊢
    cases e : lstOf S x with
    | none => rw [e] at h; cases h
    | some l =>
      rw [e] at h
      cases e2 : boolsOf l with
      | none => simp only [e2] at h; cases h
      | some bs => simp only [e2] at h; cases h; simp only [lstOf_h e, boolsOf_h e2, hW, hD]
  | any =>
    refine bf1_h (fun x w S' h => ?_) h
    unfold bAny at h ⊢
    cases e : lstOf S x with
    | none => rw [e] at h; cases h
    | some l =>
      rw [e] at h
      cases e2 : boolsOf l with
      | none => simp only [e2] at h; cases h
      | some bs => simp only [e2] at h; cases h; simp only [lstOf_h e, boolsOf_h e2, hW, hD]
  | tuple =>
    refine bf1_h (fun x w S' h => ?_) h
    unfold bTuple at h ⊢
    cases e : seqOf S x with
    | none => rw [e] at h; cases h
    | some l =>
      rw [e] at h
      dsimp only at h
      split at h
      · rename_i hl
        cases h
        rw [seqOf_h e]
        dsimp only
        rw [if_pos (by simpa using hl), mkT_h]
      · cases h
  | list =>
    refine bf1_h (fun x w S' h => ?_) h
    unfold bList at h ⊢
    cases e : seqOf S x with
    | none => rw [e] at h; cases h
    | some l =>
      rw [e] at h
      dsimp only at h
      split at h
      · rename_i hl
        cases h
        rw [seqOf_h e]
        dsimp only
        rw [if_pos (by simpa using hl), newL_h]
        rfl
      · cases h
  | sorted =>
    refine bf1_h (fun x w S' h => ?_) h
    unfold bSorted at h ⊢
    cases e : lstOf S x with
    | none => rw [e] at h; cases h
    | some l =>
      rw [e] at h
      cases e2 : allD l with
      | none => simp only [e2] at h; cases h
      | some ds =>
        simp only [e2] at h
        split at h
        · rename_i hc
          cases h
          have hz : noHs ds = true := by
            unfold sortable at hc
            simp only [Bool.and_eq_true] at hc
            exact hc.1.1
          have hz2 : noHs (sortD ds) = true := noHs_all.mpr fun x hx => noHs_all.mp hz x (sortD_mem hx)
          simp only [lstOf_h e, allD_h e2, noHs_id hz]
          rw [if_pos hc]
          have := newL_h (th := th) (S0 := S0) (S := S) ((sortD ds).map .d)
          rw [map_d, noHs_id hz2] at this
          rw [this]
          rfl
        · cases h
  | int =>
    refine bf1_h (fun x w S' h => ?_) h
    unfold bInt at h
    split at h <;> cases h
    rfl
  | max =>
    refine bf2_h (fun x y w S' h => ?_) h
    unfold bMax at h
    split at h <;> cases h
    rfl
  | min =>
    refine bf2_h (fun x y w S' h => ?_) h
    unfold bMin at h
    split at h <;> cases h
    rfl
theorem isiF_h {t : Ty} {b : Bool} (h : isiF x t = some b) : isiF (hW th k x) t = some b := by
  cases x with
  | d a => cases a <;> cases t <;> first | exact h | (simp [isiF] at h; done)
  | ref n => cases t <;> exact h
  | tr l => cases t <;> exact h
  | lv l => cases t <;> exact h
theorem atI_h {α β : Type} (f : α → β) (l : List α) (i : Int) : L2.atI (l.map f) i = (L2.atI l i).map f := by
  unfold L2.atI
  rw [List.length_map]
  cases L2.ixN l.length i with
  | none => rfl
  | some j => simp only [Option.bind_some, List.getElem?_map]
theorem ixF_h {i : W} (h : ixF x i S = some w) : ixF (hW th S0.length x) (hW th S0.length i) (hS th S0 S) = some (hW th S0.length w) := by
  have sq : ∀ {x : W} {l : List W} {S : Sto} {j : Int}, seqOf S x = some l → ixF x (.d (.int j)) S = L2.atI l j := by
    intro x l S j e
    cases x with
    | d a => obtain ⟨xs, rfl⟩ := seqOf_d e; simp only [ixF, e]
    | _ => simp only [ixF, e]
  have hi : ∃ j, i = .d (.int j) := by
    unfold ixF at h
    split at h
    · exact ⟨_, rfl⟩
    · cases h
  obtain ⟨j, rfl⟩ := hi
  cases e : seqOf S x with
  | some l =>
    rw [sq e] at h
    show ixF _ (.d (.int j)) _ = _
    rw [sq (seqOf_h e), atI_h, h]
    rfl
  | none =>
    cases x with
    | d a => cases a <;> first | (simp [ixF, e] at h; done) | skip
             simp only [ixF] at h
             split at h
             · rename_i hc
               simp only [hW, hD, ixF]
               rw [if_pos hc]
               obtain ⟨c, h1, h2⟩ := Option.map_eq_some_iff.mp h
               subst h2
               rw [h1]
               rfl
             · cases h
    | _ => simp [ixF, e] at h
theorem cutG_h {α β : Type} (f : α → β) (l : List α) (lo hi : Option Int) : cutG (l.map f) lo hi = (cutG l lo hi).map f := by
  unfold cutG
  simp only [List.length_map, List.map_take, List.map_drop]
theorem slF_h {lo hi : Option Int} (h : slF x lo hi S = some (w, S')) : slF (hW th S0.length x) lo hi (hS th S0 S) = some (hW th S0.length w, hS th S0 S') := by
  have sq : ∀ {x : W} {l : List W} {S : Sto}, tupOf x = some l → slF x lo hi S = some (mkT (cutG l lo hi), S) := by
    intro x l S e
    cases x with
    | d a => cases a <;> first | (simp [tupOf] at e; done) | simp only [slF, e]
    | tr a => simp only [slF, e]
    | ref a => simp [tupOf] at e
    | lv a => simp [tupOf] at e
  have ls : ∀ {x : W} {l : List W} {S : Sto}, lstOf S x = some l → slF x lo hi S = some (newL (cutG l lo hi) S) := by
    intro x l S e
    cases x with
    | d a => simp [lstOf] at e
    | tr a => simp [lstOf] at e
    | ref a => simp only [slF, e, tupOf]
    | lv a => simp only [slF, e, tupOf]
  cases e : tupOf x with
  | some l =>
    rw [sq e] at h
    rw [sq (tupOf_h e), cutG_h, mkT_h]
    cases h
    rfl
  | none =>
    cases e1 : lstOf S x with
    | some l =>
      rw [ls e1] at h
      rw [ls (lstOf_h e1), cutG_h, newL_h]
      cases h
      rfl
    | none =>
      cases x with
      | d a => cases a <;> first | (simp [slF, e, e1] at h; done) | skip
               simp only [slF] at h
               split at h <;> cases h
               simp only [hW, hD, slF]
               rw [if_pos (by assumption)]
      | tr a => simp [tupOf] at e
      | ref a => simp [slF, e, e1] at h
      | lv a => simp [lstOf] at e1
/-- the lists not to be changed -/
def PR (k : Nat) (p p' : List Nat) : Prop := ∀ n, p'.contains (n + k) = p.contains n
theorem PR.app {p p' : List Nat} (h : PR k p p') (q : List Nat) : PR k (q ++ p) (q.map (· + k) ++ p') := fun n => by
  rw [List.contains_append, List.contains_append, h n]
  congr 1
  rw [Bool.eq_iff_iff, List.contains_iff_mem, List.contains_iff_mem, List.mem_map]
  exact ⟨fun ⟨m, h1, h2⟩ => by have : m = n := by omega
                               exact this ▸ h1, fun h => ⟨n, h, rfl⟩⟩
theorem mtF_h {p p' : List Nat} (hp : PR S0.length p p') {m : Mt} {l : List W} (h : mtF p m x l S = some (w, S')) : mtF p' m (hW th S0.length x) (l.map (hW th S0.length)) (hS th S0 S) = some (hW th S0.length w, hS th S0 S') := by
  cases m with
  | append =>
    simp only [mtF] at h ⊢
    unfold mAppend at h
    split at h
    · rename_i n y
      split at h
      · cases h
      · rename_i hc
        cases e : getL S n with
        | none => rw [e] at h; cases h
        | some l =>
          rw [e] at h
          dsimp only at h
          split at h
          · rename_i hl
            cases h
            simp only [hW, List.map_cons, List.map_nil, mAppend, hp n, getL_h e, hS_set, List.map_append, hD]
            rw [if_neg hc, if_pos (by simpa using hl)]
          · cases h
    · cases h
  | extend =>
    simp only [mtF] at h ⊢
    unfold mExtend at h
    split at h
    · rename_i n m
      split at h
      · cases h
      · rename_i hc
        cases e : getL S n with
        | none => rw [e] at h; cases h
        | some l =>
          rw [e] at h
          dsimp only at h
          cases e2 : getL S m with
          | none => rw [e2] at h; cases h
          | some l2 =>
            rw [e2] at h
            dsimp only at h
            split at h
            · rename_i hl
              cases h
              simp only [hW, List.map_cons, List.map_nil, mExtend, hp n, getL_h e, getL_h e2, hS_set, List.map_append, hD]
              rw [if_neg hc, if_pos (by simpa using hl)]
            · cases h
    · cases h
  | pop =>
    simp only [mtF] at h ⊢
    unfold mPop at h
    split at h
    · rename_i n
      split at h
      · cases h
      · rename_i hc
        cases e : getL S n with
        | none => rw [e] at h; cases h
        | some l =>
          rw [e] at h
          dsimp only at h
          cases e2 : l[l.length - 1]? with
          | none => rw [e2] at h; cases h
          | some y =>
            rw [e2] at h
            cases h
            simp only [hW, List.map_nil, mPop, hp n, getL_h e, hS_set, List.map_dropLast, List.length_map, List.getElem?_map, e2, Option.map_some]
            rw [if_neg hc]
    · cases h
theorem setIxF_h {p p' : List Nat} (hp : PR S0.length p p') {o i : W} (h : setIxF p o i x S = some S') : setIxF p' (hW th S0.length o) (hW th S0.length i) (hW th S0.length x) (hS th S0 S) = some (hS th S0 S') := by
  unfold setIxF at h
  split at h
  · rename_i n j
    split at h
    · cases h
    · rename_i hc
      cases e : getL S n with
      | none => rw [e] at h; cases h
      | some l =>
        rw [e] at h
        dsimp only at h
        cases e2 : L2.ixN l.length j with
        | none => rw [e2] at h; cases h
        | some y =>
          rw [e2] at h
          cases h
          simp only [hW, hD, setIxF, hp n, getL_h e, hS_set, List.length_map, e2, List.map_set]
          rw [if_neg hc]
  · cases h
/-- locals -/
structure HL (th : List PyData → PyData) (k : Nat) (ws ws' : Loc) : Prop where
  len : ws.length = ws'.length
  at' : ∀ (i : Nat) (w : W), ws[i]? = some (some w) → ws'[i]? = some (some (hW th k w))
theorem HL.setW {ws ws' ws1 : Loc} {i : Nat} (h : HL th k ws ws') (e : setW ws i w = some ws1) : ∃ ws1', DV.setW ws' i (hW th k w) = some ws1' ∧ HL th k ws1 ws1' := by
  unfold DV.setW at e
  split at e
  · rename_i hi
    cases e
    refine ⟨ws'.set i (some (hW th k w)), by unfold DV.setW; rw [if_pos (by rw [← h.len]; exact hi)], by simp [h.len], fun j v hj => ?_⟩
    rw [List.getElem?_set] at hj ⊢
    split
    · rename_i hij
      rw [if_pos hij] at hj
      rw [if_pos hi] at hj
      cases hj
      rw [if_pos (by rw [← h.len]; exact hi)]
    · rename_i hij
      rw [if_neg hij] at hj
      exact h.at' j v hj
  · cases e
theorem HL.setWs : ∀ {l : List Nat} {q : List W} {ws ws' ws1 : Loc}, HL th k ws ws' → setWs l q ws = some ws1 → ∃ ws1', DV.setWs l (q.map (hW th k)) ws' = some ws1' ∧ HL th k ws1 ws1'
  | [], [], _, _, _, h, e => by simp only [DV.setWs] at e; cases e; exact ⟨_, rfl, h⟩
  | i :: r, w :: q, ws, ws', ws1, h, e => by
    simp only [DV.setWs] at e
    split at e
    · rename_i ws2 e2
      obtain ⟨ws2', h1, h2⟩ := h.setW e2
      obtain ⟨ws3', h3, h4⟩ := h2.setWs e
      exact ⟨ws3', by simp only [List.map_cons, DV.setWs, h1, h3], h4⟩
    · cases e
  | [], _ :: _, _, _, _, _, e => by simp [DV.setWs] at e
  | _ :: _, [], _, _, _, _, e => by simp [DV.setWs] at e
theorem HL.setT {g : Tg} {ws ws' ws1 : Loc} (h : HL th k ws ws') (e : setT g w ws = some ws1) : ∃ ws1', DV.setT g (hW th k w) ws' = some ws1' ∧ HL th k ws1 ws1' := by
  cases g with
  | nm i => exact h.setW e
  | tp l =>
    simp only [DV.setT] at e
    cases e2 : tupOf w with
    | none => rw [e2] at e; cases e
    | some q =>
      rw [e2] at e
      obtain ⟨ws1', h1, h2⟩ := h.setWs e
      exact ⟨ws1', by simp only [DV.setT, tupOf_h e2, h1], h2⟩
theorem HL.wipe {ws ws' : Loc} (h : HL th k ws ws') : ∀ own : List Nat, HL th k (wipeW ws own) (wipeW ws' own)
  | [] => h
  | v :: vs => by
    have g := h.wipe vs
    refine ⟨by simp only [wipeW, List.length_set, g.len], fun j x hj => ?_⟩
    simp only [wipeW] at hj ⊢
    rw [List.getElem?_set] at hj ⊢
    split
    · rename_i hij
      rw [if_pos hij] at hj
      split at hj <;> cases hj
    · rename_i hij
      rw [if_neg hij] at hj
      exact g.at' j x hj
theorem ofBool_h {b : Bool} (h : ofBool x = some b) : ofBool (hW th k x) = some b := by
  unfold ofBool at h
  split at h
  · cases h; rfl
  · cases h
end
end DV
/-! DVHole2: the evaluator's run on holes. -/
namespace DV
open PySem
section
variable {th : List PyData → PyData} {S0 : Sto}
/-- cl answers as cl0 does -/
def ClH (th : List PyData → PyData) (cl0 cl : CallT) : Prop := ∀ (f : Nat) (args : List W) (p : List Nat) (S : Sto) (w : W) (T : Sto), cl0 f args p S = some (w, T) →
  ∀ (S0 : Sto) (p' : List Nat), PR S0.length p p' → cl f (args.map (hW th S0.length)) p' (hS th S0 S) = some (hW th S0.length w, hS th S0 T)
def hFl (th : List PyData → PyData) (k : Nat) : Fl → Fl
  | .ret w => .ret (hW th k w)
  | .next => .next
  | .brk => .brk
  | .cont => .cont
theorem bindS {α β : Type} {o : Option α} {f : α → Option β} {r : β} (h : o.bind f = some r) : ∃ x, o = some x ∧ f x = some r := Option.bind_eq_some_iff.mp h
theorem forL_h {f f' : W → Loc → Sto → Option (Fl × Loc × Sto)} (hf : ∀ x ws S fl ws1 S1, f x ws S = some (fl, ws1, S1) → ∀ ws', HL th S0.length ws ws' → ∃ ws1', f' (hW th S0.length x) ws' (hS th S0 S) = some (hFl th S0.length fl, ws1', hS th S0 S1) ∧ HL th S0.length ws1 ws1') :
    ∀ (l : List W) (ws : Loc) (S : Sto) (fl : Fl) (ws1 : Loc) (S1 : Sto), forL f l ws S = some (fl, ws1, S1) → ∀ ws', HL th S0.length ws ws' → ∃ ws1', forL f' (l.map (hW th S0.length)) ws' (hS th S0 S) = some (hFl th S0.length fl, ws1', hS th S0 S1) ∧ HL th S0.length ws1 ws1'
  | [], ws, S, fl, ws1, S1, h, ws', hl => by simp only [forL] at h; cases h; exact ⟨ws', rfl, hl⟩
  | x :: r, ws, S, fl, ws1, S1, h, ws', hl => by
    simp only [forL] at h
    obtain ⟨⟨fl2, ws2, S2⟩, h1, h2⟩ := bindS h
    obtain ⟨ws2', g1, g2⟩ := hf _ _ _ _ _ _ h1 ws' hl
    simp only [List.map_cons, forL, g1, Option.bind_some]
    cases fl2 with
    | next => exact forL_h hf r _ _ _ _ _ h2 _ g2
    | cont => exact forL_h hf r _ _ _ _ _ h2 _ g2
    | brk => cases h2; exact ⟨_, rfl, g2⟩
    | ret w => cases h2; exact ⟨_, rfl, g2⟩
theorem whlL_h {c c' : Loc → Sto → Option (Bool × Sto)} {f f' : Loc → Sto → Option (Fl × Loc × Sto)} (hc : ∀ ws S b S1, c ws S = some (b, S1) → ∀ ws', HL th S0.length ws ws' → c' ws' (hS th S0 S) = some (b, hS th S0 S1))
    (hf : ∀ ws S fl ws1 S1, f ws S = some (fl, ws1, S1) → ∀ ws', HL th S0.length ws ws' → ∃ ws1', f' ws' (hS th S0 S) = some (hFl th S0.length fl, ws1', hS th S0 S1) ∧ HL th S0.length ws1 ws1') :
    ∀ (n : Nat) (ws : Loc) (S : Sto) (fl : Fl) (ws1 : Loc) (S1 : Sto), whlL c f n ws S = some (fl, ws1, S1) → ∀ ws', HL th S0.length ws ws' → ∃ ws1', whlL c' f' n ws' (hS th S0 S) = some (hFl th S0.length fl, ws1', hS th S0 S1) ∧ HL th S0.length ws1 ws1'
  | 0, ws, S, fl, ws1, S1, h, ws', hl => by simp only [whlL] at h; cases h
  | n + 1, ws, S, fl, ws1, S1, h, ws', hl => by
    simp only [whlL] at h
    obtain ⟨⟨b, S2⟩, h1, h2⟩ := bindS h
    simp only [whlL, hc _ _ _ _ h1 ws' hl, Option.bind_some]
    cases b with
    | false => cases h2; exact ⟨_, rfl, hl⟩
    | true =>
      obtain ⟨⟨fl2, ws2, S3⟩, h3, h4⟩ := bindS h2
      obtain ⟨ws2', g1, g2⟩ := hf _ _ _ _ _ h3 ws' hl
      simp only [g1, Option.bind_some]
      cases fl2 with
      | next => exact whlL_h hc hf n _ _ _ _ _ h4 _ g2
      | cont => exact whlL_h hc hf n _ _ _ _ _ h4 _ g2
      | brk => cases h4; exact ⟨_, rfl, g2⟩
      | ret w => cases h4; exact ⟨_, rfl, g2⟩
theorem addL_h {k : Nat} {o : Option W} {S S1 : Sto} (h : addL k o S = some S1) : addL (k + S0.length) (o.map (hW th S0.length)) (hS th S0 S) = some (hS th S0 S1) := by
  unfold addL at h
  split at h
  · cases h; rfl
  · rename_i w
    cases e : getL S k with
    | none => rw [e] at h; cases h
    | some acc =>
      rw [e] at h
      dsimp only at h
      split at h
      · rename_i hc
        cases h
        simp only [Option.map_some, addL, getL_h e, hS_set, List.map_append, List.map_cons, List.map_nil]
        rw [if_pos (by simpa using hc)]
      · cases h
theorem compL_h {f f' : W → Sto → Option (Option W × Sto)} {k : Nat} (hf : ∀ x S o S1, f x S = some (o, S1) → f' (hW th S0.length x) (hS th S0 S) = some (o.map (hW th S0.length), hS th S0 S1)) :
    ∀ (l : List W) (S S1 : Sto), compL f k l S = some S1 → compL f' (k + S0.length) (l.map (hW th S0.length)) (hS th S0 S) = some (hS th S0 S1)
  | [], S, S1, h => by simp only [compL] at h; cases h; rfl
  | x :: r, S, S1, h => by
    simp only [compL] at h
    obtain ⟨⟨o, S2⟩, h1, h2⟩ := bindS h
    obtain ⟨S3, h3, h4⟩ := bindS h2
    simp only [List.map_cons, compL, hf _ _ _ _ h1, Option.bind_some, addL_h h3, compL_h hf r _ _ h4]
theorem compO_h {f f' : W → Sto → Option Sto} (hf : ∀ x S S1, f x S = some S1 → f' (hW th S0.length x) (hS th S0 S) = some (hS th S0 S1)) :
    ∀ (l : List W) (S S1 : Sto), compO f l S = some S1 → compO f' (l.map (hW th S0.length)) (hS th S0 S) = some (hS th S0 S1)
  | [], S, S1, h => by simp only [compO] at h; cases h; rfl
  | x :: r, S, S1, h => by
    simp only [compO] at h
    obtain ⟨S2, h1, h2⟩ := bindS h
    simp only [List.map_cons, compO, hf _ _ _ h1, Option.bind_some, compO_h hf r _ _ h2]
theorem toD_h (k : Cst) : hD th k.toD = k.toD := by cases k <;> rfl
theorem hW_d {k : Nat} {d : PyData} (h : noH d = true) : hW th k (.d d) = .d d := by simp only [hW, noH_id h]
theorem hW_i {k : Nat} {i : Int} : hW th k (.d (.int i)) = .d (.int i) := rfl
theorem hW_b {k : Nat} {b : Bool} : hW th k (.d (.bool b)) = .d (.bool b) := rfl

mutual
theorem ev_h (hn : ∀ xs, th xs ≠ .none) {cl0 cl : CallT} (hcl : ClH th cl0 cl) : ∀ (e : Ex) (p p' : List Nat), PR S0.length p p' → ∀ (ws ws' : Loc), HL th S0.length ws ws' → ∀ (S : Sto) (w : W) (T : Sto), ev cl0 p e ws S = some (w, T) → ev cl p' e ws' (hS th S0 S) = some (hW th S0.length w, hS th S0 T)
  | .v i, p, p', hp, ws, ws', hl, S, w, T, h => by
    simp only [ev] at h
    split at h
    · rename_i w1 e1
      cases h
      simp only [ev, hl.at' i _ e1]
    · cases h
  | .c k, p, p', hp, ws, ws', hl, S, w, T, h => by
    simp only [ev] at h; cases h
    simp only [ev, hW, toD_h]
  | .g x k, p, p', hp, ws, ws', hl, S, w, T, h => by
    simp only [ev] at h; cases h
    simp only [ev, hW, toD_h]
  | .bin o a b, p, p', hp, ws, ws', hl, S, w, T, h => by
    simp only [ev] at h
    obtain ⟨⟨x, S1⟩, h1, h2⟩ := bindS h
    obtain ⟨⟨y, S2⟩, h3, h4⟩ := bindS h2
    simp only [ev, ev_h hn hcl a p p' hp ws ws' hl _ _ _ h1, ev_h hn hcl b p p' hp ws ws' hl _ _ _ h3, Option.bind_some]
    exact binF_h h4
  | .neg a, p, p', hp, ws, ws', hl, S, w, T, h => by
    simp only [ev] at h
    obtain ⟨⟨x, S1⟩, h1, h2⟩ := bindS h
    dsimp only at h2
    split at h2
    · cases h2
      simp only [ev, ev_h hn hcl a p p' hp ws ws' hl _ _ _ h1, Option.bind_some, hW, hD]
    · cases h2
  | .cmp o a b, p, p', hp, ws, ws', hl, S, w, T, h => by
    simp only [ev] at h
    obtain ⟨⟨x, S1⟩, h1, h2⟩ := bindS h
    obtain ⟨⟨y, S2⟩, h3, h4⟩ := bindS h2
    dsimp only at h4
    split at h4
    · rename_i t e
      cases h4
      simp only [ev, ev_h hn hcl a p p' hp ws ws' hl _ _ _ h1, ev_h hn hcl b p p' hp ws ws' hl _ _ _ h3, Option.bind_some, cmpF_h hn e, hW, hD]
    · cases h4
  | .and a b, p, p', hp, ws, ws', hl, S, w, T, h => by
    simp only [ev] at h
    obtain ⟨⟨x, S1⟩, h1, h2⟩ := bindS h
    dsimp only at h2
    split at h2
    · rename_i e
      simp only [ev, ev_h hn hcl a p p' hp ws ws' hl _ _ _ h1, Option.bind_some, ofBool_h e]
      exact ev_h hn hcl b p p' hp ws ws' hl _ _ _ h2
    · rename_i e
      cases h2
      simp only [ev, ev_h hn hcl a p p' hp ws ws' hl _ _ _ h1, Option.bind_some, ofBool_h e, hW, hD]
    · cases h2
  | .or a b, p, p', hp, ws, ws', hl, S, w, T, h => by
    simp only [ev] at h
    obtain ⟨⟨x, S1⟩, h1, h2⟩ := bindS h
    dsimp only at h2
    split at h2
    · rename_i e
      cases h2
      simp only [ev, ev_h hn hcl a p p' hp ws ws' hl _ _ _ h1, Option.bind_some, ofBool_h e, hW, hD]
    · rename_i e
      simp only [ev, ev_h hn hcl a p p' hp ws ws' hl _ _ _ h1, Option.bind_some, ofBool_h e]
      exact ev_h hn hcl b p p' hp ws ws' hl _ _ _ h2
    · cases h2
  | .not a, p, p', hp, ws, ws', hl, S, w, T, h => by
    simp only [ev] at h
    obtain ⟨⟨x, S1⟩, h1, h2⟩ := bindS h
    dsimp only at h2
    split at h2
    · rename_i e
      cases h2
      simp only [ev, ev_h hn hcl a p p' hp ws ws' hl _ _ _ h1, Option.bind_some, ofBool_h e, hW, hD]
    · cases h2
  | .ite t a b, p, p', hp, ws, ws', hl, S, w, T, h => by
    simp only [ev] at h
    obtain ⟨⟨x, S1⟩, h1, h2⟩ := bindS h
    dsimp only at h2
    split at h2
    · rename_i e
      simp only [ev, ev_h hn hcl t p p' hp ws ws' hl _ _ _ h1, Option.bind_some, ofBool_h e]
      exact ev_h hn hcl a p p' hp ws ws' hl _ _ _ h2
    · rename_i e
      simp only [ev, ev_h hn hcl t p p' hp ws ws' hl _ _ _ h1, Option.bind_some, ofBool_h e]
      exact ev_h hn hcl b p p' hp ws ws' hl _ _ _ h2
    · cases h2
  | .tup l, p, p', hp, ws, ws', hl, S, w, T, h => by
    simp only [ev] at h
    obtain ⟨⟨x, S1⟩, h1, h2⟩ := bindS h
    dsimp only at h2
    split at h2
    · rename_i hc
      cases h2
      simp only [ev, evs_h hn hcl l p p' hp ws ws' hl _ _ _ h1, Option.bind_some, List.length_map, if_pos hc, mkT_h]
    · cases h2
  | .lst l, p, p', hp, ws, ws', hl, S, w, T, h => by
    simp only [ev] at h
    obtain ⟨⟨x, S1⟩, h1, h2⟩ := bindS h
    dsimp only at h2
    split at h2
    · rename_i hc
      cases h2
      simp only [ev, evs_h hn hcl l p p' hp ws ws' hl _ _ _ h1, Option.bind_some, List.length_map, if_pos hc, newL_h]
      rfl
    · cases h2
  | .fn f l, p, p', hp, ws, ws', hl, S, w, T, h => by
    simp only [ev] at h
    obtain ⟨⟨x, S1⟩, h1, h2⟩ := bindS h
    simp only [ev, evs_h hn hcl l p p' hp ws ws' hl _ _ _ h1, Option.bind_some]
    exact hcl _ _ _ _ _ _ h2 S0 p' hp
  | .bf f l, p, p', hp, ws, ws', hl, S, w, T, h => by
    simp only [ev] at h
    obtain ⟨⟨x, S1⟩, h1, h2⟩ := bindS h
    simp only [ev, evs_h hn hcl l p p' hp ws ws' hl _ _ _ h1, Option.bind_some]
    exact bfF_h h2
  | .isi a t, p, p', hp, ws, ws', hl, S, w, T, h => by
    simp only [ev] at h
    obtain ⟨⟨x, S1⟩, h1, h2⟩ := bindS h
    dsimp only at h2
    split at h2
    · rename_i e
      cases h2
      simp only [ev, ev_h hn hcl a p p' hp ws ws' hl _ _ _ h1, Option.bind_some, isiF_h e, hW, hD]
    · cases h2
  | .ix a i, p, p', hp, ws, ws', hl, S, w, T, h => by
    simp only [ev] at h
    obtain ⟨⟨x, S1⟩, h1, h2⟩ := bindS h
    obtain ⟨⟨y, S2⟩, h3, h4⟩ := bindS h2
    dsimp only at h4
    split at h4
    · rename_i e
      cases h4
      simp only [ev, ev_h hn hcl a p p' hp ws ws' hl _ _ _ h1, ev_h hn hcl i p p' hp ws ws' hl _ _ _ h3, Option.bind_some, ixF_h e]
    · cases h4
  | .sl a lo hi, p, p', hp, ws, ws', hl, S, w, T, h => by
    simp only [ev] at h
    obtain ⟨⟨x, S1⟩, h1, h2⟩ := bindS h
    obtain ⟨⟨y, S2⟩, h3, h4⟩ := bindS h2
    obtain ⟨⟨z, S3⟩, h5, h6⟩ := bindS h4
    simp only [ev, ev_h hn hcl a p p' hp ws ws' hl _ _ _ h1, evo_h hn hcl lo p p' hp ws ws' hl _ _ _ h3, evo_h hn hcl hi p p' hp ws ws' hl _ _ _ h5, Option.bind_some]
    exact slF_h h6
  | .rev a, p, p', hp, ws, ws', hl, S, w, T, h => by
    simp only [ev] at h
    obtain ⟨⟨x, S1⟩, h1, h2⟩ := bindS h
    dsimp only at h2
    split at h2
    · rename_i e
      cases h2
      simp only [ev, ev_h hn hcl a p p' hp ws ws' hl _ _ _ h1, Option.bind_some, lstOf_h e, ← List.map_reverse, newL_h]
      rfl
    · cases h2
  | .mt m a l, p, p', hp, ws, ws', hl, S, w, T, h => by
    simp only [ev] at h
    obtain ⟨⟨x, S1⟩, h1, h2⟩ := bindS h
    obtain ⟨⟨y, S2⟩, h3, h4⟩ := bindS h2
    simp only [ev, ev_h hn hcl a p p' hp ws ws' hl _ _ _ h1, evs_h hn hcl l p p' hp ws ws' hl _ _ _ h3, Option.bind_some]
    exact mtF_h hp h4
  | .lc it g own t e, p, p', hp, ws, ws', hl, S, w, T, h => by
    simp only [ev] at h
    obtain ⟨⟨items, q, S1⟩, h1, h2⟩ := bindS h
    obtain ⟨S2, h3, h4⟩ := bindS h2
    cases h4
    simp only [ev, evi_h hn hcl it p p' hp ws ws' hl _ _ _ _ h1, Option.bind_some]
    rw [hS_len, ← List.map_nil (f := hW th S0.length), ← hS_push]
    refine Option.bind_eq_some_iff.mpr ⟨_, compL_h (th := th) (S0 := S0) (k := S1.length) (fun x S o S3 hx => by
      obtain ⟨ws1, k1, k2⟩ := bindS hx
      obtain ⟨⟨b, S4⟩, k3, k4⟩ := bindS k2
      obtain ⟨ws1', g1, g2⟩ := (hl.wipe own).setT k1
      simp only [g1, Option.bind_some, ev_h hn hcl t _ _ (hp.app q) ws1 ws1' g2 _ _ _ k3]
      dsimp only at k4
      split at k4
      · rename_i eb
        obtain ⟨⟨w1, S5⟩, k5, k6⟩ := bindS k4
        cases k6
        simp only [ofBool_h eb, ev_h hn hcl e _ _ (hp.app q) ws1 ws1' g2 _ _ _ k5, Option.bind_some, Option.map_some]
      · rename_i eb
        cases k4
        simp only [ofBool_h eb, Option.map_none]
      · cases k4) _ _ _ h3, rfl⟩
  | .lc2 it g t it1 g1 own own1 t1 e, p, p', hp, ws, ws', hl, S, w, T, h => by
    simp only [ev] at h
    obtain ⟨⟨items, q, S1⟩, h1, h2⟩ := bindS h
    obtain ⟨S2, h3, h4⟩ := bindS h2
    cases h4
    simp only [ev, evi_h hn hcl it p p' hp ws ws' hl _ _ _ _ h1, Option.bind_some]
    rw [hS_len, ← List.map_nil (f := hW th S0.length), ← hS_push]
    refine Option.bind_eq_some_iff.mpr ⟨_, compO_h (th := th) (S0 := S0) (fun x S S3 hx => by
      obtain ⟨ws1, k1, k2⟩ := bindS hx
      obtain ⟨⟨b, S4⟩, k3, k4⟩ := bindS k2
      obtain ⟨ws1', g1', g2⟩ := (hl.wipe own).setT k1
      simp only [g1', Option.bind_some, ev_h hn hcl t _ _ (hp.app q) ws1 ws1' g2 _ _ _ k3]
      dsimp only at k4
      split at k4
      · rename_i eb
        obtain ⟨⟨items1, q1, S5⟩, k5, k6⟩ := bindS k4
        dsimp only at k6
        split at k6
        · cases k6
        · rename_i hq
          simp only [ofBool_h eb, evi_h hn hcl it1 _ _ (hp.app q) ws1 ws1' g2 _ _ _ _ k5, Option.bind_some, hS_len]
          have hq2 : (q1.map (· + S0.length)).contains (S1.length + S0.length) = q1.contains S1.length := by
            have := (PR.app (k := S0.length) (p := []) (p' := []) (fun n => rfl) q1) S1.length
            simpa using this
          rw [hq2, if_neg hq]
          exact compL_h (th := th) (S0 := S0) (k := S1.length) (fun x S o S3 hx => by
            obtain ⟨ws2, k1, k2⟩ := bindS hx
            obtain ⟨⟨b1, S6⟩, k3, k4⟩ := bindS k2
            obtain ⟨ws2', m1, m2⟩ := (g2.wipe own1).setT k1
            simp only [m1, Option.bind_some, ev_h hn hcl t1 _ _ ((hp.app q).app q1) ws2 ws2' m2 _ _ _ k3]
            dsimp only at k4
            split at k4
            · rename_i eb
              obtain ⟨⟨w1, S7⟩, k5, k6⟩ := bindS k4
              cases k6
              simp only [ofBool_h eb, ev_h hn hcl e _ _ ((hp.app q).app q1) ws2 ws2' m2 _ _ _ k5, Option.bind_some, Option.map_some]
            · rename_i eb
              cases k4
              simp only [ofBool_h eb, Option.map_none]
            · cases k4) _ _ _ k6
      · rename_i eb
        cases k4
        simp only [ofBool_h eb]
      · cases k4) _ _ _ h3, rfl⟩
theorem evs_h (hn : ∀ xs, th xs ≠ .none) {cl0 cl : CallT} (hcl : ClH th cl0 cl) : ∀ (l : Es) (p p' : List Nat), PR S0.length p p' → ∀ (ws ws' : Loc), HL th S0.length ws ws' → ∀ (S : Sto) (w : List W) (T : Sto), evs cl0 p l ws S = some (w, T) → evs cl p' l ws' (hS th S0 S) = some (w.map (hW th S0.length), hS th S0 T)
  | .nil, p, p', hp, ws, ws', hl, S, w, T, h => by simp only [evs] at h; cases h; rfl
  | .cons a l, p, p', hp, ws, ws', hl, S, w, T, h => by
    simp only [evs] at h
    obtain ⟨⟨x, S1⟩, h1, h2⟩ := bindS h
    obtain ⟨⟨y, S2⟩, h3, h4⟩ := bindS h2
    cases h4
    simp only [evs, ev_h hn hcl a p p' hp ws ws' hl _ _ _ h1, evs_h hn hcl l p p' hp ws ws' hl _ _ _ h3, Option.bind_some, List.map_cons]
theorem evo_h (hn : ∀ xs, th xs ≠ .none) {cl0 cl : CallT} (hcl : ClH th cl0 cl) : ∀ (l : Eo) (p p' : List Nat), PR S0.length p p' → ∀ (ws ws' : Loc), HL th S0.length ws ws' → ∀ (S : Sto) (w : Option Int) (T : Sto), evo cl0 p l ws S = some (w, T) → evo cl p' l ws' (hS th S0 S) = some (w, hS th S0 T)
  | .no, p, p', hp, ws, ws', hl, S, w, T, h => by simp only [evo] at h; cases h; rfl
  | .so a, p, p', hp, ws, ws', hl, S, w, T, h => by
    simp only [evo] at h
    obtain ⟨⟨x, S1⟩, h1, h2⟩ := bindS h
    dsimp only at h2
    split at h2
    · cases h2
      simp only [evo, ev_h hn hcl a p p' hp ws ws' hl _ _ _ h1, Option.bind_some, hW, hD]
    · cases h2
theorem evi_h (hn : ∀ xs, th xs ≠ .none) {cl0 cl : CallT} (hcl : ClH th cl0 cl) : ∀ (it : It) (p p' : List Nat), PR S0.length p p' → ∀ (ws ws' : Loc), HL th S0.length ws ws' → ∀ (S : Sto) (l : List W) (q : List Nat) (T : Sto), evi cl0 p it ws S = some (l, q, T) → evi cl p' it ws' (hS th S0 S) = some (l.map (hW th S0.length), q.map (· + S0.length), hS th S0 T)
  | .seq a, p, p', hp, ws, ws', hl, S, l, q, T, h => by
    simp only [evi] at h
    obtain ⟨⟨x, S1⟩, h1, h2⟩ := bindS h
    simp only [evi, ev_h hn hcl a p p' hp ws ws' hl _ _ _ h1, Option.bind_some]
    dsimp only at h2
    cases x with
    | ref n =>
      dsimp only at h2
      cases e : getL S1 n with
      | none => rw [e] at h2; cases h2
      | some m => rw [e] at h2; cases h2; simp only [hW, getL_h e]; rfl
    | lv m => cases h2; simp only [hW, map_d]; rfl
    | tr m => cases h2; simp only [hW, tupOf, hWs_map]; rfl
    | d x =>
      cases x <;> first | (simp [tupOf] at h2; done) | skip
      · dsimp only at h2
        split at h2
        · rename_i hc
          cases h2
          simp only [hW, hD]
          rw [if_pos hc, List.map_map]
          rfl
        · cases h2
      · cases h2
        simp only [hW, hD, tupOf, map_d]
        rfl
  | .rng1 a, p, p', hp, ws, ws', hl, S, l, q, T, h => by
    simp only [evi] at h
    obtain ⟨⟨x, S1⟩, h1, h2⟩ := bindS h
    dsimp only at h2
    split at h2
    · split at h2
      · rename_i hc
        cases h2
        simp only [evi, ev_h hn hcl a p p' hp ws ws' hl _ _ _ h1, Option.bind_some, hW, hD, if_pos hc, List.map_map]
        rfl
      · cases h2
    · cases h2
  | .rng3 a b c, p, p', hp, ws, ws', hl, S, l, q, T, h => by
    simp only [evi] at h
    obtain ⟨⟨x, S1⟩, h1, h2⟩ := bindS h
    obtain ⟨⟨y, S2⟩, h3, h4⟩ := bindS h2
    obtain ⟨⟨z, S3⟩, h5, h6⟩ := bindS h4
    dsimp only at h6
    split at h6
    · split at h6
      · rename_i hc
        cases h6
        simp only [evi, ev_h hn hcl a p p' hp ws ws' hl _ _ _ h1, ev_h hn hcl b p p' hp ws ws' hl _ _ _ h3, ev_h hn hcl c p p' hp ws ws' hl _ _ _ h5, Option.bind_some, hW, hD, if_pos hc, List.map_map]
        rfl
      · cases h6
    · cases h6
  | .zip a b, p, p', hp, ws, ws', hl, S, l, q, T, h => by
    simp only [evi] at h
    obtain ⟨⟨x, S1⟩, h1, h2⟩ := bindS h
    obtain ⟨⟨y, S2⟩, h3, h4⟩ := bindS h2
    dsimp only at h4
    cases e1 : tupOf x with
    | none => rw [e1] at h4; cases h4
    | some m1 =>
      rw [e1] at h4
      dsimp only at h4
      cases e2 : tupOf y with
      | none => rw [e2] at h4; cases h4
      | some m2 =>
        rw [e2] at h4
        cases h4
        simp only [evi, ev_h hn hcl a p p' hp ws ws' hl _ _ _ h1, ev_h hn hcl b p p' hp ws ws' hl _ _ _ h3, Option.bind_some, tupOf_h e1, tupOf_h e2, List.map_nil, List.map_map, List.zip_map]
        congr 2
        refine List.map_congr_left fun z _ => ?_
        exact mkT_h [z.1, z.2]
end
theorem evT_h (hn : ∀ xs, th xs ≠ .none) {cl0 cl : CallT} (hcl : ClH th cl0 cl) {e : Ex} {p p' : List Nat} (hp : PR S0.length p p') {ws ws' : Loc} (hl : HL th S0.length ws ws') {S : Sto} {b : Bool} {T : Sto} (h : evT cl0 p e ws S = some (b, T)) : evT cl p' e ws' (hS th S0 S) = some (b, hS th S0 T) := by
  unfold evT at h ⊢
  obtain ⟨⟨x, S1⟩, h1, h2⟩ := bindS h
  dsimp only at h2
  rw [ev_h hn hcl e p p' hp ws ws' hl _ _ _ h1]
  split at h2
  · rename_i eb
    cases h2
    simp only [Option.bind_some, ofBool_h eb]
  · cases h2
end
end DV
/-! DVHole3: statements and calls on holes. -/
namespace DV
open PySem
section
variable {th : List PyData → PyData} {S0 : Sto}
mutual
theorem exS_h (hn : ∀ xs, th xs ≠ .none) {cl0 cl : CallT} (hcl : ClH th cl0 cl) {L : Nat} : ∀ (s : Sm) (p p' : List Nat), PR S0.length p p' → ∀ (ws ws' : Loc), HL th S0.length ws ws' → ∀ (S : Sto) (fl : Fl) (ws1 : Loc) (T : Sto), exS cl0 L p s ws S = some (fl, ws1, T) →
    ∃ ws1', exS cl L p' s ws' (hS th S0 S) = some (hFl th S0.length fl, ws1', hS th S0 T) ∧ HL th S0.length ws1 ws1'
  | .expr e, p, p', hp, ws, ws', hl, S, fl, ws1, T, h => by
    simp only [exS] at h
    obtain ⟨⟨x, S1⟩, h1, h2⟩ := bindS h
    cases h2
    exact ⟨ws', by simp only [exS, ev_h hn hcl e p p' hp ws ws' hl _ _ _ h1, Option.bind_some]; rfl, hl⟩
  | .asg g e, p, p', hp, ws, ws', hl, S, fl, ws1, T, h => by
    simp only [exS] at h
    obtain ⟨⟨x, S1⟩, h1, h2⟩ := bindS h
    obtain ⟨ws2, h3, h4⟩ := bindS h2
    cases h4
    obtain ⟨ws2', g1, g2⟩ := hl.setT h3
    exact ⟨ws2', by simp only [exS, ev_h hn hcl e p p' hp ws ws' hl _ _ _ h1, Option.bind_some, g1]; rfl, g2⟩
  | .asgIx o i e, p, p', hp, ws, ws', hl, S, fl, ws1, T, h => by
    simp only [exS] at h
    obtain ⟨⟨x, S1⟩, h1, h2⟩ := bindS h
    obtain ⟨⟨y, S2⟩, h3, h4⟩ := bindS h2
    obtain ⟨⟨z, S3⟩, h5, h6⟩ := bindS h4
    obtain ⟨S4, h7, h8⟩ := bindS h6
    cases h8
    exact ⟨ws', by simp only [exS, ev_h hn hcl e p p' hp ws ws' hl _ _ _ h1, ev_h hn hcl o p p' hp ws ws' hl _ _ _ h3, ev_h hn hcl i p p' hp ws ws' hl _ _ _ h5, Option.bind_some, setIxF_h hp h7]; rfl, hl⟩
  | .aug i o e, p, p', hp, ws, ws', hl, S, fl, ws1, T, h => by
    simp only [exS] at h
    split at h
    · rename_i a ea
      obtain ⟨⟨x, S1⟩, h1, h2⟩ := bindS h
      dsimp only at h2
      split at h2
      · obtain ⟨ws2, h3, h4⟩ := bindS h2
        cases h4
        obtain ⟨ws2', g1, g2⟩ := hl.setW h3
        exact ⟨ws2', by simp only [exS, hl.at' i _ ea, hW, hD, ev_h hn hcl e p p' hp ws ws' hl _ _ _ h1, Option.bind_some]; simp only [hW, hD] at g1; simp only [g1, Option.bind_some]; rfl, g2⟩
      · obtain ⟨ws2, h3, h4⟩ := bindS h2
        cases h4
        obtain ⟨ws2', g1, g2⟩ := hl.setW h3
        exact ⟨ws2', by simp only [exS, hl.at' i _ ea, hW, hD, ev_h hn hcl e p p' hp ws ws' hl _ _ _ h1, Option.bind_some]; simp only [hW, hD] at g1; simp only [g1, Option.bind_some]; rfl, g2⟩
      · cases h2
    · cases h
  | .ret e, p, p', hp, ws, ws', hl, S, fl, ws1, T, h => by
    simp only [exS] at h
    obtain ⟨⟨x, S1⟩, h1, h2⟩ := bindS h
    cases h2
    exact ⟨ws', by simp only [exS, ev_h hn hcl e p p' hp ws ws' hl _ _ _ h1, Option.bind_some]; rfl, hl⟩
  | .retN, p, p', hp, ws, ws', hl, S, fl, ws1, T, h => by simp only [exS] at h; cases h; exact ⟨ws', rfl, hl⟩
  | .ite c a b, p, p', hp, ws, ws', hl, S, fl, ws1, T, h => by
    simp only [exS] at h
    obtain ⟨⟨t, S1⟩, h1, h2⟩ := bindS h
    simp only [exS, evT_h hn hcl hp hl h1, Option.bind_some]
    cases t with
    | true => exact exSs_h hn hcl a p p' hp ws ws' hl _ _ _ _ h2
    | false => exact exSs_h hn hcl b p p' hp ws ws' hl _ _ _ _ h2
  | .whl c b, p, p', hp, ws, ws', hl, S, fl, ws1, T, h => by
    simp only [exS] at h ⊢
    exact whlL_h (fun ws S b S1 hx ws' hl => evT_h hn hcl hp hl hx) (fun ws S fl ws1 S1 hx ws' hl => exSs_h hn hcl b p p' hp ws ws' hl _ _ _ _ hx) L _ _ _ _ _ h ws' hl
  | .for it g b, p, p', hp, ws, ws', hl, S, fl, ws1, T, h => by
    simp only [exS] at h
    obtain ⟨⟨items, q, S1⟩, h1, h2⟩ := bindS h
    simp only [exS, evi_h hn hcl it p p' hp ws ws' hl _ _ _ _ h1, Option.bind_some]
    refine forL_h (fun x ws S fl ws1 S1 hx ws' hl => ?_) items _ _ _ _ _ h2 ws' hl
    obtain ⟨ws2, k1, k2⟩ := bindS hx
    obtain ⟨ws2', g1, g2⟩ := hl.setT k1
    simp only [g1, Option.bind_some]
    exact exSs_h hn hcl b _ _ (hp.app q) ws2 ws2' g2 _ _ _ _ k2
  | .brk, p, p', hp, ws, ws', hl, S, fl, ws1, T, h => by simp only [exS] at h; cases h; exact ⟨ws', rfl, hl⟩
  | .cont, p, p', hp, ws, ws', hl, S, fl, ws1, T, h => by simp only [exS] at h; cases h; exact ⟨ws', rfl, hl⟩
  | .pass, p, p', hp, ws, ws', hl, S, fl, ws1, T, h => by simp only [exS] at h; cases h; exact ⟨ws', rfl, hl⟩
  | .never, p, p', hp, ws, ws', hl, S, fl, ws1, T, h => by simp only [exS] at h; cases h
theorem exSs_h (hn : ∀ xs, th xs ≠ .none) {cl0 cl : CallT} (hcl : ClH th cl0 cl) {L : Nat} : ∀ (s : Ss) (p p' : List Nat), PR S0.length p p' → ∀ (ws ws' : Loc), HL th S0.length ws ws' → ∀ (S : Sto) (fl : Fl) (ws1 : Loc) (T : Sto), exSs cl0 L p s ws S = some (fl, ws1, T) →
    ∃ ws1', exSs cl L p' s ws' (hS th S0 S) = some (hFl th S0.length fl, ws1', hS th S0 T) ∧ HL th S0.length ws1 ws1'
  | .nil, p, p', hp, ws, ws', hl, S, fl, ws1, T, h => by simp only [exSs] at h; cases h; exact ⟨ws', rfl, hl⟩
  | .cons a l, p, p', hp, ws, ws', hl, S, fl, ws1, T, h => by
    simp only [exSs] at h
    obtain ⟨⟨fl2, ws2, S2⟩, h1, h2⟩ := bindS h
    obtain ⟨ws2', g1, g2⟩ := exS_h hn hcl a p p' hp ws ws' hl _ _ _ _ h1
    simp only [exSs, g1, Option.bind_some]
    cases fl2 with
    | next => exact exSs_h hn hcl l p p' hp ws2 ws2' g2 _ _ _ _ h2
    | brk => cases h2; exact ⟨_, rfl, g2⟩
    | cont => cases h2; exact ⟨_, rfl, g2⟩
    | ret w => cases h2; exact ⟨_, rfl, g2⟩
end

/-! ### calls -/
/-- as callF, where O may answer ahead -/
def callH (A : Nat → List W → Option PyData) (F : List FnD) (L : Nat) : Nat → CallT
  | 0, _, _, _, _ => none
  | n + 1, f, args, p, S => match A f args with
    | some r => some (.d r, S)
    | none => match F[f]? with
      | none => none
      | some d => if args.length = d.np then
          if d.pure then (derL S args).bind fun args' => (fin (exSs (callH A F L n) L [] d.body (begin d args') [])).bind fun q => handW q.2 q.1 S
          else fin (exSs (callH A F L n) L p d.body (begin d args) S)
        else none
/-- what O answers holds, m calls deep -/
def ASound (th : List PyData → PyData) (A : Nat → List W → Option PyData) (F : List FnD) (L m : Nat) : Prop :=
  ∀ (f : Nat) (args : List W) (r : PyData), A f args = some r → ∀ (k n : Nat) (p : List Nat) (S : Sto), callF F L (n + m) f (args.map (hW th k)) p S = some (.d (hD th r), S)
theorem derW_h {S : Sto} {w w' : W} (h : derW S w = some w') : derW (hS th S0 S) (hW th S0.length w) = some (hW th 0 w') := by
  cases w with
  | d x => simp only [derW] at h; cases h; simp only [hW, derW]
  | lv l => simp only [derW] at h; cases h; simp only [hW, derW]
  | tr l => simp only [derW] at h; cases h
  | ref n =>
    simp only [derW] at h
    cases e : getL S n with
    | none => rw [e] at h; cases h
    | some l =>
      simp only [e] at h
      cases e2 : allD l with
      | none => simp only [e2] at h; cases h
      | some ds => simp only [e2] at h; cases h; simp only [hW, derW, getL_h e, allD_h e2]
theorem derL_h {S : Sto} : ∀ {l l' : List W}, derL S l = some l' → derL (hS th S0 S) (l.map (hW th S0.length)) = some (l'.map (hW th 0))
  | [], _, h => by simp only [derL] at h; cases h; rfl
  | w :: r, _, h => by
    simp only [derL] at h
    split at h
    · rename_i w' e1
      split at h
      · rename_i r' e2
        cases h
        simp only [List.map_cons, derL, derW_h e1, derL_h e2]
      · cases h
    · cases h
theorem data_k {l : List W} {ds : List PyData} (h : allD l = some ds) (k k' : Nat) : l.map (hW th k) = l.map (hW th k') := by
  rw [allD_eq h, map_d, map_d]
theorem takeW_h {T0 S T : Sto} {x w : W} (h : takeW T0 x S = some (w, T)) : takeW (hS th [] T0) (hW th 0 x) (hS th S0 S) = some (hW th S0.length w, hS th S0 T) := by
  cases x with
  | d x => simp only [takeW] at h; cases h; simp only [hW, takeW]
  | ref n =>
    simp only [takeW] at h
    cases e : getL T0 n with
    | none => rw [e] at h; cases h
    | some l =>
      simp only [e] at h
      cases e2 : allD l with
      | none => simp only [e2] at h; cases h
      | some ds =>
        simp only [e2] at h
        have e3 := getL_h (th := th) (S0 := []) e
        simp only [List.length_nil] at e3
        simp only [hW, takeW, e3, allD_h e2]
        rw [data_k e2 0 S0.length, newL_h]
        cases h
        rfl
  | tr l => simp only [takeW] at h; cases h
  | lv l => simp only [takeW] at h; cases h
theorem takeL_h {T0 : Sto} : ∀ {l l' : List W} {S T : Sto}, takeL T0 l S = some (l', T) → takeL (hS th [] T0) (l.map (hW th 0)) (hS th S0 S) = some (l'.map (hW th S0.length), hS th S0 T)
  | [], _, _, _, h => by simp only [takeL] at h; cases h; rfl
  | .d x :: r, _, S, T, h => by
    simp only [takeL] at h
    split at h
    · rename_i q hq
      cases h
      obtain ⟨q1, q2⟩ := q
      simp only [List.map_cons, hW, takeL, takeL_h hq]
    · cases h
  | .ref n :: r, _, S, T, h => by
    simp only [takeL] at h
    cases e2 : allD r with
    | none => simp only [e2] at h; cases h
    | some ds =>
      simp only [e2] at h
      split at h
      · rename_i q hq
        cases h
        obtain ⟨q1, q2⟩ := q
        have := takeW_h (th := th) (S0 := S0) hq
        simp only [List.map_cons, hW] at this ⊢
        simp only [takeL, allD_h e2, this]
        rw [data_k e2 0 S0.length]
      · cases h
  | .tr _ :: _, _, _, _, h => by simp only [takeL] at h; cases h
  | .lv _ :: _, _, _, _, h => by simp only [takeL] at h; cases h
theorem handW_h {T0 S T : Sto} {x w : W} (h : handW T0 x S = some (w, T)) : handW (hS th [] T0) (hW th 0 x) (hS th S0 S) = some (hW th S0.length w, hS th S0 T) := by
  cases x with
  | tr l =>
    simp only [handW] at h
    split at h
    · rename_i q hq
      cases h
      obtain ⟨q1, q2⟩ := q
      simp only [hW, handW, hWs_map, takeL_h hq]
    · cases h
  | d x => have := takeW_h (th := th) (S0 := S0) (x := .d x) (by simpa only [handW] using h); simpa only [hW, handW] using this
  | ref n => have := takeW_h (th := th) (S0 := S0) (x := .ref n) (by simpa only [handW] using h); simpa only [hW, handW] using this
  | lv l => have := takeW_h (th := th) (S0 := S0) (x := .lv l) (by simpa only [handW] using h); simpa only [hW, handW] using this
theorem begin_h {d : FnD} {args : List W} (k : Nat) : HL th k (begin d args) (begin d (args.map (hW th k))) := by
  refine ⟨by simp [begin], fun i w h => ?_⟩
  unfold begin at h ⊢
  rw [List.getElem?_append] at h
  split at h
  · rename_i hi
    rw [List.getElem?_map] at h
    obtain ⟨w', h1, h2⟩ := Option.map_eq_some_iff.mp h
    cases h2
    rw [List.getElem?_append_left (by simpa using hi), List.getElem?_map, List.getElem?_map, h1]
    rfl
  · rw [List.getElem?_replicate] at h
    split at h <;> cases h
theorem fin_h {o o' : Option (Fl × Loc × Sto)} {w : W} {S : Sto} {k : Nat} (h : fin o = some (w, S)) (g : ∀ fl ws1 S1, o = some (fl, ws1, S1) → ∃ ws1', o' = some (hFl th k fl, ws1', hS th S0 S1)) : fin o' = some (hW th k w, hS th S0 S) := by
  obtain ⟨ws, hh⟩ := fin_some h
  rcases hh with hh | ⟨rfl, hh⟩
  · obtain ⟨ws1', e⟩ := g _ _ _ hh
    rw [e]
    rfl
  · obtain ⟨ws1', e⟩ := g _ _ _ hh
    rw [e]
    rfl
theorem callH_ok (hn : ∀ xs, th xs ≠ .none) {A : Nat → List W → Option PyData} {F : List FnD} {L m : Nat} (hA : ASound th A F L m) : ∀ n : Nat, ClH th (callH A F L n) (callF F L (n + m))
  | 0 => fun f args p S w T h => by simp only [callH] at h; cases h
  | n + 1 => fun f args p S w T h S0 p' hp => by
    simp only [callH] at h
    split at h
    · rename_i r hr
      cases h
      have := hA f args r hr S0.length (n + 1) p' (hS th S0 S)
      rw [this]
      rfl
    · have ih := callH_ok hn hA n
      rw [Nat.add_right_comm]
      simp only [callF]
      split at h
      · cases h
      · rename_i d hd
        rw [List.length_map]
        try rw [hd]
        try dsimp only
        split at h
        · rename_i hl
          rw [if_pos hl]
          split at h
          · rename_i hpu
            rw [if_pos hpu]
            obtain ⟨args', h1, h2⟩ := bindS h
            obtain ⟨⟨w0, T0⟩, h3, h4⟩ := bindS h2
            rw [derL_h h1, Option.bind_some]
            have key : fin (exSs (callF F L (n + m)) L [] d.body (begin d (args'.map (hW th 0))) []) = some (hW th 0 w0, hS th [] T0) := fin_h h3 fun fl ws1 S1 e => by
              obtain ⟨ws1', g1, _⟩ := exSs_h hn ih (S0 := []) d.body [] [] (fun n => rfl) _ _ (begin_h (d := d) (args := args') 0) _ _ _ _ e
              exact ⟨ws1', g1⟩
            rw [key, Option.bind_some]
            exact handW_h h4
          · rename_i hpu
            rw [if_neg hpu]
            refine fin_h h fun fl ws1 S1 e => ?_
            obtain ⟨ws1', g1, _⟩ := exSs_h hn ih (S0 := S0) d.body p p' hp _ _ (begin_h (d := d) (args := args) S0.length) _ _ _ _ e
            exact ⟨ws1', g1⟩
        · cases h
end
end DV
/-! DVPick: the law's box: what a pick gives. -/
namespace DV
open PySem
def pickB : Ss :=
 (.cons (.ite (.cmp .lt (.v 1) (.c (.int 2))) (.cons (.ret (.c (.int 0)))
 .nil) .nil)
 (.cons (.ite (.cmp .gt (.ix (.v 0) (.c (.int 2))) (.c (.int 0))) (.cons (.asg (.nm 2) (.bin .mod (.bf .int (.cons (.ix (.v 0) (.c (.int 2))) .nil)) (.v 1)))
 (.cons (.asgIx (.v 0) (.c (.int 2)) (.bin .fdiv (.ix (.v 0) (.c (.int 2))) (.v 1)))
 (.cons (.ret (.v 2))
 .nil))) .nil)
 (.cons (.asg (.nm 3) (.ix (.v 0) (.c (.int 1))))
 (.cons (.asgIx (.v 0) (.c (.int 1)) (.bin .add (.v 3) (.c (.int 1))))
 (.cons (.asg (.nm 4) (.ite (.cmp .gt (.bf .len (.cons (.ix (.v 0) (.c (.int 0))) .nil)) (.c (.int 0))) (.ix (.ix (.v 0) (.c (.int 0))) (.bin .mod (.v 3) (.bf .len (.cons (.ix (.v 0) (.c (.int 0))) .nil)))) (.c (.int 0))))
 (.cons (.ite (.and (.cmp .lt (.v 3) (.bf .len (.cons (.ix (.v 0) (.c (.int 0))) .nil))) (.cmp .ge (.v 4) (.bin .pow (.c (.int 10)) (.c (.int 18))))) (.cons (.asgIx (.v 0) (.c (.int 2)) (.bin .fdiv (.v 4) (.v 1)))
 (.cons (.ret (.bin .mod (.bf .int (.cons (.v 4) .nil)) (.v 1)))
 .nil)) .nil)
 (.cons (.asg (.nm 5) (.bin .mod (.bin .mul (.bin .add (.bin .mod (.bf .int (.cons (.v 4) .nil)) (.c (.int 2147483629))) (.c (.int 1))) (.c (.int 48271))) (.c (.int 2147483647))))
 (.cons (.asg (.nm 5) (.bin .mod (.bin .add (.bin .add (.v 5) (.bin .mul (.bin .mul (.v 3) (.v 3)) (.c (.int 30269)))) (.bin .mul (.c (.int 977)) (.v 3))) (.c (.int 2147483629))))
 (.cons (.asg (.nm 5) (.bin .mod (.bin .mul (.v 5) (.v 5)) (.c (.int 2147483587))))
 (.cons (.ret (.bin .mod (.bin .fdiv (.v 5) (.c (.int 32))) (.v 1)))
 .nil))))))))))
/-- the box, at most c picks behind -/
def BX (S : Sto) (c : Nat) : Prop := ∃ (zs : List Int) (k q : Int), zs.length ≤ 63 ∧ 0 ≤ k ∧ k ≤ c ∧ 0 ≤ q ∧ S[0]? = some (.lst (zs.map fun z => .d (.int z))) ∧ S[1]? = some (.lst [.ref 0, .d (.int k), .d (.int q)])
/-- all but the box stands as it stood -/
def Same1 (S S' : Sto) : Prop := S'.length = S.length ∧ ∀ j, j ≠ 1 → S'[j]? = S[j]?
theorem Same1.set {S : Sto} {o : O} : Same1 S (S.set 1 o) := ⟨List.length_set, fun j h => by rw [List.getElem?_set_ne (Ne.symm h)]⟩
theorem BX.mono {S : Sto} {c d : Nat} (h : BX S c) (hd : c ≤ d) : BX S d := by
  obtain ⟨zs, k, q, h1, h2, h3, h4, h5, h6⟩ := h
  exact ⟨zs, k, q, h1, h2, by omega, h4, h5, h6⟩
def mixI (z k : Int) : Int := ((z % 2147483629 + 1) * 48271 % 2147483647 + k * k * 30269 + 977 * k) % 2147483629
theorem mulOk1 (x : Int) : mulOk x 48271 = true := by unfold mulOk; simp
theorem mulOk2 (x : Int) : mulOk x 30269 = true := by unfold mulOk; simp
theorem mulOk3 (x : Int) : mulOk 977 x = true := by unfold mulOk; simp
theorem mulOk4 (x : Int) : mulOk (x % 2147483629) (x % 2147483629) = true := by
  have h1 := Int.emod_nonneg x (show (2147483629 : Int) ≠ 0 by decide)
  have h2 := Int.emod_lt_of_pos x (show (0 : Int) < 2147483629 by decide)
  unfold mulOk
  simp only [Bool.or_self, decide_eq_true_eq]
  omega
theorem mulOk5 {k : Int} (h : k.natAbs < 2 ^ 64) : mulOk k k = true := by unfold mulOk; simp only [Bool.or_self, decide_eq_true_eq]; exact h
theorem cell_ok {zs : List Int} {k : Int} (hl : 0 < zs.length) : ∃ z : Int, L2.atI (zs.map fun z => W.d (.int z)) (k % (zs.length : Int)) = some (.d (.int z)) := by
  have h1 := Int.emod_nonneg k (show (zs.length : Int) ≠ 0 by omega)
  have h2 := Int.emod_lt_of_pos k (show (0 : Int) < zs.length by omega)
  obtain ⟨j, hj⟩ := Int.eq_ofNat_of_zero_le h1
  rw [hj] at h2 ⊢
  have h3 : j < zs.length := by omega
  refine ⟨zs[j], ?_⟩
  unfold L2.atI L2.ixN
  rw [if_pos (Int.natCast_nonneg j), if_pos (by simpa using h3)]
  simp [h3]
theorem pick_ok {F : List FnD} {L n i : Nat} {nm : Str} (hF : F[i]? = some ⟨nm, 2, 6, false, pickB⟩) {S : Sto} {c : Nat} (hB : BX S c) (hc : c < 2 ^ 60) {p : List Nat} (hp : p.contains 1 = false) {m : Int} (hm : m < 2 ^ 30) :
    ∃ r S', callF F L (n + 1) i [.ref 1, .d (.int m)] p S = some (.d (.int r), S') ∧ BX S' (c + 1) ∧ 0 ≤ r ∧ (r = 0 ∨ r < m) ∧ Same1 S S' := by
  obtain ⟨zs, k, q, hz, hk, hkc, hq, e0, e1⟩ := hB
  have hp1 : 1 ∉ p := fun h => by rw [List.contains_iff_mem.mpr h] at hp; cases hp
  have g0 : getL S 0 = some (zs.map fun z => .d (.int z)) := getL_of e0
  have g1 : getL S 1 = some [.ref 0, .d (.int k), .d (.int q)] := getL_of e1
  have hlen : 1 < S.length := (List.getElem?_eq_some_iff.mp e1).1
  have hm30 : m < 1073741824 := hm
  simp only [callF, hF]
  by_cases hm2 : m < 2
  · refine ⟨0, S, ?_, ⟨zs, k, q, hz, hk, by omega, hq, e0, e1⟩, Int.le_refl 0, .inl rfl, rfl, fun j _ => rfl⟩
    simp [pickB, exSs, exS, ev, evs, evT, cmpF, ofBool, begin, fin, hm2, Cst.toD]
  have hm0 : 0 < m := by omega
  by_cases hq0 : 0 < q
  · refine ⟨q % m, S.set 1 (.lst [.ref 0, .d (.int k), .d (.int (q / m))]), ?_, ⟨zs, k, q / m, hz, hk, by omega, Int.ediv_nonneg hq (by omega), ?_, ?_⟩, Int.emod_nonneg _ (by omega), .inr (Int.emod_lt_of_pos _ (by omega)), Same1.set⟩
    · simp [pickB, exSs, exS, ev, evs, evT, cmpF, ofBool, begin, fin, hm2, hq0, Cst.toD, ixF, seqOf, tupOf, lstOf, g1, L2.atI, L2.ixN, bfF, bf1, bInt, binF, hm0, hm30, setT, setW, setIxF, hp1]
    · rw [List.getElem?_set_ne (by omega)]; exact e0
    · rw [List.getElem?_set_self (List.getElem?_eq_some_iff.mp e1).1]
  · have hq1 : q = 0 := by omega
    subst hq1
    have s0 : ∀ o, getL (S.set 1 o) 0 = some (zs.map fun z => .d (.int z)) := fun o => by unfold getL; rw [List.getElem?_set_ne (by omega), e0]
    have s1 : ∀ l, getL (S.set 1 (.lst l)) 1 = some l := fun l => by unfold getL; rw [List.getElem?_set_self hlen]
    have hk64 : k.natAbs < 2 ^ 64 := by omega
    have hcap : zs.length ≤ capN := by unfold capN; omega
    have box : ∀ q', 0 ≤ q' → BX (S.set 1 (.lst [.ref 0, .d (.int (k + 1)), .d (.int q')])) (c + 1) := fun q' hq' =>
      ⟨zs, k + 1, q', hz, by omega, by omega, hq', by rw [List.getElem?_set_ne (by omega)]; exact e0, by rw [List.getElem?_set_self hlen]⟩
    have ats : ∀ {x y z : W}, L2.atI [x, y, z] 2 = some z ∧ L2.atI [x, y, z] 1 = some y ∧ L2.atI [x, y, z] 0 = some x := fun {x y z} => ⟨rfl, rfl, rfl⟩
    have ixs : L2.ixN 3 2 = some 2 ∧ L2.ixN 3 1 = some 1 := ⟨rfl, rfl⟩
    have cellE : ∃ z : Int, (0 < zs.length → L2.atI (zs.map fun z => W.d (.int z)) (k % (zs.length : Int)) = some (.d (.int z))) ∧ (zs.length = 0 → z = 0) := by
      by_cases hl : 0 < zs.length
      · obtain ⟨z, h⟩ := cell_ok (k := k) hl
        exact ⟨z, fun _ => h, fun h => by omega⟩
      · exact ⟨0, fun h => absurd h hl, fun _ => rfl⟩
    obtain ⟨z, hz1, hz2⟩ := cellE
    by_cases hb : k < (zs.length : Int) ∧ (1000000000000000000 : Int) ≤ z
    · have hl : 0 < zs.length := by omega
      refine ⟨z % m, (S.set 1 (.lst [.ref 0, .d (.int (k + 1)), .d (.int 0)])).set 1 (.lst [.ref 0, .d (.int (k + 1)), .d (.int (z / m))]), ?_, ?_, Int.emod_nonneg _ (by omega), .inr (Int.emod_lt_of_pos _ (by omega)), ?_⟩
      · simp [pickB, exSs, exS, ev, evs, evT, cmpF, ofBool, begin, fin, hm2, Cst.toD, ixF, seqOf, tupOf, lstOf, g0, g1, s0, s1, ats, ixs, bfF, bf1, bInt, bLen, binF, hm0, hm30, setT, setW, setIxF, hp1, hl, hz1 hl, hb.1, hb.2]
      · rw [List.set_set]; exact box _ (Int.ediv_nonneg (by omega) (by omega))
      · rw [List.set_set]; exact Same1.set
    · refine ⟨mixI z k * mixI z k % 2147483587 / 32 % m, S.set 1 (.lst [.ref 0, .d (.int (k + 1)), .d (.int 0)]), ?_, box 0 (Int.le_refl 0), Int.emod_nonneg _ (by omega), .inr (Int.emod_lt_of_pos _ (by omega)), Same1.set⟩
      · by_cases hl : 0 < zs.length
        · by_cases hb1 : k < (zs.length : Int)
          · have hb2 : ¬ (1000000000000000000 : Int) ≤ z := fun h => hb ⟨hb1, h⟩
            simp [pickB, exSs, exS, ev, evs, evT, cmpF, ofBool, begin, fin, hm2, Cst.toD, ixF, seqOf, tupOf, lstOf, g0, g1, s0, s1, ats, ixs, bfF, bf1, bInt, bLen, binF, hm0, hm30, setT, setW, setIxF, hp1, hl, hz1 hl, hb1, hb2, mulOk1, mulOk2, mulOk3, mulOk4, mulOk5 hk64, mixI]
          · simp [pickB, exSs, exS, ev, evs, evT, cmpF, ofBool, begin, fin, hm2, Cst.toD, ixF, seqOf, tupOf, lstOf, g0, g1, s0, s1, ats, ixs, bfF, bf1, bInt, bLen, binF, hm0, hm30, setT, setW, setIxF, hp1, hl, hz1 hl, hb1, mulOk1, mulOk2, mulOk3, mulOk4, mulOk5 hk64, mixI]
        · have hl0 : zs = [] := List.length_eq_zero_iff.mp (by omega)
          have hz0 : z = 0 := hz2 (by omega)
          have hk0 : ¬ k < 0 := by omega
          subst hl0 hz0
          simp [pickB, exSs, exS, ev, evs, evT, cmpF, ofBool, begin, fin, hm2, Cst.toD, ixF, seqOf, tupOf, lstOf, g0, g1, s0, s1, ats, ixs, bfF, bf1, bInt, bLen, binF, hm0, hm30, setT, setW, setIxF, hp1, hk0, mulOk1, mulOk2, mulOk3, mulOk4, mulOk5 hk64, mixI]
end DV
/-! DVNorm: the program that the law draws: any normal program of at most so many nodes. -/
namespace DV
open PySem
def nameT (x : PyData) : PyData := .tuple [.str "name", x]
def fnT (x b : PyData) : PyData := .tuple [.str "fn", x, b]
def callT (a b : PyData) : PyData := .tuple [.str "call", a, b]
inductive Nm (G : Str → Prop) : Bool → Nat → PyData → Prop
  | name {x : Str} (h : G x) : Nm G true 1 (nameT (.str x))
  | call {a b : Nat} {f p : PyData} (h : Nm G true a f) (g : Nm G false b p) : Nm G true (a + b + 1) (callT f p)
  | any {a : Nat} {p : PyData} (h : Nm G true a p) : Nm G false a p
  | fn {x : Str} {a : Nat} {p : PyData} (h : G x) (g : Nm G false a p) : Nm G false (a + 1) (fnT (.str x) p)
def loopB (ip ir : Nat) : Ss := (.cons (.ite (.or (.cmp .lt (.v 5) (.c (.int 2))) (.cmp .eq (.fn ip (.cons (.v 0) (.cons (.c (.int 2)) .nil))) (.c (.int 0)))) (.cons .brk
 .nil) .nil)
 (.cons (.asg (.nm 7) (.bin .add (.c (.int 1)) (.fn ip (.cons (.v 0) (.cons (.bin .sub (.v 5) (.c (.int 1))) .nil)))))
 (.cons (.asg (.nm 4) (.tup (.cons (.c (.str "call")) (.cons (.v 4) (.cons (.fn ir (.cons (.v 0) (.cons (.v 1) (.cons (.v 7) .nil)))) .nil)))))
 (.cons (.asg (.nm 5) (.bin .sub (.bin .sub (.v 5) (.c (.int 1))) (.v 7)))
 .nil))))
def normB (ip ir : Nat) : Ss :=
 (.cons (.ite (.and (.cmp .gt (.v 2) (.c (.int 1))) (.cmp .eq (.fn ip (.cons (.v 0) (.cons (.c (.int 3)) .nil))) (.c (.int 0)))) (.cons (.asg (.nm 3) (.ix (.lst (.cons (.c (.str "x")) (.cons (.c (.str "y")) (.cons (.c (.str "x1")) (.cons (.c (.str "u")) .nil))))) (.fn ip (.cons (.v 0) (.cons (.c (.int 4)) .nil)))))
 (.cons (.ret (.tup (.cons (.c (.str "fn")) (.cons (.v 3) (.cons (.fn ir (.cons (.v 0) (.cons (.bin .add (.v 1) (.lst (.cons (.v 3) .nil))) (.cons (.bin .sub (.v 2) (.c (.int 1))) .nil)))) .nil)))))
 .nil)) .nil)
 (.cons (.asg (.nm 4) (.tup (.cons (.c (.str "name")) (.cons (.ix (.v 1) (.fn ip (.cons (.v 0) (.cons (.bf .len (.cons (.v 1) .nil)) .nil)))) .nil))))
 (.cons (.asg (.nm 5) (.bin .sub (.v 2) (.c (.int 1))))
 (.cons (.for (.rng1 (.c (.int 3))) (.nm 6) (loopB ip ir))
 (.cons (.ret (.v 4))
 .nil)))))
/-- what stands in a store stands on, but for the box -/
def Ext1 (S S' : Sto) : Prop := S.length ≤ S'.length ∧ ∀ j, j < S.length → j ≠ 1 → S'[j]? = S[j]?
theorem Ext1.refl (S : Sto) : Ext1 S S := ⟨Nat.le_refl _, fun _ _ _ => rfl⟩
theorem Ext1.trans {S S1 S2 : Sto} (h : Ext1 S S1) (g : Ext1 S1 S2) : Ext1 S S2 := ⟨Nat.le_trans h.1 g.1, fun j h1 h2 => (g.2 j (by have := h.1; omega) h2).trans (h.2 j h1 h2)⟩
theorem Same1.ext {S S' : Sto} (h : Same1 S S') : Ext1 S S' := ⟨Nat.le_of_eq h.1.symm, fun j _ h2 => h.2 j h2⟩
theorem Ext1.push (S : Sto) (o : O) : Ext1 S (S ++ [o]) := ⟨by simp, fun j h _ => List.getElem?_append_left h⟩
theorem BX.len {S : Sto} {c : Nat} (h : BX S c) : 2 ≤ S.length := by
  obtain ⟨zs, k, q, _, _, _, _, _, e⟩ := h
  have := (List.getElem?_eq_some_iff.mp e).1
  omega
theorem BX.push {S : Sto} {c : Nat} (h : BX S c) (o : O) : BX (S ++ [o]) c := by
  have hl := h.len
  obtain ⟨zs, k, q, h1, h2, h3, h4, h5, h6⟩ := h
  exact ⟨zs, k, q, h1, h2, h3, h4, by rw [List.getElem?_append_left (by omega)]; exact h5, by rw [List.getElem?_append_left (by omega)]; exact h6⟩
def cost : Nat → Nat
  | 0 => 0
  | m + 1 => 3 * cost m + 12
theorem cost_mono : ∀ {a b : Nat}, a ≤ b → cost a ≤ cost b
  | a, 0, h => by have : a = 0 := by omega
                  subst this; exact Nat.le_refl _
  | 0, b + 1, _ => Nat.zero_le _
  | a + 1, b + 1, h => by
    have := cost_mono (Nat.le_of_succ_le_succ h)
    simp only [cost]
    omega
theorem nth_str {G : Str → Prop} {nms : List Str} (hG : ∀ x ∈ nms, G x) {r : Int} (h0 : 0 ≤ r) (h1 : r < nms.length) : ∃ x, G x ∧ L2.atI (nms.map fun x => W.d (.str x)) r = some (.d (.str x)) := by
  obtain ⟨j, rfl⟩ := Int.eq_ofNat_of_zero_le h0
  have h3 : j < nms.length := by omega
  refine ⟨nms[j], hG _ (List.getElem_mem h3), ?_⟩
  unfold L2.atI L2.ixN
  rw [if_pos (Int.natCast_nonneg j), if_pos (by simpa using h3)]
  simp [h3]
section
variable {F : List FnD} {L ip ir : Nat} {np nr : Str} {G : Str → Prop}
/-- the promise of the law's draw -/
def NormOk (F : List FnD) (L ir : Nat) (G : Str → Prop) (m : Nat) : Prop := ∀ (n c : Nat) (S : Sto) (p : List Nat) (nms : List Str) (nl : Nat), BX S c → c + cost m < 2 ^ 59 → p.contains 1 = false → S[nl]? = some (.lst (nms.map fun x => .d (.str x))) → nl ≠ 1 → nms ≠ [] → nms.length + m ≤ 1000 → (∀ x ∈ nms, G x) →
  ∃ P S' a, callF F L (n + m + 1) ir [.ref 1, .ref nl, .d (.int (m : Int))] p S = some (.d P, S') ∧ BX S' (c + cost m) ∧ a ≤ m ∧ Nm G false a P ∧ Ext1 S S'
theorem mkT3 {a b c : PyData} : mkT [.d a, .d b, .d c] = .d (.tuple [a, b, c]) := rfl
theorem mkT2 {a b : PyData} : mkT [.d a, .d b] = .d (.tuple [a, b]) := rfl
theorem loop_ok (hP : F[ip]? = some ⟨np, 2, 6, false, pickB⟩) {m : Nat} (ih : ∀ s, s < m → 1 ≤ s → NormOk F L ir G s) {n : Nat} {p : List Nat} (hp : p.contains 1 = false) {nms : List Str} {nl : Nat} (hnl : nl ≠ 1) (hne : nms ≠ []) (hlen : nms.length + m ≤ 1000) (hG : ∀ x ∈ nms, G x) :
    ∀ (items : List W) (c : Nat) (S : Sto) (f : PyData) (s l : Nat) (x3 x6 x7 : Option W), BX S c → c + items.length * (cost (m - 1) + 3) < 2 ^ 59 → S[nl]? = some (.lst (nms.map fun x => .d (.str x))) → Nm G true s f → s + l ≤ m →
    ∃ ws' S' f' s', forL (fun x ws' S' => (setT (.nm 6) x ws').bind fun ws2 => exSs (callF F L (n + m)) L p (loopB ip ir) ws2 S') items [some (.ref 1), some (.ref nl), some (.d (.int (m : Int))), x3, some (.d f), some (.d (.int (l : Int))), x6, x7] S = some (.next, ws', S') ∧
      ws'[4]? = some (some (.d f')) ∧ Nm G true s' f' ∧ s' ≤ m ∧ BX S' (c + items.length * (cost (m - 1) + 3)) ∧ Ext1 S S'
  | [], c, S, f, s, l, x3, x6, x7, hB, hc, hS, hf, hsl => ⟨_, S, f, s, rfl, rfl, hf, by omega, by simpa using hB, Ext1.refl S⟩
  | it :: items, c, S, f, s, l, x3, x6, x7, hB, hc, hS, hf, hsl => by
    simp only [List.length_cons, Nat.add_mul, Nat.one_mul] at hc
    simp only [forL]
    have hs1 : 1 ≤ s := by cases hf <;> omega
    by_cases hl2 : l < 2
    · refine ⟨[some (.ref 1), some (.ref nl), some (.d (.int (m : Int))), x3, some (.d f), some (.d (.int (l : Int))), some it, x7], S, f, s, ?_, rfl, hf, by omega, hB.mono (by simp only [List.length_cons]; omega), Ext1.refl S⟩
      have : (l : Int) < 2 := by omega
      simp [setT, setW, loopB, exSs, exS, evT, ev, cmpF, Cst.toD, ofBool, this]
    · have hnl2 : ¬ (l : Int) < 2 := by omega
      obtain ⟨N, hN⟩ : ∃ N, n + m = N + 1 := ⟨n + m - 1, by omega⟩
      obtain ⟨r, S1, h1, hB1, hr0, hr1, hs⟩ := pick_ok (L := L) (n := N) hP hB (by omega) hp (m := 2) (by decide)
      by_cases hr : r = 0
      · subst hr
        refine ⟨[some (.ref 1), some (.ref nl), some (.d (.int (m : Int))), x3, some (.d f), some (.d (.int (l : Int))), some it, x7], S1, f, s, ?_, rfl, hf, by omega, hB1.mono (by simp only [List.length_cons, Nat.add_mul, Nat.one_mul]; omega), hs.ext⟩
        simp [setT, setW, loopB, exSs, exS, evT, ev, evs, cmpF, Cst.toD, ofBool, hnl2, hN, h1, eqF]
      · obtain ⟨r2, S2, h2, hB2, hq0, hq1, hs2⟩ := pick_ok (L := L) (n := N) hP hB1 (by omega) hp (m := (l : Int) - 1) (by omega)
        obtain ⟨t, ht⟩ := Int.eq_ofNat_of_zero_le hq0
        subst ht
        have htl : t + 1 < l := by omega
        have e12 : Ext1 S S2 := hs.ext.trans hs2.ext
        have hnS : nl < S.length := (List.getElem?_eq_some_iff.mp hS).1
        have hcm : cost (t + 1) ≤ cost (m - 1) := cost_mono (by omega)
        have hdep : n + m = (n + m - (t + 1) - 1) + (t + 1) + 1 := by omega
        obtain ⟨P, S3, a, h3, hB3, ha, hP3, e3⟩ := ih (t + 1) (by omega) (by omega) (n + m - (t + 1) - 1) _ S2 p nms nl hB2 (by omega) hp (by rw [e12.2 nl hnS hnl]; exact hS) hnl hne (by omega) hG
        rw [← hdep] at h3
        have hcall := Nm.call hf hP3
        have e13 := e12.trans e3
        obtain ⟨ws', S4, f', s', g1, g2, g3, g4, g5, g6⟩ := loop_ok hP ih (n := n) hp hnl hne hlen hG items _ S3 (callT f P) (s + a + 1) (l - 1 - (t + 1)) x3 (some it) (some (.d (.int ((t : Int) + 1)))) hB3 (by omega) (by rw [e13.2 nl hnS hnl]; exact hS) hcall (by omega)
        refine ⟨ws', S4, f', s', ?_, g2, g3, g4, g5.mono (by simp only [List.length_cons, Nat.add_mul, Nat.one_mul]; omega), e13.trans g6⟩
        rw [← g1]
        rw [show ((t + 1 : Nat) : Int) = (t : Int) + 1 by omega] at h3
        have hlc : ((l - 1 - (t + 1) : Nat) : Int) = (l : Int) - 1 - ((t : Int) + 1) := by omega
        have hrb : (r == 0) = false := by simpa using hr
        rw [hN] at h3 ⊢
        simp [hrb, setT, setW, loopB, exSs, exS, evT, ev, evs, cmpF, Cst.toD, ofBool, hnl2, h1, eqF, hr, h2, binF, Int.add_comm 1 (t : Int), h3, mkT3, hlc, capN, callT]

theorem exSs_next {cl : CallT} {L : Nat} {p : List Nat} {a : Sm} {l : Ss} {ws ws1 : Loc} {S S1 : Sto} (h : exS cl L p a ws S = some (.next, ws1, S1)) : exSs cl L p (.cons a l) ws S = exSs cl L p l ws1 S1 := by
  simp only [exSs, h, Option.bind_some]
theorem exSs_ret {cl : CallT} {L : Nat} {p : List Nat} {a : Sm} {l : Ss} {ws ws1 : Loc} {S S1 : Sto} {w : W} (h : exS cl L p a ws S = some (.ret w, ws1, S1)) : exSs cl L p (.cons a l) ws S = some (.ret w, ws1, S1) := by
  simp only [exSs, h, Option.bind_some]
theorem four {r : Int} (h0 : 0 ≤ r) (h1 : r = 0 ∨ r < 4) : ∃ x ∈ (["x", "y", "x1", "u"] : List Str), L2.atI [W.d (.str "x"), W.d (.str "y"), W.d (.str "x1"), W.d (.str "u")] r = some (.d (.str x)) := by
  have : r = 0 ∨ r = 1 ∨ r = 2 ∨ r = 3 := by omega
  rcases this with rfl | rfl | rfl | rfl
  · exact ⟨"x", by simp, rfl⟩
  · exact ⟨"y", by simp, rfl⟩
  · exact ⟨"x1", by simp, rfl⟩
  · exact ⟨"u", by simp, rfl⟩
theorem norm_ok (hP : F[ip]? = some ⟨np, 2, 6, false, pickB⟩) (hR : F[ir]? = some ⟨nr, 3, 8, false, normB ip ir⟩) (h4 : ∀ x ∈ (["x", "y", "x1", "u"] : List Str), G x) (m : Nat) (hm1 : 1 ≤ m) (hm2 : m ≤ 900) : NormOk F L ir G m := by
  induction m using Nat.strongRecOn with
  | _ m ih0 =>
  have ih : ∀ s, s < m → 1 ≤ s → NormOk F L ir G s := fun s h1 h2 => ih0 s h1 h2 (by omega)
  intro n c S p nms nl hB hc hp hS hnl hne hlen hG
  have hnS : nl < S.length := (List.getElem?_eq_some_iff.mp hS).1
  have hcost : cost m = 3 * cost (m - 1) + 12 := by
    obtain ⟨k, rfl⟩ : ∃ k, m = k + 1 := ⟨m - 1, by omega⟩
    rfl
  obtain ⟨N, hN⟩ : ∃ N, n + m = N + 1 := ⟨n + m - 1, by omega⟩
  have hnpos : 0 < nms.length := List.length_pos_iff.mpr hne
  -- the rest, when no def is drawn
  have rest : ∀ (S1 : Sto) (c1 : Nat), BX S1 c1 → c1 ≤ c + 1 → Ext1 S S1 → ∃ P S' a, fin (exSs (callF F L (n + m)) L p (.cons (.asg (.nm 4) (.tup (.cons (.c (.str "name")) (.cons (.ix (.v 1) (.fn ip (.cons (.v 0) (.cons (.bf .len (.cons (.v 1) .nil)) .nil)))) .nil))))
      (.cons (.asg (.nm 5) (.bin .sub (.v 2) (.c (.int 1))))
      (.cons (.for (.rng1 (.c (.int 3))) (.nm 6) (loopB ip ir))
      (.cons (.ret (.v 4))
      .nil)))) [some (.ref 1), some (.ref nl), some (.d (.int (m : Int))), none, none, none, none, none] S1) = some (.d P, S') ∧ BX S' (c + cost m) ∧ a ≤ m ∧ Nm G false a P ∧ Ext1 S S' := by
    intro S1 c1 hB1 hc1 e1
    have hS1 : S1[nl]? = some (.lst (nms.map fun x => .d (.str x))) := by rw [e1.2 nl hnS hnl]; exact hS
    have gl : getL S1 nl = some (nms.map fun x => .d (.str x)) := getL_of hS1
    obtain ⟨r, S2, h1, hB2, hr0, hr1, hs⟩ := pick_ok (L := L) (n := N) hP hB1 (by omega) hp (m := (nms.length : Int)) (by omega)
    have hr1' : r < nms.length := by omega
    obtain ⟨x, hx, hat⟩ := nth_str hG hr0 hr1'
    have hS2 : S2[nl]? = some (.lst (nms.map fun x => .d (.str x))) := by rw [hs.2 nl hnl]; exact hS1
    have gl2 : getL S2 nl = some (nms.map fun x => .d (.str x)) := getL_of hS2
    obtain ⟨ws', S3, f', s', g1, g2, g3, g4, g5, g6⟩ := loop_ok (L := L) hP ih (n := n) hp hnl hne hlen hG [.d (.int 0), .d (.int 1), .d (.int 2)] _ S2 (nameT (.str x)) 1 (m - 1) none none none hB2 (by simp only [List.length_cons, List.length_nil]; omega) hS2 (.name hx) (by omega)
    refine ⟨f', S3, s', ?_, g5.mono (by simp only [List.length_cons, List.length_nil]; omega), g4, .any g3, (e1.trans hs.ext).trans g6⟩
    have hm1' : ((m - 1 : Nat) : Int) = (m : Int) - 1 := by omega
    rw [hm1'] at g1
    rw [hN] at g1 ⊢
    have t1 : exS (callF F L (N + 1)) L p (.asg (.nm 4) (.tup (.cons (.c (.str "name")) (.cons (.ix (.v 1) (.fn ip (.cons (.v 0) (.cons (.bf .len (.cons (.v 1) .nil)) .nil)))) .nil))))
        [some (.ref 1), some (.ref nl), some (.d (.int (m : Int))), none, none, none, none, none] S1 = some (.next, [some (.ref 1), some (.ref nl), some (.d (.int (m : Int))), none, some (.d (nameT (.str x))), none, none, none], S2) := by
      simp [exS, ev, evs, Cst.toD, bfF, bf1, bLen, seqOf, tupOf, lstOf, gl, h1, ixF, gl2, hat, mkT2, setT, setW, capN, nameT]
    have t2 : exS (callF F L (N + 1)) L p (.asg (.nm 5) (.bin .sub (.v 2) (.c (.int 1)))) [some (.ref 1), some (.ref nl), some (.d (.int (m : Int))), none, some (.d (nameT (.str x))), none, none, none] S2 =
        some (.next, [some (.ref 1), some (.ref nl), some (.d (.int (m : Int))), none, some (.d (nameT (.str x))), some (.d (.int ((m : Int) - 1))), none, none], S2) := by
      simp [exS, ev, Cst.toD, binF, setT, setW]
    have t3 : exS (callF F L (N + 1)) L p (.for (.rng1 (.c (.int 3))) (.nm 6) (loopB ip ir)) [some (.ref 1), some (.ref nl), some (.d (.int (m : Int))), none, some (.d (nameT (.str x))), some (.d (.int ((m : Int) - 1))), none, none] S2 = some (.next, ws', S3) := g1
    have t4 : exS (callF F L (N + 1)) L p (.ret (.v 4)) ws' S3 = some (.ret (.d f'), ws', S3) := by simp only [exS, ev, g2, Option.bind_some]
    rw [exSs_next t1, exSs_next t2, exSs_next t3, exSs_ret t4]
    rfl
  have unf : callF F L (n + m + 1) ir [.ref 1, .ref nl, .d (.int (m : Int))] p S = fin (exSs (callF F L (n + m)) L p (normB ip ir) [some (.ref 1), some (.ref nl), some (.d (.int (m : Int))), none, none, none, none, none] S) := by
    simp only [callF, hR]
    rfl
  rw [unf]
  unfold normB
  by_cases hm : m = 1
  · subst hm
    obtain ⟨P, S', a, k1, k2⟩ := rest S c hB (by omega) (Ext1.refl S)
    refine ⟨P, S', a, ?_, k2⟩
    rw [← k1]
    exact congrArg fin (exSs_next (by simp [exS, exSs, evT, ev, cmpF, Cst.toD, ofBool]))
  · have hgt : (1 : Int) < (m : Int) := by omega
    obtain ⟨r, S1, h1, hB1, hr0, hr1, hs⟩ := pick_ok (L := L) (n := N) hP hB (by omega) hp (m := 3) (by decide)
    rw [← hN] at h1
    by_cases hr : r = 0
    · subst hr
      obtain ⟨r2, S2, h2, hB2, hq0, hq1, hs2⟩ := pick_ok (L := L) (n := N) hP (hB1.push (.lst [.d (.str "x"), .d (.str "y"), .d (.str "x1"), .d (.str "u")])) (by omega) hp (m := 4) (by decide)
      rw [← hN] at h2
      obtain ⟨x, hx, hat⟩ := four hq0 hq1
      have hGx : G x := h4 x hx
      have hl1 := hB1.len
      have g4 : getL S2 S1.length = some [.d (.str "x"), .d (.str "y"), .d (.str "x1"), .d (.str "u")] := by
        refine getL_of ?_
        rw [hs2.2 _ (by omega)]
        simp
      have e2 : Ext1 S S2 := hs.ext.trans ((Ext1.push S1 _).trans hs2.ext)
      have hS2 : S2[nl]? = some (.lst (nms.map fun x => .d (.str x))) := by rw [e2.2 nl hnS hnl]; exact hS
      have t1 : exS (callF F L (n + m)) L p (.asg (.nm 3) (.ix (.lst (.cons (.c (.str "x")) (.cons (.c (.str "y")) (.cons (.c (.str "x1")) (.cons (.c (.str "u")) .nil))))) (.fn ip (.cons (.v 0) (.cons (.c (.int 4)) .nil)))))
          [some (.ref 1), some (.ref nl), some (.d (.int (m : Int))), none, none, none, none, none] S1 = some (.next, [some (.ref 1), some (.ref nl), some (.d (.int (m : Int))), some (.d (.str x)), none, none, none, none], S2) := by
        simp [exS, ev, evs, Cst.toD, newL, h2, ixF, seqOf, tupOf, lstOf, g4, hat, setT, setW, capN]
      have hS4 : (S2 ++ [O.lst [W.d (.str x)]] ++ [O.lst ((nms ++ [x]).map fun x => W.d (.str x))])[S2.length + 1]? = some (.lst ((nms ++ [x]).map fun x => W.d (.str x))) := by simp
      have hl2 := hB2.len
      obtain ⟨P, S3, a, h3, hB3, ha, hP3, e3⟩ := ih (m - 1) (by omega) (by omega) n (c + 1 + 1) (S2 ++ [O.lst [W.d (.str x)]] ++ [O.lst ((nms ++ [x]).map fun x => W.d (.str x))]) p (nms ++ [x]) (S2.length + 1) ((hB2.push _).push _) (by omega) hp hS4 (by omega) (by simp) (by simp; omega)
        (fun y hy => by
          rcases List.mem_append.mp hy with h | h
          · exact hG y h
          · simp only [List.mem_singleton] at h; exact h ▸ hGx)
      refine ⟨fnT (.str x) P, S3, a + 1, ?_, hB3.mono (by omega), by omega, .fn hGx hP3, (e2.trans ((Ext1.push _ _).trans (Ext1.push _ _))).trans e3⟩
      rw [show n + (m - 1) + 1 = n + m by omega, show ((m - 1 : Nat) : Int) = (m : Int) - 1 by omega] at h3
      have gA : getL (S2 ++ [O.lst [W.d (.str x)]]) nl = some (nms.map fun x => .d (.str x)) := by
        refine getL_of ?_
        rw [List.getElem?_append_left (by have := e2.1; omega)]
        exact hS2
      have gB : getL (S2 ++ [O.lst [W.d (.str x)]]) S2.length = some [.d (.str x)] := getL_of (by simp)
      have t2 : exS (callF F L (n + m)) L p (.ret (.tup (.cons (.c (.str "fn")) (.cons (.v 3) (.cons (.fn ir (.cons (.v 0) (.cons (.bin .add (.v 1) (.lst (.cons (.v 3) .nil))) (.cons (.bin .sub (.v 2) (.c (.int 1))) .nil)))) .nil)))))
          [some (.ref 1), some (.ref nl), some (.d (.int (m : Int))), some (.d (.str x)), none, none, none, none] S2 = some (.ret (.d (fnT (.str x) P)), [some (.ref 1), some (.ref nl), some (.d (.int (m : Int))), some (.d (.str x)), none, none, none, none], S3) := by
        have hcap : (nms.map fun x => W.d (.str x)).length + [W.d (.str x)].length ≤ capN := by simp [capN]; omega
        have hsum : (nms.map fun x => W.d (.str x)) ++ [W.d (.str x)] = (nms ++ [x]).map fun x => W.d (.str x) := by simp
        have hadd : binF .add (.ref nl) (.ref S2.length) (S2 ++ [O.lst [W.d (.str x)]]) = some (.ref (S2.length + 1), S2 ++ [O.lst [W.d (.str x)]] ++ [O.lst ((nms ++ [x]).map fun x => W.d (.str x))]) := by
          simp only [binF, tupOf, lstOf, gA, gB]
          rw [if_pos hcap, hsum]
          simp [newL]
        have hsub : ∀ S, binF .sub (.d (.int (m : Int))) (.d (.int 1)) S = some (.d (.int ((m : Int) - 1)), S) := fun _ => rfl
        have hone : (1 : Nat) ≤ capN := by decide
        simp [exS, ev, evs, Cst.toD, newL, hone, hadd, hsub, -List.append_assoc, -List.map_append]
        rw [h3]
        simp [mkT3, fnT, capN]
      have t0 : exS (callF F L (n + m)) L p (.ite (.and (.cmp .gt (.v 2) (.c (.int 1))) (.cmp .eq (.fn ip (.cons (.v 0) (.cons (.c (.int 3)) .nil))) (.c (.int 0)))) (.cons (.asg (.nm 3) (.ix (.lst (.cons (.c (.str "x")) (.cons (.c (.str "y")) (.cons (.c (.str "x1")) (.cons (.c (.str "u")) .nil))))) (.fn ip (.cons (.v 0) (.cons (.c (.int 4)) .nil)))))
          (.cons (.ret (.tup (.cons (.c (.str "fn")) (.cons (.v 3) (.cons (.fn ir (.cons (.v 0) (.cons (.bin .add (.v 1) (.lst (.cons (.v 3) .nil))) (.cons (.bin .sub (.v 2) (.c (.int 1))) .nil)))) .nil))))) .nil)) .nil)
          [some (.ref 1), some (.ref nl), some (.d (.int (m : Int))), none, none, none, none, none] S = some (.ret (.d (fnT (.str x) P)), [some (.ref 1), some (.ref nl), some (.d (.int (m : Int))), some (.d (.str x)), none, none, none, none], S3) := by
        have hc : evT (callF F L (n + m)) p (.and (.cmp .gt (.v 2) (.c (.int 1))) (.cmp .eq (.fn ip (.cons (.v 0) (.cons (.c (.int 3)) .nil))) (.c (.int 0)))) [some (.ref 1), some (.ref nl), some (.d (.int (m : Int))), none, none, none, none, none] S = some (true, S1) := by
          simp [evT, ev, evs, cmpF, Cst.toD, ofBool, hgt, h1, eqF]
        rw [exS, hc]
        show exSs _ _ _ _ _ S1 = _
        rw [exSs_next t1, exSs_ret t2]
      rw [exSs_ret t0]
      rfl
    · obtain ⟨P, S', a, k1, k2⟩ := rest S1 (c + 1) hB1 (by omega) hs.ext
      refine ⟨P, S', a, ?_, k2⟩
      rw [← k1]
      have hrb : (r == 0) = false := by simpa using hr
      exact congrArg fin (exSs_next (by simp [exS, exSs, evT, ev, evs, cmpF, Cst.toD, ofBool, hgt, h1, eqF, hrb]))
end
end DV
/-! DVShape: a drawn program is a shape with names; the shapes are few. -/
namespace DV
open PySem
inductive Sk where
  | name | fn (b : Sk) | call (a b : Sk)
def Sk.cnt : Sk → Nat
  | .name => 1
  | .fn b => 1 + b.cnt
  | .call a b => a.cnt + b.cnt
def Sk.build (f : Nat → PyData) : Sk → Nat → PyData
  | .name, i => nameT (f i)
  | .fn b, i => fnT (f i) (b.build f (i + 1))
  | .call a b, i => callT (a.build f i) (b.build f (i + a.cnt))
def hole (i : Nat) : PyData := .list [.int (i : Int)]
theorem build_congr {f g : Nat → PyData} : ∀ {s : Sk} {i : Nat}, (∀ j, i ≤ j → j < i + s.cnt → f j = g j) → s.build f i = s.build g i
  | .name, i, h => by simp only [Sk.build, h i (Nat.le_refl _) (by simp [Sk.cnt])]
  | .fn b, i, h => by
    simp only [Sk.cnt] at h
    simp only [Sk.build, h i (Nat.le_refl _) (by omega)]
    rw [build_congr (s := b) fun j h1 h2 => h j (by omega) (by omega)]
  | .call a b, i, h => by
    simp only [Sk.cnt] at h
    simp only [Sk.build]
    rw [build_congr (s := a) fun j h1 h2 => h j h1 (by omega), build_congr (s := b) fun j h1 h2 => h j (by omega) (by omega)]
theorem build_h {th : List PyData → PyData} : ∀ (s : Sk) (i : Nat), hD th (s.build hole i) = s.build (fun j => th [.int (j : Int)]) i
  | .name, i => by simp only [Sk.build, nameT, hD, hDs, hole]
  | .fn b, i => by simp only [Sk.build, fnT, hD, hDs, build_h b, hole]
  | .call a b, i => by simp only [Sk.build, callT, hD, hDs, build_h a, build_h b]
def gen (B : Nat) : Nat → List (Bool × Nat × Sk)
  | 0 => []
  | k + 1 => (true, 1, .name) :: (((gen B k).filterMap fun t => if t.2.1 + 1 ≤ B then some (false, t.2.1 + 1, .fn t.2.2) else none) ++
      (gen B k).flatMap fun a => (gen B k).filterMap fun b => if a.1 = true ∧ a.2.1 + b.2.1 + 1 ≤ B then some (true, a.2.1 + b.2.1 + 1, .call a.2.2 b.2.2) else none)
theorem shape_of {G : Str → Prop} {B : Nat} {h : Bool} {a : Nat} {P : PyData} (d : Nm G h a P) : a ≤ B → ∀ k, a ≤ k →
    ∃ (h' : Bool) (s : Sk) (f : Nat → Str), (h', a, s) ∈ gen B k ∧ (h = true → h' = true) ∧ (∀ j, G (f j)) ∧ ∀ i, P = s.build (fun j => .str (f (j - i))) i := by
  induction d with
  | @name x hx =>
    intro hB k hk
    obtain ⟨k, rfl⟩ : ∃ j, k = j + 1 := ⟨k - 1, by omega⟩
    exact ⟨true, .name, fun _ => x, by simp [gen], fun _ => rfl, fun _ => hx, fun i => rfl⟩
  | @call a b p q d1 d2 ih1 ih2 =>
    intro hB k hk
    obtain ⟨k, rfl⟩ : ∃ j, k = j + 1 := ⟨k - 1, by omega⟩
    obtain ⟨h1, s1, f1, m1, t1, g1, e1⟩ := ih1 (by omega) k (by omega)
    obtain ⟨h2, s2, f2, m2, t2, g2, e2⟩ := ih2 (by omega) k (by omega)
    refine ⟨true, .call s1 s2, fun j => if j < s1.cnt then f1 j else f2 (j - s1.cnt), ?_, fun _ => rfl, fun j => ?_, fun i => ?_⟩
    · simp only [gen, List.mem_cons, List.mem_append, List.mem_filterMap, List.mem_flatMap]
      exact .inr (.inr ⟨_, m1, _, m2, by rw [if_pos ⟨t1 rfl, hB⟩]⟩)
    · dsimp only
      split
      · exact g1 j
      · exact g2 _
    · simp only [Sk.build]
      rw [build_congr (s := s1) (g := fun j => .str (f1 (j - i))) fun j h1 h2 => by rw [if_pos (by omega)],
        build_congr (s := s2) (g := fun j => .str (f2 (j - (i + s1.cnt)))) fun j h1 h2 => by rw [if_neg (by omega), Nat.sub_add_eq], ← e1 i, ← e2 (i + s1.cnt)]
  | any d ih =>
    intro hB k hk
    obtain ⟨h1, s1, f1, m1, _, g1, e1⟩ := ih hB k hk
    exact ⟨h1, s1, f1, m1, fun h => (Bool.noConfusion h), g1, e1⟩
  | @fn x a p hx d ih =>
    intro hB k hk
    obtain ⟨k, rfl⟩ : ∃ j, k = j + 1 := ⟨k - 1, by omega⟩
    obtain ⟨h1, s1, f1, m1, _, g1, e1⟩ := ih (by omega) k (by omega)
    refine ⟨false, .fn s1, fun j => if j = 0 then x else f1 (j - 1), ?_, fun h => (Bool.noConfusion h), fun j => ?_, fun i => ?_⟩
    · simp only [gen, List.mem_cons, List.mem_append, List.mem_filterMap, List.mem_flatMap]
      exact .inr (.inl ⟨_, m1, by rw [if_pos hB]⟩)
    · dsimp only
      split
      · exact hx
      · exact g1 _
    · simp only [Sk.build]
      rw [build_congr (s := s1) (g := fun j => .str (f1 (j - (i + 1)))) fun j h1 h2 => by rw [if_neg (by omega)]; congr 2, ← e1 (i + 1)]
      simp
/-- the names by the holes -/
def nu (f : Nat → Str) : List PyData → PyData
  | [.int j] => .str (f j.toNat)
  | _ => .str (f 0)
theorem nu_is (f : Nat → Str) (xs : List PyData) : ∃ j, nu f xs = .str (f j) := by
  unfold nu
  split
  · exact ⟨_, rfl⟩
  · exact ⟨_, rfl⟩
theorem nu_none (f : Nat → Str) (xs : List PyData) : nu f xs ≠ .none := by
  obtain ⟨j, h⟩ := nu_is f xs
  rw [h]
  exact fun e => nomatch e
theorem nu_build (f : Nat → Str) (s : Sk) : hD (nu f) (s.build hole 0) = s.build (fun j => .str (f (j - 0))) 0 := by
  rw [build_h]
  exact build_congr fun j _ _ => rfl
end DV
namespace My
open PySem L2 DV
def topS (i : Nat) : Stmt := PySem.Challenge.pw_stepsworn_k53_all_plans_of_a_program.main.body.getD i (.Pass ⟨0, 0, 0, 0⟩)
def fnNames : List Str := (List.map Str.ofString ["is_integer", "is_natural", "need_number", "anew", "is_plain_name", "is_node", "is_tree", "flat", "ends_of", "levels_of", "addresses_of", "is_program", "need_wide", "need_program", "spine", "is_ready", "indexes_ready", "ready", "is_normal", "need_normal", "fits", "fits_bag", "is_plan", "once_in", "once_plan", "bags_up_to", "plans_in", "plans", "_law_box", "_law_pick", "_law_normal", "_law_spine", "_law_bags", "_law_plans", "_law_once", "law"])
def cstTab : List (Str × Cst) := [("LETTERS", .str "abcdefghijklmnopqrstuvwxyz"), ("DIGITS", .str "0123456789"), ("MOST_DIGITS", .int 6), ("MOST_NODES", .int 200), ("MOST_LEVELS", .int 60), ("MOST_COPIES", .int 3)]
def defTab : List DefI := [
  ⟨topS 6, (List.map Str.ofString ["value"]), (List.map Str.ofString ["value"]), true⟩,
  ⟨topS 7, (List.map Str.ofString ["value"]), (List.map Str.ofString ["value"]), true⟩,
  ⟨topS 8, (List.map Str.ofString ["number", "low", "high"]), (List.map Str.ofString ["number", "low", "high"]), true⟩,
  ⟨topS 9, (List.map Str.ofString ["value", "item"]), (List.map Str.ofString ["value"]), true⟩,
  ⟨topS 14, (List.map Str.ofString ["value", "digits", "one"]), (List.map Str.ofString ["value"]), true⟩,
  ⟨topS 15, (List.map Str.ofString ["value"]), (List.map Str.ofString ["value"]), true⟩,
  ⟨topS 16, (List.map Str.ofString ["value", "pile", "one"]), (List.map Str.ofString ["value"]), true⟩,
  ⟨topS 17, (List.map Str.ofString ["wide", "tokens", "pile", "one"]), (List.map Str.ofString ["wide"]), true⟩,
  ⟨topS 18, (List.map Str.ofString ["tokens", "ends", "index", "word"]), (List.map Str.ofString ["tokens"]), true⟩,
  ⟨topS 19, (List.map Str.ofString ["tokens", "ends", "levels", "index", "word"]), (List.map Str.ofString ["tokens"]), true⟩,
  ⟨topS 20, (List.map Str.ofString ["tokens", "found", "pile", "word", "value", "address"]), (List.map Str.ofString ["tokens"]), true⟩,
  ⟨topS 24, (List.map Str.ofString ["value", "tokens", "word", "inner"]), (List.map Str.ofString ["value"]), true⟩,
  ⟨topS 25, (List.map Str.ofString ["wide"]), (List.map Str.ofString ["wide"]), true⟩,
  ⟨topS 26, (List.map Str.ofString ["program"]), (List.map Str.ofString ["program"]), true⟩,
  ⟨topS 27, (List.map Str.ofString ["wide", "head", "arguments"]), (List.map Str.ofString ["wide"]), true⟩,
  ⟨topS 29, (List.map Str.ofString ["tokens", "index"]), (List.map Str.ofString ["tokens", "index"]), true⟩,
  ⟨topS 30, (List.map Str.ofString ["tokens", "index"]), (List.map Str.ofString ["tokens"]), true⟩,
  ⟨topS 31, (List.map Str.ofString ["wide", "tokens", "addresses", "index"]), (List.map Str.ofString ["wide"]), true⟩,
  ⟨topS 34, (List.map Str.ofString ["program"]), (List.map Str.ofString ["program"]), true⟩,
  ⟨topS 35, (List.map Str.ofString ["program"]), (List.map Str.ofString ["program"]), true⟩,
  ⟨topS 36, (List.map Str.ofString ["program", "value", "arguments", "one", "plans"]), (List.map Str.ofString ["program", "value"]), true⟩,
  ⟨topS 37, (List.map Str.ofString ["program", "plans", "one", "other"]), (List.map Str.ofString ["program", "plans"]), true⟩,
  ⟨topS 38, (List.map Str.ofString ["program", "value"]), (List.map Str.ofString ["program", "value"]), true⟩,
  ⟨topS 39, (List.map Str.ofString ["program", "one"]), (List.map Str.ofString ["program"]), true⟩,
  ⟨topS 40, (List.map Str.ofString ["program"]), (List.map Str.ofString ["program"]), true⟩,
  ⟨topS 41, (List.map Str.ofString ["plans", "copies", "found", "longest", "_", "bag", "one"]), (List.map Str.ofString ["plans", "copies"]), true⟩,
  ⟨topS 42, (List.map Str.ofString ["program", "copies", "rows", "found", "one", "bags", "row", "bag"]), (List.map Str.ofString ["program", "copies"]), true⟩,
  ⟨topS 43, (List.map Str.ofString ["program", "copies"]), (List.map Str.ofString ["program", "copies"]), true⟩,
  ⟨topS 45, (List.map Str.ofString ["script"]), (List.map Str.ofString ["script"]), false⟩,
  ⟨topS 46, (List.map Str.ofString ["box", "many", "found", "k", "cell", "mixed"]), (List.map Str.ofString ["box", "many"]), false⟩,
  ⟨topS 47, (List.map Str.ofString ["box", "names", "most", "x", "found", "left", "k", "share"]), (List.map Str.ofString ["box", "names", "most"]), false⟩,
  ⟨topS 48, (List.map Str.ofString ["program", "head", "arguments"]), (List.map Str.ofString ["program"]), true⟩,
  ⟨topS 49, (List.map Str.ofString ["choices", "copies", "bags", "rows", "k", "made", "row", "one"]), (List.map Str.ofString ["choices", "copies"]), true⟩,
  ⟨topS 50, (List.map Str.ofString ["program", "copies", "found", "rows", "argument", "bags", "made", "row", "one", "bag"]), (List.map Str.ofString ["program", "copies"]), true⟩,
  ⟨topS 51, (List.map Str.ofString ["program", "one"]), (List.map Str.ofString ["program"]), true⟩,
  ⟨topS 52, (List.map Str.ofString ["script", "box", "program", "copies", "due", "found"]), (List.map Str.ofString ["script"]), true⟩]
/-- is_integer(value); value=0 -/
def b_is_integer : Ss :=
 (.cons (.ret (.and (.isi (.v 0) .int) (.not (.isi (.v 0) .bool))))
 .nil)
/-- is_natural(value); value=0 -/
def b_is_natural : Ss :=
 (.cons (.ret (.and (.fn 0 (.cons (.v 0) .nil)) (.cmp .ge (.v 0) (.c (.int 0)))))
 .nil)
/-- need_number(number, low, high); number=0 low=1 high=2 -/
def b_need_number : Ss :=
 (.cons (.ite (.or (.cmp .lt (.v 0) (.v 1)) (.and (.cmp .isn (.v 2) (.c .non)) (.cmp .gt (.v 0) (.v 2)))) (.cons .never
 .nil) .nil)
 .nil)
/-- anew(value); value=0 item=1 -/
def b_anew : Ss :=
 (.cons (.ite (.isi (.v 0) .tuple) (.cons (.ret (.bf .tuple (.cons (.lc (.seq (.v 0)) (.nm 1) [1] (.c (.bl true)) (.fn 3 (.cons (.v 1) .nil))) .nil)))
 .nil) .nil)
 (.cons (.ite (.isi (.v 0) .list) (.cons (.ret (.lc (.seq (.v 0)) (.nm 1) [1] (.c (.bl true)) (.fn 3 (.cons (.v 1) .nil))))
 .nil) .nil)
 (.cons (.ret (.v 0))
 .nil)))
/-- is_plain_name(value); value=0 digits=1 one=2 -/
def b_is_plain_name : Ss :=
 (.cons (.ite (.or (.not (.isi (.v 0) .str)) (.or (.cmp .eq (.v 0) (.c (.str ""))) (.cmp .notin (.ix (.v 0) (.c (.int 0))) (.g "LETTERS" (.str "abcdefghijklmnopqrstuvwxyz"))))) (.cons (.ret (.c (.bl false)))
 .nil) .nil)
 (.cons (.asg (.nm 1) (.sl (.v 0) (.so (.c (.int 1))) .no))
 (.cons (.ret (.or (.cmp .eq (.v 1) (.c (.str ""))) (.and (.cmp .le (.bf .len (.cons (.v 1) .nil)) (.g "MOST_DIGITS" (.int 6))) (.and (.cmp .ne (.ix (.v 1) (.c (.int 0))) (.c (.str "0"))) (.bf .all (.cons (.lc (.seq (.v 1)) (.nm 2) [2] (.c (.bl true)) (.cmp .isin (.v 2) (.g "DIGITS" (.str "0123456789")))) .nil))))))
 .nil)))
/-- is_node(value); value=0 -/
def b_is_node : Ss :=
 (.cons (.ite (.or (.not (.isi (.v 0) .tuple)) (.or (.cmp .lt (.bf .len (.cons (.v 0) .nil)) (.c (.int 2))) (.not (.isi (.ix (.v 0) (.c (.int 0))) .str)))) (.cons (.ret (.c (.bl false)))
 .nil) .nil)
 (.cons (.ite (.cmp .eq (.ix (.v 0) (.c (.int 0))) (.c (.str "name"))) (.cons (.ret (.and (.cmp .eq (.bf .len (.cons (.v 0) .nil)) (.c (.int 2))) (.fn 4 (.cons (.ix (.v 0) (.c (.int 1))) .nil))))
 .nil) .nil)
 (.cons (.ite (.cmp .eq (.ix (.v 0) (.c (.int 0))) (.c (.str "at"))) (.cons (.ret (.and (.cmp .eq (.bf .len (.cons (.v 0) .nil)) (.c (.int 2))) (.fn 1 (.cons (.ix (.v 0) (.c (.int 1))) .nil))))
 .nil) .nil)
 (.cons (.ite (.cmp .eq (.ix (.v 0) (.c (.int 0))) (.c (.str "fn"))) (.cons (.ret (.and (.cmp .eq (.bf .len (.cons (.v 0) .nil)) (.c (.int 3))) (.fn 4 (.cons (.ix (.v 0) (.c (.int 1))) .nil))))
 .nil) .nil)
 (.cons (.ret (.and (.cmp .eq (.ix (.v 0) (.c (.int 0))) (.c (.str "call"))) (.cmp .eq (.bf .len (.cons (.v 0) .nil)) (.c (.int 3)))))
 .nil)))))
/-- is_tree(value); value=0 pile=1 one=2 -/
def b_is_tree : Ss :=
 (.cons (.asg (.nm 1) (.lst (.cons (.v 0) .nil)))
 (.cons (.whl (.cmp .gt (.bf .len (.cons (.v 1) .nil)) (.c (.int 0))) (.cons (.asg (.nm 2) (.mt .pop (.v 1) .nil))
 (.cons (.ite (.not (.fn 5 (.cons (.v 2) .nil))) (.cons (.ret (.c (.bl false)))
 .nil) .nil)
 (.cons (.ite (.cmp .eq (.ix (.v 2) (.c (.int 0))) (.c (.str "fn"))) (.cons (.expr (.mt .append (.v 1) (.cons (.ix (.v 2) (.c (.int 2))) .nil)))
 .nil) (.cons (.ite (.cmp .eq (.ix (.v 2) (.c (.int 0))) (.c (.str "call"))) (.cons (.expr (.mt .append (.v 1) (.cons (.ix (.v 2) (.c (.int 2))) .nil)))
 (.cons (.expr (.mt .append (.v 1) (.cons (.ix (.v 2) (.c (.int 1))) .nil)))
 .nil)) .nil)
 .nil))
 .nil))))
 (.cons (.ret (.c (.bl true)))
 .nil)))
/-- flat(wide); wide=0 tokens=1 pile=2 one=3 -/
def b_flat : Ss :=
 (.cons (.asg (.nm 1) (.lst .nil))
 (.cons (.asg (.nm 2) (.lst (.cons (.v 0) .nil)))
 (.cons (.whl (.cmp .gt (.bf .len (.cons (.v 2) .nil)) (.c (.int 0))) (.cons (.asg (.nm 3) (.mt .pop (.v 2) .nil))
 (.cons (.expr (.mt .append (.v 1) (.cons (.tup (.cons (.ix (.v 3) (.c (.int 0))) (.cons (.ite (.cmp .eq (.ix (.v 3) (.c (.int 0))) (.c (.str "call"))) (.c .non) (.ix (.v 3) (.c (.int 1)))) .nil))) .nil)))
 (.cons (.ite (.cmp .eq (.ix (.v 3) (.c (.int 0))) (.c (.str "fn"))) (.cons (.expr (.mt .append (.v 2) (.cons (.ix (.v 3) (.c (.int 2))) .nil)))
 .nil) (.cons (.ite (.cmp .eq (.ix (.v 3) (.c (.int 0))) (.c (.str "call"))) (.cons (.expr (.mt .append (.v 2) (.cons (.ix (.v 3) (.c (.int 2))) .nil)))
 (.cons (.expr (.mt .append (.v 2) (.cons (.ix (.v 3) (.c (.int 1))) .nil)))
 .nil)) .nil)
 .nil))
 .nil))))
 (.cons (.ret (.v 1))
 .nil))))
/-- ends_of(tokens); tokens=0 ends=1 index=2 word=3 -/
def b_ends_of : Ss :=
 (.cons (.asg (.nm 1) (.bin .mul (.lst (.cons (.c (.int 0)) .nil)) (.bf .len (.cons (.v 0) .nil))))
 (.cons (.for (.rng3 (.bin .sub (.bf .len (.cons (.v 0) .nil)) (.c (.int 1))) (.neg (.c (.int 1))) (.neg (.c (.int 1)))) (.nm 2) (.cons (.asg (.nm 3) (.ix (.ix (.v 0) (.v 2)) (.c (.int 0))))
 (.cons (.ite (.cmp .eq (.v 3) (.c (.str "fn"))) (.cons (.asgIx (.v 1) (.v 2) (.ix (.v 1) (.bin .add (.v 2) (.c (.int 1)))))
 .nil) (.cons (.ite (.cmp .eq (.v 3) (.c (.str "call"))) (.cons (.asgIx (.v 1) (.v 2) (.ix (.v 1) (.ix (.v 1) (.bin .add (.v 2) (.c (.int 1))))))
 .nil) (.cons (.asgIx (.v 1) (.v 2) (.bin .add (.v 2) (.c (.int 1))))
 .nil))
 .nil))
 .nil)))
 (.cons (.ret (.v 1))
 .nil)))
/-- levels_of(tokens); tokens=0 ends=1 levels=2 index=3 word=4 -/
def b_levels_of : Ss :=
 (.cons (.asg (.nm 1) (.fn 8 (.cons (.v 0) .nil)))
 (.cons (.asg (.nm 2) (.bin .mul (.lst (.cons (.c (.int 1)) .nil)) (.bf .len (.cons (.v 0) .nil))))
 (.cons (.for (.rng3 (.bin .sub (.bf .len (.cons (.v 0) .nil)) (.c (.int 1))) (.neg (.c (.int 1))) (.neg (.c (.int 1)))) (.nm 3) (.cons (.asg (.nm 4) (.ix (.ix (.v 0) (.v 3)) (.c (.int 0))))
 (.cons (.ite (.cmp .eq (.v 4) (.c (.str "fn"))) (.cons (.asgIx (.v 2) (.v 3) (.bin .add (.ix (.v 2) (.bin .add (.v 3) (.c (.int 1)))) (.c (.int 1))))
 .nil) (.cons (.ite (.cmp .eq (.v 4) (.c (.str "call"))) (.cons (.asgIx (.v 2) (.v 3) (.bin .add (.bf .max (.cons (.ix (.v 2) (.bin .add (.v 3) (.c (.int 1)))) (.cons (.ix (.v 2) (.ix (.v 1) (.bin .add (.v 3) (.c (.int 1))))) .nil))) (.c (.int 1))))
 .nil) .nil)
 .nil))
 .nil)))
 (.cons (.ret (.ix (.v 2) (.c (.int 0))))
 .nil))))
/-- addresses_of(tokens); tokens=0 found=1 pile=2 word=3 value=4 address=5 -/
def b_addresses_of : Ss :=
 (.cons (.asg (.nm 1) (.lst .nil))
 (.cons (.asg (.nm 2) (.lst (.cons (.tup .nil) .nil)))
 (.cons (.for (.seq (.v 0)) (.tp [3, 4]) (.cons (.asg (.nm 5) (.mt .pop (.v 2) .nil))
 (.cons (.expr (.mt .append (.v 1) (.cons (.v 5) .nil)))
 (.cons (.ite (.cmp .eq (.v 3) (.c (.str "call"))) (.cons (.expr (.mt .append (.v 2) (.cons (.bin .add (.v 5) (.tup (.cons (.c (.int 1)) .nil))) .nil)))
 .nil) .nil)
 (.cons (.ite (.or (.cmp .eq (.v 3) (.c (.str "call"))) (.cmp .eq (.v 3) (.c (.str "fn")))) (.cons (.expr (.mt .append (.v 2) (.cons (.bin .add (.v 5) (.tup (.cons (.c (.int 0)) .nil))) .nil)))
 .nil) .nil)
 .nil)))))
 (.cons (.ret (.v 1))
 .nil))))
/-- is_program(value); value=0 tokens=1 word=2 inner=3 -/
def b_is_program : Ss :=
 (.cons (.ite (.not (.fn 6 (.cons (.v 0) .nil))) (.cons (.ret (.c (.bl false)))
 .nil) .nil)
 (.cons (.asg (.nm 1) (.fn 7 (.cons (.v 0) .nil)))
 (.cons (.ite (.or (.cmp .gt (.bf .len (.cons (.v 1) .nil)) (.g "MOST_NODES" (.int 200))) (.bf .any (.cons (.lc (.seq (.v 1)) (.tp [2, 3]) [2, 3] (.c (.bl true)) (.cmp .eq (.v 2) (.c (.str "at")))) .nil))) (.cons (.ret (.c (.bl false)))
 .nil) .nil)
 (.cons (.ret (.cmp .le (.fn 9 (.cons (.v 1) .nil)) (.g "MOST_LEVELS" (.int 60))))
 .nil))))
/-- need_wide(wide); wide=0 -/
def b_need_wide : Ss :=
 (.cons (.ite (.not (.fn 6 (.cons (.v 0) .nil))) (.cons .never
 .nil) .nil)
 .nil)
/-- need_program(program); program=0 -/
def b_need_program : Ss :=
 (.cons (.ite (.not (.fn 11 (.cons (.v 0) .nil))) (.cons .never
 .nil) .nil)
 .nil)
/-- spine(wide); wide=0 head=1 arguments=2 -/
def b_spine : Ss :=
 (.cons (.expr (.fn 12 (.cons (.v 0) .nil)))
 (.cons (.asg (.nm 1) (.v 0))
 (.cons (.asg (.nm 2) (.lst .nil))
 (.cons (.whl (.cmp .eq (.ix (.v 1) (.c (.int 0))) (.c (.str "call"))) (.cons (.expr (.mt .append (.v 2) (.cons (.ix (.v 1) (.c (.int 2))) .nil)))
 (.cons (.asg (.nm 1) (.ix (.v 1) (.c (.int 1))))
 .nil)))
 (.cons (.ret (.tup (.cons (.v 1) (.cons (.bf .tuple (.cons (.rev (.v 2)) .nil)) .nil))))
 .nil)))))
/-- is_ready(tokens, index); tokens=0 index=1 -/
def b_is_ready : Ss :=
 (.cons (.ret (.and (.cmp .eq (.ix (.ix (.v 0) (.v 1)) (.c (.int 0))) (.c (.str "call"))) (.cmp .eq (.ix (.ix (.v 0) (.bin .add (.v 1) (.c (.int 1)))) (.c (.int 0))) (.c (.str "fn")))))
 .nil)
/-- indexes_ready(tokens); tokens=0 index=1 -/
def b_indexes_ready : Ss :=
 (.cons (.ret (.lc (.rng1 (.bf .len (.cons (.v 0) .nil))) (.nm 1) [1] (.fn 15 (.cons (.v 0) (.cons (.v 1) .nil))) (.v 1)))
 .nil)
/-- ready(wide); wide=0 tokens=1 addresses=2 index=3 -/
def b_ready : Ss :=
 (.cons (.expr (.fn 12 (.cons (.v 0) .nil)))
 (.cons (.asg (.nm 1) (.fn 7 (.cons (.v 0) .nil)))
 (.cons (.asg (.nm 2) (.fn 10 (.cons (.v 1) .nil)))
 (.cons (.ret (.bf .tuple (.cons (.lc (.seq (.fn 16 (.cons (.v 1) .nil))) (.nm 3) [3] (.c (.bl true)) (.ix (.v 2) (.v 3))) .nil)))
 .nil))))
/-- is_normal(program); program=0 -/
def b_is_normal : Ss :=
 (.cons (.expr (.fn 13 (.cons (.v 0) .nil)))
 (.cons (.ret (.cmp .eq (.fn 17 (.cons (.v 0) .nil)) (.tup .nil)))
 .nil))
/-- need_normal(program); program=0 -/
def b_need_normal : Ss :=
 (.cons (.ite (.not (.fn 18 (.cons (.v 0) .nil))) (.cons .never
 .nil) .nil)
 .nil)
/-- fits(program, value); program=0 value=1 arguments=2 one=3 plans=4 -/
def b_fits : Ss :=
 (.cons (.ite (.or (.not (.isi (.v 1) .tuple)) (.or (.cmp .eq (.bf .len (.cons (.v 1) .nil)) (.c (.int 0))) (.not (.isi (.ix (.v 1) (.c (.int 0))) .str)))) (.cons (.ret (.c (.bl false)))
 .nil) .nil)
 (.cons (.ite (.cmp .eq (.ix (.v 0) (.c (.int 0))) (.c (.str "fn"))) (.cons (.ite (.cmp .eq (.ix (.v 1) (.c (.int 0))) (.c (.str "in"))) (.cons (.ret (.and (.cmp .eq (.bf .len (.cons (.v 1) .nil)) (.c (.int 2))) (.fn 20 (.cons (.ix (.v 0) (.c (.int 2))) (.cons (.ix (.v 1) (.c (.int 1))) .nil)))))
 .nil) .nil)
 (.cons (.ret (.and (.cmp .eq (.ix (.v 1) (.c (.int 0))) (.c (.str "shut"))) (.cmp .eq (.bf .len (.cons (.v 1) .nil)) (.c (.int 1)))))
 .nil)) .nil)
 (.cons (.ite (.or (.cmp .ne (.ix (.v 1) (.c (.int 0))) (.c (.str "head"))) (.or (.cmp .ne (.bf .len (.cons (.v 1) .nil)) (.c (.int 2))) (.not (.isi (.ix (.v 1) (.c (.int 1))) .tuple)))) (.cons (.ret (.c (.bl false)))
 .nil) .nil)
 (.cons (.asg (.nm 2) (.ix (.fn 14 (.cons (.v 0) .nil)) (.c (.int 1))))
 (.cons (.ite (.cmp .gt (.bf .len (.cons (.ix (.v 1) (.c (.int 1))) .nil)) (.bf .len (.cons (.v 2) .nil))) (.cons (.ret (.c (.bl false)))
 .nil) .nil)
 (.cons (.ret (.bf .all (.cons (.lc (.zip (.v 2) (.ix (.v 1) (.c (.int 1)))) (.tp [3, 4]) [3, 4] (.c (.bl true)) (.fn 21 (.cons (.v 3) (.cons (.v 4) .nil)))) .nil)))
 .nil))))))
/-- fits_bag(program, plans); program=0 plans=1 one=2 other=3 -/
def b_fits_bag : Ss :=
 (.cons (.ite (.or (.not (.isi (.v 1) .tuple)) (.not (.bf .all (.cons (.lc (.seq (.v 1)) (.nm 2) [2] (.c (.bl true)) (.fn 20 (.cons (.v 0) (.cons (.v 2) .nil)))) .nil)))) (.cons (.ret (.c (.bl false)))
 .nil) .nil)
 (.cons (.ret (.bf .all (.cons (.lc (.zip (.v 1) (.sl (.v 1) (.so (.c (.int 1))) .no)) (.tp [2, 3]) [2, 3] (.c (.bl true)) (.not (.cmp .lt (.v 3) (.v 2)))) .nil)))
 .nil))
/-- is_plan(program, value); program=0 value=1 -/
def b_is_plan : Ss :=
 (.cons (.expr (.fn 19 (.cons (.v 0) .nil)))
 (.cons (.ret (.fn 20 (.cons (.v 0) (.cons (.v 1) .nil))))
 .nil))
/-- once_in(program); program=0 one=1 -/
def b_once_in : Ss :=
 (.cons (.ite (.cmp .eq (.ix (.v 0) (.c (.int 0))) (.c (.str "fn"))) (.cons (.ret (.tup (.cons (.c (.str "in")) (.cons (.fn 23 (.cons (.ix (.v 0) (.c (.int 2))) .nil)) .nil))))
 .nil) .nil)
 (.cons (.ret (.tup (.cons (.c (.str "head")) (.cons (.bf .tuple (.cons (.lc (.seq (.ix (.fn 14 (.cons (.v 0) .nil)) (.c (.int 1)))) (.nm 1) [1] (.c (.bl true)) (.tup (.cons (.fn 23 (.cons (.v 1) .nil)) .nil))) .nil)) .nil))))
 .nil))
/-- once_plan(program); program=0 -/
def b_once_plan : Ss :=
 (.cons (.expr (.fn 19 (.cons (.v 0) .nil)))
 (.cons (.ret (.fn 23 (.cons (.v 0) .nil)))
 .nil))
/-- bags_up_to(plans, copies); plans=0 copies=1 found=2 longest=3 _=4 bag=5 one=6 -/
def b_bags_up_to : Ss :=
 (.cons (.asg (.nm 2) (.lst (.cons (.tup .nil) .nil)))
 (.cons (.asg (.nm 3) (.lst (.cons (.tup .nil) .nil)))
 (.cons (.for (.rng1 (.v 1)) (.nm 4) (.cons (.asg (.nm 3) (.lc2 (.seq (.v 3)) (.nm 5) (.c (.bl true)) (.seq (.v 0)) (.nm 6) [5, 6] [6] (.or (.cmp .eq (.v 5) (.tup .nil)) (.not (.cmp .lt (.v 6) (.ix (.v 5) (.neg (.c (.int 1))))))) (.bin .add (.v 5) (.tup (.cons (.v 6) .nil)))))
 (.cons (.expr (.mt .extend (.v 2) (.cons (.v 3) .nil)))
 .nil)))
 (.cons (.ret (.v 2))
 .nil))))
/-- plans_in(program, copies); program=0 copies=1 rows=2 found=3 one=4 bags=5 row=6 bag=7 -/
def b_plans_in : Ss :=
 (.cons (.ite (.cmp .eq (.ix (.v 0) (.c (.int 0))) (.c (.str "fn"))) (.cons (.ret (.bin .add (.bf .sorted (.cons (.lc (.seq (.fn 26 (.cons (.ix (.v 0) (.c (.int 2))) (.cons (.v 1) .nil)))) (.nm 4) [4] (.c (.bl true)) (.tup (.cons (.c (.str "in")) (.cons (.v 4) .nil)))) .nil)) (.lst (.cons (.tup (.cons (.c (.str "shut")) .nil)) .nil))))
 .nil) .nil)
 (.cons (.asg (.nm 2) (.lst (.cons (.tup .nil) .nil)))
 (.cons (.asg (.nm 3) (.lst (.cons (.tup (.cons (.c (.str "head")) (.cons (.tup .nil) .nil))) .nil)))
 (.cons (.for (.seq (.ix (.fn 14 (.cons (.v 0) .nil)) (.c (.int 1)))) (.nm 4) (.cons (.asg (.nm 5) (.fn 25 (.cons (.fn 26 (.cons (.v 4) (.cons (.v 1) .nil))) (.cons (.v 1) .nil))))
 (.cons (.asg (.nm 2) (.lc2 (.seq (.v 2)) (.nm 6) (.c (.bl true)) (.seq (.v 5)) (.nm 7) [6, 7] [7] (.c (.bl true)) (.bin .add (.v 6) (.tup (.cons (.v 7) .nil)))))
 (.cons (.expr (.mt .extend (.v 3) (.cons (.lc (.seq (.v 2)) (.nm 6) [6] (.c (.bl true)) (.tup (.cons (.c (.str "head")) (.cons (.v 6) .nil)))) .nil)))
 .nil))))
 (.cons (.ret (.bf .sorted (.cons (.v 3) .nil)))
 .nil)))))
/-- plans(program, copies); program=0 copies=1 -/
def b_plans : Ss :=
 (.cons (.expr (.fn 19 (.cons (.v 0) .nil)))
 (.cons (.expr (.fn 2 (.cons (.v 1) (.cons (.c (.int 0)) (.cons (.g "MOST_COPIES" (.int 3)) .nil)))))
 (.cons (.ret (.bf .tuple (.cons (.fn 26 (.cons (.v 0) (.cons (.v 1) .nil))) .nil)))
 .nil)))
/-- _law_box(script); script=0 -/
def b_law_box : Ss :=
 (.cons (.ret (.lst (.cons (.bf .list (.cons (.v 0) .nil)) (.cons (.c (.int 0)) (.cons (.c (.int 0)) .nil)))))
 .nil)
/-- _law_pick(box, many); box=0 many=1 found=2 k=3 cell=4 mixed=5 -/
def b_law_pick : Ss :=
 (.cons (.ite (.cmp .lt (.v 1) (.c (.int 2))) (.cons (.ret (.c (.int 0)))
 .nil) .nil)
 (.cons (.ite (.cmp .gt (.ix (.v 0) (.c (.int 2))) (.c (.int 0))) (.cons (.asg (.nm 2) (.bin .mod (.bf .int (.cons (.ix (.v 0) (.c (.int 2))) .nil)) (.v 1)))
 (.cons (.asgIx (.v 0) (.c (.int 2)) (.bin .fdiv (.ix (.v 0) (.c (.int 2))) (.v 1)))
 (.cons (.ret (.v 2))
 .nil))) .nil)
 (.cons (.asg (.nm 3) (.ix (.v 0) (.c (.int 1))))
 (.cons (.asgIx (.v 0) (.c (.int 1)) (.bin .add (.v 3) (.c (.int 1))))
 (.cons (.asg (.nm 4) (.ite (.cmp .gt (.bf .len (.cons (.ix (.v 0) (.c (.int 0))) .nil)) (.c (.int 0))) (.ix (.ix (.v 0) (.c (.int 0))) (.bin .mod (.v 3) (.bf .len (.cons (.ix (.v 0) (.c (.int 0))) .nil)))) (.c (.int 0))))
 (.cons (.ite (.and (.cmp .lt (.v 3) (.bf .len (.cons (.ix (.v 0) (.c (.int 0))) .nil))) (.cmp .ge (.v 4) (.bin .pow (.c (.int 10)) (.c (.int 18))))) (.cons (.asgIx (.v 0) (.c (.int 2)) (.bin .fdiv (.v 4) (.v 1)))
 (.cons (.ret (.bin .mod (.bf .int (.cons (.v 4) .nil)) (.v 1)))
 .nil)) .nil)
 (.cons (.asg (.nm 5) (.bin .mod (.bin .mul (.bin .add (.bin .mod (.bf .int (.cons (.v 4) .nil)) (.c (.int 2147483629))) (.c (.int 1))) (.c (.int 48271))) (.c (.int 2147483647))))
 (.cons (.asg (.nm 5) (.bin .mod (.bin .add (.bin .add (.v 5) (.bin .mul (.bin .mul (.v 3) (.v 3)) (.c (.int 30269)))) (.bin .mul (.c (.int 977)) (.v 3))) (.c (.int 2147483629))))
 (.cons (.asg (.nm 5) (.bin .mod (.bin .mul (.v 5) (.v 5)) (.c (.int 2147483587))))
 (.cons (.ret (.bin .mod (.bin .fdiv (.v 5) (.c (.int 32))) (.v 1)))
 .nil))))))))))
/-- _law_normal(box, names, most); box=0 names=1 most=2 x=3 found=4 left=5 k=6 share=7 -/
def b_law_normal : Ss :=
 (.cons (.ite (.and (.cmp .gt (.v 2) (.c (.int 1))) (.cmp .eq (.fn 29 (.cons (.v 0) (.cons (.c (.int 3)) .nil))) (.c (.int 0)))) (.cons (.asg (.nm 3) (.ix (.lst (.cons (.c (.str "x")) (.cons (.c (.str "y")) (.cons (.c (.str "x1")) (.cons (.c (.str "u")) .nil))))) (.fn 29 (.cons (.v 0) (.cons (.c (.int 4)) .nil)))))
 (.cons (.ret (.tup (.cons (.c (.str "fn")) (.cons (.v 3) (.cons (.fn 30 (.cons (.v 0) (.cons (.bin .add (.v 1) (.lst (.cons (.v 3) .nil))) (.cons (.bin .sub (.v 2) (.c (.int 1))) .nil)))) .nil)))))
 .nil)) .nil)
 (.cons (.asg (.nm 4) (.tup (.cons (.c (.str "name")) (.cons (.ix (.v 1) (.fn 29 (.cons (.v 0) (.cons (.bf .len (.cons (.v 1) .nil)) .nil)))) .nil))))
 (.cons (.asg (.nm 5) (.bin .sub (.v 2) (.c (.int 1))))
 (.cons (.for (.rng1 (.c (.int 3))) (.nm 6) (.cons (.ite (.or (.cmp .lt (.v 5) (.c (.int 2))) (.cmp .eq (.fn 29 (.cons (.v 0) (.cons (.c (.int 2)) .nil))) (.c (.int 0)))) (.cons .brk
 .nil) .nil)
 (.cons (.asg (.nm 7) (.bin .add (.c (.int 1)) (.fn 29 (.cons (.v 0) (.cons (.bin .sub (.v 5) (.c (.int 1))) .nil)))))
 (.cons (.asg (.nm 4) (.tup (.cons (.c (.str "call")) (.cons (.v 4) (.cons (.fn 30 (.cons (.v 0) (.cons (.v 1) (.cons (.v 7) .nil)))) .nil)))))
 (.cons (.asg (.nm 5) (.bin .sub (.bin .sub (.v 5) (.c (.int 1))) (.v 7)))
 .nil)))))
 (.cons (.ret (.v 4))
 .nil)))))
/-- _law_spine(program); program=0 head=1 arguments=2 -/
def b_law_spine : Ss :=
 (.cons (.asg (.nm 1) (.v 0))
 (.cons (.asg (.nm 2) (.lst .nil))
 (.cons (.whl (.cmp .eq (.ix (.v 1) (.c (.int 0))) (.c (.str "call"))) (.cons (.asg (.nm 2) (.bin .add (.lst (.cons (.ix (.v 1) (.c (.int 2))) .nil)) (.v 2)))
 (.cons (.asg (.nm 1) (.ix (.v 1) (.c (.int 1))))
 .nil)))
 (.cons (.ret (.tup (.cons (.v 1) (.cons (.v 2) .nil))))
 .nil))))
/-- _law_bags(choices, copies); choices=0 copies=1 bags=2 rows=3 k=4 made=5 row=6 one=7 -/
def b_law_bags : Ss :=
 (.cons (.asg (.nm 2) (.lst (.cons (.tup .nil) .nil)))
 (.cons (.asg (.nm 3) (.lst (.cons (.tup .nil) .nil)))
 (.cons (.for (.rng1 (.v 1)) (.nm 4) (.cons (.asg (.nm 5) (.lst .nil))
 (.cons (.for (.seq (.v 3)) (.nm 6) (.cons (.for (.seq (.v 0)) (.nm 7) (.cons (.ite (.or (.cmp .eq (.bf .len (.cons (.v 6) .nil)) (.c (.int 0))) (.cmp .le (.ix (.v 6) (.neg (.c (.int 1)))) (.v 7))) (.cons (.expr (.mt .append (.v 5) (.cons (.bin .add (.v 6) (.tup (.cons (.v 7) .nil))) .nil)))
 .nil) .nil)
 .nil))
 .nil))
 (.cons (.asg (.nm 3) (.v 5))
 (.cons (.asg (.nm 2) (.bin .add (.v 2) (.v 3)))
 .nil)))))
 (.cons (.ret (.v 2))
 .nil))))
/-- _law_plans(program, copies); program=0 copies=1 found=2 rows=3 argument=4 bags=5 made=6 row=7 one=8 bag=9 -/
def b_law_plans : Ss :=
 (.cons (.ite (.cmp .eq (.ix (.v 0) (.c (.int 0))) (.c (.str "fn"))) (.cons (.ret (.bin .add (.lst (.cons (.tup (.cons (.c (.str "shut")) .nil)) .nil)) (.lc (.seq (.fn 33 (.cons (.ix (.v 0) (.c (.int 2))) (.cons (.v 1) .nil)))) (.nm 8) [8] (.c (.bl true)) (.tup (.cons (.c (.str "in")) (.cons (.v 8) .nil))))))
 .nil) .nil)
 (.cons (.asg (.nm 2) (.lst (.cons (.tup (.cons (.c (.str "head")) (.cons (.tup .nil) .nil))) .nil)))
 (.cons (.asg (.nm 3) (.lst (.cons (.tup .nil) .nil)))
 (.cons (.for (.seq (.ix (.fn 31 (.cons (.v 0) .nil)) (.c (.int 1)))) (.nm 4) (.cons (.asg (.nm 5) (.fn 32 (.cons (.bf .sorted (.cons (.fn 33 (.cons (.v 4) (.cons (.v 1) .nil))) .nil)) (.cons (.v 1) .nil))))
 (.cons (.asg (.nm 6) (.lst .nil))
 (.cons (.for (.seq (.v 3)) (.nm 7) (.cons (.asg (.nm 6) (.bin .add (.v 6) (.lc (.seq (.v 5)) (.nm 9) [9] (.c (.bl true)) (.bin .add (.v 7) (.tup (.cons (.v 9) .nil))))))
 .nil))
 (.cons (.asg (.nm 3) (.v 6))
 (.cons (.asg (.nm 2) (.bin .add (.v 2) (.lc (.seq (.v 3)) (.nm 7) [7] (.c (.bl true)) (.tup (.cons (.c (.str "head")) (.cons (.v 7) .nil))))))
 .nil))))))
 (.cons (.ret (.v 2))
 .nil)))))
/-- _law_once(program); program=0 one=1 -/
def b_law_once : Ss :=
 (.cons (.ite (.cmp .eq (.ix (.v 0) (.c (.int 0))) (.c (.str "fn"))) (.cons (.ret (.tup (.cons (.c (.str "in")) (.cons (.fn 34 (.cons (.ix (.v 0) (.c (.int 2))) .nil)) .nil))))
 .nil) .nil)
 (.cons (.ret (.tup (.cons (.c (.str "head")) (.cons (.bf .tuple (.cons (.lc (.seq (.ix (.fn 31 (.cons (.v 0) .nil)) (.c (.int 1)))) (.nm 1) [1] (.c (.bl true)) (.tup (.cons (.fn 34 (.cons (.v 1) .nil)) .nil))) .nil)) .nil))))
 .nil))
/-- law(script); script=0 box=1 program=2 copies=3 due=4 found=5 -/
def b_law : Ss :=
 (.cons (.asg (.nm 1) (.fn 28 (.cons (.v 0) .nil)))
 (.cons (.asg (.nm 2) (.fn 30 (.cons (.v 1) (.cons (.lst (.cons (.c (.str "y")) (.cons (.c (.str "z")) .nil))) (.cons (.c (.int 5)) .nil)))))
 (.cons (.asg (.nm 3) (.fn 29 (.cons (.v 1) (.cons (.c (.int 3)) .nil))))
 (.cons (.asg (.nm 4) (.bf .sorted (.cons (.fn 33 (.cons (.v 2) (.cons (.v 3) .nil))) .nil)))
 (.cons (.asg (.nm 5) (.fn 27 (.cons (.v 2) (.cons (.v 3) .nil))))
 (.cons (.ite (.or (.cmp .ne (.v 5) (.bf .tuple (.cons (.v 4) .nil))) (.cmp .ne (.fn 24 (.cons (.v 2) .nil)) (.fn 34 (.cons (.v 2) .nil)))) (.cons (.ret (.c (.bl false)))
 .nil) .nil)
 (.cons (.ite (.and (.cmp .gt (.bf .len (.cons (.v 4) .nil)) (.c (.int 0))) (.or (.cmp .isn (.fn 22 (.cons (.v 2) (.cons (.ix (.v 4) (.c (.int 0))) .nil))) (.c (.bl true))) (.cmp .isn (.fn 22 (.cons (.v 2) (.cons (.ix (.v 4) (.neg (.c (.int 1)))) .nil))) (.c (.bl true))))) (.cons (.ret (.c (.bl false)))
 .nil) .nil)
 (.cons (.ret (.cmp .is (.fn 22 (.cons (.v 2) (.cons (.tup (.cons (.c (.str "in")) (.cons (.tup (.cons (.c (.str "left")) .nil)) .nil))) .nil))) (.c (.bl false))))
 .nil))))))))
def fnTab : List FnD := [
  ⟨"is_integer", 1, 1, true, b_is_integer⟩,
  ⟨"is_natural", 1, 1, true, b_is_natural⟩,
  ⟨"need_number", 3, 3, true, b_need_number⟩,
  ⟨"anew", 1, 2, true, b_anew⟩,
  ⟨"is_plain_name", 1, 3, true, b_is_plain_name⟩,
  ⟨"is_node", 1, 1, true, b_is_node⟩,
  ⟨"is_tree", 1, 3, true, b_is_tree⟩,
  ⟨"flat", 1, 4, true, b_flat⟩,
  ⟨"ends_of", 1, 4, true, b_ends_of⟩,
  ⟨"levels_of", 1, 5, true, b_levels_of⟩,
  ⟨"addresses_of", 1, 6, true, b_addresses_of⟩,
  ⟨"is_program", 1, 4, true, b_is_program⟩,
  ⟨"need_wide", 1, 1, true, b_need_wide⟩,
  ⟨"need_program", 1, 1, true, b_need_program⟩,
  ⟨"spine", 1, 3, true, b_spine⟩,
  ⟨"is_ready", 2, 2, true, b_is_ready⟩,
  ⟨"indexes_ready", 1, 2, true, b_indexes_ready⟩,
  ⟨"ready", 1, 4, true, b_ready⟩,
  ⟨"is_normal", 1, 1, true, b_is_normal⟩,
  ⟨"need_normal", 1, 1, true, b_need_normal⟩,
  ⟨"fits", 2, 5, true, b_fits⟩,
  ⟨"fits_bag", 2, 4, true, b_fits_bag⟩,
  ⟨"is_plan", 2, 2, true, b_is_plan⟩,
  ⟨"once_in", 1, 2, true, b_once_in⟩,
  ⟨"once_plan", 1, 1, true, b_once_plan⟩,
  ⟨"bags_up_to", 2, 7, true, b_bags_up_to⟩,
  ⟨"plans_in", 2, 8, true, b_plans_in⟩,
  ⟨"plans", 2, 2, true, b_plans⟩,
  ⟨"_law_box", 1, 1, false, b_law_box⟩,
  ⟨"_law_pick", 2, 6, false, b_law_pick⟩,
  ⟨"_law_normal", 3, 8, false, b_law_normal⟩,
  ⟨"_law_spine", 1, 3, true, b_law_spine⟩,
  ⟨"_law_bags", 2, 8, true, b_law_bags⟩,
  ⟨"_law_plans", 2, 10, true, b_law_plans⟩,
  ⟨"_law_once", 1, 2, true, b_law_once⟩,
  ⟨"law", 1, 6, true, b_law⟩]
abbrev i_is_integer : Nat := 0
abbrev i_is_natural : Nat := 1
abbrev i_need_number : Nat := 2
abbrev i_anew : Nat := 3
abbrev i_is_plain_name : Nat := 4
abbrev i_is_node : Nat := 5
abbrev i_is_tree : Nat := 6
abbrev i_flat : Nat := 7
abbrev i_ends_of : Nat := 8
abbrev i_levels_of : Nat := 9
abbrev i_addresses_of : Nat := 10
abbrev i_is_program : Nat := 11
abbrev i_need_wide : Nat := 12
abbrev i_need_program : Nat := 13
abbrev i_spine : Nat := 14
abbrev i_is_ready : Nat := 15
abbrev i_indexes_ready : Nat := 16
abbrev i_ready : Nat := 17
abbrev i_is_normal : Nat := 18
abbrev i_need_normal : Nat := 19
abbrev i_fits : Nat := 20
abbrev i_fits_bag : Nat := 21
abbrev i_is_plan : Nat := 22
abbrev i_once_in : Nat := 23
abbrev i_once_plan : Nat := 24
abbrev i_bags_up_to : Nat := 25
abbrev i_plans_in : Nat := 26
abbrev i_plans : Nat := 27
abbrev i_law_box : Nat := 28
abbrev i_law_pick : Nat := 29
abbrev i_law_normal : Nat := 30
abbrev i_law_spine : Nat := 31
abbrev i_law_bags : Nat := 32
abbrev i_law_plans : Nat := 33
abbrev i_law_once : Nat := 34
abbrev i_law : Nat := 35

/-! the law, plainly -/
def five : List Str := ["x", "y", "x1", "u", "z"]
theorem plain_ok {s : Str} (h : s ∈ five) (n : Nat) (p : List Nat) (S : Sto) : callF fnTab 1000 (n + 1) i_is_plain_name [.d (.str s)] p S = some (.d (.bool true), S) := by
  simp only [five, List.mem_cons, List.not_mem_nil, or_false] at h
  rcases h with rfl | rfl | rfl | rfl | rfl
  · kernel_rfl!
  · kernel_rfl!
  · kernel_rfl!
  · kernel_rfl!
  · kernel_rfl!
def ahead (f : Nat) (args : List W) : Option PyData := if f = i_is_plain_name then (match args with | [.d (.list _)] => some (.bool true) | _ => none) else none
theorem ahead_ok {f : Nat → Str} (hf : ∀ j, f j ∈ five) : ASound (nu f) ahead fnTab 1000 140 := by
  intro i args r h k n p S
  unfold ahead at h
  split at h
  · rename_i hi
    subst hi
    split at h
    · rename_i xs
      cases h
      obtain ⟨j, hj⟩ := nu_is f xs
      simp only [List.map_cons, List.map_nil, hW, hD, hj]
      exact plain_ok (hf j) (n + 139) p S
    · cases h
  · cases h
def dropS : Nat → Ss → Ss
  | 0, s => s
  | n + 1, .cons _ s => dropS n s
  | _ + 1, .nil => .nil
def tailB : Ss := dropS 3 b_law
def okRun (q : PyData) (c : Int) : Bool := match exSs (callH ahead fnTab 1000 60) 1000 [] tailB [none, none, some (.d q), some (.d (.int c)), none, none] [] with
  | some (.ret (.d (.bool true)), _, _) => true
  | _ => false
theorem all_runs : ((gen 5 5).all fun t => [0, 1, 2].all fun c => okRun (t.2.2.build hole 0) c) = true := by decide +kernel
theorem tail_loc (th : List PyData → PyData) (k : Nat) (q : PyData) (c : Int) {w0 w1 : W} : HL th k [none, none, some (.d q), some (.d (.int c)), none, none] [some w0, some w1, some (.d (hD th q)), some (.d (.int c)), none, none] := by
  refine ⟨rfl, fun i w hw => ?_⟩
  match i with
  | 0 => simp at hw
  | 1 => simp at hw
  | 2 => simp at hw; subst hw; rfl
  | 3 => simp at hw; subst hw; rfl
  | 4 => simp at hw
  | 5 => simp at hw
  | i + 6 => simp at hw
theorem tail_ok {f : Nat → Str} (hf : ∀ j, f j ∈ five) {q : PyData} {c : Int} (h : okRun q c = true) (S : Sto) (w0 w1 : W) :
    ∃ ws' S', exSs (callF fnTab 1000 200) 1000 [] tailB [some w0, some w1, some (.d (hD (nu f) q)), some (.d (.int c)), none, none] S = some (.ret (.d (.bool true)), ws', S') := by
  unfold okRun at h
  split at h
  · rename_i ws1 T e
    obtain ⟨ws', g, _⟩ := exSs_h (th := nu f) (S0 := S) (nu_none f) (callH_ok (nu_none f) (ahead_ok hf) 60) tailB [] [] (fun n => rfl) _ [some w0, some w1, some (.d (hD (nu f) q)), some (.d (.int c)), none, none]
      (tail_loc _ _ _ _) _ _ _ _ e
    have hs : hS (nu f) S [] = S := by unfold hS; simp
    rw [hs] at g
    exact ⟨ws', _, g⟩
  · cases h
theorem pick_is : fnTab[i_law_pick]? = some ⟨"_law_pick", 2, 6, false, pickB⟩ := rfl
theorem norm_is : fnTab[i_law_normal]? = some ⟨"_law_normal", 3, 8, false, normB i_law_pick i_law_normal⟩ := rfl
theorem law_is : fnTab[i_law]? = some ⟨"law", 1, 6, true, .cons (.asg (.nm 1) (.fn i_law_box (.cons (.v 0) .nil)))
    (.cons (.asg (.nm 2) (.fn i_law_normal (.cons (.v 1) (.cons (.lst (.cons (.c (.str "y")) (.cons (.c (.str "z")) .nil))) (.cons (.c (.int 5)) .nil)))))
    (.cons (.asg (.nm 3) (.fn i_law_pick (.cons (.v 1) (.cons (.c (.int 3)) .nil)))) tailB))⟩ := rfl
theorem box_is (ns : List Int) (h : ns.length ≤ 63) (n : Nat) : callF fnTab 1000 (n + 1) i_law_box [.lv (ns.map .int)] [] [] = some (.ref 1, [.lst (ns.map fun z => .d (.int z)), .lst [.ref 0, .d (.int 0), .d (.int 0)]]) := by
  have e : fnTab[i_law_box]? = some ⟨"_law_box", 1, 1, false, b_law_box⟩ := rfl
  have hz : ns.length ≤ 100000 := by omega
  simp [callF, e, b_law_box, exSs, exS, ev, evs, begin, fin, bfF, bf1, bList, seqOf, tupOf, lstOf, newL, capN, Cst.toD, hz]
theorem law_all : ∀ ns : List Int, ns.length ≤ 63 → ∃ S', callF fnTab 1000 (200 + 1) i_law [.lv (ns.map .int)] [] [] = some (.d (.bool true), S') := by
  intro ns hn
  have hB : BX [O.lst (ns.map fun z => .d (.int z)), .lst [.ref 0, .d (.int 0), .d (.int 0)]] 0 := ⟨ns, 0, 0, hn, Int.le_refl 0, Int.le_refl 0, Int.le_refl 0, rfl, rfl⟩
  obtain ⟨P, S2, a, h2, hB2, ha, hP, e2⟩ := norm_ok (L := 1000) (G := fun s => s ∈ five) pick_is norm_is (by decide) 5 (by decide) (by decide) 194 0 _ [] ["y", "z"] 2 (hB.push (.lst [.d (.str "y"), .d (.str "z")])) (by decide) rfl rfl (by decide) (by decide) (by decide) (by decide)
  obtain ⟨r, S3, h3, hB3, hr0, hr1, hs⟩ := pick_ok (L := 1000) (n := 199) pick_is hB2 (by decide) (p := []) rfl (m := 3) (by decide)
  obtain ⟨h', s, f, m1, _, g1, e1⟩ := shape_of hP ha 5 ha
  have hc : r ∈ ([0, 1, 2] : List Int) := by
    have : r = 0 ∨ r = 1 ∨ r = 2 := by omega
    simpa using this
  have hrun : okRun (s.build hole 0) r = true := List.all_eq_true.mp (List.all_eq_true.mp all_runs _ m1) r hc
  obtain ⟨ws', S', ht⟩ := tail_ok g1 hrun S3 (.lv (ns.map .int)) (.ref 1)
  rw [nu_build, ← e1 0] at ht
  refine ⟨[], ?_⟩
  have t1 : exS (callF fnTab 1000 200) 1000 [] (.asg (.nm 1) (.fn i_law_box (.cons (.v 0) .nil))) [some (.lv (ns.map .int)), none, none, none, none, none] [] = some (.next, [some (.lv (ns.map .int)), some (.ref 1), none, none, none, none], [.lst (ns.map fun z => .d (.int z)), .lst [.ref 0, .d (.int 0), .d (.int 0)]]) := by
    simp only [exS, ev, evs, List.getElem?_cons_zero, Option.bind_some, box_is ns hn 199]
    rfl
  have t2 : exS (callF fnTab 1000 200) 1000 [] (.asg (.nm 2) (.fn i_law_normal (.cons (.v 1) (.cons (.lst (.cons (.c (.str "y")) (.cons (.c (.str "z")) .nil))) (.cons (.c (.int 5)) .nil))))) [some (.lv (ns.map .int)), some (.ref 1), none, none, none, none] [.lst (ns.map fun z => .d (.int z)), .lst [.ref 0, .d (.int 0), .d (.int 0)]] =
      some (.next, [some (.lv (ns.map .int)), some (.ref 1), some (.d P), none, none, none], S2) := by
    have hone : (2 : Nat) ≤ capN := by decide
    have h2' := h2
    simp only [List.cons_append, List.nil_append] at h2'
    simp only [exS, ev, evs, List.getElem?_cons_zero, List.getElem?_cons_succ, Option.bind_some, Cst.toD, List.length_cons, List.length_nil, newL, if_pos hone, List.cons_append, List.nil_append]
    rw [show callF fnTab 1000 200 i_law_normal [W.ref 1, W.ref (0 + 1 + 1), W.d (PyData.int 5)] [] [O.lst (List.map (fun z => W.d (PyData.int z)) ns), O.lst [W.ref 0, W.d (PyData.int 0), W.d (PyData.int 0)], O.lst [W.d (PyData.str (Str.ofString "y")), W.d (PyData.str (Str.ofString "z"))]] = some (.d P, S2) from h2']
    rfl
  have t3 : exS (callF fnTab 1000 200) 1000 [] (.asg (.nm 3) (.fn i_law_pick (.cons (.v 1) (.cons (.c (.int 3)) .nil)))) [some (.lv (ns.map .int)), some (.ref 1), some (.d P), none, none, none] S2 = some (.next, [some (.lv (ns.map .int)), some (.ref 1), some (.d P), some (.d (.int r)), none, none], S3) := by
    simp only [exS, ev, evs, List.getElem?_cons_zero, List.getElem?_cons_succ, Option.bind_some, Cst.toD]
    rw [h3]
    rfl
  have key : fin (exSs (callF fnTab 1000 200) 1000 [] (.cons (.asg (.nm 1) (.fn i_law_box (.cons (.v 0) .nil)))
    (.cons (.asg (.nm 2) (.fn i_law_normal (.cons (.v 1) (.cons (.lst (.cons (.c (.str "y")) (.cons (.c (.str "z")) .nil))) (.cons (.c (.int 5)) .nil)))))
    (.cons (.asg (.nm 3) (.fn i_law_pick (.cons (.v 1) (.cons (.c (.int 3)) .nil)))) tailB))) [some (.lv (ns.map .int)), none, none, none, none, none] []) = some (.d (.bool true), S') := by
    rw [exSs_next t1, exSs_next t2, exSs_next t3, ht]
    rfl
  have unf : callF fnTab 1000 (200 + 1) i_law [.lv (ns.map .int)] [] [] = ((fin (exSs (callF fnTab 1000 200) 1000 [] (.cons (.asg (.nm 1) (.fn i_law_box (.cons (.v 0) .nil)))
    (.cons (.asg (.nm 2) (.fn i_law_normal (.cons (.v 1) (.cons (.lst (.cons (.c (.str "y")) (.cons (.c (.str "z")) .nil))) (.cons (.c (.int 5)) .nil)))))
    (.cons (.asg (.nm 3) (.fn i_law_pick (.cons (.v 1) (.cons (.c (.int 3)) .nil)))) tailB))) [some (.lv (ns.map .int)), none, none, none, none, none] [])).bind fun q => handW q.2 q.1 []) := by
    rw [callF, law_is]
    rfl
  rw [unf, key]
  rfl

theorem tab_eq : defTab.map (trDef fnNames cstTab) = fnTab.map some := by decide +kernel
end My
open PySem PySem.W PyProof.Rows
set_option maxRecDepth 100000 in
set_option maxHeartbeats 0 in
theorem PySem.Challenge.cw_stepsworn_k53_all_plans_of_a_program_holds : PySem.Challenge.rw_stepsworn_k53_all_plans_of_a_program.Holds := by
  w_on; o_law; k_head; (case hw => w_witness2)
  k_fill
  refine DV.walkD (l := PySem.Challenge.rw_stepsworn_k53_all_plans_of_a_program) (F := My.fnTab) (L := 1000) (n := 200) (i := 35) (m := 63) (p := "script") rfl (by decide) rfl ⟨rfl, by decide, by decide⟩ (fun w h Y => PySem.W.kIn_of Y) My.law_all ?F
  case F =>
    intro w mg fa h KX G hmg
    have h0 : DV.DefAt (L2.KOf KX) mg (Str.ofString "is_integer") (My.defTab.getD 0 default) := by
      unfold L2.KOf
      refine' DV.def_at KX G ?a ?l ?c ?k (fun _ _ _ _ _ _ us hl => match us, hl with | [_], _ => rfl)
      (case a => k_is); (case l => k_is); (case c => k_is); (case k => k_is)
    have h1 : DV.DefAt (L2.KOf KX) mg (Str.ofString "is_natural") (My.defTab.getD 1 default) := by
      unfold L2.KOf
      refine' DV.def_at KX G ?a ?l ?c ?k (fun _ _ _ _ _ _ us hl => match us, hl with | [_], _ => rfl)
      (case a => k_is); (case l => k_is); (case c => k_is); (case k => k_is)
    have h2 : DV.DefAt (L2.KOf KX) mg (Str.ofString "need_number") (My.defTab.getD 2 default) := by
      unfold L2.KOf
      refine' DV.def_at KX G ?a ?l ?c ?k (fun _ _ _ _ _ _ us hl => match us, hl with | [_, _, _], _ => rfl)
      (case a => k_is); (case l => k_is); (case c => k_is); (case k => k_is)
    have h3 : DV.DefAt (L2.KOf KX) mg (Str.ofString "anew") (My.defTab.getD 3 default) := by
      unfold L2.KOf
      refine' DV.def_at KX G ?a ?l ?c ?k (fun _ _ _ _ _ _ us hl => match us, hl with | [_], _ => rfl)
      (case a => k_is); (case l => k_is); (case c => k_is); (case k => k_is)
    have h4 : DV.DefAt (L2.KOf KX) mg (Str.ofString "is_plain_name") (My.defTab.getD 4 default) := by
      unfold L2.KOf
      refine' DV.def_at KX G ?a ?l ?c ?k (fun _ _ _ _ _ _ us hl => match us, hl with | [_], _ => rfl)
      (case a => k_is); (case l => k_is); (case c => k_is); (case k => k_is)
    have h5 : DV.DefAt (L2.KOf KX) mg (Str.ofString "is_node") (My.defTab.getD 5 default) := by
      unfold L2.KOf
      refine' DV.def_at KX G ?a ?l ?c ?k (fun _ _ _ _ _ _ us hl => match us, hl with | [_], _ => rfl)
      (case a => k_is); (case l => k_is); (case c => k_is); (case k => k_is)
    have h6 : DV.DefAt (L2.KOf KX) mg (Str.ofString "is_tree") (My.defTab.getD 6 default) := by
      unfold L2.KOf
      refine' DV.def_at KX G ?a ?l ?c ?k (fun _ _ _ _ _ _ us hl => match us, hl with | [_], _ => rfl)
      (case a => k_is); (case l => k_is); (case c => k_is); (case k => k_is)
    have h7 : DV.DefAt (L2.KOf KX) mg (Str.ofString "flat") (My.defTab.getD 7 default) := by
      unfold L2.KOf
      refine' DV.def_at KX G ?a ?l ?c ?k (fun _ _ _ _ _ _ us hl => match us, hl with | [_], _ => rfl)
      (case a => k_is); (case l => k_is); (case c => k_is); (case k => k_is)
    have h8 : DV.DefAt (L2.KOf KX) mg (Str.ofString "ends_of") (My.defTab.getD 8 default) := by
      unfold L2.KOf
      refine' DV.def_at KX G ?a ?l ?c ?k (fun _ _ _ _ _ _ us hl => match us, hl with | [_], _ => rfl)
      (case a => k_is); (case l => k_is); (case c => k_is); (case k => k_is)
    have h9 : DV.DefAt (L2.KOf KX) mg (Str.ofString "levels_of") (My.defTab.getD 9 default) := by
      unfold L2.KOf
      refine' DV.def_at KX G ?a ?l ?c ?k (fun _ _ _ _ _ _ us hl => match us, hl with | [_], _ => rfl)
      (case a => k_is); (case l => k_is); (case c => k_is); (case k => k_is)
    have h10 : DV.DefAt (L2.KOf KX) mg (Str.ofString "addresses_of") (My.defTab.getD 10 default) := by
      unfold L2.KOf
      refine' DV.def_at KX G ?a ?l ?c ?k (fun _ _ _ _ _ _ us hl => match us, hl with | [_], _ => rfl)
      (case a => k_is); (case l => k_is); (case c => k_is); (case k => k_is)
    have h11 : DV.DefAt (L2.KOf KX) mg (Str.ofString "is_program") (My.defTab.getD 11 default) := by
      unfold L2.KOf
      refine' DV.def_at KX G ?a ?l ?c ?k (fun _ _ _ _ _ _ us hl => match us, hl with | [_], _ => rfl)
      (case a => k_is); (case l => k_is); (case c => k_is); (case k => k_is)
    have h12 : DV.DefAt (L2.KOf KX) mg (Str.ofString "need_wide") (My.defTab.getD 12 default) := by
      unfold L2.KOf
      refine' DV.def_at KX G ?a ?l ?c ?k (fun _ _ _ _ _ _ us hl => match us, hl with | [_], _ => rfl)
      (case a => k_is); (case l => k_is); (case c => k_is); (case k => k_is)
    have h13 : DV.DefAt (L2.KOf KX) mg (Str.ofString "need_program") (My.defTab.getD 13 default) := by
      unfold L2.KOf
      refine' DV.def_at KX G ?a ?l ?c ?k (fun _ _ _ _ _ _ us hl => match us, hl with | [_], _ => rfl)
      (case a => k_is); (case l => k_is); (case c => k_is); (case k => k_is)
    have h14 : DV.DefAt (L2.KOf KX) mg (Str.ofString "spine") (My.defTab.getD 14 default) := by
      unfold L2.KOf
      refine' DV.def_at KX G ?a ?l ?c ?k (fun _ _ _ _ _ _ us hl => match us, hl with | [_], _ => rfl)
      (case a => k_is); (case l => k_is); (case c => k_is); (case k => k_is)
    have h15 : DV.DefAt (L2.KOf KX) mg (Str.ofString "is_ready") (My.defTab.getD 15 default) := by
      unfold L2.KOf
      refine' DV.def_at KX G ?a ?l ?c ?k (fun _ _ _ _ _ _ us hl => match us, hl with | [_, _], _ => rfl)
      (case a => k_is); (case l => k_is); (case c => k_is); (case k => k_is)
    have h16 : DV.DefAt (L2.KOf KX) mg (Str.ofString "indexes_ready") (My.defTab.getD 16 default) := by
      unfold L2.KOf
      refine' DV.def_at KX G ?a ?l ?c ?k (fun _ _ _ _ _ _ us hl => match us, hl with | [_], _ => rfl)
      (case a => k_is); (case l => k_is); (case c => k_is); (case k => k_is)
    have h17 : DV.DefAt (L2.KOf KX) mg (Str.ofString "ready") (My.defTab.getD 17 default) := by
      unfold L2.KOf
      refine' DV.def_at KX G ?a ?l ?c ?k (fun _ _ _ _ _ _ us hl => match us, hl with | [_], _ => rfl)
      (case a => k_is); (case l => k_is); (case c => k_is); (case k => k_is)
    have h18 : DV.DefAt (L2.KOf KX) mg (Str.ofString "is_normal") (My.defTab.getD 18 default) := by
      unfold L2.KOf
      refine' DV.def_at KX G ?a ?l ?c ?k (fun _ _ _ _ _ _ us hl => match us, hl with | [_], _ => rfl)
      (case a => k_is); (case l => k_is); (case c => k_is); (case k => k_is)
    have h19 : DV.DefAt (L2.KOf KX) mg (Str.ofString "need_normal") (My.defTab.getD 19 default) := by
      unfold L2.KOf
      refine' DV.def_at KX G ?a ?l ?c ?k (fun _ _ _ _ _ _ us hl => match us, hl with | [_], _ => rfl)
      (case a => k_is); (case l => k_is); (case c => k_is); (case k => k_is)
    have h20 : DV.DefAt (L2.KOf KX) mg (Str.ofString "fits") (My.defTab.getD 20 default) := by
      unfold L2.KOf
      refine' DV.def_at KX G ?a ?l ?c ?k (fun _ _ _ _ _ _ us hl => match us, hl with | [_, _], _ => rfl)
      (case a => k_is); (case l => k_is); (case c => k_is); (case k => k_is)
    have h21 : DV.DefAt (L2.KOf KX) mg (Str.ofString "fits_bag") (My.defTab.getD 21 default) := by
      unfold L2.KOf
      refine' DV.def_at KX G ?a ?l ?c ?k (fun _ _ _ _ _ _ us hl => match us, hl with | [_, _], _ => rfl)
      (case a => k_is); (case l => k_is); (case c => k_is); (case k => k_is)
    have h22 : DV.DefAt (L2.KOf KX) mg (Str.ofString "is_plan") (My.defTab.getD 22 default) := by
      unfold L2.KOf
      refine' DV.def_at KX G ?a ?l ?c ?k (fun _ _ _ _ _ _ us hl => match us, hl with | [_, _], _ => rfl)
      (case a => k_is); (case l => k_is); (case c => k_is); (case k => k_is)
    have h23 : DV.DefAt (L2.KOf KX) mg (Str.ofString "once_in") (My.defTab.getD 23 default) := by
      unfold L2.KOf
      refine' DV.def_at KX G ?a ?l ?c ?k (fun _ _ _ _ _ _ us hl => match us, hl with | [_], _ => rfl)
      (case a => k_is); (case l => k_is); (case c => k_is); (case k => k_is)
    have h24 : DV.DefAt (L2.KOf KX) mg (Str.ofString "once_plan") (My.defTab.getD 24 default) := by
      unfold L2.KOf
      refine' DV.def_at KX G ?a ?l ?c ?k (fun _ _ _ _ _ _ us hl => match us, hl with | [_], _ => rfl)
      (case a => k_is); (case l => k_is); (case c => k_is); (case k => k_is)
    have h25 : DV.DefAt (L2.KOf KX) mg (Str.ofString "bags_up_to") (My.defTab.getD 25 default) := by
      unfold L2.KOf
      refine' DV.def_at KX G ?a ?l ?c ?k (fun _ _ _ _ _ _ us hl => match us, hl with | [_, _], _ => rfl)
      (case a => k_is); (case l => k_is); (case c => k_is); (case k => k_is)
    have h26 : DV.DefAt (L2.KOf KX) mg (Str.ofString "plans_in") (My.defTab.getD 26 default) := by
      unfold L2.KOf
      refine' DV.def_at KX G ?a ?l ?c ?k (fun _ _ _ _ _ _ us hl => match us, hl with | [_, _], _ => rfl)
      (case a => k_is); (case l => k_is); (case c => k_is); (case k => k_is)
    have h27 : DV.DefAt (L2.KOf KX) mg (Str.ofString "plans") (My.defTab.getD 27 default) := by
      unfold L2.KOf
      refine' DV.def_at KX G ?a ?l ?c ?k (fun _ _ _ _ _ _ us hl => match us, hl with | [_, _], _ => rfl)
      (case a => k_is); (case l => k_is); (case c => k_is); (case k => k_is)
    have h28 : DV.DefAt (L2.KOf KX) mg (Str.ofString "_law_box") (My.defTab.getD 28 default) := by
      unfold L2.KOf
      refine' DV.def_at KX G ?a ?l ?c ?k (fun _ _ _ _ _ _ us hl => match us, hl with | [_], _ => rfl)
      (case a => k_is); (case l => k_is); (case c => k_is); (case k => k_is)
    have h29 : DV.DefAt (L2.KOf KX) mg (Str.ofString "_law_pick") (My.defTab.getD 29 default) := by
      unfold L2.KOf
      refine' DV.def_at KX G ?a ?l ?c ?k (fun _ _ _ _ _ _ us hl => match us, hl with | [_, _], _ => rfl)
      (case a => k_is); (case l => k_is); (case c => k_is); (case k => k_is)
    have h30 : DV.DefAt (L2.KOf KX) mg (Str.ofString "_law_normal") (My.defTab.getD 30 default) := by
      unfold L2.KOf
      refine' DV.def_at KX G ?a ?l ?c ?k (fun _ _ _ _ _ _ us hl => match us, hl with | [_, _, _], _ => rfl)
      (case a => k_is); (case l => k_is); (case c => k_is); (case k => k_is)
    have h31 : DV.DefAt (L2.KOf KX) mg (Str.ofString "_law_spine") (My.defTab.getD 31 default) := by
      unfold L2.KOf
      refine' DV.def_at KX G ?a ?l ?c ?k (fun _ _ _ _ _ _ us hl => match us, hl with | [_], _ => rfl)
      (case a => k_is); (case l => k_is); (case c => k_is); (case k => k_is)
    have h32 : DV.DefAt (L2.KOf KX) mg (Str.ofString "_law_bags") (My.defTab.getD 32 default) := by
      unfold L2.KOf
      refine' DV.def_at KX G ?a ?l ?c ?k (fun _ _ _ _ _ _ us hl => match us, hl with | [_, _], _ => rfl)
      (case a => k_is); (case l => k_is); (case c => k_is); (case k => k_is)
    have h33 : DV.DefAt (L2.KOf KX) mg (Str.ofString "_law_plans") (My.defTab.getD 33 default) := by
      unfold L2.KOf
      refine' DV.def_at KX G ?a ?l ?c ?k (fun _ _ _ _ _ _ us hl => match us, hl with | [_, _], _ => rfl)
      (case a => k_is); (case l => k_is); (case c => k_is); (case k => k_is)
    have h34 : DV.DefAt (L2.KOf KX) mg (Str.ofString "_law_once") (My.defTab.getD 34 default) := by
      unfold L2.KOf
      refine' DV.def_at KX G ?a ?l ?c ?k (fun _ _ _ _ _ _ us hl => match us, hl with | [_], _ => rfl)
      (case a => k_is); (case l => k_is); (case c => k_is); (case k => k_is)
    have h35 : DV.DefAt (L2.KOf KX) mg (Str.ofString "law") (My.defTab.getD 35 default) := by
      unfold L2.KOf
      refine' DV.def_at KX G ?a ?l ?c ?k (fun _ _ _ _ _ _ us hl => match us, hl with | [_], _ => rfl)
      (case a => k_is); (case l => k_is); (case c => k_is); (case k => k_is)
    have c0 : ∃ u, mg (Str.ofString "LETTERS") = some u ∧ L2.RelV (DV.Cst.toV (.str "abcdefghijklmnopqrstuvwxyz")) u := by
      refine' ⟨_, PySem.W.mg_of KX G ?a, ?b⟩
      (case a => k_is); (case b => first | exact ⟨_, rfl⟩ | rfl)
    have c1 : ∃ u, mg (Str.ofString "DIGITS") = some u ∧ L2.RelV (DV.Cst.toV (.str "0123456789")) u := by
      refine' ⟨_, PySem.W.mg_of KX G ?a, ?b⟩
      (case a => k_is); (case b => first | exact ⟨_, rfl⟩ | rfl)
    have c2 : ∃ u, mg (Str.ofString "MOST_DIGITS") = some u ∧ L2.RelV (DV.Cst.toV (.int 6)) u := by
      refine' ⟨_, PySem.W.mg_of KX G ?a, ?b⟩
      (case a => k_is); (case b => first | exact ⟨_, rfl⟩ | rfl)
    have c3 : ∃ u, mg (Str.ofString "MOST_NODES") = some u ∧ L2.RelV (DV.Cst.toV (.int 200)) u := by
      refine' ⟨_, PySem.W.mg_of KX G ?a, ?b⟩
      (case a => k_is); (case b => first | exact ⟨_, rfl⟩ | rfl)
    have c4 : ∃ u, mg (Str.ofString "MOST_LEVELS") = some u ∧ L2.RelV (DV.Cst.toV (.int 60)) u := by
      refine' ⟨_, PySem.W.mg_of KX G ?a, ?b⟩
      (case a => k_is); (case b => first | exact ⟨_, rfl⟩ | rfl)
    have c5 : ∃ u, mg (Str.ofString "MOST_COPIES") = some u ∧ L2.RelV (DV.Cst.toV (.int 3)) u := by
      refine' ⟨_, PySem.W.mg_of KX G ?a, ?b⟩
      (case a => k_is); (case b => first | exact ⟨_, rfl⟩ | rfl)
    have b0 : mg (Str.ofString "len") = none := by
      refine' PySem.W.mg_none_of KX G ?a
      (case a => k_is)
    have b1 : mg (Str.ofString "all") = none := by
      refine' PySem.W.mg_none_of KX G ?a
      (case a => k_is)
    have b2 : mg (Str.ofString "any") = none := by
      refine' PySem.W.mg_none_of KX G ?a
      (case a => k_is)
    have b3 : mg (Str.ofString "tuple") = none := by
      refine' PySem.W.mg_none_of KX G ?a
      (case a => k_is)
    have b4 : mg (Str.ofString "list") = none := by
      refine' PySem.W.mg_none_of KX G ?a
      (case a => k_is)
    have b5 : mg (Str.ofString "sorted") = none := by
      refine' PySem.W.mg_none_of KX G ?a
      (case a => k_is)
    have b6 : mg (Str.ofString "int") = none := by
      refine' PySem.W.mg_none_of KX G ?a
      (case a => k_is)
    have b7 : mg (Str.ofString "max") = none := by
      refine' PySem.W.mg_none_of KX G ?a
      (case a => k_is)
    have b8 : mg (Str.ofString "min") = none := by
      refine' PySem.W.mg_none_of KX G ?a
      (case a => k_is)
    have b9 : mg (Str.ofString "isinstance") = none := by
      refine' PySem.W.mg_none_of KX G ?a
      (case a => k_is)
    have b10 : mg (Str.ofString "str") = none := by
      refine' PySem.W.mg_none_of KX G ?a
      (case a => k_is)
    have b11 : mg (Str.ofString "bool") = none := by
      refine' PySem.W.mg_none_of KX G ?a
      (case a => k_is)
    have b12 : mg (Str.ofString "range") = none := by
      refine' PySem.W.mg_none_of KX G ?a
      (case a => k_is)
    have b13 : mg (Str.ofString "zip") = none := by
      refine' PySem.W.mg_none_of KX G ?a
      (case a => k_is)
    have tb : DV.Tab (L2.KOf KX) mg My.fnTab My.fnNames My.cstTab My.defTab := {
      tr := My.tab_eq
      nm := rfl
      fn := fun i d x hd hx => DV.AllAt.get (ds := My.defTab) (xs := My.fnNames) ⟨h0, h1, h2, h3, h4, h5, h6, h7, h8, h9, h10, h11, h12, h13, h14, h15, h16, h17, h18, h19, h20, h21, h22, h23, h24, h25, h26, h27, h28, h29, h30, h31, h32, h33, h34, h35, trivial⟩ hd hx
      cst := fun x k hx => DV.cst_at (by
        intro p hp
        simp only [My.cstTab, List.mem_cons, List.not_mem_nil, or_false] at hp
        rcases hp with rfl | rfl | rfl | rfl | rfl | rfl
        · exact c0
        · exact c1
        · exact c2
        · exact c3
        · exact c4
        · exact c5) hx
      blt := by
        intro y hy
        simp only [DV.bltNames, List.mem_cons, List.not_mem_nil, or_false] at hy
        rcases hy with rfl | rfl | rfl | rfl | rfl | rfl | rfl | rfl | rfl | rfl | rfl | rfl | rfl | rfl
        · exact b0
        · exact b1
        · exact b2
        · exact b3
        · exact b4
        · exact b5
        · exact b6
        · exact b7
        · exact b8
        · exact b9
        · exact b10
        · exact b11
        · exact b12
        · exact b13 }
    refine' DV.top_at (x := Str.ofString "law") (d := My.defTab.getD 35 default) KX G hmg tb rfl rfl ?a ?l ?c ?k (fun _ _ _ _ _ _ us hl => match us, hl with | [_], _ => rfl)
    (case a => k_is); (case l => k_is); (case c => k_is); (case k => k_is)

