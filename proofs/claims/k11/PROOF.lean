import PyProof.Rows.All
import Wide.All
import OpenK.AllK
import Wide.FinOn
import PySem.Syntax
import PyProof.P3Statements
import PyProof.Lay0
import PyProof.EqLayable
import PyProof.ReprReads
import HandS.ForMost
import HandS.Exc
import HandS.ExcOwn
import HandS.TryOnly
import HandS.WordsExc
import HandS.IsInst
import HandS.Walk
import HandS.Lambda
import HandS.CallLocal
import HandS.Deep
import HandS.TupAny
import HandS.TupMul
import HandS.TupLe
import HandS.Style
import HandS.Wide
import HandS.CallSlots
import HandS.SortInts
import HandS.SetFor
import HandS.ExcIs
import PyProof.ExcBaseAll.ValueError
import HandS.Rev
import HandS.RevRange
import HandS.Zip
import HandS.Comp
import KE.GoesNew
import KE.KDictZip
import HandS.Conv
import HandS.EndTab
import HandS.HeadWalk
import PyProof.FactsAll.list_3
import PyProof.Rows.SeqCalls
import PyProof.Rows.FactsT3
import PyProof.Rows.SeqGen
import PyProof.Rows.FactsN_abs
import PyProof.Rows.FactsN_isinstance
import HandS.HeadHook4
import HandS.Head0
import HandS.Head1
import HandS.Head2
import HandS.HeadEnd
import PySem.Challenge.RW_signlots_k11_whole_rows_of_signs
set_option linter.all false
namespace MP
open PySem

/-- a value: tuples are trees, what can change stands in the store -/
inductive PV where
  | non | bl (b : Bool) | int (i : Int) | str (x : Str)
  | tup (xs : List PV) | ref (i : Nat) | fn (k : Nat) | cls (k : Nat) | ty (n : String)
  deriving Inhabited

mutual
def PV.decEq : (a b : PV) → Decidable (a = b)
  | .non, .non => .isTrue rfl
  | .bl a, .bl b => if h : a = b then .isTrue (by rw [h]) else .isFalse (fun e => h (PV.bl.inj e))
  | .int a, .int b => if h : a = b then .isTrue (by rw [h]) else .isFalse (fun e => h (PV.int.inj e))
  | .str a, .str b => if h : a = b then .isTrue (by rw [h]) else .isFalse (fun e => h (PV.str.inj e))
  | .tup a, .tup b => match PV.decEqs a b with
    | .isTrue h => .isTrue (by rw [h])
    | .isFalse h => .isFalse (fun e => h (PV.tup.inj e))
  | .ref a, .ref b => if h : a = b then .isTrue (by rw [h]) else .isFalse (fun e => h (PV.ref.inj e))
  | .fn a, .fn b => if h : a = b then .isTrue (by rw [h]) else .isFalse (fun e => h (PV.fn.inj e))
  | .cls a, .cls b => if h : a = b then .isTrue (by rw [h]) else .isFalse (fun e => h (PV.cls.inj e))
  | .ty a, .ty b => if h : a = b then .isTrue (by rw [h]) else .isFalse (fun e => h (PV.ty.inj e))
  | .non, .bl _ | .non, .int _ | .non, .str _ | .non, .tup _ | .non, .ref _ | .non, .fn _ | .non, .cls _ | .non, .ty _ => .isFalse (fun e => nomatch e)
  | .bl _, .non | .bl _, .int _ | .bl _, .str _ | .bl _, .tup _ | .bl _, .ref _ | .bl _, .fn _ | .bl _, .cls _ | .bl _, .ty _ => .isFalse (fun e => nomatch e)
  | .int _, .non | .int _, .bl _ | .int _, .str _ | .int _, .tup _ | .int _, .ref _ | .int _, .fn _ | .int _, .cls _ | .int _, .ty _ => .isFalse (fun e => nomatch e)
  | .str _, .non | .str _, .bl _ | .str _, .int _ | .str _, .tup _ | .str _, .ref _ | .str _, .fn _ | .str _, .cls _ | .str _, .ty _ => .isFalse (fun e => nomatch e)
  | .tup _, .non | .tup _, .bl _ | .tup _, .int _ | .tup _, .str _ | .tup _, .ref _ | .tup _, .fn _ | .tup _, .cls _ | .tup _, .ty _ => .isFalse (fun e => nomatch e)
  | .ref _, .non | .ref _, .bl _ | .ref _, .int _ | .ref _, .str _ | .ref _, .tup _ | .ref _, .fn _ | .ref _, .cls _ | .ref _, .ty _ => .isFalse (fun e => nomatch e)
  | .fn _, .non | .fn _, .bl _ | .fn _, .int _ | .fn _, .str _ | .fn _, .tup _ | .fn _, .ref _ | .fn _, .cls _ | .fn _, .ty _ => .isFalse (fun e => nomatch e)
  | .cls _, .non | .cls _, .bl _ | .cls _, .int _ | .cls _, .str _ | .cls _, .tup _ | .cls _, .ref _ | .cls _, .fn _ | .cls _, .ty _ => .isFalse (fun e => nomatch e)
  | .ty _, .non | .ty _, .bl _ | .ty _, .int _ | .ty _, .str _ | .ty _, .tup _ | .ty _, .ref _ | .ty _, .fn _ | .ty _, .cls _ => .isFalse (fun e => nomatch e)
def PV.decEqs : (a b : List PV) → Decidable (a = b)
  | [], [] => .isTrue rfl
  | [], _ :: _ => .isFalse (fun e => nomatch e)
  | _ :: _, [] => .isFalse (fun e => nomatch e)
  | a :: as, b :: bs => match PV.decEq a b with
    | .isFalse h => .isFalse (fun e => h (List.cons.inj e).1)
    | .isTrue h => match PV.decEqs as bs with
      | .isTrue h2 => .isTrue (by rw [h, h2])
      | .isFalse h2 => .isFalse (fun e => h2 (List.cons.inj e).2)
end
instance : DecidableEq PV := PV.decEq

/-- what stands in the store -/
inductive SO where
  | lst (xs : List PV) | frz (xs : List PV) | dic (kvs : List (PV × PV)) | ins (c : Nat) (fs : List (Str × PV)) | gone
  deriving DecidableEq, Inhabited

abbrev Store := List SO
abbrev Env := List (Option PV)

/-- an expression's end: a value, an error of the class c with its fields, or nothing that is told -/
inductive Res (α : Type) where
  | ok (a : α) (st : Store) | exc (c : Nat) (fs : List (Str × PV)) (st : Store) | bad
  deriving Inhabited
namespace Res
def bind {α β : Type} (r : Res α) (f : α → Store → Res β) : Res β := match r with
  | .ok a st => f a st
  | .exc c fs st => .exc c fs st
  | .bad => .bad
@[simp] theorem bind_ok {α β : Type} (a : α) (st : Store) (f : α → Store → Res β) : (Res.ok a st).bind f = f a st := rfl
@[simp] theorem bind_exc {α β : Type} (c : Nat) (fs : List (Str × PV)) (st : Store) (f : α → Store → Res β) : (Res.exc c fs st : Res α).bind f = .exc c fs st := rfl
@[simp] theorem bind_bad {α β : Type} (f : α → Store → Res β) : (Res.bad : Res α).bind f = .bad := rfl
end Res

/-- a statement's end -/
inductive Fl where
  | nx (ρ : Env) (st : Store) | rt (v : PV) (st : Store) | bk (ρ : Env) (st : Store) | ct (ρ : Env) (st : Store)
  | exc (c : Nat) (fs : List (Str × PV)) (ρ : Env) (st : Store) | bad
  deriving Inhabited
def Res.fl {α : Type} (r : Res α) (ρ : Env) (f : α → Store → Fl) : Fl := match r with
  | .ok a st => f a st
  | .exc c fs st => .exc c fs ρ st
  | .bad => .bad
@[simp] theorem Res.fl_ok {α : Type} (a : α) (st : Store) (ρ : Env) (f : α → Store → Fl) : (Res.ok a st).fl ρ f = f a st := rfl
@[simp] theorem Res.fl_exc {α : Type} (c : Nat) (fs : List (Str × PV)) (st : Store) (ρ : Env) (f : α → Store → Fl) : (Res.exc c fs st : Res α).fl ρ f = .exc c fs ρ st := rfl
@[simp] theorem Res.fl_bad {α : Type} (ρ : Env) (f : α → Store → Fl) : (Res.bad : Res α).fl ρ f = .bad := rfl

mutual
/-- a value as plain data: g reads the store's lists -/
def PV.data (g : Nat → Option PyData) : PV → Option PyData
  | .non => some .none
  | .bl b => some (.bool b)
  | .int i => some (.int i)
  | .str x => some (.str x)
  | .tup xs => (PV.datas g xs).map .tuple
  | .ref i => g i
  | .fn _ | .cls _ | .ty _ => none
def PV.datas (g : Nat → Option PyData) : List PV → Option (List PyData)
  | [] => some []
  | x :: xs => match PV.data g x with
    | some d => (PV.datas g xs).map (d :: ·)
    | none => none
end
/-- the list at i as data, lists in lists n deep -/
def rdL (st : Store) : Nat → Nat → Option PyData
  | 0, _ => none
  | n + 1, i => match st[i]? with
    | some (.lst xs) => (PV.datas (rdL st n) xs).map .list
    | some (.frz xs) => (PV.datas (rdL st n) xs).map .list
    | _ => none
abbrev dataIn (st : Store) (v : PV) : Option PyData := v.data (rdL st 64)
end MP
set_option linter.all false
namespace MP
open PySem

abbrev szl : Nat := 16777216

inductive Blt where
  | len | all | any | tuple | list | sorted | int | abs | isinst | repr | sum | min | max
  deriving DecidableEq, Inhabited
inductive Mth where
  | append | count | index | extend | pop
  deriving DecidableEq, Inhabited

/-- a target -/
inductive Tg where
  | nm (i : Nat) | tup (ts : List Tg)
  deriving Inhabited

mutual
inductive Ex where
  | lit (v : PV) | var (i : Nat)
  | tup (es : List Ex) | lx (a : Lx)
  | bin (op : Operator) (a b : Ex) | neg (a : Ex) | not (a : Ex)
  | and (a b : Ex) | or (a b : Ex)
  | cmp (op : CmpOp) (a b : Ex) | chain (op op' : CmpOp) (a b c : Ex)
  | ife (t a b : Ex)
  | call (k : Nat) (args : List Ex) | new (k : Nat) (args : List Ex) | callV (i : Nat) (args : List Ex)
  | thunk | lam (k : Nat) (body : Ex) | emp
  | blt (b : Blt) (args : List Ex) | blt1 (b : Blt) (a : Lx)
  | meth (m : Mth) (o : Ex) (args : List Ex)
  | isErr (i : Nat) (t : PV)
  | idx (o i : Ex) | slice (o : Ex) (lo hi : Option Ex)
  | attr (o : Ex) (f : Str)
/-- a list that is made here: a display, a comprehension, sorted(..), a sum of such; or any sequence -/
inductive Lx where
  | of (e : Ex) | lst (es : List Ex) | lc (own : List Nat) (elt : Ex) (tg : Tg) (it : It) (ifs : List Ex) | sorted (a : Lx) | cat (a b : Lx)
inductive It where
  | ex (e : Ex) | lx (a : Lx) | range1 (a : Ex) | range2 (a b : Ex) | enum (a : Ex) | zip (a b : Ex) | enumz (a b : Ex) | rev (a : Ex) | rrange1 (a : Ex)
end
instance : Inhabited Ex := ⟨.thunk⟩

inductive St where
  | asg (t : Tg) (e : Ex) | set (o i e : Ex) | expr (e : Ex) | ret (e : Ex) | retN
  | ife (c : Ex) (a b : List St)
  | for_ (t : Tg) (it : It) (body : List St) | while_ (c : Ex) (body : List St)
  | raise (k : Nat) (args : List Ex)
  | try_ (body : List St) (t : PV) (nm : Option Nat) (suite : List St)
  | aug (i : Nat) (op : Operator) (e : Ex)
  | pass | brk | cont
  deriving Inhabited

/-- what the text's own defs and classes do -/
structure Sig where
  fn : Nat → List PV → Store → Res PV
  lam : Nat → (Store → Res PV) → Store → Res PV
  nw : Nat → List PV → Store → Res PV
  sub : Nat → Nat → Bool
  isc : Nat → Bool
  ise : Nat → Bool
  ar : Nat → Option (Nat × Nat)
/-- where the code stands: the thunk at hand, the error at hand -/
structure Cn where
  S : Sig
  th : Option (Store → Res PV) := none
  er : Option (Nat × Nat × List (Str × PV)) := none
  pins : List Nat := []
  tab : Bool := false
  lv : Nat := 0
def Cn.bare (C : Cn) : Cn := ⟨C.S, none, none, C.pins, false, C.lv⟩
/-- in a lambda's body -/
def Cn.inLam (C : Cn) : Cn := ⟨C.S, none, none, C.pins, false, C.lv - 2⟩
/-- no exception goes through -/
def Res.calm {α : Type} : Res α → Res α
  | .exc _ _ _ => .bad
  | r => r
@[simp] theorem Res.calm_ok {α : Type} (a : α) (st : Store) : (Res.ok a st).calm = .ok a st := rfl
@[simp] theorem Res.calm_bad {α : Type} : (Res.bad : Res α).calm = .bad := rfl
@[simp] theorem Res.calm_exc {α : Type} (c : Nat) (fs : List (Str × PV)) (st : Store) : (Res.exc c fs st : Res α).calm = .bad := rfl

def tyB (isc : Nat → Bool) (t : String) : PV → Store → Option Bool := fun v st => match v with
  | .non => some false
  | .bl _ => some (t == "bool" || t == "int")
  | .int _ => some (t == "int")
  | .str _ => some (t == "str")
  | .tup _ => some (t == "tuple")
  | .ref i => match st[i]? with
    | some (.lst _) | some (.frz _) => some (t == "list")
    | some (.dic _) => some (t == "dict")
    | some (.ins c _) => if isc c then some false else none
    | _ => none
  | _ => none
def clsB (S : Sig) (k : Nat) : PV → Store → Option Bool := fun v st => match v with
  | .non | .bl _ | .int _ | .str _ | .tup _ => some false
  | .ref i => match st[i]? with
    | some (.lst _) | some (.frz _) | some (.dic _) => some false
    | some (.ins c _) => if S.isc c then some (S.sub c k) else none
    | _ => none
  | _ => none
def isInst (S : Sig) (v : PV) (t : PV) (st : Store) : Option Bool := match t with
  | .ty n => if ["int", "bool", "str", "tuple", "list", "dict"].contains n then tyB S.isc n v st else none
  | .cls k => if S.isc k then clsB S k v st else none
  | _ => none
def isInsts (S : Sig) (v : PV) (st : Store) : List PV → Option Bool
  | [] => some false
  | t :: ts => match isInst S v t st, isInsts S v st ts with
    | some a, some b => some (a || b)
    | _, _ => none

def eqPV (st : Store) (v w : PV) : Option Bool := match v, w with
  | .str a, .str b => some (decide (a = b))
  | .int a, .int b => some (decide (a = b))
  | v, w => match dataIn st v, dataIn st w with
  | some d, some e => if SeqAt.shaped d && SeqAt.shaped e then some (PyData.eqv d e) else none
  | _, _ => none
/-- x in ys -/
def memPV (st : Store) (x : PV) (ys : List PV) : Option Bool := match dataIn st x, PV.datas (rdL st 64) ys with
  | some d, some ds => if SeqAt.shaped d && PyData.canLayAll0 ds then some (ds.any fun z => PyData.eqv z d) else none
  | _, _ => none
def listAt (st : Store) (v : PV) : Option (List PV) := match v with
  | .ref i => match st[i]? with
    | some (.lst xs) | some (.frz xs) => some xs
    | _ => none
  | _ => none
/-- a list that is no frozen one -/
def lstAt (st : Store) (v : PV) : Option (List PV) := match v with
  | .ref i => match st[i]? with
    | some (.lst xs) => some xs
    | _ => none
  | _ => none
/-- a sequence's items: a tuple, a list -/
def seqOf (st : Store) (v : PV) : Option (List PV) := match v with
  | .tup xs => some xs
  | v => listAt st v

def intsOf : List PV → Option (List Int)
  | [] => some []
  | .int i :: r => (intsOf r).map (i :: ·)
  | _ => none
def ltI : List Int → List Int → Bool
  | [], [] => false
  | [], _ :: _ => true
  | _ :: _, [] => false
  | x :: xs, y :: ys => if x = y then ltI xs ys else decide (x < y)

def ofOpt {α : Type} (o : Option α) (st : Store) : Res α := match o with
  | some a => .ok a st
  | none => .bad
@[simp] theorem ofOpt_some {α : Type} (a : α) (st : Store) : ofOpt (some a) st = .ok a st := rfl
@[simp] theorem ofOpt_none {α : Type} (st : Store) : ofOpt (none : Option α) st = .bad := rfl
def ofOptB (o : Option Bool) (st : Store) : Res PV := match o with
  | some a => .ok (.bl a) st
  | none => .bad
@[simp] theorem ofOptB_some (a : Bool) (st : Store) : ofOptB (some a) st = .ok (.bl a) st := rfl
@[simp] theorem ofOptB_none (st : Store) : ofOptB none st = .bad := rfl

/-- a new list -/
def newL (xs : List PV) (st : Store) : Res PV := .ok (.ref st.length) (st ++ [.lst xs])

def binOp (op : Operator) (v w : PV) (st : Store) : Res PV := match op, v, w with
  | .Add, .int a, .int b => .ok (.int (a + b)) st
  | .Sub, .int a, .int b => .ok (.int (a - b)) st
  | .Mult, .int a, .int b => if a.natAbs.log2 + b.natAbs.log2 < 100000000 then .ok (.int (a * b)) st else .bad
  | .FloorDiv, .int a, .int b => if 0 < b ∧ b.natAbs.log2 < 9000 then .ok (.int (a / b)) st else .bad
  | .Mod, .int a, .int b => if 0 < b then .ok (.int (a % b)) st else .bad
  | .Pow, .int a, .int b => if 0 ≤ b ∧ b ≤ 1000000 ∧ a.natAbs < 2 ^ 64 then .ok (.int (a ^ b.toNat)) st else .bad
  | .Add, .tup a, .tup b => if a.length + b.length ≤ szl then .ok (.tup (a ++ b)) st else .bad
  | .Mult, .tup a, .int b => if a ≠ [] ∧ 2 ≤ b ∧ b ≤ 1000 ∧ a.length ≤ 1000 then .ok (.tup (List.replicate b.toNat a).flatten) st else .bad
  | .Add, .ref i, .ref j => match st[i]?, st[j]? with
    | some (.lst a), some (.lst b) => if a.length + b.length ≤ szl then newL (a ++ b) st else .bad
    | _, _ => .bad
  | .Mult, .ref i, .int b => match st[i]? with
    | some (.lst a) => if -(2 ^ 62) ≤ b ∧ b < 2 ^ 62 ∧ a.length * b.toNat ≤ szl then newL (List.replicate b.toNat a).flatten st else .bad
    | _ => .bad
  | _, _, _ => .bad
def negOp (v : PV) (st : Store) : Res PV := match v with
  | .int a => .ok (.int (-a)) st
  | _ => .bad
def cmpOp (op : CmpOp) (v w : PV) (st : Store) : Res PV := match op with
  | .Lt => match v, w with
    | .int a, .int b => .ok (.bl (decide (a < b))) st
    | .tup a, .tup b => match intsOf a, intsOf b with
      | some ns, some ms => .ok (.bl (ltI ns ms)) st
      | _, _ => .bad
    | _, _ => .bad
  | .LtE => match v, w with
    | .int a, .int b => .ok (.bl (decide (a ≤ b))) st
    | _, _ => .bad
  | .Gt => match v, w with
    | .int a, .int b => .ok (.bl (decide (b < a))) st
    | _, _ => .bad
  | .GtE => match v, w with
    | .int a, .int b => .ok (.bl (decide (b ≤ a))) st
    | _, _ => .bad
  | .Eq => ofOptB (eqPV st v w) st
  | .NotEq => ofOptB ((eqPV st v w).map (!·)) st
  | .In => match seqOf st w with
    | some ys => ofOptB (memPV st v ys) st
    | none => .bad
  | .NotIn => match seqOf st w with
    | some ys => ofOptB ((memPV st v ys).map (!·)) st
    | none => .bad
  | .Is => match w with
    | .non => .ok (.bl (decide (v = .non))) st
    | .bl b => match v with
      | .bl a => .ok (.bl (decide (a = b))) st
      | _ => .bad
    | _ => .bad
  | .IsNot => match w with
    | .non => .ok (.bl (!decide (v = .non))) st
    | .bl b => match v with
      | .bl a => .ok (.bl (!decide (a = b))) st
      | _ => .bad
    | _ => .bad

def ixOf (n : Nat) (i : Int) : Option Nat := if 0 ≤ i then (if i < n then some i.toNat else none) else if -(n : Int) ≤ i then some (i + n).toNat else none
def idxOp (v w : PV) (st : Store) : Res PV := match w with
  | .int i => match seqOf st v with
    | some xs => match ixOf xs.length i with
      | some j => ofOpt xs[j]? st
      | none => .bad
    | none => .bad
  | _ => .bad
def sIx (n d : Nat) : Option Int → Nat
  | none => d
  | some v => if v < 0 then (v + (n : Int)).toNat else min v.toNat n
def cutP (xs : List PV) (lo hi : Option Int) : List PV := (xs.drop (sIx xs.length 0 lo)).take (sIx xs.length xs.length hi - sIx xs.length 0 lo)
def sliceOp (v : PV) (lo hi : Option Int) (st : Store) : Res PV := match v with
  | .tup xs => .ok (.tup (cutP xs lo hi)) st
  | .ref i => match listAt st (.ref i) with
    | some xs => newL (cutP xs lo hi) st
    | none => .bad
  | _ => .bad
def setOp (o i v : PV) (st : Store) : Res PV := match o, i with
  | .ref a, .int k => match st[a]? with
    | some (.lst xs) => match ixOf xs.length k with
      | some j => .ok .non (st.set a (.lst (xs.set j v)))
      | none => .bad
    | _ => .bad
  | _, _ => .bad

def allB : List PV → Option Bool
  | [] => some true
  | .bl b :: r => (allB r).map (b && ·)
  | _ => none
def anyB : List PV → Option Bool
  | [] => some false
  | .bl b :: r => (anyB r).map (b || ·)
  | _ => none
def insI (x : Int) : List Int → List Int
  | [] => [x]
  | y :: r => if x ≤ y then x :: y :: r else y :: insI x r
def sortI : List Int → List Int
  | [] => []
  | x :: r => insI x (sortI r)
def sortP (xs : List PV) : Option (List PV) := (intsOf xs).map fun ns => (sortI ns).map .int

/-- a built-in that only reads a sequence -/
def blt1 (S : Sig) (b : Blt) (xs : List PV) (st : Store) : Res PV := match b with
  | .all => ofOptB (allB xs) st
  | .any => ofOptB (anyB xs) st
  | .tuple => .ok (.tup xs) st
  | .len => .ok (.int xs.length) st
  | .sum => match intsOf xs with
    | some ns => .ok (.int ns.sum) st
    | none => .bad
  | .sorted => match sortP xs with
    | some ys => newL ys st
    | none => .bad
  | .list => newL xs st
  | _ => .bad
mutual
/-- a bound of a text's length -/
def rw_ : PyData → Nat
  | .none => 4
  | .bool _ => 5
  | .int i => i.natAbs.log2 + 2
  | .str x => 10 * x.length + 2
  | .list xs => rws xs + 3
  | .tuple xs => rws xs + 3
  | .dict _ => 16777217
def rws : List PyData → Nat
  | [] => 0
  | x :: xs => rw_ x + 2 + rws xs
end
def reprOk (d : PyData) : Bool := d.showable && (d.canLay0 && (decide (d.depth ≤ 64) && decide (rw_ d ≤ szl)))
def reprOp (v : PV) (st : Store) : Res PV := match v with
  | .ref i => match st[i]? with
    | some (.dic []) => .ok (.str (PyData.shown (.dict []))) st
    | _ => match dataIn st v with
      | some d => if reprOk d then .ok (.str d.shown) st else .bad
      | none => .bad
  | v => match dataIn st v with
    | some d => if reprOk d then .ok (.str d.shown) st else .bad
    | none => .bad
def bltOp (S : Sig) (b : Blt) (args : List PV) (st : Store) : Res PV := match b, args with
  | .len, [v] => match v with
    | .ref i => match st[i]? with
      | some (.lst xs) | some (.frz xs) => .ok (.int xs.length) st
      | some (.dic kvs) => .ok (.int kvs.length) st
      | _ => .bad
    | .tup xs => .ok (.int xs.length) st
    | _ => .bad
  | .int, [v] => match v with
    | .int i => .ok (.int i) st
    | .bl b => .ok (.int (if b then 1 else 0)) st
    | _ => .bad
  | .abs, [v] => match v with
    | .int i => .ok (.int (if i < 0 then -i else i)) st
    | _ => .bad
  | .isinst, [v, t] => match t with
    | .tup (t :: ts) => ofOptB (isInsts S v st (t :: ts)) st
    | t => ofOptB (isInst S v t st) st
  | .repr, [v] => reprOp v st
  | .min, [v, w] => match v, w with
    | .int a, .int b => .ok (.int (if b < a then b else a)) st
    | _, _ => .bad
  | .max, [v, w] => match v, w with
    | .int a, .int b => .ok (.int (if b > a then b else a)) st
    | _, _ => .bad
  | .tuple, [v] => match v with
    | .tup xs => .ok (.tup xs) st
    | v => match listAt st v with
      | some xs => blt1 S .tuple xs st
      | none => .bad
  | .list, [v] => match seqOf st v with
    | some xs => newL xs st
    | none => .bad
  | b, [v] => match listAt st v with
    | some xs => blt1 S b xs st
    | none => .bad
  | _, _ => .bad
def countP (st : Store) (x : PV) (ys : List PV) : Option Nat := match dataIn st x, PV.datas (rdL st 64) ys with
  | some d, some ds => if SeqAt.shaped d && PyData.canLayAll0 ds then some (ds.countP fun z => PyData.eqv z d) else none
  | _, _ => none
def indexP (st : Store) (x : PV) (ys : List PV) : Option Nat := match dataIn st x, PV.datas (rdL st 64) ys with
  | some d, some ds => if SeqAt.shaped d && SeqAt.shaped (.list ds) then ds.findIdx? (fun z => PyData.eqv z d) else none
  | _, _ => none
def mthOp (m : Mth) (o : PV) (args : List PV) (st : Store) : Res PV := match o with
  | .ref a => match st[a]?, m, args with
    | some (.lst xs), .append, [v] => if xs.length < szl then .ok .non (st.set a (.lst (xs ++ [v]))) else .bad
    | some (.lst xs), .extend, [.ref b] => match st[b]? with
      | some (.lst ys) => if xs.length + ys.length ≤ szl ∧ a ≠ b then .ok .non (st.set a (.lst (xs ++ ys))) else .bad
      | _ => .bad
    | some (.lst xs), .pop, [] => match xs.getLast? with
      | some v => .ok v (st.set a (.lst xs.dropLast))
      | none => .bad
    | some (.lst xs), .count, [v] => match countP st v xs with
      | some n => .ok (.int n) st
      | none => .bad
    | some (.lst xs), .index, [v] => match indexP st v xs with
      | some n => .ok (.int n) st
      | none => .bad
    | _, _, _ => .bad
  | _ => .bad
def attrOp (v : PV) (f : Str) (st : Store) : Res PV := match v with
  | .ref a => match st[a]? with
    | some (.ins _ fs) => ofOpt (fs.lookup f) st
    | _ => .bad
  | _ => .bad

mutual
def Tg.put : Tg → PV → Env → Option Env
  | .nm i, v, ρ => if i < ρ.length then some (ρ.set i (some v)) else none
  | .tup ts, .tup vs, ρ => Tg.puts ts vs ρ
  | .tup _, _, _ => none
def Tg.puts : List Tg → List PV → Env → Option Env
  | [], [], ρ => some ρ
  | t :: ts, v :: vs, ρ => match Tg.put t v ρ with
    | some ρ' => Tg.puts ts vs ρ'
    | none => none
  | _, _, _ => none
end
mutual
def Tg.vars : Tg → List Nat
  | .nm i => [i]
  | .tup ts => Tg.varss ts
def Tg.varss : List Tg → List Nat
  | [] => []
  | t :: ts => Tg.vars t ++ Tg.varss ts
end
def wipe (ρ : Env) : List Nat → Env
  | [] => ρ
  | i :: is => wipe (ρ.set i none) is

/-- what is walked: its items, and the lists that must stay meanwhile -/
structure Src where
  items : List PV
  watch : List (Nat × List PV) := []
def Src.ok (s : List (Nat × List PV)) (st : Store) : Bool := s.all fun p => decide (st[p.1]? = some (.lst p.2)) || decide (st[p.1]? = some (.frz p.2))
def enumFrom : Nat → List PV → List PV
  | _, [] => []
  | n, x :: xs => .tup [.int n, x] :: enumFrom (n + 1) xs
def zipP : List PV → List PV → List PV
  | x :: xs, y :: ys => .tup [x, y] :: zipP xs ys
  | _, _ => []
def rangeP (lo : Int) (n : Nat) : List PV := (List.range n).map fun (i : Nat) => PV.int (lo + (i : Int))
def srcOf (st : Store) (v : PV) : Option Src := match v with
  | .tup xs => some ⟨xs, []⟩
  | .ref i => match st[i]? with
    | some (.lst xs) | some (.frz xs) => some ⟨xs, [(i, xs)]⟩
    | _ => none
  | _ => none

/-- a comprehension's turns -/
def lcLoop (w : List (Nat × List PV)) (body : PV → Store → Res (Option PV)) : List PV → List PV → Store → Res (List PV)
  | [], acc, st => if Src.ok w st then .ok acc st else .bad
  | x :: r, acc, st => if Src.ok w st then (body x st).bind fun o st' => match o with
      | some v => lcLoop w body r (acc ++ [v]) st'
      | none => lcLoop w body r acc st'
    else .bad
/-- a for's turns -/
def forLoop (w : List (Nat × List PV)) (put : PV → Env → Option Env) (body : Env → Store → Fl) : List PV → Env → Store → Fl
  | [], ρ, st => if Src.ok w st then .nx ρ st else .bad
  | x :: r, ρ, st => if Src.ok w st then match put x ρ with
      | some ρ' => match body ρ' st with
        | .nx ρ2 st2 => forLoop w put body r ρ2 st2
        | .ct ρ2 st2 => forLoop w put body r ρ2 st2
        | .bk ρ2 st2 => .nx ρ2 st2
        | f => f
      | none => .bad
    else .bad
def whileLoop (test : Env → Store → Res PV) (body : Env → Store → Fl) : Nat → Env → Store → Fl
  | 0, _, _ => .bad
  | n + 1, ρ, st => (test ρ st).fl ρ fun v st1 => match v with
    | .bl true => match body ρ st1 with
      | .nx ρ2 st2 => whileLoop test body n ρ2 st2
      | .ct ρ2 st2 => whileLoop test body n ρ2 st2
      | .bk ρ2 st2 => .nx ρ2 st2
      | f => f
    | .bl false => .nx ρ st1
    | _ => .bad
def wfuel : Nat := 10000000

/-- by a bool -/
def ifB {α : Type} (v : PV) (f g : Res α) : Res α := match v with
  | .bl true => f
  | .bl false => g
  | _ => .bad
@[simp] theorem ifB_true {α : Type} (f g : Res α) : ifB (.bl true) f g = f := rfl
@[simp] theorem ifB_false {α : Type} (f g : Res α) : ifB (.bl false) f g = g := rfl
def ifF (v : PV) (f g : Fl) : Fl := match v with
  | .bl true => f
  | .bl false => g
  | _ => .bad
@[simp] theorem ifF_true (f g : Fl) : ifF (.bl true) f g = f := rfl
@[simp] theorem ifF_false (f g : Fl) : ifF (.bl false) f g = g := rfl

mutual
def ev (C : Cn) : Ex → Env → Store → Res PV
  | .lit v, _, st => .ok v st
  | .var i, ρ, st => match ρ[i]? with
    | some (some v) => .ok v st
    | _ => .bad
  | .tup es, ρ, st => (evs C es ρ st).bind fun vs st => .ok (.tup vs) st
  | .lx a, ρ, st => (evL C a ρ st).bind fun vs st => newL vs st
  | .bin op a b, ρ, st => (ev C a ρ st).bind fun v st => (ev C b ρ st).bind fun w st => binOp op v w st
  | .neg a, ρ, st => (ev C a ρ st).bind fun v st => negOp v st
  | .not a, ρ, st => (ev C a ρ st).bind fun v st => match v with
    | .bl b => .ok (.bl (!b)) st
    | _ => .bad
  | .and a b, ρ, st => (ev C a ρ st).bind fun v st => ifB v (ev C b ρ st) (.ok (.bl false) st)
  | .or a b, ρ, st => (ev C a ρ st).bind fun v st => ifB v (.ok (.bl true) st) (ev C b ρ st)
  | .cmp op a b, ρ, st => (ev C a ρ st).bind fun v st => (ev C b ρ st).bind fun w st => cmpOp op v w st
  | .chain op op' a b c, ρ, st => (ev C a ρ st).bind fun v st => (ev C b ρ st).bind fun w st => (cmpOp op v w st).bind fun r st => ifB r ((ev C c ρ st).bind fun z st => cmpOp op' w z st) (.ok (.bl false) st)
  | .ife t a b, ρ, st => (ev C t ρ st).bind fun v st => ifB v (ev C a ρ st) (ev C b ρ st)
  | .call k args, ρ, st => (evs C args ρ st).bind fun vs st => C.S.fn k vs st
  | .new k args, ρ, st => (evs C args ρ st).bind fun vs st => C.S.nw k vs st
  | .callV i args, ρ, st => match ρ[i]? with
    | some (some (.fn k)) => match C.S.ar k with
      | some (n, l) => if args.length = n ∧ l ≤ C.lv then (evs C args ρ st).bind fun vs st => C.S.fn k vs st else .bad
      | none => .bad
    | _ => .bad
  | .thunk, _, st => match C.th with
    | some t => t st
    | none => .bad
  | .emp, _, st => .ok (.ref st.length) (st ++ [.dic []])
  | .lam k body, ρ, st => if C.tab then (C.S.lam k (fun st' => ev C.inLam body ρ st') st).calm else .bad
  | .blt b args, ρ, st => (evs C args ρ st).bind fun vs st => bltOp C.S b vs st
  | .blt1 b a, ρ, st => (evL C a ρ st).bind fun xs st => blt1 C.S b xs st
  | .meth m o args, ρ, st => (ev C o ρ st).bind fun v st => match lstAt st v with
    | some _ => (evs C args ρ st).bind fun vs st => mthOp m v vs st
    | none => .bad
  | .isErr i t, _, st => match C.er, t with
    | some (j, c, []), .cls k => if i = j ∧ C.S.ise c = true ∧ C.S.ise k = true then .ok (.bl (C.S.sub c k)) st else .bad
    | some (j, c, []), .ty n => if i = j ∧ C.S.ise c = true ∧ n = "ValueError" then .ok (.bl true) st else .bad
    | _, _ => .bad
  | .idx o i, ρ, st => (ev C o ρ st).bind fun v st => (ev C i ρ st).bind fun w st => idxOp v w st
  | .slice o lo hi, ρ, st => (ev C o ρ st).bind fun v st => (evO C lo ρ st).bind fun l st => (evO C hi ρ st).bind fun h st => sliceOp v l h st
  | .attr o f, ρ, st => (ev C o ρ st).bind fun v st => attrOp v f st
/-- a list that is only read -/
def evL (C : Cn) : Lx → Env → Store → Res (List PV)
  | .of e, ρ, st => (ev C e ρ st).bind fun v st => ofOpt (lstAt st v) st
  | .lst es, ρ, st => evs C es ρ st
  | .lc own elt tg it ifs, ρ, st => if C.pins.any own.contains then .bad else (evI C it ρ st).bind fun s st =>
      lcLoop s.watch (fun x st => match tg.put x (wipe ρ own) with
        | some ρ' => ((evT C.bare ifs ρ' st).bind fun k st => match k with
          | true => (ev C.bare elt ρ' st).bind fun v st => .ok (some v) st
          | false => .ok none st).calm
        | none => .bad) s.items [] st
  | .sorted a, ρ, st => (evL C a ρ st).bind fun xs st => ofOpt (sortP xs) st
  | .cat a b, ρ, st => (evL C a ρ st).bind fun xs st => (evL C b ρ st).bind fun ys st => if xs.length + ys.length ≤ szl then .ok (xs ++ ys) st else .bad
def evs (C : Cn) : List Ex → Env → Store → Res (List PV)
  | [], _, st => .ok [] st
  | e :: es, ρ, st => (ev C e ρ st).bind fun v st => (evs C es ρ st).bind fun vs st => .ok (v :: vs) st
def evO (C : Cn) : Option Ex → Env → Store → Res (Option Int)
  | none, _, st => .ok none st
  | some e, ρ, st => (ev C e ρ st).bind fun v st => match v with
    | .int i => .ok (some i) st
    | _ => .bad
/-- a comprehension's tests -/
def evT (C : Cn) : List Ex → Env → Store → Res Bool
  | [], _, st => .ok true st
  | e :: es, ρ, st => (ev C e ρ st).bind fun v st => ifB v (evT C es ρ st) (.ok false st)
def evI (C : Cn) : It → Env → Store → Res Src
  | .ex e, ρ, st => (ev C e ρ st).bind fun v st => ofOpt (srcOf st v) st
  | .lx a, ρ, st => (evL C a ρ st).bind fun xs st => .ok ⟨xs, []⟩ st
  | .range1 a, ρ, st => (ev C a ρ st).bind fun v st => match v with
    | .int j => if -(2 ^ 62) ≤ j ∧ j ≤ szl then .ok ⟨rangeP 0 j.toNat, []⟩ st else .bad
    | _ => .bad
  | .range2 a b, ρ, st => (ev C a ρ st).bind fun v st => (ev C b ρ st).bind fun w st => match v, w with
    | .int i, .int j => if -(2 ^ 61) ≤ i ∧ i < 2 ^ 61 ∧ -(2 ^ 61) ≤ j ∧ j < 2 ^ 61 ∧ j - i ≤ szl then .ok ⟨rangeP i (j - i).toNat, []⟩ st else .bad
    | _, _ => .bad
  | .enum a, ρ, st => (ev C a ρ st).bind fun v st => match srcOf st v with
    | some s => .ok ⟨enumFrom 0 s.items, s.watch⟩ st
    | none => .bad
  | .zip a b, ρ, st => (ev C a ρ st).bind fun v st => (ev C b ρ st).bind fun w st => match srcOf st v, srcOf st w with
    | some s, some t => .ok ⟨zipP s.items t.items, s.watch ++ t.watch⟩ st
    | _, _ => .bad
  | .enumz a b, ρ, st => (ev C a ρ st).bind fun v st => (ev C b ρ st).bind fun w st => match srcOf st v, srcOf st w with
    | some s, some t => .ok ⟨enumFrom 0 (zipP s.items t.items), s.watch ++ t.watch⟩ st
    | _, _ => .bad
  | .rev a, ρ, st => (ev C a ρ st).bind fun v st => match srcOf st v with
    | some s => .ok ⟨s.items.reverse, s.watch⟩ st
    | none => .bad
  | .rrange1 a, ρ, st => (ev C a ρ st).bind fun v st => match v with
    | .int j => if -(2 ^ 61) ≤ j ∧ j ≤ szl then .ok ⟨(rangeP 0 j.toNat).reverse, []⟩ st else .bad
    | _ => .bad
end

def errOk (S : Sig) (c : Nat) (t : PV) : Option Bool := match t with
  | .cls k => if S.ise c && S.ise k then some (S.sub c k) else none
  | _ => none
mutual
def exS (C : Cn) : St → Env → Store → Fl
  | .asg t e, ρ, st => if C.pins.any t.vars.contains then .bad else (ev C e ρ st).fl ρ fun v st => match t.put v ρ with
    | some ρ' => .nx ρ' st
    | none => .bad
  | .set o i e, ρ, st => (ev C e ρ st).fl ρ fun v st => (ev C o ρ st).fl ρ fun a st => (ev C i ρ st).fl ρ fun k st => (setOp a k v st).fl ρ fun _ st => .nx ρ st
  | .expr e, ρ, st => (ev C e ρ st).fl ρ fun _ st => .nx ρ st
  | .ret e, ρ, st => (ev C e ρ st).fl ρ fun v st => .rt v st
  | .retN, _, st => .rt .non st
  | .ife c a b, ρ, st => (ev C c ρ st).fl ρ fun v st => ifF v (exs C a ρ st) (exs C b ρ st)
  | .for_ t it body, ρ, st => if C.pins.any t.vars.contains then .bad else (evI C it ρ st).fl ρ fun s st => forLoop s.watch (fun x ρ => t.put x ρ) (fun ρ st => exs C body ρ st) s.items ρ st
  | .while_ c body, ρ, st => whileLoop (fun ρ st => ev C c ρ st) (fun ρ st => exs C body ρ st) wfuel ρ st
  | .raise k args, ρ, st => (evs C args ρ st).fl ρ fun vs st => match vs with
    | [] => if C.S.ise k then .exc k [] ρ st else .bad
    | _ => .bad
  | .try_ body t nm suite, ρ, st => match exs C body ρ st with
    | .exc c fs ρ2 st2 => match errOk C.S c t with
      | some true => match fs, nm with
        | [], some i => if C.pins.contains i ∨ ρ2.length ≤ i then .bad else match exs ⟨C.S, none, some (i, c, []), i :: C.pins, false, 0⟩ suite (ρ2.set i none) st2 with
          | .nx ρ3 st3 => .nx (ρ3.set i none) st3
          | .rt v st3 => .rt v st3
          | _ => .bad
        | _, none => match exs ⟨C.S, none, none, C.pins, false, 0⟩ suite ρ2 st2 with
          | .nx ρ3 st3 => .nx ρ3 st3
          | .rt v st3 => .rt v st3
          | _ => .bad
        | _, _ => .bad
      | some false => .exc c fs ρ2 st2
      | none => .bad
    | f => f
  | .aug i op e, ρ, st => if C.pins.contains i then .bad else match ρ[i]? with
    | some (some v) => (ev C e ρ st).fl ρ fun w st => match op, v, w with
      | .Add, .int a, .int b => .nx (ρ.set i (some (.int (a + b)))) st
      | .Sub, .int a, .int b => .nx (ρ.set i (some (.int (a - b)))) st
      | _, _, _ => .bad
    | _ => .bad
  | .pass, ρ, st => .nx ρ st
  | .brk, ρ, st => .bk ρ st
  | .cont, ρ, st => .ct ρ st
def exs (C : Cn) : List St → Env → Store → Fl
  | [], ρ, st => .nx ρ st
  | s :: ss, ρ, st => match exS C s ρ st with
    | .nx ρ' st' => exs C ss ρ' st'
    | f => f
end
/-- a def's body at its arguments: n names in all -/
def runBody (C : Cn) (n : Nat) (body : List St) (vs : List PV) (st : Store) : Res PV :=
  match exs C body (vs.map some ++ List.replicate (n - vs.length) none) st with
  | .nx _ st => .ok .non st
  | .rt v st => .ok v st
  | .exc c fs _ st => .exc c fs st
  | _ => .bad
/-- a helper's body: its one parameter is a lambda, called in it -/
def runThunk (S : Sig) (lv n : Nat) (body : List St) (r : Store → Res PV) (st : Store) : Res PV :=
  match exs ⟨S, some r, none, [0], false, lv⟩ body (List.replicate n none) st with
  | .nx _ st => .ok .non st
  | .rt v st => .ok v st
  | _ => .bad
end MP
set_option linter.all false
set_option Elab.async false
set_option maxRecDepth 100000
namespace MP
open PySem PySem.Spec PyProof.Rows L2

theorem szl_eq : szl = sizeLine := by rw [sizeLine_eq]

/-- where the text's defs and classes stand; the tables of code objects -/
structure Ad where
  fa : Nat → Addr
  ca : Nat → Addr
  tabs : List (Addr × Str)
  pins : List (Nat × Addr) := []
  kp : List (Addr × Str) := []
  sn : Option (List Addr × Hp) := none
/-- the tables of code objects, and the code objects that are known -/
def TabK (A : Ad) (H : Hp) : Prop := LamX.Tabs A.tabs H ∧ ∀ p ∈ A.kp, H p.1 = some (LamX.CodeO p.1 p.2)
theorem TabK.ext {A : Ad} {H H' : Hp} (t : TabK A H) (e : ∀ b o, H b = some o → H' b = some o) : TabK A H' := ⟨t.1.ext e, fun p hp => e _ _ (t.2 p hp)⟩
/-- an object that is neither changes -/
theorem TabK.upd {A : Ad} {H : Hp} {a : Addr} {w u : HO} (t : TabK A H) (hu : H a = some w) (nt : ∀ ps, w ≠ .tbl ps) (nc : ∀ q, w ≠ LamX.CodeO a q) : TabK A (L2.upd H a u) := by
  refine ⟨fun p hp => ?_, fun p hp => ?_⟩
  · obtain ⟨ps, e1, e2, e3⟩ := t.1 p hp
    refine ⟨ps, ?_, e2, fun pos cv hc => ?_⟩
    · rw [upd_ne (fun q => nt ps (by rw [q, hu] at e1; exact Option.some.inj e1))]; exact e1
    · obtain ⟨c, q1, q2⟩ := e3 pos cv hc
      refine ⟨c, q1, ?_⟩
      rw [upd_ne (fun q => nc p.2 (by rw [q, hu] at q2; exact Option.some.inj q2))]; exact q2
  · have e1 := t.2 p hp
    rw [upd_ne (fun q => nc p.2 (by rw [q, hu] at e1; exact Option.some.inj e1))]; exact e1

section
variable (K : PySem.W.Frag) (A : Ad)
mutual
def RV (H : Hp) (m : List Addr) : PV → V → Prop
  | .non, v => v = .non
  | .bl b, v => v = .bl b
  | .int i, v => v = .int i
  | .str x, v => v = .str x
  | .tup xs, v => ∃ a ys, v = .ref a ∧ SqT K H a ys ∧ xs.length ≤ szl ∧ RVs H m xs ys
  | .ref i, v => ∃ a, m[i]? = some a ∧ v = .ref a
  | .fn k, v => v = .ref (A.fa k)
  | .cls k, v => v = .ref (A.ca k)
  | .ty n, v => v = .ty n
def RVs (H : Hp) (m : List Addr) : List PV → List V → Prop
  | [], ys => ys = []
  | x :: xs, ys => ∃ y r, ys = y :: r ∧ RV H m x y ∧ RVs H m xs r
end
def FR (H : Hp) (m : List Addr) : List (Str × PV) → List (Str × V) → Prop
  | [], gs => gs = []
  | (f, x) :: fs, gs => ∃ y r, gs = (f, y) :: r ∧ RV K A H m x y ∧ FR H m fs r
def OR (H : Hp) (m : List Addr) : SO → Addr → Prop
  | .lst xs, a => ∃ ys, H a = some (.lst ys) ∧ xs.length ≤ szl ∧ RVs K A H m xs ys
  | .frz xs, a => ∃ o ys, H a = some (.frz o (.lst ys)) ∧ xs.length ≤ szl ∧ RVs K A H m xs ys
  | .dic kvs, a => kvs = [] ∧ H a = some (.dK [])
  | .ins c fs, a => ∃ dx gs, H a = some (.ins (A.ca c) dx gs) ∧ FR K A H m fs gs
  | .gone, _ => False
/-- what stays: more objects, and all that the store does not have -/
structure Later (m : List Addr) (H : Hp) (m' : List Addr) (H' : Hp) : Prop where
  ex : ∃ more, m' = m ++ more ∧ ∀ a ∈ more, H a = none
  fr : ∀ a o, H a = some o → a ∉ m → (∀ ps, o ≠ .tbl ps) → H' a = some o
  al : ∀ a, H a ≠ none → H' a ≠ none
/-- the store st stands in H, its i-th object at m[i] -/
structure Sim (m : List Addr) (st : Store) (H : Hp) : Prop where
  len : m.length = st.length
  nd : m.Nodup
  at_ : ∀ (i : Nat) (o : SO) (a : Addr), st[i]? = some o → m[i]? = some a → OR K A H m o a
  tb : TabK A H
  sn : ∀ q, A.sn = some q → Later q.1 q.2 m H
end
theorem Later.refl (m : List Addr) (H : Hp) : Later m H m H := ⟨⟨[], by simp, by simp⟩, fun _ _ h _ _ => h, fun _ h => h⟩
theorem Later.trans {m m1 m2 : List Addr} {H H1 H2 : Hp} (a : Later m H m1 H1) (b : Later m1 H1 m2 H2) : Later m H m2 H2 := by
  obtain ⟨⟨e1, r1, f1⟩, g1, a1⟩ := a
  obtain ⟨⟨e2, r2, f2⟩, g2, a2⟩ := b
  have fresh2 : ∀ x ∈ e2, H x = none := fun x hx => by
    cases q : H x with
    | none => rfl
    | some o => exact absurd (f2 x hx) (a1 x (by rw [q]; simp))
  refine ⟨⟨e1 ++ e2, by rw [r2, r1, List.append_assoc], fun x hx => ?_⟩, fun x o hx hm ht => ?_, fun x hx => a2 x (a1 x hx)⟩
  · rcases List.mem_append.mp hx with h | h
    · exact f1 x h
    · exact fresh2 x h
  · refine g2 x o (g1 x o hx hm ht) ?_ ht
    rw [r1]
    intro h
    rcases List.mem_append.mp h with h | h
    · exact hm h
    · rw [f1 x h] at hx; cases hx
/-- a new list comes into the store -/
theorem Later.take {m m' : List Addr} {H H' : Hp} {p : Addr} (l : Later m H m' H') (hn : H p = none) : Later m H (m' ++ [p]) H' := by
  obtain ⟨⟨more, l1, l2⟩, l3, l4⟩ := l
  exact ⟨⟨more ++ [p], by rw [l1, List.append_assoc], fun b hb => by
      rcases List.mem_append.mp hb with hb | hb
      · exact l2 b hb
      · rw [List.mem_singleton.mp hb]; exact hn⟩, l3, l4⟩
theorem Later.get {m m' : List Addr} {H H' : Hp} (l : Later m H m' H') {i : Nat} {a : Addr} (h : m[i]? = some a) : m'[i]? = some a := by
  obtain ⟨more, e, _⟩ := l.ex
  rw [e]
  have hi : i < m.length := by
    by_cases hi : i < m.length
    · exact hi
    · rw [List.getElem?_eq_none (by omega)] at h; cases h
  rw [List.getElem?_append_left hi]
  exact h

section
variable {K : PySem.W.Frag} {A : Ad} {m m' : List Addr} {st st' : Store} {H H' : Hp}
/-- an object of the store is in use -/
theorem Sim.use (S : Sim K A m st H) {a : Addr} (hm : a ∈ m) : ∃ o, H a = some o ∧ (∀ zs, o ≠ .tup zs) ∧ ∀ ob zs, o ≠ .frz ob (.tup zs) := by
  obtain ⟨i, hi, e⟩ := List.mem_iff_getElem.mp hm
  have hi2 : i < st.length := by rw [← S.len]; exact hi
  have o := S.at_ i st[i] a (List.getElem?_eq_getElem hi2) (by rw [List.getElem?_eq_getElem hi, e])
  cases q : st[i] with
  | lst xs => rw [q] at o; obtain ⟨zs, hz, _⟩ := o; exact ⟨_, hz, (fun _ e => nomatch e), (fun _ _ e => nomatch e)⟩
  | frz xs => rw [q] at o; obtain ⟨ob, zs, hz, _⟩ := o; exact ⟨_, hz, (fun _ e => nomatch e), (fun _ _ e => nomatch e)⟩
  | dic kvs => rw [q] at o; obtain ⟨_, hz⟩ := o; exact ⟨_, hz, (fun _ e => nomatch e), (fun _ _ e => nomatch e)⟩
  | ins c fs => rw [q] at o; obtain ⟨_, _, hz, _⟩ := o; exact ⟨_, hz, (fun _ e => nomatch e), (fun _ _ e => nomatch e)⟩
  | gone => rw [q] at o; exact o.elim
theorem Sim.nord (S : Sim K A m st H) {a : Addr} {zs : List V} (r : Rd H a (.tup zs)) : a ∉ m := fun hm => by
  obtain ⟨o, e, h1, h2⟩ := S.use hm
  rcases r with r | ⟨ob, r⟩
  · rw [e] at r; exact h1 _ (Option.some.inj r)
  · rw [e] at r; exact h2 _ _ (Option.some.inj r)
/-- what is free was free then -/
theorem Sim.since (S : Sim K A m st H) {p : Addr} (hp : H p = none) : ∀ q, A.sn = some q → q.2 p = none := fun q hq => by
  cases e : q.2 p with
  | none => rfl
  | some o => exact absurd hp ((S.sn q hq).al p (by rw [e]; simp))
theorem Sim.fresh (S : Sim K A m st H) {p : Addr} (hp : H p = none) : p ∉ m := fun hm => by
  obtain ⟨o, e, _⟩ := S.use hm
  rw [hp] at e; cases e
theorem sqt_later (S : Sim K A m st H) (l : Later m H m' H') {a : Addr} {ys : List V} (h : SqT K H a ys) : SqT K H' a ys := by
  rcases h with h | h
  · have hm := S.nord h
    rcases h with h | ⟨ob, h⟩
    · exact .inl (.inl (l.fr _ _ h hm (fun _ e => nomatch e)))
    · exact .inl (.inr ⟨ob, l.fr _ _ h hm (fun _ e => nomatch e)⟩)
  · exact .inr h
mutual
theorem RV.later (S : Sim K A m st H) (l : Later m H m' H') : ∀ {v : PV} {x : V}, RV K A H m v x → RV K A H' m' v x
  | .non, _, h => by simp only [RV] at h ⊢; exact h
  | .bl b, _, h => by simp only [RV] at h ⊢; exact h
  | .int i, _, h => by simp only [RV] at h ⊢; exact h
  | .str x, _, h => by simp only [RV] at h ⊢; exact h
  | .tup xs, _, h => by
    simp only [RV] at h ⊢
    obtain ⟨a, ys, e, hs, hl, hr⟩ := h
    exact ⟨a, ys, e, sqt_later S l hs, hl, RVs.later S l hr⟩
  | .ref i, _, h => by
    simp only [RV] at h ⊢
    obtain ⟨a, e, h⟩ := h
    exact ⟨a, l.get e, h⟩
  | .fn k, _, h => by simp only [RV] at h ⊢; exact h
  | .cls k, _, h => by simp only [RV] at h ⊢; exact h
  | .ty n, _, h => by simp only [RV] at h ⊢; exact h
theorem RVs.later (S : Sim K A m st H) (l : Later m H m' H') : ∀ {vs : List PV} {xs : List V}, RVs K A H m vs xs → RVs K A H' m' vs xs
  | [], _, h => by simp only [RVs] at h ⊢; exact h
  | v :: vs, _, h => by
    simp only [RVs] at h ⊢
    obtain ⟨y, r, e, h1, h2⟩ := h
    exact ⟨y, r, e, RV.later S l h1, RVs.later S l h2⟩
end
theorem FR.later (S : Sim K A m st H) (l : Later m H m' H') : ∀ {fs : List (Str × PV)} {gs : List (Str × V)}, FR K A H m fs gs → FR K A H' m' fs gs
  | [], _, h => by simp only [FR] at h ⊢; exact h
  | (f, v) :: vs, _, h => by
    simp only [FR] at h ⊢
    obtain ⟨y, r, e, h1, h2⟩ := h
    exact ⟨y, r, e, RV.later S l h1, FR.later S l h2⟩
theorem RVs.len : ∀ {vs : List PV} {xs : List V}, RVs K A H m vs xs → xs.length = vs.length
  | [], _, h => by simp only [RVs] at h; rw [h]; rfl
  | v :: vs, _, h => by
    simp only [RVs] at h
    obtain ⟨y, r, e, _, h2⟩ := h
    rw [e, List.length_cons, List.length_cons, RVs.len h2]
theorem RVs.append : ∀ {vs ws : List PV} {xs ys : List V}, RVs K A H m vs xs → RVs K A H m ws ys → RVs K A H m (vs ++ ws) (xs ++ ys)
  | [], _, _, _, h, g => by simp only [RVs] at h; rw [h]; exact g
  | v :: vs, _, _, _, h, g => by
    simp only [RVs] at h
    obtain ⟨y, r, e, h1, h2⟩ := h
    rw [e]
    show RVs K A H m (v :: (vs ++ _)) (y :: (r ++ _))
    simp only [RVs]
    exact ⟨y, _, rfl, h1, RVs.append h2 g⟩
theorem RVs.get : ∀ {vs : List PV} {xs : List V}, RVs K A H m vs xs → ∀ {j : Nat} {v : PV}, vs[j]? = some v → ∃ x, xs[j]? = some x ∧ RV K A H m v x
  | [], _, _, j, v, e => by simp at e
  | w :: vs, _, h, j, v, e => by
    simp only [RVs] at h
    obtain ⟨y, r, e1, h1, h2⟩ := h
    subst e1
    cases j with
    | zero => simp at e; subst e; exact ⟨y, rfl, h1⟩
    | succ j => simp at e; obtain ⟨x, q1, q2⟩ := RVs.get h2 e; exact ⟨x, by simpa using q1, q2⟩
theorem RVs.get2 : ∀ {vs : List PV} {xs : List V}, RVs K A H m vs xs → ∀ {j : Nat} {x : V}, xs[j]? = some x → ∃ v, vs[j]? = some v ∧ RV K A H m v x := fun {vs xs} h j x e => by
  have hj : j < xs.length := by
    by_cases hi : j < xs.length
    · exact hi
    · rw [List.getElem?_eq_none (by omega)] at e; cases e
  have hj2 : j < vs.length := by rw [← h.len]; exact hj
  obtain ⟨y, q1, q2⟩ := h.get (List.getElem?_eq_getElem hj2)
  rw [e] at q1; cases q1
  exact ⟨_, List.getElem?_eq_getElem hj2, q2⟩
theorem RVs.set : ∀ {vs : List PV} {xs : List V}, RVs K A H m vs xs → ∀ {j : Nat} {v : PV} {x : V}, RV K A H m v x → RVs K A H m (vs.set j v) (xs.set j x)
  | [], _, h, j, v, x, _ => by simp only [RVs] at h; rw [h]; simp [RVs]
  | w :: vs, _, h, j, v, x, g => by
    simp only [RVs] at h
    obtain ⟨y, r, e1, h1, h2⟩ := h
    subst e1
    cases j with
    | zero => simp only [List.set_cons_zero, RVs]; exact ⟨x, r, rfl, g, h2⟩
    | succ j => simp only [List.set_cons_succ, RVs]; exact ⟨y, _, rfl, h1, RVs.set h2 g⟩
theorem RVs.take : ∀ {vs : List PV} {xs : List V}, RVs K A H m vs xs → ∀ n, RVs K A H m (vs.take n) (xs.take n)
  | [], _, h, n => by simp only [RVs] at h; rw [h]; simp [RVs]
  | w :: vs, _, h, n => by
    simp only [RVs] at h
    obtain ⟨y, r, e1, h1, h2⟩ := h
    subst e1
    cases n with
    | zero => simp [RVs]
    | succ n => simp only [List.take_succ_cons, RVs]; exact ⟨y, _, rfl, h1, RVs.take h2 n⟩
theorem RVs.drop : ∀ {vs : List PV} {xs : List V}, RVs K A H m vs xs → ∀ n, RVs K A H m (vs.drop n) (xs.drop n)
  | [], _, h, n => by simp only [RVs] at h; rw [h]; simp [RVs]
  | w :: vs, _, h, n => by
    simp only [RVs] at h
    obtain ⟨y, r, e1, h1, h2⟩ := h
    subst e1
    cases n with
    | zero => simp only [List.drop_zero, RVs]; exact ⟨y, _, rfl, h1, h2⟩
    | succ n => simp only [List.drop_succ_cons]; exact RVs.drop h2 n
theorem RVs.cons {v : PV} {vs : List PV} {x : V} {xs : List V} (h : RV K A H m v x) (g : RVs K A H m vs xs) : RVs K A H m (v :: vs) (x :: xs) := by
  simp only [RVs]
  exact ⟨x, xs, rfl, h, g⟩
theorem RVs.nil : RVs K A H m [] [] := by simp only [RVs]

/-- an object at a new address, not of the store -/
theorem Later.new {p : Addr} {o : HO} (hp : H p = none) : Later m H m (upd H p o) :=
  ⟨⟨[], by simp, by simp⟩, fun a u h _ _ => by rw [upd_ne (ne_of_none h hp)]; exact h, fun a h => by
    by_cases e : a = p
    · rw [e, upd_same]; simp
    · rw [upd_ne e]; exact h⟩
/-- an object at a new address, of the store from now on -/
theorem Later.newS {p : Addr} {o : HO} (hp : H p = none) : Later m H (m ++ [p]) (upd H p o) :=
  ⟨⟨[p], rfl, fun a ha => by rw [List.mem_singleton.mp ha]; exact hp⟩, (Later.new (m := m) hp).fr, (Later.new (m := m) hp).al⟩
theorem OR.later (S : Sim K A m st H) (l : Later m H m' H') {o : SO} {a : Addr} (h : OR K A H m o a) (e : H' a = H a) : OR K A H' m' o a := by
  cases o with
  | lst xs => obtain ⟨ys, h1, h2, h3⟩ := h; exact ⟨ys, by rw [e]; exact h1, h2, h3.later S l⟩
  | frz xs => obtain ⟨ob, ys, h1, h2, h3⟩ := h; exact ⟨ob, ys, by rw [e]; exact h1, h2, h3.later S l⟩
  | dic kvs => obtain ⟨h1, h2⟩ := h; exact ⟨h1, by rw [e]; exact h2⟩
  | ins c fs => obtain ⟨dx, gs, h1, h2⟩ := h; exact ⟨dx, gs, by rw [e]; exact h1, h2.later S l⟩
  | gone => exact h
/-- the store stays, the heap grows elsewhere -/
theorem Sim.keep (S : Sim K A m st H) (l : Later m H m H') (e : ∀ a ∈ m, H' a = H a) (t : TabK A H') : Sim K A m st H' :=
  ⟨S.len, S.nd, fun i o a h1 h2 => OR.later S l (S.at_ i o a h1 h2) (e a (List.mem_of_getElem? h2)), t, fun q hq => (S.sn q hq).trans l⟩
/-- a new object, of the store -/
theorem Sim.push (S : Sim K A m st H) {p : Addr} {u : HO} {o : SO} (hp : H p = none) (h : OR K A (upd H p u) (m ++ [p]) o p) : Sim K A (m ++ [p]) (st ++ [o]) (upd H p u) := by
  have hm := S.fresh hp
  have l : Later m H (m ++ [p]) (upd H p u) := Later.newS hp
  refine ⟨by rw [List.length_append, List.length_append, S.len]; rfl, ?_, fun i o' a h1 h2 => ?_, S.tb.ext (fun b v e => by rw [upd_ne (ne_of_none e hp)]; exact e), fun q hq => (S.sn q hq).trans l⟩
  · rw [List.nodup_append]
    exact ⟨S.nd, by simp, fun a ha b hb => by rw [List.mem_singleton.mp hb]; exact fun e => hm (e ▸ ha)⟩
  · by_cases hi : i < st.length
    · rw [List.getElem?_append_left hi] at h1
      rw [List.getElem?_append_left (by rw [S.len]; exact hi)] at h2
      have ha := List.mem_of_getElem? h2
      exact OR.later S l (S.at_ i o' a h1 h2) (upd_ne (fun e => hm (e ▸ ha)))
    · have e : i = st.length := by
        by_cases q : i < (st ++ [o]).length
        · rw [List.length_append] at q; simp at q; omega
        · rw [List.getElem?_eq_none (by omega)] at h1; cases h1
      subst e
      rw [List.getElem?_append_right (Nat.le_refl _), Nat.sub_self] at h1
      rw [← S.len, List.getElem?_append_right (Nat.le_refl _), Nat.sub_self] at h2
      cases h1; cases h2
      exact h
/-- an object of the store is changed -/
theorem Later.put {i : Nat} {a : Addr} {u : HO} (h : m[i]? = some a) (hu : H a ≠ none) : Later m H m (upd H a u) :=
  ⟨⟨[], by simp, by simp⟩, fun b o hb hm _ => by rw [upd_ne (fun e => hm (by rw [e]; exact List.mem_of_getElem? h))]; exact hb, fun b hb => by
    by_cases e : b = a
    · rw [e, upd_same]; simp
    · rw [upd_ne e]; exact hb⟩
theorem Sim.put (S : Sim K A m st H) {i : Nat} {a : Addr} {u w : HO} {o : SO} (h : m[i]? = some a) (hu : H a = some w) (nt : ∀ ps, w ≠ .tbl ps) (nc : ∀ q, w ≠ LamX.CodeO a q) (ho : OR K A (upd H a u) m o a) : Sim K A m (st.set i o) (upd H a u) := by
  have l : Later m H m (upd H a u) := Later.put h (by rw [hu]; simp)
  refine ⟨by rw [List.length_set]; exact S.len, S.nd, fun j o' b h1 h2 => ?_, ?_, fun q hq => (S.sn q hq).trans l⟩
  · by_cases e : j = i
    · subst e
      rw [h] at h2; cases h2
      have hj : j < st.length := by
        rw [← S.len]
        by_cases q : j < m.length
        · exact q
        · rw [List.getElem?_eq_none (by omega)] at h; cases h
      rw [List.getElem?_set_self hj] at h1
      cases h1
      exact ho
    · rw [List.getElem?_set_ne (Ne.symm e)] at h1
      have hne : b ≠ a := fun q => e (by
        subst q
        have hj : j < m.length := by
          by_cases q : j < m.length
          · exact q
          · rw [List.getElem?_eq_none (by omega)] at h2; cases h2
        have hi : i < m.length := by
          by_cases q : i < m.length
          · exact q
          · rw [List.getElem?_eq_none (by omega)] at h; cases h
        exact (List.getElem?_inj hj S.nd).mp (h2.trans h.symm))
      exact OR.later S l (S.at_ j o' b h1 h2) (upd_ne hne)
  · exact S.tb.upd hu nt nc

mutual
theorem RV.wide {more : List Addr} : ∀ {v : PV} {x : V}, RV K A H m v x → RV K A H (m ++ more) v x
  | .non, _, h => by simp only [RV] at h ⊢; exact h
  | .bl b, _, h => by simp only [RV] at h ⊢; exact h
  | .int i, _, h => by simp only [RV] at h ⊢; exact h
  | .str x, _, h => by simp only [RV] at h ⊢; exact h
  | .tup xs, _, h => by
    simp only [RV] at h ⊢
    obtain ⟨a, ys, e, hs, hl, hr⟩ := h
    exact ⟨a, ys, e, hs, hl, RVs.wide hr⟩
  | .ref i, _, h => by
    simp only [RV] at h ⊢
    obtain ⟨a, e, h⟩ := h
    refine ⟨a, ?_, h⟩
    have hi : i < m.length := by
      by_cases hi : i < m.length
      · exact hi
      · rw [List.getElem?_eq_none (by omega)] at e; cases e
    rw [List.getElem?_append_left hi]
    exact e
  | .fn k, _, h => by simp only [RV] at h ⊢; exact h
  | .cls k, _, h => by simp only [RV] at h ⊢; exact h
  | .ty n, _, h => by simp only [RV] at h ⊢; exact h
theorem RVs.wide {more : List Addr} : ∀ {vs : List PV} {xs : List V}, RVs K A H m vs xs → RVs K A H (m ++ more) vs xs
  | [], _, h => by simp only [RVs] at h ⊢; exact h
  | v :: vs, _, h => by
    simp only [RVs] at h ⊢
    obtain ⟨y, r, e, h1, h2⟩ := h
    exact ⟨y, r, e, RV.wide h1, RVs.wide h2⟩
end
theorem FR.wide {more : List Addr} : ∀ {fs : List (Str × PV)} {gs : List (Str × V)}, FR K A H m fs gs → FR K A H (m ++ more) fs gs
  | [], _, h => by simp only [FR] at h ⊢; exact h
  | (f, v) :: vs, _, h => by
    simp only [FR] at h ⊢
    obtain ⟨y, r, e, h1, h2⟩ := h
    exact ⟨y, r, e, RV.wide h1, FR.wide h2⟩
theorem OR.wide {more : List Addr} {o : SO} {a : Addr} (h : OR K A H m o a) : OR K A H (m ++ more) o a := by
  cases o with
  | lst xs => obtain ⟨ys, h1, h2, h3⟩ := h; exact ⟨ys, h1, h2, h3.wide⟩
  | frz xs => obtain ⟨ob, ys, h1, h2, h3⟩ := h; exact ⟨ob, ys, h1, h2, h3.wide⟩
  | dic kvs => exact h
  | ins c fs => obtain ⟨dx, gs, h1, h2⟩ := h; exact ⟨dx, gs, h1, h2.wide⟩
  | gone => exact h
/-- an object that stands already comes into the store -/
theorem Sim.wide (S : Sim K A m st H) {p : Addr} {o : SO} (hm : p ∉ m) (hs : ∀ q, A.sn = some q → q.2 p = none) (h : OR K A H m o p) : Sim K A (m ++ [p]) (st ++ [o]) H := by
  refine ⟨by rw [List.length_append, List.length_append, S.len]; rfl, ?_, fun i o' a h1 h2 => ?_, S.tb, fun q hq => (S.sn q hq).take (hs q hq)⟩
  · rw [List.nodup_append]
    exact ⟨S.nd, by simp, fun a ha b hb => by rw [List.mem_singleton.mp hb]; exact fun e => hm (e ▸ ha)⟩
  · by_cases hi : i < st.length
    · rw [List.getElem?_append_left hi] at h1
      rw [List.getElem?_append_left (by rw [S.len]; exact hi)] at h2
      exact (S.at_ i o' a h1 h2).wide
    · have e : i = st.length := by
        by_cases q : i < (st ++ [o]).length
        · rw [List.length_append] at q; simp at q; omega
        · rw [List.getElem?_eq_none (by omega)] at h1; cases h1
      subst e
      rw [List.getElem?_append_right (Nat.le_refl _), Nat.sub_self] at h1
      rw [← S.len, List.getElem?_append_right (Nat.le_refl _), Nat.sub_self] at h2
      cases h1; cases h2
      exact h.wide

def EnvR (K : PySem.W.Frag) (A : Ad) (H : Hp) (m : List Addr) (ρ : Env) (σ : L2.St) : Prop :=
  ρ.length = σ.length ∧ (∀ (i : Nat) (v : PV), ρ[i]? = some (some v) → ∃ x, σ[i]? = some (some x) ∧ RV K A H m v x) ∧ ∀ p ∈ A.pins, σ[p.1]? = some (some (V.ref p.2))
theorem EnvR.later {ρ : Env} {σ : L2.St} (S : Sim K A m st H) (l : Later m H m' H') (h : EnvR K A H m ρ σ) : EnvR K A H' m' ρ σ :=
  ⟨h.1, fun i v e => by obtain ⟨x, h1, h2⟩ := h.2.1 i v e; exact ⟨x, h1, h2.later S l⟩, h.2.2⟩
theorem EnvR.set {ρ : Env} {σ : L2.St} {i : Nat} {v : PV} {x : V} (h : EnvR K A H m ρ σ) (r : RV K A H m v x) (hp : ∀ p ∈ A.pins, p.1 ≠ i) : EnvR K A H m (ρ.set i (some v)) (σ.set i (some x)) := by
  refine ⟨by simp [h.1], fun j w e => ?_, fun p hp' => by rw [List.getElem?_set_ne (Ne.symm (hp p hp'))]; exact h.2.2 p hp'⟩
  by_cases q : j = i
  · subst q
    have hj : j < ρ.length := by
      by_cases q : j < ρ.length
      · exact q
      · rw [List.getElem?_eq_none (by simp; omega)] at e; cases e
    rw [List.getElem?_set_self hj] at e
    cases e
    exact ⟨x, List.getElem?_set_self (by rw [← h.1]; exact hj), r⟩
  · rw [List.getElem?_set_ne (Ne.symm q)] at e
    obtain ⟨y, h1, h2⟩ := h.2.1 j w e
    exact ⟨y, by rw [List.getElem?_set_ne (Ne.symm q)]; exact h1, h2⟩
theorem EnvR.setN {ρ : Env} {σ : L2.St} {i : Nat} {x : Option V} (h : EnvR K A H m ρ σ) (hp : ∀ p ∈ A.pins, p.1 ≠ i) : EnvR K A H m (ρ.set i none) (σ.set i x) := by
  refine ⟨by simp [h.1], fun j w e => ?_, fun p hp' => by rw [List.getElem?_set_ne (Ne.symm (hp p hp'))]; exact h.2.2 p hp'⟩
  by_cases q : j = i
  · subst q
    have hj : j < ρ.length := by
      by_cases q : j < ρ.length
      · exact q
      · rw [List.getElem?_eq_none (by simp; omega)] at e; cases e
    rw [List.getElem?_set_self hj] at e
    cases e
  · rw [List.getElem?_set_ne (Ne.symm q)] at e
    obtain ⟨y, h1, h2⟩ := h.2.1 j w e
    exact ⟨y, by rw [List.getElem?_set_ne (Ne.symm q)]; exact h1, h2⟩
end
end MP
set_option linter.all false
set_option Elab.async false
set_option maxRecDepth 100000
set_option maxHeartbeats 2000000
namespace MP
open PySem PySem.Spec PyProof.Rows L2

section
variable {X : Cx}
theorem PE.imp {e : Expr} {t t' : TE} (h : PE X e t) (f : ∀ σ H Q, t' σ H Q → t σ H Q) : PE X e t' := ⟨fun pins s σ H Q I hw => h.run pins s σ H Q I (f _ _ _ hw)⟩
theorem PT.imp {e : Expr} {t t' : TT} (h : PT X e t) (f : ∀ σ H Q, t' σ H Q → t σ H Q) : PT X e t' := ⟨fun pins s σ H Q I hw => h.run pins s σ H Q I (f _ _ _ hw)⟩
theorem PW.imp {e : Expr} {t t' : TT} (h : PW X e t) (f : ∀ σ H Q, t' σ H Q → t σ H Q) : PW X e t' := ⟨fun w pins s σ H Q I hw => h.run w pins s σ H Q I (f _ _ _ hw)⟩
theorem PA.imp {es : List Expr} {t t' : TA} (h : PA X es t) (f : ∀ σ H Q, t' σ H Q → t σ H Q) : PA X es t' := ⟨fun pos pins s σ H Q I hw => h.run pos pins s σ H Q I (f _ _ _ hw)⟩
theorem PS.imp {e : Stmt} {t t' : TS} (h : PS X e t) (f : ∀ D σ H, t' D σ H → t D σ H) : PS X e t' := ⟨fun pins s σ H D I hw => h.run pins s σ H D I (f _ _ _ hw)⟩
theorem PSs.imp {e : List Stmt} {t t' : TS} (h : PSs X e t) (f : ∀ D σ H, t' D σ H → t D σ H) : PSs X e t' := ⟨fun pins s σ H D I hw => h.run pins s σ H D I (f _ _ _ hw)⟩
end

/-- an error with its fields, as it lies -/
def ExcR (K : PySem.W.Frag) (A : Ad) (H : Hp) (m : List Addr) (c : Nat) (fs : List (Str × PV)) (cls : Value) (d : Option Addr) : Prop :=
  cls = .ref (A.ca c) ∧ ((fs = [] ∧ d = none) ∨ (fs ≠ [] ∧ ∃ dd gs, d = some dd ∧ H dd = some (.xd gs) ∧ FR K A H m fs gs))
section
variable (K : PySem.W.Frag) (A : Ad)
def Fin {α β : Type} (rel : Hp → List Addr → α → β → Prop) (W : Value → Option Addr → Hp → Prop) (m : List Addr) (H : Hp) (Q : β → Hp → Prop) : Res α → Prop
  | .ok v st' => ∀ m' H' x, Later m H m' H' → Sim K A m' st' H' → rel H' m' v x → Q x H'
  | .exc c fs st' => ∀ m' H' cls d, Later m H m' H' → Sim K A m' st' H' → ExcR K A H' m' c fs cls d → W cls d H'
  | .bad => False
/-- the reading of an evaluator's piece -/
def TEv {α β : Type} (rel : Hp → Hp → List Addr → α → β → Prop) (W : WX) (r : Env → Store → Res α) : L2.St → Hp → (β → Hp → Prop) → Prop := fun σ H Q =>
  ∃ m st ρ, Sim K A m st H ∧ EnvR K A H m ρ σ ∧ Fin K A (rel H) (fun c d H' => W c d σ H') m H Q (r ρ st)
abbrev rV : Hp → List Addr → PV → V → Prop := fun H m v x => RV K A H m v x
abbrev rVs : Hp → List Addr → List PV → List V → Prop := fun H m v x => RVs K A H m v x
/-- a list that is to be read: some object, of the store or not -/
abbrev rL : Hp → List Addr → List PV → V → Prop := fun H m vs x => ∃ a ys, x = .ref a ∧ H a = some (.lst ys) ∧ vs.length ≤ szl ∧ RVs K A H m vs ys
/-- a list made here, not of the store -/
abbrev rF : Hp → Hp → List Addr → List PV → V → Prop := fun H0 H m vs x => ∃ a ys, x = .ref a ∧ H0 a = none ∧ a ∉ m ∧ H a = some (.lst ys) ∧ vs.length ≤ szl ∧ RVs K A H m vs ys
abbrev rB : Hp → List Addr → Bool → Bool → Prop := fun _ _ b c => c = b
end
section
variable {K : PySem.W.Frag} {A : Ad} {α β γ δ : Type} {rel : Hp → List Addr → α → β → Prop} {rel2 : Hp → List Addr → γ → δ → Prop} {W : Value → Option Addr → Hp → Prop} {m m1 : List Addr} {H H1 : Hp} {Q : δ → Hp → Prop}
theorem Fin.bind {r : Res α} {f : α → Store → Res γ} (h : Fin K A rel2 W m H Q (r.bind f)) :
    Fin K A rel W m H (fun x H1 => ∃ m1 st1 v, r = .ok v st1 ∧ Later m H m1 H1 ∧ Sim K A m1 st1 H1 ∧ rel H1 m1 v x ∧ Fin K A rel2 W m1 H1 Q (f v st1)) r := by
  cases r with
  | ok v st1 =>
    intro m1 H1 x l S r
    refine ⟨m1, st1, v, rfl, l, S, r, ?_⟩
    have h : Fin K A rel2 W m H Q (f v st1) := h
    revert h
    cases f v st1 with
    | ok w st2 => exact fun h m' H' y l2 S2 r2 => h m' H' y (l.trans l2) S2 r2
    | exc c fs st2 => exact fun h m' H' cls d l2 S2 r2 => h m' H' cls d (l.trans l2) S2 r2
    | bad => exact fun h => h
  | exc c fs st1 => exact h
  | bad => exact h
theorem Fin.later (l : Later m H m1 H1) {r : Res γ} (h : Fin K A rel2 W m H Q r) : Fin K A rel2 W m1 H1 Q r := by
  cases r with
  | ok w st2 => exact fun m' H' y l2 S2 r2 => h m' H' y (l.trans l2) S2 r2
  | exc c fs st2 => exact fun m' H' cls d l2 S2 r2 => h m' H' cls d (l.trans l2) S2 r2
  | bad => exact h
theorem Fin.imp {r : Res γ} {Q' : δ → Hp → Prop} (h : Fin K A rel2 W m H Q r) (f : ∀ x H', Q x H' → Q' x H') : Fin K A rel2 W m H Q' r := by
  cases r with
  | ok w st2 => exact fun m' H' y l2 S2 r2 => f _ _ (h m' H' y l2 S2 r2)
  | exc c fs st2 => exact h
  | bad => exact h
end

theorem atI_ix {xs : List V} {i : Int} {j : Nat} {x : V} (h : ixOf xs.length i = some j) (e : xs[j]? = some x) : atI xs i = some x := by
  have q : ixN xs.length i = some j := h
  unfold atI
  rw [q]
  exact e
section
variable {X : Cx} {A : Ad} {W : Value → Option Addr → Hp → Prop}
/-- the reading of a two-place operation -/
def r2 (K : PySem.W.Frag) (A : Ad) (f : PV → PV → Store → Res PV) : R2 := fun x y H Q => ∃ (W : Value → Option Addr → Hp → Prop) (m : List Addr) (st : Store) (v w : PV), Sim K A m st H ∧ RV K A H m v x ∧ RV K A H m w y ∧ Fin K A (rV K A) W m H Q (f v w st)
theorem mulW {i j : Int} (h : i.natAbs.log2 + j.natAbs.log2 < 100000000) : IntMulOk i j := by
  have b : ∀ x : Int, Builtin.Int.intBits x ≤ x.natAbs.log2 + 1 := fun x => by
    unfold Builtin.Int.intBits
    split <;> omega
  have h1 := b i
  have h2 := b j
  have e : bitsLine = 134217728 := by decide
  unfold IntMulOk
  intro z
  rw [Bool.and_eq_true] at z
  have z2 := z.2
  unfold Builtin.Int.intTooBig at z2
  have z3 := of_decide_eq_true z2
  rw [e] at z3
  omega
theorem Sim.objNew {K : PySem.W.Frag} {m : List Addr} {st : Store} {H : Hp} (S : Sim K A m st H) {p : Addr} {u : HO} (hp : H p = none) : Sim K A m st (upd H p u) := by
  have hm := S.fresh hp
  exact S.keep (Later.new hp) (fun a ha => upd_ne (fun e => hm (e ▸ ha))) (S.tb.ext fun b v e => by rw [upd_ne (ne_of_none e hp)]; exact e)
theorem fin_tup {K : PySem.W.Frag} {m : List Addr} {st : Store} {H : Hp} {Q : VK} {vs : List PV} {ys : List V} (S : Sim K A m st H) (r : RVs K A H m vs ys) (hl : vs.length ≤ szl) (h : Fin K A (rV K A) W m H Q (.ok (.tup vs) st)) {p : Addr} (hp : H p = none) :
    Q (.ref p) (upd H p (.tup ys)) := by
  refine h m _ (.ref p) (Later.new hp) (S.objNew hp) ?_
  simp only [RV]
  exact ⟨p, ys, rfl, .inl (.inl upd_same), hl, r.later S (Later.new hp)⟩
theorem fin_lst {K : PySem.W.Frag} {m : List Addr} {st : Store} {H : Hp} {Q : VK} {vs : List PV} {ys : List V} (S : Sim K A m st H) (r : RVs K A H m vs ys) (hl : vs.length ≤ szl) (h : Fin K A (rV K A) W m H Q (newL vs st)) {p : Addr} (hp : H p = none) :
    Q (.ref p) (upd H p (.lst ys)) := by
  refine h (m ++ [p]) _ (.ref p) (Later.newS hp) (S.push hp ⟨ys, upd_same, hl, r.later S (Later.newS hp)⟩) ?_
  simp only [RV]
  exact ⟨p, by rw [← S.len, List.getElem?_append_right (Nat.le_refl _), Nat.sub_self]; rfl, rfl⟩
theorem Sim.obj {K : PySem.W.Frag} {m : List Addr} {st : Store} {H : Hp} (S : Sim K A m st H) {i : Nat} {o : SO} {x : V} (e : st[i]? = some o) (h : RV K A H m (.ref i) x) : ∃ a, m[i]? = some a ∧ x = .ref a ∧ OR K A H m o a := by
  simp only [RV] at h
  obtain ⟨a, h1, h2⟩ := h
  exact ⟨a, h1, h2, S.at_ i o a e h1⟩
/-- a sequence of the evaluator as the layer has it -/
theorem Sim.list {K : PySem.W.Frag} {m : List Addr} {st : Store} {H : Hp} (S : Sim K A m st H) {v : PV} {xs : List PV} {x : V} (e : listAt st v = some xs) (h : RV K A H m v x) : ∃ a ys, x = .ref a ∧ SqL K H a ys ∧ xs.length ≤ szl ∧ RVs K A H m xs ys := by
  cases v with
  | ref i =>
    simp only [listAt] at e
    cases q : st[i]? with
    | none => rw [q] at e; cases e
    | some o =>
      obtain ⟨a, h1, h2, h3⟩ := S.obj q h
      rw [q] at e
      cases o with
      | lst zs => cases e; obtain ⟨ys, g1, g2, g3⟩ := h3; exact ⟨a, ys, h2, .inl (.inl g1), g2, g3⟩
      | frz zs => cases e; obtain ⟨ob, ys, g1, g2, g3⟩ := h3; exact ⟨a, ys, h2, .inl (.inr ⟨ob, g1⟩), g2, g3⟩
      | dic _ => cases e
      | ins _ _ => cases e
      | gone => cases e
  | _ => cases e
theorem Sim.seq {K : PySem.W.Frag} {m : List Addr} {st : Store} {H : Hp} (S : Sim K A m st H) {v : PV} {xs : List PV} {x : V} (e : seqOf st v = some xs) (h : RV K A H m v x) : ∃ a ys, x = .ref a ∧ (SqL K H a ys ∨ SqT K H a ys) ∧ xs.length ≤ szl ∧ RVs K A H m xs ys := by
  cases v with
  | tup zs =>
    cases e
    simp only [RV] at h
    obtain ⟨a, ys, e, hs, hl, hr⟩ := h
    exact ⟨a, ys, e, .inr hs, hl, hr⟩
  | ref i => obtain ⟨a, ys, h1, h2, h3, h4⟩ := S.list (v := .ref i) (xs := xs) e h; exact ⟨a, ys, h1, .inl h2, h3, h4⟩
  | _ => cases e
theorem RVs.ne {K : PySem.W.Frag} {H : Hp} {m : List Addr} {vs : List PV} {xs : List V} (r : RVs K A H m vs xs) : xs = [] ↔ vs = [] := by
  have h := r.len
  constructor
  · intro e; subst e; exact List.length_eq_zero_iff.mp h.symm
  · intro e; subst e; exact List.length_eq_zero_iff.mp h
theorem RVs.rep {K : PySem.W.Frag} {H : Hp} {m : List Addr} {vs : List PV} {xs : List V} (r : RVs K A H m vs xs) : ∀ n : Nat, RVs K A H m (List.replicate n vs).flatten (List.replicate n xs).flatten
  | 0 => RVs.nil
  | n + 1 => by
    simp only [List.replicate_succ, List.flatten_cons]
    exact r.append (RVs.rep r n)
theorem rep_len {α : Type} (xs : List α) : ∀ n : Nat, (List.replicate n xs).flatten.length = xs.length * n
  | 0 => by simp
  | n + 1 => by
    simp only [List.replicate_succ, List.flatten_cons, List.length_append, rep_len xs n, Nat.mul_succ]
    omega
theorem op_bin (op : Operator) : OpR X (binaryOp op) (r2 X.K A (binOp op)) := by
  intro pins s σ H x y v u Q I rx ry ⟨W, m, st, pv, pw, S, hv, hw, h⟩
  unfold binOp at h
  split at h
  · simp only [RV] at hv hw
    exact op_add pins s σ H x y v u Q I rx ry ⟨_, _, hv, hw, h m H _ (Later.refl _ _) S (by simp only [RV])⟩
  · simp only [RV] at hv hw
    exact op_sub pins s σ H x y v u Q I rx ry ⟨_, _, hv, hw, h m H _ (Later.refl _ _) S (by simp only [RV])⟩
  · simp only [RV] at hv hw
    split at h
    · rename_i hc
      have om : OpR X (binaryOp .Mult) (rI (fun i j => i.natAbs.log2 + j.natAbs.log2 < 100000000) fun i j => .int (i * j)) := opI fun _ _ _ _ _ _ _ hc q => mul_int q (mulW hc)
      exact om pins s σ H x y v u Q I rx ry ⟨_, _, hv, hw, hc, h m H _ (Later.refl _ _) S (by simp only [RV])⟩
    · exact h.elim
  · simp only [RV] at hv hw
    split at h
    · rename_i hc
      exact op_fdivW pins s σ H x y v u Q I rx ry ⟨_, _, hv, hw, hc, h m H _ (Later.refl _ _) S (by simp only [RV])⟩
    · exact h.elim
  · simp only [RV] at hv hw
    split at h
    · rename_i a b hc
      refine op_modN pins s σ H x y v u Q I rx ry ⟨_, _, hv, hw, by omega, ?_⟩
      show Q (.int (a.fmod b)) H
      rw [Int.fmod_eq_emod_of_nonneg a (by omega)]
      exact h m H _ (Later.refl _ _) S (by simp only [RV])
    · exact h.elim
  · simp only [RV] at hv hw
    split at h
    · rename_i hc
      exact op_pow pins s σ H x y v u Q I rx ry ⟨_, _, hv, hw, hc, h m H _ (Later.refl _ _) S (by simp only [RV])⟩
    · exact h.elim
  · rename_i a b
    simp only [RV] at hv hw
    obtain ⟨p, ys, rfl, hs, hl, hr⟩ := hv
    obtain ⟨q, zs, rfl, hs2, hl2, hr2⟩ := hw
    split at h
    · rename_i hsz
      refine op_catA pins s σ H _ _ v u Q I rx ry ⟨p, q, ys, zs, rfl, rfl, hs, hs2, by rw [hr.len, hr2.len, ← szl_eq]; exact hsz, fun e => ?_, fun _ e => ?_, fun _ _ r hn => fin_tup S (hr.append hr2) (by rw [List.length_append]; exact hsz) h hn⟩
      · rw [hr.ne] at e
        subst e
        exact h m H _ (Later.refl _ _) S (by simp only [RV]; exact ⟨q, zs, rfl, hs2, hl2, hr2⟩)
      · rw [hr2.ne] at e
        subst e
        rw [List.append_nil] at h
        exact h m H _ (Later.refl _ _) S (by simp only [RV]; exact ⟨p, ys, rfl, hs, hl, hr⟩)
    · exact h.elim
  · rename_i a b
    simp only [RV] at hw
    rw [show RV X.K A H m (.tup a) x = (∃ a_1 ys, x = V.ref a_1 ∧ SqT X.K H a_1 ys ∧ a.length ≤ szl ∧ RVs X.K A H m a ys) by simp only [RV]] at hv
    obtain ⟨p, ys, rfl, hs, hl, hr⟩ := hv
    split at h
    · rename_i hsz
      refine op_repT pins s σ H _ _ v u Q I rx ry ⟨p, b, ys, rfl, hw, hs, fun e => hsz.1 (hr.ne.mp e), hsz.2.1, hsz.2.2.1, by rw [hr.len]; exact hsz.2.2.2, fun r hn => fin_tup S (hr.rep _) ?_ h hn⟩
      rw [rep_len]
      exact Nat.le_trans (Nat.mul_le_mul hsz.2.2.2 (show b.toNat ≤ 1000 by omega)) (by decide)
    · exact h.elim
  · rename_i i j
    split at h
    · rename_i a b ea eb
      obtain ⟨p, _, rfl, ys, hp, hl, hr⟩ := S.obj ea hv
      obtain ⟨q, _, rfl, zs, hq, hl2, hr2⟩ := S.obj eb hw
      split at h
      · rename_i hsz
        exact op_cat pins s σ H _ _ v u Q I rx ry ⟨p, q, ys, zs, rfl, rfl, hp, hq, by rw [hr.len, hr2.len, ← szl_eq]; exact hsz, fun r hn => fin_lst S (hr.append hr2) (by rw [List.length_append]; exact hsz) h hn⟩
      · exact h.elim
    · exact h.elim
  · rename_i i b
    simp only [RV] at hw
    split at h
    · rename_i a ea
      obtain ⟨p, _, rfl, ys, hp, hl, hr⟩ := S.obj ea hv
      split at h
      · rename_i hsz
        exact op_rep pins s σ H _ _ v u Q I rx ry ⟨p, b, ys, rfl, hw, hp, by omega, by omega, by rw [hr.len, ← szl_eq]; exact hsz.2.2, fun r hn => fin_lst S (hr.rep _) (by rw [rep_len]; exact hsz.2.2) h hn⟩
      · exact h.elim
    · exact h.elim
  · exact h.elim

mutual
theorem PV.dp {K : PySem.W.Frag} {m : List Addr} {H : Hp} {g : Nat → Option PyData} (hg : ∀ i d a, g i = some d → m[i]? = some a → Dp K H (.ref a) d) : ∀ {v : PV} {x : V} {d : PyData}, PV.data g v = some d → RV K A H m v x → Dp K H x d
  | .non, x, d, e, h => by simp only [PV.data] at e; simp only [RV] at h; subst h; cases e; exact .non
  | .bl b, x, d, e, h => by simp only [PV.data] at e; simp only [RV] at h; subst h; cases e; exact .bl b
  | .int i, x, d, e, h => by simp only [PV.data] at e; simp only [RV] at h; subst h; cases e; exact .int i
  | .str y, x, d, e, h => by simp only [PV.data] at e; simp only [RV] at h; subst h; cases e; exact .str y
  | .tup xs, x, d, e, h => by
    simp only [PV.data] at e
    simp only [RV] at h
    obtain ⟨a, ys, rfl, hs, hl, hr⟩ := h
    cases q : PV.datas g xs with
    | none => rw [q] at e; cases e
    | some ds => rw [q] at e; cases e; exact .tup hs (PV.dps hg q hr)
  | .ref i, x, d, e, h => by
    simp only [PV.data] at e
    simp only [RV] at h
    obtain ⟨a, h1, rfl⟩ := h
    exact hg i d a e h1
  | .fn k, x, d, e, h => by simp only [PV.data] at e; cases e
  | .cls k, x, d, e, h => by simp only [PV.data] at e; cases e
  | .ty n, x, d, e, h => by simp only [PV.data] at e; cases e
theorem PV.dps {K : PySem.W.Frag} {m : List Addr} {H : Hp} {g : Nat → Option PyData} (hg : ∀ i d a, g i = some d → m[i]? = some a → Dp K H (.ref a) d) : ∀ {vs : List PV} {xs : List V} {ds : List PyData}, PV.datas g vs = some ds → RVs K A H m vs xs → DpAll K H xs ds
  | [], xs, ds, e, h => by simp only [PV.datas] at e; simp only [RVs] at h; subst h; cases e; exact .nil
  | v :: vs, xs, ds, e, h => by
    simp only [PV.datas] at e
    simp only [RVs] at h
    obtain ⟨y, r, rfl, h1, h2⟩ := h
    cases q : PV.data g v with
    | none => rw [q] at e; cases e
    | some d =>
      cases q2 : PV.datas g vs with
      | none => rw [q, q2] at e; cases e
      | some ds' =>
        rw [q, q2] at e
        cases e
        exact .cons (PV.dp hg q h1) (PV.dps hg q2 h2)
end
theorem Sim.rd {K : PySem.W.Frag} {m : List Addr} {st : Store} {H : Hp} (S : Sim K A m st H) : ∀ (n : Nat) (i : Nat) (d : PyData) (a : Addr), rdL st n i = some d → m[i]? = some a → Dp K H (.ref a) d
  | 0, i, d, a, e, _ => by simp only [rdL] at e; cases e
  | n + 1, i, d, a, e, h => by
    simp only [rdL] at e
    cases q : st[i]? with
    | none => rw [q] at e; cases e
    | some o =>
      rw [q] at e
      have h3 := S.at_ i o a q h
      cases o with
      | lst zs =>
        obtain ⟨ys, g1, g2, g3⟩ := h3
        simp only at e
        cases q2 : PV.datas (rdL st n) zs with
        | none => rw [q2] at e; cases e
        | some ds => rw [q2] at e; cases e; exact .lst (.inl (.inl g1)) (PV.dps (fun i d a => S.rd n i d a) q2 g3)
      | frz zs =>
        obtain ⟨ob, ys, g1, g2, g3⟩ := h3
        simp only at e
        cases q2 : PV.datas (rdL st n) zs with
        | none => rw [q2] at e; cases e
        | some ds => rw [q2] at e; cases e; exact .lst (.inl (.inr ⟨ob, g1⟩)) (PV.dps (fun i d a => S.rd n i d a) q2 g3)
      | dic _ => cases e
      | ins _ _ => cases e
      | gone => cases e
theorem Sim.dp {K : PySem.W.Frag} {m : List Addr} {st : Store} {H : Hp} (S : Sim K A m st H) {v : PV} {x : V} {d : PyData} (e : dataIn st v = some d) (h : RV K A H m v x) : Dp K H x d := PV.dp (fun i d a => S.rd 64 i d a) e h
theorem Sim.dps {K : PySem.W.Frag} {m : List Addr} {st : Store} {H : Hp} (S : Sim K A m st H) {vs : List PV} {xs : List V} {ds : List PyData} (e : PV.datas (rdL st 64) vs = some ds) (h : RVs K A H m vs xs) : DpAll K H xs ds := PV.dps (fun i d a => S.rd 64 i d a) e h
theorem room_in {A : Around} {d : PyData} {ds : List PyData} (h : SeqAt.shaped d = true) (hu : A.units + 65 < cLine) : A.units + 1 + min (PyData.depthAll ds) d.depth < cLine := by
  have h1 := SeqAt.depth_of_shaped h
  have h2 : min (PyData.depthAll ds) d.depth ≤ d.depth := Nat.min_le_right _ _
  omega
/-- x in a list or a tuple of data -/
def rInA (K : PySem.W.Frag) (f : Bool → Bool) : R2 := fun x y H Q => ∃ d ds a ys, Dp K H x d ∧ y = .ref a ∧ (SqL K H a ys ∨ SqT K H a ys) ∧ DpAll K H ys ds ∧ SeqAt.shaped d = true ∧ PyData.canLayAll0 ds = true ∧ Q (.bl (f (ds.any fun z => PyData.eqv z d))) H
theorem op_inA (hu : X.A.units + 65 < cLine) : OpR X (compareOp .In) (rInA X.K fun b => b) := by
  intro pins s σ H x y v u Q I rx ry h
  obtain ⟨d, ds, a, ys, hd, rfl, hs, he, sd, se, q⟩ := h
  obtain ⟨as, r1⟩ := Dp.reads I d x v hd rx
  rcases hs with hs | hs
  · obtain ⟨bs, r2⟩ := Dp.reads I (.list ds) _ u (.lst hs he) ry
    exact SeqAt.in_list_reads r2 r1 se (SeqAt.canLay_of_shaped sd) (room_in sd hu) ⟨.bl _, H, I, rfl, q⟩
  · obtain ⟨bs, r2⟩ := Dp.reads I (.tuple ds) _ u (.tup hs he) ry
    exact SeqAt.in_tuple_reads r2 r1 se (SeqAt.canLay_of_shaped sd) (room_in sd hu) ⟨.bl _, H, I, rfl, q⟩
theorem op_notInA (hu : X.A.units + 65 < cLine) : OpR X (compareOp .NotIn) (rInA X.K fun b => !b) := by
  intro pins s σ H x y v u Q I rx ry h
  obtain ⟨d, ds, a, ys, hd, rfl, hs, he, sd, se, q⟩ := h
  obtain ⟨as, r1⟩ := Dp.reads I d x v hd rx
  rcases hs with hs | hs
  · obtain ⟨bs, r2⟩ := Dp.reads I (.list ds) _ u (.lst hs he) ry
    exact SeqAt.notIn_list_reads r2 r1 se (SeqAt.canLay_of_shaped sd) (room_in sd hu) ⟨.bl _, H, I, rfl, q⟩
  · obtain ⟨bs, r2⟩ := Dp.reads I (.tuple ds) _ u (.tup hs he) ry
    exact SeqAt.notIn_tuple_reads r2 r1 se (SeqAt.canLay_of_shaped sd) (room_in sd hu) ⟨.bl _, H, I, rfl, q⟩
theorem ltI_lex : ∀ (ns ms : List Int), ltI ns ms = HT.lexLt ns ms
  | [], [] => rfl
  | [], _ :: _ => rfl
  | _ :: _, [] => rfl
  | x :: xs, y :: ys => by unfold ltI; rw [HT.lexLt_cons, ltI_lex xs ys]
theorem ints_of {K : PySem.W.Frag} {m : List Addr} {H : Hp} : ∀ {vs : List PV} {ns : List Int} {xs : List V}, intsOf vs = some ns → RVs K A H m vs xs → xs = ns.map V.int
  | [], ns, xs, e, h => by simp only [intsOf] at e; simp only [RVs] at h; subst h; cases e; rfl
  | v :: vs, ns, xs, e, h => by
    simp only [RVs] at h
    obtain ⟨y, r, rfl, h1, h2⟩ := h
    cases v with
    | int i =>
      simp only [intsOf] at e
      cases q : intsOf vs with
      | none => rw [q] at e; cases e
      | some ms =>
        rw [q] at e
        cases e
        simp only [RV] at h1
        rw [h1, ints_of q h2]
        rfl
    | _ => simp only [intsOf] at e; cases e
theorem fin_bl {K : PySem.W.Frag} {m : List Addr} {st : Store} {H : Hp} {Q : VK} {b : Bool} (S : Sim K A m st H) (h : Fin K A (rV K A) W m H Q (.ok (.bl b) st)) : Q (.bl b) H := h m H _ (Later.refl _ _) S (by simp only [RV])
theorem RV.eqb {K : PySem.W.Frag} {m : List Addr} {H : Hp} {v : PV} {x : V} (h : RV K A H m v x) : (v = .non ↔ x = .non) ∧ ∀ b, (v = .bl b ↔ x = .bl b) := by
  cases v with
  | non => simp only [RV] at h; subst h; exact ⟨by simp, fun b => by simp⟩
  | bl c => simp only [RV] at h; subst h; exact ⟨by simp, fun b => by simp⟩
  | int c => simp only [RV] at h; subst h; exact ⟨by simp, fun b => by simp⟩
  | str c => simp only [RV] at h; subst h; exact ⟨by simp, fun b => by simp⟩
  | tup c => simp only [RV] at h; obtain ⟨a, ys, rfl, _⟩ := h; exact ⟨by simp, fun b => by simp⟩
  | ref c => simp only [RV] at h; obtain ⟨a, _, rfl⟩ := h; exact ⟨by simp, fun b => by simp⟩
  | fn c => simp only [RV] at h; subst h; exact ⟨by simp, fun b => by simp⟩
  | cls c => simp only [RV] at h; subst h; exact ⟨by simp, fun b => by simp⟩
  | ty c => simp only [RV] at h; subst h; exact ⟨by simp, fun b => by simp⟩
/-- is None -/
theorem op_cmp (hu : X.A.units + 65 < cLine) (op : CmpOp) : OpR X (compareOp op) (r2 X.K A (cmpOp op)) := by
  intro pins s σ H x y v u Q I rx ry ⟨W, m, st, pv, pw, S, hv, hw, h⟩
  cases op with
  | Eq =>
    simp only [cmpOp] at h
    unfold eqPV at h
    split at h
    · rename_i a b
      simp only [RV] at hv hw
      subst hv hw
      refine op_eq pins s σ H _ _ v u Q I rx ry ⟨rfl, ?_⟩
      rw [show decide (V.str a = V.str b) = decide (a = b) by simp]
      exact fin_bl S h
    · rename_i a b
      simp only [RV] at hv hw
      subst hv hw
      refine op_eq pins s σ H _ _ v u Q I rx ry ⟨rfl, ?_⟩
      rw [show decide (V.int a = V.int b) = decide (a = b) by simp]
      exact fin_bl S h
    split at h
    · rename_i d e q1 q2
      split at h
      · rename_i hc
        rw [Bool.and_eq_true] at hc
        exact op_eqD (by omega) pins s σ H x y v u Q I rx ry ⟨d, e, S.dp q1 hv, S.dp q2 hw, hc.1, hc.2, fin_bl S h⟩
      · exact h.elim
    · exact h.elim
  | NotEq =>
    simp only [cmpOp] at h
    unfold eqPV at h
    split at h
    · rename_i a b
      simp only [RV] at hv hw
      subst hv hw
      refine op_ne pins s σ H _ _ v u Q I rx ry ⟨rfl, ?_⟩
      rw [show decide (V.str a = V.str b) = decide (a = b) by simp]
      exact fin_bl S h
    · rename_i a b
      simp only [RV] at hv hw
      subst hv hw
      refine op_ne pins s σ H _ _ v u Q I rx ry ⟨rfl, ?_⟩
      rw [show decide (V.int a = V.int b) = decide (a = b) by simp]
      exact fin_bl S h
    split at h
    · rename_i d e q1 q2
      split at h
      · rename_i hc
        rw [Bool.and_eq_true] at hc
        exact op_neD (by omega) pins s σ H x y v u Q I rx ry ⟨d, e, S.dp q1 hv, S.dp q2 hw, hc.1, hc.2, fin_bl S h⟩
      · exact h.elim
    · exact h.elim
  | Lt =>
    simp only [cmpOp] at h
    split at h
    · simp only [RV] at hv hw
      exact op_lt pins s σ H x y v u Q I rx ry ⟨_, _, hv, hw, fin_bl S h⟩
    · simp only [RV] at hv hw
      obtain ⟨a, ys, rfl, hs, _, hr⟩ := hv
      obtain ⟨b, zs, rfl, hs2, _, hr2⟩ := hw
      split at h
      · rename_i ns ms q1 q2
        rw [ints_of q1 hr] at hs
        rw [ints_of q2 hr2] at hs2
        rw [ltI_lex] at h
        exact op_ltT (by omega) pins s σ H _ _ v u Q I rx ry ⟨a, b, ns, ms, rfl, rfl, hs, hs2, fin_bl S h⟩
      · exact h.elim
    · exact h.elim
  | LtE =>
    simp only [cmpOp] at h
    split at h
    · simp only [RV] at hv hw
      exact op_le pins s σ H x y v u Q I rx ry ⟨_, _, hv, hw, fin_bl S h⟩
    · exact h.elim
  | Gt =>
    simp only [cmpOp] at h
    split at h
    · simp only [RV] at hv hw
      exact op_gt pins s σ H x y v u Q I rx ry ⟨_, _, hv, hw, fin_bl S h⟩
    · exact h.elim
  | GtE =>
    simp only [cmpOp] at h
    split at h
    · simp only [RV] at hv hw
      exact op_ge pins s σ H x y v u Q I rx ry ⟨_, _, hv, hw, fin_bl S h⟩
    · exact h.elim
  | Is =>
    simp only [cmpOp] at h
    split at h
    · simp only [RV] at hw
      refine op_isN pins s σ H x y v u Q I rx ry ⟨hw, ?_⟩
      rw [show decide (x = V.non) = decide (pv = PV.non) from decide_eq_decide.mpr hv.eqb.1.symm]
      exact fin_bl S h
    · split at h
      · simp only [RV] at hv hw
        exact op_isBl pins s σ H x y v u Q I rx ry ⟨_, _, hv, hw, fin_bl S h⟩
      · exact h.elim
    · exact h.elim
  | IsNot =>
    simp only [cmpOp] at h
    split at h
    · simp only [RV] at hw
      refine op_notN pins s σ H x y v u Q I rx ry ⟨hw, ?_⟩
      rw [show decide (x = V.non) = decide (pv = PV.non) from decide_eq_decide.mpr hv.eqb.1.symm]
      exact fin_bl S h
    · split at h
      · simp only [RV] at hv hw
        exact op_notBl pins s σ H x y v u Q I rx ry ⟨_, _, hv, hw, fin_bl S h⟩
      · exact h.elim
    · exact h.elim
  | In =>
    simp only [cmpOp] at h
    split at h
    · rename_i ys e
      obtain ⟨a, zs, rfl, hs, _, hr⟩ := S.seq e hw
      unfold memPV at h
      split at h
      · rename_i d ds q1 q2
        split at h
        · rename_i hc
          rw [Bool.and_eq_true] at hc
          exact op_inA hu pins s σ H x _ v u Q I rx ry ⟨d, ds, a, zs, S.dp q1 hv, rfl, hs, S.dps q2 hr, hc.1, hc.2, fin_bl S h⟩
        · exact h.elim
      · exact h.elim
    · exact h.elim
  | NotIn =>
    simp only [cmpOp] at h
    split at h
    · rename_i ys e
      obtain ⟨a, zs, rfl, hs, _, hr⟩ := S.seq e hw
      unfold memPV at h
      split at h
      · rename_i d ds q1 q2
        split at h
        · rename_i hc
          rw [Bool.and_eq_true] at hc
          exact op_notInA hu pins s σ H x _ v u Q I rx ry ⟨d, ds, a, zs, S.dp q1 hv, rfl, hs, S.dps q2 hr, hc.1, hc.2, fin_bl S h⟩
        · exact h.elim
      · exact h.elim
    · exact h.elim

def r1 (K : PySem.W.Frag) (A : Ad) (f : PV → Store → Res PV) : V → Hp → VK → Prop := fun x H Q => ∃ (W : Value → Option Addr → Hp → Prop) (m : List Addr) (st : Store) (v : PV), Sim K A m st H ∧ RV K A H m v x ∧ Fin K A (rV K A) W m H Q (f v st)
theorem un_negA : UnR X (unaryOp .USub) (r1 X.K A negOp) := by
  intro pins s σ H x v Q I rx ⟨W, m, st, pv, S, hv, h⟩
  unfold negOp at h
  split at h
  · simp only [RV] at hv
    exact un_neg pins s σ H x v Q I rx ⟨_, hv, h m H _ (Later.refl _ _) S (by simp only [RV])⟩
  · exact h.elim
theorem ix_any : IxR X (r2 X.K A idxOp) := by
  intro va sl pins s σ H x y v u Q I rx ry ⟨W, m, st, pv, pw, S, hv, hw, h⟩ hs
  unfold idxOp at h
  split at h
  · rename_i i
    simp only [RV] at hw
    split at h
    · rename_i xs e
      obtain ⟨a, ys, rfl, hsq, _, hr⟩ := S.seq e hv
      split at h
      · rename_i j hj
        cases q : xs[j]? with
        | none => rw [q] at h; exact h.elim
        | some z =>
          rw [q] at h
          obtain ⟨w, e2, r⟩ := hr.get q
          have hj' : ixOf ys.length i = some j := by rw [hr.len]; exact hj
          have fin := h m H w (Later.refl _ _) S r
          rcases hsq with hsq | hsq
          · exact ix_list va sl pins s σ H _ y v u Q I rx ry ⟨a, ys, i, w, rfl, hw, hsq, atI_ix hj' e2, fin⟩ hs
          · exact ix_tup va sl pins s σ H _ y v u Q I rx ry ⟨a, ys, i, w, rfl, hw, hsq, atI_ix hj' e2, fin⟩ hs
      · exact h.elim
    · exact h.elim
  · exact h.elim
theorem sIx_eq (n d : Nat) (o : Option Int) : sIx n d o = HT.sIx n d o := by cases o <;> rfl
theorem RVs.cut {K : PySem.W.Frag} {m : List Addr} {H : Hp} {vs : List PV} {xs : List V} (r : RVs K A H m vs xs) (lo hi : Option Int) : RVs K A H m (cutP vs lo hi) (cutV xs lo hi) := by
  unfold cutP cutV
  rw [r.len, sIx_eq, sIx_eq]
  exact (r.drop _).take _
theorem cutP_len (vs : List PV) (lo hi : Option Int) : (cutP vs lo hi).length ≤ vs.length := by
  unfold cutP
  rw [List.length_take, List.length_drop]
  omega
theorem cutP_all {vs : List PV} {lo hi : Option Int} (h : sIx vs.length 0 lo = 0 ∧ sIx vs.length vs.length hi = vs.length) : cutP vs lo hi = vs := by
  unfold cutP
  rw [h.1, h.2]
  simp
def rSlc (K : PySem.W.Frag) (A : Ad) : V → Option Int → Option Int → Hp → VK → Prop := fun x lo hi H Q => ∃ (W : Value → Option Addr → Hp → Prop) (m : List Addr) (st : Store) (v : PV), Sim K A m st H ∧ RV K A H m v x ∧ Fin K A (rV K A) W m H Q (sliceOp v lo hi st)
theorem sl_any : SlR X (rSlc X.K A) := by
  intro pins s σ H x v vl vu lo hi sl Q I rx hs pl pu ⟨W, m, st, pv, S, hv, h⟩
  unfold sliceOp at h
  split at h
  · rename_i xs
    simp only [RV] at hv
    obtain ⟨a, ys, rfl, hsq, hl, hr⟩ := hv
    refine sl_tupA pins s σ H _ v vl vu lo hi sl Q I rx hs pl pu ⟨a, ys, rfl, hsq, fun e => ?_, fun _ p hp => fin_tup S (hr.cut lo hi) (Nat.le_trans (cutP_len _ _ _) hl) h hp⟩
    rw [hr.len, ← sIx_eq, ← sIx_eq] at e
    rw [cutP_all e] at h
    exact h m H _ (Later.refl _ _) S (by simp only [RV]; exact ⟨a, ys, rfl, hsq, hl, hr⟩)
  · rename_i i
    split at h
    · rename_i xs e
      obtain ⟨a, ys, rfl, hsq, hl, hr⟩ := S.list e hv
      exact sl_list pins s σ H _ v vl vu lo hi sl Q I rx hs pl pu ⟨a, ys, rfl, hsq, fun p hp => fin_lst S (hr.cut lo hi) (Nat.le_trans (cutP_len _ _ _) hl) h hp⟩
    · exact h.elim
  · exact h.elim
/-- o[i] = v -/
def rSet (K : PySem.W.Frag) (A : Ad) : V → V → V → Hp → (Hp → Prop) → Prop := fun o i v H Q => ∃ m st po pi pv, Sim K A m st H ∧ RV K A H m po o ∧ RV K A H m pi i ∧ RV K A H m pv v ∧
  Fin K A (rV K A) (fun _ _ _ => False) m H (fun _ H' => Q H') (setOp po pi pv st)
theorem Sim.setL {K : PySem.W.Frag} {m : List Addr} {st : Store} {H : Hp} (S : Sim K A m st H) {i : Nat} {a : Addr} {ys zs : List V} {vs : List PV} (e : m[i]? = some a) (h : H a = some (.lst ys)) (hl : vs.length ≤ szl) (r : RVs K A H m vs zs) :
    Later m H m (upd H a (.lst zs)) ∧ Sim K A m (st.set i (.lst vs)) (upd H a (.lst zs)) := by
  have l : Later m H m (upd H a (.lst zs)) := Later.put e (by rw [h]; simp)
  exact ⟨l, S.put e h (fun _ z => nomatch z) (fun _ z => by unfold LamX.CodeO at z; cases z) ⟨zs, upd_same, hl, r.later S l⟩⟩
theorem set_any : PSet X (rSet X.K A) := by
  intro pins s σ H o i v ov iv u Q I ro ri rv ⟨m, st, po, pi, pv, S, ho, hi, hv, h⟩
  unfold setOp at h
  split at h
  · rename_i b k
    split at h
    · rename_i xs e
      obtain ⟨a, e2, rfl, ys, hp, hl, hr⟩ := S.obj e ho
      simp only [RV] at hi
      split at h
      · rename_i j hj
        refine set_list pins s σ H _ i v ov iv u Q I ro ri rv ⟨a, ys, k, j, rfl, hi, hp, ?_, ?_⟩
        · have q : ixOf ys.length k = some j := by rw [hr.len]; exact hj
          exact q
        · obtain ⟨l, S2⟩ := S.setL (vs := xs.set j pv) (zs := ys.set j v) e2 hp (by rw [List.length_set]; exact hl) (hr.set hv)
          exact h m _ .non l S2 (by simp only [RV])
      · exact h.elim
    · exact h.elim
  · exact h.elim
end
end MP
set_option linter.all false
set_option Elab.async false
set_option maxRecDepth 100000
set_option maxHeartbeats 2000000
namespace MP
open PySem PySem.Spec PyProof.Rows L2
section
variable {X : Cx} {A : Ad} {W : Value → Option Addr → Hp → Prop} {S0 : Sig}
/-- a built-in on values -/
def rC (K : PySem.W.Frag) (A : Ad) (f : List PV → Store → Res PV) : List V → Hp → VK → Prop := fun xs H Q => ∃ (W : Value → Option Addr → Hp → Prop) (m : List Addr) (st : Store) (vs : List PV), Sim K A m st H ∧ RVs K A H m vs xs ∧ Fin K A (rV K A) W m H Q (f vs st)
/-- a built-in on a list that is read -/
def rC1 (K : PySem.W.Frag) (A : Ad) (f : List PV → Store → Res PV) : List V → Hp → VK → Prop := fun xs H Q => ∃ (W : Value → Option Addr → Hp → Prop) (m : List Addr) (st : Store) (vs : List PV) (a : Addr) (ys : List V), xs = [.ref a] ∧ Sim K A m st H ∧ SqL K H a ys ∧ vs.length ≤ szl ∧ RVs K A H m vs ys ∧ Fin K A (rV K A) W m H Q (f vs st)
def bltV : Blt → Value
  | .len => .builtin "len" | .all => .builtin "all" | .any => .builtin "any" | .tuple => .type "tuple" | .list => .type "list" | .sorted => .builtin "sorted"
  | .int => .type "int" | .abs => .builtin "abs" | .isinst => .builtin "isinstance" | .repr => .builtin "repr" | .sum => .builtin "sum" | .min => .builtin "min" | .max => .builtin "max"
theorem all_of {K : PySem.W.Frag} {m : List Addr} {H : Hp} : ∀ {vs : List PV} {b : Bool} {xs : List V}, allB vs = some b → RVs K A H m vs xs → ∃ bs : List Bool, xs = bs.map V.bl ∧ b = bs.all id
  | [], b, xs, e, h => by simp only [allB] at e; simp only [RVs] at h; subst h; cases e; exact ⟨[], rfl, rfl⟩
  | v :: vs, b, xs, e, h => by
    simp only [RVs] at h
    obtain ⟨y, r, rfl, h1, h2⟩ := h
    cases v with
    | bl c =>
      simp only [allB] at e
      cases q : allB vs with
      | none => rw [q] at e; cases e
      | some d =>
        rw [q] at e
        cases e
        obtain ⟨bs, e1, e2⟩ := all_of q h2
        simp only [RV] at h1
        exact ⟨c :: bs, by rw [h1, e1]; rfl, by rw [e2]; rfl⟩
    | _ => simp only [allB] at e; cases e
theorem any_of {K : PySem.W.Frag} {m : List Addr} {H : Hp} : ∀ {vs : List PV} {b : Bool} {xs : List V}, anyB vs = some b → RVs K A H m vs xs → ∃ bs : List Bool, xs = bs.map V.bl ∧ b = bs.any id
  | [], b, xs, e, h => by simp only [anyB] at e; simp only [RVs] at h; subst h; cases e; exact ⟨[], rfl, rfl⟩
  | v :: vs, b, xs, e, h => by
    simp only [RVs] at h
    obtain ⟨y, r, rfl, h1, h2⟩ := h
    cases v with
    | bl c =>
      simp only [anyB] at e
      cases q : anyB vs with
      | none => rw [q] at e; cases e
      | some d =>
        rw [q] at e
        cases e
        obtain ⟨bs, e1, e2⟩ := any_of q h2
        simp only [RV] at h1
        exact ⟨c :: bs, by rw [h1, e1]; rfl, by rw [e2]; rfl⟩
    | _ => simp only [anyB] at e; cases e
theorem insI_perm (x : Int) : ∀ l : List Int, (insI x l).Perm (x :: l)
  | [] => .refl _
  | y :: r => by
    unfold insI
    split
    · exact .refl _
    · exact ((insI_perm x r).cons y).trans (.swap x y r)
theorem sortI_perm : ∀ l : List Int, (sortI l).Perm l
  | [] => .refl _
  | x :: r => (insI_perm x _).trans ((sortI_perm r).cons x)
theorem insI_sorted (x : Int) : ∀ l : List Int, l.Pairwise (· ≤ ·) → (insI x l).Pairwise (· ≤ ·)
  | [], _ => by simp [insI]
  | y :: r, h => by
    unfold insI
    split
    · rename_i hxy
      refine List.pairwise_cons.mpr ⟨fun z hz => ?_, h⟩
      rcases List.mem_cons.mp hz with e | e
      · rw [e]; exact hxy
      · exact Int.le_trans hxy ((List.pairwise_cons.mp h).1 z e)
    · rename_i hxy
      refine List.pairwise_cons.mpr ⟨fun z hz => ?_, insI_sorted x r (List.pairwise_cons.mp h).2⟩
      rcases List.mem_cons.mp ((insI_perm x r).mem_iff.mp hz) with e | e
      · rw [e]; omega
      · exact (List.pairwise_cons.mp h).1 z e
theorem sortI_sorted : ∀ l : List Int, (sortI l).Pairwise (· ≤ ·)
  | [] => .nil
  | x :: r => insI_sorted x _ (sortI_sorted r)
theorem sort_uniq {l l' : List Int} (p : l'.Perm l) (s : l'.Pairwise (· ≤ ·)) : l' = sortI l :=
  (p.trans (sortI_perm l).symm).eq_of_pairwise (fun a b _ _ h1 h2 => Int.le_antisymm h1 h2) s (sortI_sorted l)
theorem RVs.ofInts {K : PySem.W.Frag} {m : List Addr} {H : Hp} : ∀ ns : List Int, RVs K A H m (ns.map PV.int) (ns.map V.int)
  | [] => RVs.nil
  | n :: ns => RVs.cons (by simp only [RV]) (RVs.ofInts ns)
theorem intsOf_len : ∀ {vs : List PV} {ns : List Int}, intsOf vs = some ns → ns.length = vs.length
  | [], ns, e => by simp only [intsOf] at e; cases e; rfl
  | v :: vs, ns, e => by
    cases v with
    | int i =>
      simp only [intsOf] at e
      cases q : intsOf vs with
      | none => rw [q] at e; cases e
      | some ms => rw [q] at e; cases e; simp [intsOf_len q]
    | _ => simp only [intsOf] at e; cases e
theorem cr_blt1 (hc : X.calm = true) (b : Blt) : CallR X (bltV b) (rC1 X.K A (blt1 S0 b)) := by
  intro pins s σ H xs us Q I r ⟨W, m, st, vs, a, ys, e, S, hs, hl, hr, h⟩
  unfold blt1 at h
  split at h
  · cases q : allB vs with
    | none => rw [q] at h; exact h.elim
    | some d =>
      rw [q] at h
      obtain ⟨bs, e1, e2⟩ := all_of q hr
      subst e1
      exact (cr_all hc) pins s σ H xs us Q I r ⟨a, bs, e, hs, by rw [← e2]; exact fin_bl S h⟩
  · cases q : anyB vs with
    | none => rw [q] at h; exact h.elim
    | some d =>
      rw [q] at h
      obtain ⟨bs, e1, e2⟩ := any_of q hr
      subst e1
      exact (cr_any hc) pins s σ H xs us Q I r ⟨a, bs, e, hs, by rw [← e2]; exact fin_bl S h⟩
  · exact call_tuple_of pins s σ H xs us Q I r ⟨a, ys, e, .inl ⟨hs, fun p hp => fin_tup S hr hl h hp⟩⟩
  · refine call_len pins s σ H xs us Q I r ⟨.ref a, ys.length, e, .inl ⟨ys, hs, rfl⟩, ?_⟩
    rw [hr.len]
    exact h m H _ (Later.refl _ _) S (by simp only [RV])
  · split at h
    · rename_i ns q
      rw [ints_of q hr] at hs
      exact (cr_sum hc) pins s σ H xs us Q I r ⟨a, ns, e, hs, h m H _ (Later.refl _ _) S (by simp only [RV])⟩
    · exact h.elim
  · unfold sortP at h
    cases q : intsOf vs with
    | none => rw [q] at h; exact h.elim
    | some ns =>
      rw [q] at h
      rw [ints_of q hr] at hs
      refine cr_sortedI pins s σ H xs us Q I r ⟨a, ns, e, hs, fun ns' p hp1 hp2 hn => ?_⟩
      rw [sort_uniq hp1 hp2]
      exact fin_lst (vs := (sortI ns).map .int) S (RVs.ofInts _) (by rw [List.length_map, (sortI_perm ns).length_eq, intsOf_len q]; exact hl) h hn
  · exact call_list_of pins s σ H xs us Q I r ⟨a, ys, e, .inl hs, fun p hp => fin_lst S hr hl h hp⟩
  · exact h.elim

mutual
theorem shown_le : ∀ d : PyData, d.canLay0 = true → rw_ d ≤ szl → d.shown.length ≤ rw_ d
  | .none, _, _ => by show (Str.ofString "None").length ≤ 4; decide +kernel
  | .bool b, _, _ => by cases b <;> (show Str.length _ ≤ 5; decide +kernel)
  | .int i, _, _ => by
    show (Str.ofString (toString i)).length ≤ i.natAbs.log2 + 2
    have h := int_text_length_le (a := i) (k := i.natAbs.log2 + 1) (by omega) (by omega)
    have e : (Str.ofString (toString i)).length ≤ (toString i).length := by
      rw [show Str.ofString (toString i) = Str.ofStringByList (toString i) from ?_]
      · show ((toString i).toList.map Char.toNat).toArray.size ≤ _
        simp [String.length]
      · unfold Str.ofString Str.ofStringByList
        rw [cpsOfBytes_string]
    omega
  | .str x, h, _ => by
    show (reprText x).length ≤ 10 * x.length + 2
    refine StrLaws.reprText_len x fun c hc => ?_
    have h : PyData.strOk x = true := h
    unfold PyData.strOk at h
    rw [Array.all_eq_true] at h
    obtain ⟨n, hn, e⟩ := List.mem_iff_getElem.mp hc
    have q := h n (by simpa using hn)
    have q2 : x.cps[n]'(by simpa using hn) < 0x110000 := by simpa using q
    have e2 : x.cps[n]'(by simpa using hn) = c := by rw [← e]; simp
    rw [← e2]
    exact Nat.lt_trans q2 (by decide)
  | .list xs, h, hz => by
    have h1 : PyData.canLayAll0 xs = true := h
    have h2 : (listText (PyData.shownAll xs)).length ≤ _ := listText_len_le _
    have h3 := shown_les xs h1 (by have : rws xs + 3 ≤ szl := hz; omega)
    show (listText (PyData.shownAll xs)).length ≤ rws xs + 3
    omega
  | .tuple xs, h, hz => by
    have h1 : PyData.canLayAll0 xs = true := h
    have h2 : (tupleText (PyData.shownAll xs)).length ≤ _ := tupleText_len_le _
    have h3 := shown_les xs h1 (by have : rws xs + 3 ≤ szl := hz; omega)
    show (tupleText (PyData.shownAll xs)).length ≤ rws xs + 3
    omega
  | .dict _, _, h => by have h : 16777217 ≤ 16777216 := h; omega
theorem shown_les : ∀ xs : List PyData, PyData.canLayAll0 xs = true → rws xs ≤ szl → ((PyData.shownAll xs).map (·.length)).sum + 2 * (PyData.shownAll xs).length ≤ rws xs
  | [], _, _ => by simp [PyData.shownAll, rws]
  | x :: xs, h, hz => by
    have h : (x.canLay0 && PyData.canLayAll0 xs) = true := h
    rw [Bool.and_eq_true] at h
    have hz : rw_ x + 2 + rws xs ≤ szl := hz
    have h1 := shown_le x h.1 (by omega)
    have h2 := shown_les xs h.2 (by omega)
    simp only [PyData.shownAll, List.map_cons, List.sum_cons, List.length_cons, rws]
    omega
end
/-- repr of data -/
theorem cr_reprD (hg : X.A.guards = some []) (hu : X.A.units + 70 < cLine) : CallR X (.builtin "repr") (fun xs H Q => ∃ x d, xs = [x] ∧ Dp X.K H x d ∧ reprOk d = true ∧ Q (.str d.shown) H) := by
  intro pins s σ H xs us Q I r ⟨x, d, e, hd, ok, q⟩
  subst e
  obtain ⟨u, rfl, ru⟩ := vals1 r
  unfold reprOk at ok
  simp only [Bool.and_eq_true, decide_eq_true_eq] at ok
  obtain ⟨o1, o2, o3, o4⟩ := ok
  have hz : d.shown.length ≤ sizeLine := by rw [← szl_eq]; exact Nat.le_trans (shown_le d o2 o4) o4
  obtain ⟨as, rd⟩ := Dp.reads I d x u hd ru
  have nd := PyData.hasDict_of_canLay d o2
  cases hd with
  | non => cases ru; exact PySem.P.repr_of_none ⟨.str _, H, I.tok _, ⟨_, rfl⟩, q⟩
  | bl b => cases ru; exact PySem.P.repr_of_bool ⟨.str _, H, I.tok _, ⟨_, rfl⟩, q⟩
  | int i =>
    obtain ⟨t, rfl⟩ := ru
    exact PySem.P.repr_of_int (of_decide_eq_true o1) ⟨.str _, H, I.tok _, ⟨_, rfl⟩, q⟩
  | str y =>
    obtain ⟨t, rfl⟩ := ru
    exact PySem.P.repr_of_str ⟨.str _, H, I.tok _, ⟨_, rfl⟩, q⟩ hz
  | lst h1 h2 =>
    cases ru
    exact repr_of_reads' rd o1 (fun z => by rw [nd] at z; cases z) hg (by omega) (fun _ _ e => e) (fun h' u tk k => ⟨.str _, H, I.kept k, ⟨u, rfl⟩, q⟩) hz
  | tup h1 h2 =>
    cases ru
    exact repr_of_reads' rd o1 (fun z => by rw [nd] at z; cases z) hg (by omega) (fun _ _ e => e) (fun h' u tk k => ⟨.str _, H, I.kept k, ⟨u, rfl⟩, q⟩) hz

def tyNames : List String := ["NoneType", "bool", "int", "str", "tuple", "list", "dict"]
def tyNames2 : List String := ["int", "bool", "str", "tuple", "list", "dict"]
/-- what the written part tells of the classes that isinstance is asked of -/
structure KitF (K : PySem.W.Frag) (A : Ad) (S : Sig) : Prop where
  own : ∀ c, S.isc c = true → Cls K (A.ca c) ∧ PySem.W.findIn K (.ref (A.ca c)) "__class__" = some (some (.builtin "object.__class__")) ∧ PySem.W.specialIn K (.builtin "object.__class__") "__get__" = some (some (.builtin "getset_descriptor.__get__")) ∧
    PySem.W.takesIn K (.builtin "object.__class__") = some true ∧ PySem.W.mroIn K (A.ca c) (.type "object") = some true
  tc : ∀ k, S.isc k = true → ∀ T ∈ tyNames, PySem.W.kitOne K (.type T) (.ref (A.ca k)) = some false
  ct : ∀ c, S.isc c = true → ∀ n ∈ tyNames2, PySem.W.kitOne K (.ref (A.ca c)) (.type n) = some false
  cc : ∀ c k, S.isc c = true → S.isc k = true → PySem.W.kitOne K (.ref (A.ca c)) (.ref (A.ca k)) = some (S.sub c k)
/-- the type of a value -/
def pvT (A : Ad) (isc : Nat → Bool) (st : Store) : PV → Option Value
  | .non => some (.type "NoneType")
  | .bl _ => some (.type "bool")
  | .int _ => some (.type "int")
  | .str _ => some (.type "str")
  | .tup _ => some (.type "tuple")
  | .ref i => match st[i]? with
    | some (.lst _) | some (.frz _) => some (.type "list")
    | some (.dic _) => some (.type "dict")
    | some (.ins c _) => if isc c then some (.ref (A.ca c)) else none
    | _ => none
  | _ => none
theorem pvT_tyx {K : PySem.W.Frag} {m : List Addr} {st : Store} {H : Hp} (F : KitF K A S0) (S : Sim K A m st H) {v : PV} {x : V} {t : Value} (h : RV K A H m v x) (e : pvT A S0.isc st v = some t) : TyX K H x t := by
  cases v with
  | non => simp only [RV] at h; subst h; cases e; exact .base .non
  | bl b => simp only [RV] at h; subst h; cases e; exact .base (.bl b)
  | int b => simp only [RV] at h; subst h; cases e; exact .base (.int b)
  | str b => simp only [RV] at h; subst h; cases e; exact .base (.str b)
  | tup xs =>
    simp only [RV] at h
    obtain ⟨a, ys, rfl, hs, _⟩ := h
    cases e
    rcases hs with (hs | ⟨o, hs⟩) | ⟨o, its, n, hk, hc, _⟩
    · exact .base (.tup hs)
    · exact .fTuple hs
    · exact .kTuple hk hc
  | ref i =>
    simp only [pvT] at e
    cases q : st[i]? with
    | none => rw [q] at e; cases e
    | some o =>
      rw [q] at e
      obtain ⟨a, h1, rfl, h3⟩ := S.obj q h
      cases o with
      | lst xs => cases e; obtain ⟨ys, g, _⟩ := h3; exact .base (.lst g)
      | frz xs =>
        cases e
        obtain ⟨ob, ys, g, _⟩ := h3
        exact .base (.frz g)
      | dic kvs => cases e; obtain ⟨_, g⟩ := h3; exact .base (.dK g)
      | ins c fs =>
        simp only at e
        split at e
        · rename_i hc
          cases e
          obtain ⟨dx, gs, g, _⟩ := h3
          obtain ⟨f1, f2, f3, f4, f5⟩ := F.own c hc
          exact .base (.ins g f1 f2 f3 f4 f5)
        · cases e
      | gone => cases e
  | fn k => cases e
  | cls k => cases e
  | ty n => cases e
theorem kit_tys : ∀ T ∈ tyNames, ∀ n ∈ tyNames2, kitB T n = some (T == n || (T == "bool" && n == "int")) := by decide +kernel
theorem isInst_kit {K : PySem.W.Frag} (F : KitF K A S0) {st : Store} {v t : PV} {b : Bool} (h : isInst S0 v t st = some b) : ∃ tv c u, pvT A S0.isc st v = some tv ∧ (∀ {H : Hp} {m : List Addr} {y : V}, RV K A H m t y → y = c) ∧ ClsV c u ∧ PySem.W.kitOne K tv u = some b := by
  unfold isInst at h
  split at h
  · rename_i n
    split at h
    · rename_i hn
      have hn : n ∈ tyNames2 := by simpa [tyNames2] using hn
      have key : ∀ T ∈ tyNames, b = (T == n || (T == "bool" && n == "int")) → pvT A S0.isc st v = some (.type T) → ∃ tv c u, pvT A S0.isc st v = some tv ∧ (∀ {H : Hp} {m : List Addr} {y : V}, RV K A H m (.ty n) y → y = c) ∧ ClsV c u ∧ PySem.W.kitOne K tv u = some b := fun T hT eb e =>
        ⟨_, .ty n, _, e, fun r => by simp only [RV] at r; exact r, .ty n, kit_ty (by rw [eb]; exact kit_tys T hT n hn)⟩
      have sw : ∀ T : String, (n == T) = (T == n) := fun T => Bool.beq_comm
      unfold tyB at h
      cases v with
      | non =>
        refine key "NoneType" (by decide) ?_ rfl
        have h : b = false := (Option.some.inj h).symm
        rw [h]
        revert hn; unfold tyNames2; intro hn
        simp only [List.mem_cons, List.not_mem_nil, or_false] at hn
        rcases hn with rfl | rfl | rfl | rfl | rfl | rfl <;> decide
      | bl c =>
        refine key "bool" (by decide) ?_ rfl
        have h : (n == "bool" || n == "int") = b := Option.some.inj h
        rw [← h, sw]
        simp
      | int c =>
        refine key "int" (by decide) ?_ rfl
        have h : (n == "int") = b := Option.some.inj h
        rw [← h, sw]
        simp
      | str c =>
        refine key "str" (by decide) ?_ rfl
        have h : (n == "str") = b := Option.some.inj h
        rw [← h, sw]
        simp
      | tup c =>
        refine key "tuple" (by decide) ?_ rfl
        have h : (n == "tuple") = b := Option.some.inj h
        rw [← h, sw]
        simp
      | ref i =>
        simp only at h
        cases q : st[i]? with
        | none => rw [q] at h; cases h
        | some o =>
          rw [q] at h
          cases o with
          | lst xs =>
            refine key "list" (by decide) ?_ (by simp only [pvT, q])
            have h : (n == "list") = b := Option.some.inj h
            rw [← h, sw]
            simp
          | frz xs =>
            refine key "list" (by decide) ?_ (by simp only [pvT, q])
            have h : (n == "list") = b := Option.some.inj h
            rw [← h, sw]
            simp
          | dic xs =>
            refine key "dict" (by decide) ?_ (by simp only [pvT, q])
            have h : (n == "dict") = b := Option.some.inj h
            rw [← h, sw]
            simp
          | ins c fs =>
            simp only at h
            split at h
            · rename_i hc
              have h : b = false := (Option.some.inj h).symm
              exact ⟨.ref (A.ca c), .ty n, .type n, by simp only [pvT, q, hc, if_true], fun r => by simp only [RV] at r; exact r, .ty n, by rw [h]; exact F.ct c hc n hn⟩
            · cases h
          | gone => cases h
      | fn k => cases h
      | cls k => cases h
      | ty k => cases h
    · cases h
  · rename_i k
    split at h
    · rename_i hk
      have key : ∀ T ∈ tyNames, some false = some b → pvT A S0.isc st v = some (.type T) → ∃ tv c u, pvT A S0.isc st v = some tv ∧ (∀ {H : Hp} {m : List Addr} {y : V}, RV K A H m (.cls k) y → y = c) ∧ ClsV c u ∧ PySem.W.kitOne K tv u = some b := fun T hT eb e =>
        ⟨_, .ref (A.ca k), _, e, fun r => by simp only [RV] at r; exact r, .own _, by rw [← eb]; exact F.tc k hk T hT⟩
      unfold clsB at h
      cases v with
      | non => exact key "NoneType" (by decide) h rfl
      | bl c => exact key "bool" (by decide) h rfl
      | int c => exact key "int" (by decide) h rfl
      | str c => exact key "str" (by decide) h rfl
      | tup c => exact key "tuple" (by decide) h rfl
      | ref i =>
        simp only at h
        cases q : st[i]? with
        | none => rw [q] at h; cases h
        | some o =>
          rw [q] at h
          cases o with
          | lst xs => exact key "list" (by decide) h (by simp only [pvT, q])
          | frz xs => exact key "list" (by decide) h (by simp only [pvT, q])
          | dic xs => exact key "dict" (by decide) h (by simp only [pvT, q])
          | ins c fs =>
            simp only at h
            split at h
            · rename_i hc
              exact ⟨.ref (A.ca c), .ref (A.ca k), .ref (A.ca k), by simp only [pvT, q, hc, if_true], fun r => by simp only [RV] at r; exact r, .own _, by rw [← h]; exact F.cc c k hc hk⟩
            · cases h
          | gone => cases h
      | fn k => cases h
      | cls k => cases h
      | ty k => cases h
    · cases h
  · cases h

/-- isinstance(x, t), t any tuple of classes -/
def rIsiA (K : PySem.W.Frag) : List V → Hp → VK → Prop := fun xs H Q => ∃ (x : V) (tp : Addr) (cs : List V) (t : Value) (us : List Value) (b : Bool), xs = [x, .ref tp] ∧ SqT K H tp cs ∧ Paired ClsV cs us ∧ TyX K H x t ∧ PySem.W.kitAny K t us = some b ∧ Q (.bl b) H
theorem call_isiA : CallR X (.builtin "isinstance") (rIsiA X.K) := by
  intro pins s σ H xs us Q I r ⟨x, tp, cs, t, ws, b, e0, hT, k, ty, e, q⟩
  subst e0
  obtain ⟨u1, u2, rfl, r1, r2⟩ := vals2 r
  cases (show u2 = Value.ref tp from r2)
  obtain ⟨P, Z, p, hx⟩ := kit_of I r1 ty
  obtain ⟨its, rv, ⟨o, h1, h2, n, h3⟩, _⟩ := I.tuple hT
  have e3 := ClsV.all k rv
  subst e3
  obtain ⟨oc, od, dt, sl⟩ := o
  simp only at h2 h3
  subst h2 h3
  exact PySem.W.kia_tup Z I.kIn p h1 e hx fun tk => ⟨.bl b, H, I.tok tk, rfl, q⟩
theorem isInst_tv {st : Store} {v : PV} {tv tv' : Value} (h : pvT A S0.isc st v = some tv) (h' : pvT A S0.isc st v = some tv') : tv = tv' := Option.some.inj (h.symm.trans h')
theorem isInsts_kit {K : PySem.W.Frag} (F : KitF K A S0) {st : Store} {v : PV} {tv : Value} (ht : pvT A S0.isc st v = some tv) : ∀ {ts : List PV} {b : Bool}, isInsts S0 v st ts = some b → ∀ {H : Hp} {m : List Addr} {ys : List V}, RVs K A H m ts ys → ∃ us, Paired ClsV ys us ∧ PySem.W.kitAny K tv us = some b
  | [], b, h, H, m, ys, r => by
    simp only [isInsts] at h
    simp only [RVs] at r
    subst r
    cases h
    exact ⟨[], .nil, rfl⟩
  | t :: ts, b, h, H, m, ys, r => by
    simp only [isInsts] at h
    simp only [RVs] at r
    obtain ⟨y, zs, rfl, r1, r2⟩ := r
    cases q1 : isInst S0 v t st with
    | none => rw [q1] at h; cases h
    | some a =>
      cases q2 : isInsts S0 v st ts with
      | none => rw [q1, q2] at h; cases h
      | some c =>
        rw [q1, q2] at h
        cases h
        obtain ⟨us, p, k⟩ := isInsts_kit F ht q2 r2
        obtain ⟨tv', cv, u, h1, h2, h3, h4⟩ := isInst_kit F q1
        rw [isInst_tv h1 ht] at h4
        rw [h2 r1]
        exact ⟨u :: us, .cons h3 p, kitAny_cons h4 (fun e => by rw [e, Bool.false_or]; exact k) fun e => by rw [e]; rfl⟩
theorem isInsts_ty {K : PySem.W.Frag} (F : KitF K A S0) {st : Store} {v t : PV} {ts : List PV} {b : Bool} (h : isInsts S0 v st (t :: ts) = some b) : ∃ tv, pvT A S0.isc st v = some tv := by
  simp only [isInsts] at h
  cases q1 : isInst S0 v t st with
  | none => rw [q1] at h; cases h
  | some a =>
    obtain ⟨tv', cv, u, h1, h2, h3, h4⟩ := isInst_kit F q1
    exact ⟨tv', h1⟩
theorem repr_nodict (hg : X.A.guards = some []) (hu : X.A.units + 70 < cLine) : CallR X (.builtin "repr") (fun xs H Q => ∃ a, xs = [.ref a] ∧ H a = some (.dK []) ∧ Q (.str (PyData.shown (.dict []))) H) := by
  intro pins s σ H xs us Q I r ⟨a, e, h, q⟩
  subst e
  obtain ⟨u, rfl, ru⟩ := vals1 r
  cases ru
  obtain ⟨_, hm, vs, rel, o, es, ep, ho, hx, hd, hk, hp, _⟩ := I.hok a _ h
  cases rel
  have he : es.toList = [] := by
    revert hp
    generalize es.toList = l
    intro hp
    cases l with
    | nil => rfl
    | cons a l => cases hp
  refine repr_of_reads' (d := .dict []) (Reads.dict ho hx.1 hd (by rw [he]; exact .nil) (by rw [he]; exact .nil)) rfl (fun _ hm' => ?_) hg (by show X.A.units + (PyData.depth (.dict []) + 1) < cLine; simp only [PyData.depth, PyData.depthKv]; omega) (fun _ _ e => e) (fun h' u tk k => ⟨.str _, H, I.kept k, ⟨u, rfl⟩, q⟩) (by decide +kernel)
  have e : sysModules = a := by simpa using hm'
  rw [← e] at hm
  simp at hm
/-- the built-ins by their values -/
theorem cr_blt (hc : X.calm = true) (hg : X.A.guards = some []) (hu : X.A.units + 70 < cLine) (F : KitF X.K A S0) (b : Blt) : CallR X (bltV b) (rC X.K A (bltOp S0 b)) := by
  intro pins s σ H xs us Q I r ⟨W, m, st, vs, S, hr, h⟩
  unfold bltOp at h
  split at h
  · -- len
    rename_i v
    simp only [RVs] at hr
    obtain ⟨x, _, rfl, hv, rfl⟩ := hr
    split at h
    · rename_i i
      split at h
      · rename_i xs e
        obtain ⟨a, _, rfl, ys, g, hl, hr⟩ := S.obj e hv
        refine call_len pins s σ H _ us Q I r ⟨.ref a, ys.length, rfl, .inl ⟨ys, .inl (.inl g), rfl⟩, ?_⟩
        rw [hr.len]
        exact h m H _ (Later.refl _ _) S (by simp only [RV])
      · rename_i xs e
        obtain ⟨a, _, rfl, ob, ys, g, hl, hr⟩ := S.obj e hv
        refine call_len pins s σ H _ us Q I r ⟨.ref a, ys.length, rfl, .inl ⟨ys, .inl (.inr ⟨ob, g⟩), rfl⟩, ?_⟩
        rw [hr.len]
        exact h m H _ (Later.refl _ _) S (by simp only [RV])
      · rename_i kvs e
        obtain ⟨a, _, rfl, e0, g⟩ := S.obj e hv
        subst e0
        exact call_lenD pins s σ H _ us Q I r ⟨a, [], rfl, g, h m H _ (Later.refl _ _) S (by simp only [RV]; rfl)⟩
      · exact h.elim
    · rename_i xs
      simp only [RV] at hv
      obtain ⟨a, ys, rfl, hs, hl, hr⟩ := hv
      refine call_len pins s σ H _ us Q I r ⟨.ref a, ys.length, rfl, .inr ⟨ys, hs, rfl⟩, ?_⟩
      rw [hr.len]
      exact h m H _ (Later.refl _ _) S (by simp only [RV])
    · exact h.elim
  · -- int
    rename_i v
    simp only [RVs] at hr
    obtain ⟨x, _, rfl, hv, rfl⟩ := hr
    split at h
    · simp only [RV] at hv
      subst hv
      exact call_int1 pins s σ H _ us Q I r (.inl ⟨_, rfl, h m H _ (Later.refl _ _) S (by simp only [RV])⟩)
    · simp only [RV] at hv
      subst hv
      exact call_int1 pins s σ H _ us Q I r (.inr ⟨_, rfl, h m H _ (Later.refl _ _) S (by simp only [RV])⟩)
    · exact h.elim
  · -- abs
    rename_i v
    simp only [RVs] at hr
    obtain ⟨x, _, rfl, hv, rfl⟩ := hr
    split at h
    · simp only [RV] at hv
      subst hv
      exact call_abs pins s σ H _ us Q I r ⟨_, rfl, h m H _ (Later.refl _ _) S (by simp only [RV])⟩
    · exact h.elim
  · -- isinstance
    rename_i v t
    simp only [RVs] at hr
    obtain ⟨x, _, rfl, hv, y, _, rfl, ht, rfl⟩ := hr
    split at h
    · rename_i t1 ts
      cases q : isInsts S0 v st (t1 :: ts) with
      | none => rw [q] at h; exact h.elim
      | some b =>
        rw [q] at h
        simp only [RV] at ht
        obtain ⟨tp, cs, rfl, hs, _, hcs⟩ := ht
        obtain ⟨tv, h1⟩ := isInsts_ty F q
        obtain ⟨ws, h3, h4⟩ := isInsts_kit F h1 q hcs
        exact call_isiA pins s σ H _ us Q I r ⟨x, tp, cs, tv, ws, b, rfl, hs, h3, pvT_tyx F S hv h1, h4, fin_bl S h⟩
    · cases q : isInst S0 v t st with
      | none => rw [q] at h; exact h.elim
      | some b =>
        rw [q] at h
        obtain ⟨tv, c, u, h1, h2, h3, h4⟩ := isInst_kit F q
        have e := h2 ht
        subst e
        exact call_isi pins s σ H _ us Q I r ⟨x, y, tv, u, b, rfl, h3, pvT_tyx F S hv h1, h4, fin_bl S h⟩
  · -- repr
    rename_i v
    simp only [RVs] at hr
    obtain ⟨x, _, rfl, hv, rfl⟩ := hr
    have key : ∀ d, dataIn st v = some d → Fin X.K A (rV X.K A) W m H Q (if reprOk d then .ok (.str d.shown) st else .bad) → wpAny (model X.prog X.w) X.A (call (.builtin "repr") us) (EP X pins σ Q) X.xe s := fun d e h => by
      split at h
      · rename_i ok
        exact cr_reprD hg hu pins s σ H _ us Q I r ⟨x, d, rfl, S.dp e hv, ok, h m H _ (Later.refl _ _) S (by simp only [RV])⟩
      · exact h.elim
    unfold reprOp at h
    split at h
    · split at h
      · rename_i e
        obtain ⟨a, _, rfl, _, g⟩ := S.obj e hv
        exact (repr_nodict hg hu) pins s σ H _ us Q I r ⟨a, rfl, g, h m H _ (Later.refl _ _) S (by simp only [RV])⟩
      · split at h
        · rename_i d e
          exact key d e h
        · exact h.elim
    · split at h
      · rename_i d e
        exact key d e h
      · exact h.elim
  · -- min
    rename_i v w
    simp only [RVs] at hr
    obtain ⟨x, _, rfl, hv, y, _, rfl, ht, rfl⟩ := hr
    split at h
    · simp only [RV] at hv ht
      subst hv ht
      exact (call_min2 hc) pins s σ H _ us Q I r ⟨_, _, rfl, h m H _ (Later.refl _ _) S (by simp only [RV])⟩
    · exact h.elim
  · -- max
    rename_i v w
    simp only [RVs] at hr
    obtain ⟨x, _, rfl, hv, y, _, rfl, ht, rfl⟩ := hr
    split at h
    · simp only [RV] at hv ht
      subst hv ht
      exact (call_max2 hc) pins s σ H _ us Q I r ⟨_, _, rfl, h m H _ (Later.refl _ _) S (by simp only [RV])⟩
    · exact h.elim
  · -- tuple
    rename_i v
    simp only [RVs] at hr
    obtain ⟨x, _, rfl, hv, rfl⟩ := hr
    split at h
    · rename_i xs
      have hv0 := hv
      simp only [RV] at hv
      obtain ⟨a, ys, rfl, hs, hl, hr⟩ := hv
      exact call_tuple_of pins s σ H _ us Q I r ⟨a, ys, rfl, .inr ⟨hs, h m H _ (Later.refl _ _) S hv0⟩⟩
    · rename_i v hn
      split at h
      · rename_i xs e
        obtain ⟨a, ys, rfl, hs, hl, hr⟩ := S.list e hv
        exact (cr_blt1 hc .tuple) pins s σ H _ us Q I r ⟨W, m, st, xs, a, ys, rfl, S, hs, hl, hr, h⟩
      · exact h.elim
  · -- list
    rename_i v
    simp only [RVs] at hr
    obtain ⟨x, _, rfl, hv, rfl⟩ := hr
    split at h
    · rename_i xs e
      obtain ⟨a, ys, rfl, hs, hl, hr⟩ := S.seq e hv
      exact call_list_of pins s σ H _ us Q I r ⟨a, ys, rfl, hs, fun p hp => fin_lst S hr hl h hp⟩
    · exact h.elim
  · rename_i v _ _ _ _ _
    simp only [RVs] at hr
    obtain ⟨x, _, rfl, hv, rfl⟩ := hr
    split at h
    · rename_i xs e
      obtain ⟨a, ys, rfl, hs, hl, hr⟩ := S.list e hv
      exact (cr_blt1 hc b) pins s σ H _ us Q I r ⟨W, m, st, xs, a, ys, rfl, S, hs, hl, hr, h⟩
    · exact h.elim
  · exact h.elim

def mthId : Mth → String
  | .append => "list.append" | .count => "list.count" | .index => "list.index" | .extend => "list.extend" | .pop => "list.pop"
/-- a method on values -/
def rM (K : PySem.W.Frag) (A : Ad) (f : PV → List PV → Store → Res PV) : V → List V → Hp → VK → Prop := fun x xs H Q => ∃ (W : Value → Option Addr → Hp → Prop) (m : List Addr) (st : Store) (v : PV) (vs : List PV), Sim K A m st H ∧ RV K A H m v x ∧ RVs K A H m vs xs ∧ Fin K A (rV K A) W m H Q (f v vs st)
/-- l.count(x) of data -/
theorem mt_countD (hu : X.A.units + 65 < cLine) : MtR X "list.count" (fun x xs H Q => ∃ (a : Addr) (ys : List V) (y : V) (d : PyData) (ds : List PyData), x = .ref a ∧ xs = [y] ∧ SqL X.K H a ys ∧ DpAll X.K H ys ds ∧ Dp X.K H y d ∧ SeqAt.shaped d = true ∧ PyData.canLayAll0 ds = true ∧
    Q (.int (ds.countP fun z => PyData.eqv z d)) H) := by
  intro pins s σ H x xs v us Q I rx rxs ⟨a, ys, y, d, ds, e1, e2, hs, ha, hy, sd, hxs, q⟩
  subst e1 e2
  cases rx
  cases rxs with
  | cons ry rt =>
    rename_i uy ut
    cases rt
    obtain ⟨bs, r1⟩ := Dp.reads I d y uy hy ry
    obtain ⟨its, rv, ⟨⟨cls, dd, data, sls⟩, n, ho, hc, hdn, hdt⟩, hlen⟩ := I.list hs
    simp only at hc hdt
    subst hc hdt
    obtain ⟨as, h4⟩ := Dp.readsAll I ds _ its ha rv
    have hmap : its.map (SeqAt.readOf s.heap) = ds := SeqAt.readsAll_map ds its as hxs h4
    refine call_meets PySem.F.slot_list_count ⟨_, ho, rfl⟩ PySem.F.entry_list_count (PySem.F.args_list_count_2 _ _) (SeqAt.list_countAt a its.toArray n dd sls uy (fun u => PyData.eqv (SeqAt.readOf s.heap u) d))
      ⟨ho, SeqAt.items_eqAt (vs := its.toArray) (show ReadsAll s.heap its.toArray.toList ds as from h4) r1 hxs (SeqAt.canLay_of_shaped sd) (room_in sd hu), ?_⟩
    refine ⟨.int (ds.countP fun z => PyData.eqv z d : Nat), H, I.tok _, ⟨s.toks, ?_⟩, q⟩
    rw [← hmap, List.countP_map]
    rfl
theorem mt_any (hu : X.A.units + 70 < cLine) (k : Mth) : MtR X (mthId k) (rM X.K A (mthOp k)) := by
  intro pins s σ H x xs v us Q I rx rxs ⟨W, m, st, pv, vs, S, hv, hr, h⟩
  unfold mthOp at h
  split at h
  · rename_i i
    split at h
    · rename_i zs w e
      obtain ⟨a, e2, rfl, ys, hp, hl, hz⟩ := S.obj e hv
      simp only [RVs] at hr
      obtain ⟨y, _, rfl, hw, rfl⟩ := hr
      split at h
      · rename_i hlt
        obtain ⟨l, S2⟩ := S.setL (vs := zs ++ [w]) (zs := ys ++ [y]) e2 hp (by rw [List.length_append]; exact hlt) (hz.append (RVs.cons hw RVs.nil))
        exact mt_append pins s σ H _ _ v us Q I rx rxs ⟨a, ys, y, rfl, rfl, hp, by rw [hz.len, ← szl_eq]; exact hlt, h m _ .non l S2 (by simp only [RV])⟩
      · exact h.elim
    · rename_i zs j e
      obtain ⟨a, e2, rfl, ys, hp, hl, hz⟩ := S.obj e hv
      split at h
      · rename_i ws e3
        simp only [RVs] at hr
        obtain ⟨y, _, rfl, hw, rfl⟩ := hr
        obtain ⟨b, e4, rfl, ys2, hp2, hl2, hz2⟩ := S.obj e3 hw
        split at h
        · rename_i hlt
          obtain ⟨l, S2⟩ := S.setL (vs := zs ++ ws) (zs := ys ++ ys2) e2 hp (by rw [List.length_append]; exact hlt.1) (hz.append hz2)
          exact mt_extend pins s σ H _ _ v us Q I rx rxs ⟨a, b, ys, ys2, rfl, rfl, hp, hp2, by rw [hz.len, hz2.len, ← szl_eq]; exact hlt.1, h m _ .non l S2 (by simp only [RV])⟩
        · exact h.elim
      · exact h.elim
    · rename_i zs e
      obtain ⟨a, e2, rfl, ys, hp, hl, hz⟩ := S.obj e hv
      simp only [RVs] at hr
      subst hr
      split at h
      · rename_i w ew
        rw [List.getLast?_eq_getElem?] at ew
        obtain ⟨y, ey, ry⟩ := hz.get ew
        rw [← hz.len] at ey
        have hd : RVs X.K A H m zs.dropLast ys.dropLast := by
          rw [List.dropLast_eq_take, List.dropLast_eq_take, hz.len]
          exact hz.take _
        obtain ⟨l, S2⟩ := S.setL (vs := zs.dropLast) (zs := ys.dropLast) e2 hp (by rw [List.length_dropLast]; omega) hd
        exact mt_pop pins s σ H _ _ v us Q I rx rxs ⟨a, ys, y, rfl, rfl, hp, ey, h m _ y l S2 (ry.later S l)⟩
      · exact h.elim
    · rename_i zs w e
      obtain ⟨a, e2, rfl, ys, hp, hl, hz⟩ := S.obj e hv
      simp only [RVs] at hr
      obtain ⟨y, _, rfl, hw, rfl⟩ := hr
      unfold countP at h
      split at h
      · rename_i n en
        split at en
        · rename_i d ds q1 q2
          split at en
          · rename_i hc
            rw [Bool.and_eq_true] at hc
            cases en
            exact (mt_countD (by omega)) pins s σ H _ _ v us Q I rx rxs ⟨a, ys, y, d, ds, rfl, rfl, .inl (.inl hp), S.dps q2 hz, S.dp q1 hw, hc.1, hc.2, h m H _ (Later.refl _ _) S (by simp only [RV])⟩
          · cases en
        · cases en
      · exact h.elim
    · rename_i zs w e
      obtain ⟨a, e2, rfl, ys, hp, hl, hz⟩ := S.obj e hv
      simp only [RVs] at hr
      obtain ⟨y, _, rfl, hw, rfl⟩ := hr
      unfold indexP at h
      split at h
      · rename_i n en
        split at en
        · rename_i d ds q1 q2
          split at en
          · rename_i hc
            rw [Bool.and_eq_true] at hc
            rw [List.findIdx?_eq_some_iff_getElem] at en
            obtain ⟨hn, en1, en2⟩ := en
            exact (mt_indexD (by omega)) pins s σ H _ _ v us Q I rx rxs ⟨a, y, d, ds, n, ds[n], rfl, rfl, .lst (.inl (.inl hp)) (S.dps q2 hz), S.dp q1 hw, hc.2, hc.1, List.getElem?_eq_getElem hn, en1, fun k z' hk hz' => by
              rw [List.getElem?_eq_getElem (by omega)] at hz'
              cases hz'
              simpa using en2 k hk, h m H _ (Later.refl _ _) S (by simp only [RV])⟩
          · cases en
        · cases en
      · exact h.elim
    · exact h.elim
  · exact h.elim
end
end MP
set_option linter.all false
set_option Elab.async false
set_option maxRecDepth 100000
set_option maxHeartbeats 2000000
namespace MP
open PySem PySem.Spec PyProof.Rows L2

structure Tb where
  fns : List (Str × Nat × Nat)
  lv : Nat
  lams : List (Str × Nat)
  clss : List Str
  cons : List (Str × PV)
  frees : List Str

structure FnG (P : Program) (w : World) (K : PySem.W.Frag) (mg : Str → Option Value) (base : Heap) (k : Nat) (f : Addr) (fd : FuncData) (ps : List Str) (sp : Sp) : Prop where
  len : ∀ vs H Q E, sp vs H Q E → vs.length = ps.length
  run : ∀ (A : Around) (outer : List PySem.Env) (s : Shared) (H : Hp) (args : Args) (us : List Value) (vs : List V) (Q : VK) (E : XK), Room k A → A.guards = some [] → Env0 P w K mg base A outer s H → BindsTo s fd args (ps.zip us) → Vals vs us → sp vs H Q E →
    codeAny (model P w) A (.call (.ref f) args) (CR (L2.CX P w) outer P w H s Q E) s
section
variable {X : Cx} {W : WX} {k : Nat} {f : Addr} {fd : FuncData} {ps : List Str} {sp : Sp} {x : Str} {p pos : Pos} {e : Expr} {es : List Expr} {t : TA}
theorem run_fnG {pins : List (Addr × Obj)} {σ : L2.St} {H : Hp} {s : Shared} {Q : VK} {us : List Value} {vs : List V} (F : FnG X.prog X.w X.K X.mg X.base k f fd ps sp) (hr : Room k X.A) (hg : X.A.guards = some []) (hb : Binds X.K fd ps []) (tk : Takes X W)
    (I : Inv X pins σ H s) (r : Vals vs us) (h : sp vs H Q (fun c d H' => W c d σ H')) : wpAny (model X.prog X.w) X.A (call (.ref f) us) (EP X pins σ Q) X.xe s := by
  have hl : us.length = ps.length := by rw [← r.length]; exact F.len _ _ _ _ h
  have b := hb s us I.kIn (by rw [List.append_nil]; exact hl)
  rw [List.append_nil] at b
  refine wpAny_call (codeAny_mono (F.run X.A X.stack s H ⟨us, []⟩ us vs Q _ hr hg I.env0 b r h) fun r s' hq => ?_)
  cases r with
  | error e => exact passAt tk σ pins H s e s' I hq
  | ok fl =>
    cases fl with
    | ret u => exact I.after hq
    | next => exact False.elim hq
    | brk => exact False.elim hq
    | cont => exact False.elim hq
theorem pe_callG (F : FnG X.prog X.w X.K X.mg X.base k f fd ps sp) (hr : Room k X.A) (hg : X.A.guards = some []) (hb : Binds X.K fd ps []) (tk : Takes X W) (hgl : Gl X x) (hm : X.mg x = some (.ref f)) (hk : PySem.W.keepIn X.K (.ref f) = true)
    (ha : PA X (e :: es) t) (hdb : (x == ("__debug__" : Str)) = false) (he : starEach (e :: es) X.env = (false, eval e X.env) :: starEach es X.env) (hpl : (backTo pos (starEach es X.env)).any (·.1) = false) :
    PE X (.Call (.Name x p) (e :: es) [] pos) (fun σ H Q => t σ H fun vs H1 => sp vs H1 Q (fun c d H' => W c d σ H')) := by
  refine ⟨fun pins s σ H Q I h => ?_⟩
  refine wpAny_Call_Name_kw (ld_glob I hgl hm ?_ hdb)
  refine PySem.W.callWith_K (h₀ := X.base) I.ok.mod.kin hk (thn (ha.run pos pins s σ H _ I h) fun us s1 ⟨vs, H1, I1, r, q⟩ => ⟨I1.kIn, ?_⟩) he hpl
  exact run_fnG F hr hg hb tk I1 r q
end
/-- the promise of a def that does what f does -/
def spFn (K : PySem.W.Frag) (A : Ad) (n : Nat) (f : List PV → Store → Res PV) : Sp := fun vs H Q E => vs.length = n ∧ ∃ m st args, Sim K A m st H ∧ RVs K A H m args vs ∧ Fin K A (rV K A) E m H Q (f args st)

structure GF (B : Tb) (A : Ad) (K : PySem.W.Frag) (mg : Str → Option Value) : Prop where
  fr : ∀ x ∈ B.frees, mg x = none
  co : ∀ x v, B.cons.lookup x = some v → ∃ u y, mg x = some u ∧ RelV y u ∧ ∀ A H m, RV K A H m v y
  fn : ∀ (k : Nat) x n l, B.fns[k]? = some (x, n, l) → mg x = some (.ref (A.fa k)) ∧ PySem.W.keepIn K (.ref (A.fa k)) = true
  cl : ∀ (k : Nat) x, B.clss[k]? = some x → mg x = some (.ref (A.ca k))
/-- the own exceptions -/
structure KitE (K : PySem.W.Frag) (A : Ad) (S : Sig) : Prop where
  ex : ∀ c, S.ise c = true → ExcC K (A.ca c)
  kit : ∀ c k, S.ise c = true → S.ise k = true → PySem.W.kitOne K (.ref (A.ca c)) (.ref (A.ca k)) = some (S.sub c k)
  val : ∀ c, S.ise c = true → PySem.W.kitOne K (.ref (A.ca c)) (.type "ValueError") = some true
  exm : ∀ c k, S.ise c = true → S.ise k = true → PySem.W.exmOne K (.ref (A.ca c)) (.ref (A.ca k)) = some (S.sub c k)
  rs : ∀ c, S.ise c = true → PySem.W.subIn K (.ref (A.ca c)) (.type "BaseException") = some true ∧ PySem.W.typeIn K (.ref (A.ca c)) = some (.type "type")
  made : ∀ c, S.ise c = true → PySem.W.keepIn K (.ref (A.ca c)) = true ∧ PySem.W.excIn K (A.ca c) [.type "ValueError", .type "Exception", .type "BaseException", .type "object"] "ValueError.__new__" = true
/-- without what is pinned here -/
def Ad.base (A : Ad) : Ad := { A with pins := [], kp := [], sn := none }
/-- what a helper makes of the lambda it gets: f told of the lambda's own doing r -/
def TTh (K : PySem.W.Frag) (A : Ad) (f : (Store → Res PV) → Store → Res PV) : (XK → Hp → VK → Prop) → Hp → VK → Prop := fun tl H Q =>
  ∃ m st r, Sim K A m st H ∧ (∀ (E : XK) m' H' st' Q', Later m H m' H' → Sim K A m' st' H' → Fin K A (rV K A) E m' H' Q' (r st') → tl E H' Q') ∧ Fin K A (rV K A) (fun _ _ _ => False) m H Q (f r st)
/-- the def that calls what it got, a by name: TT tells what it makes of the lambda's reading -/
def GivesTo3 (X : Cx) (Ng : List Str) (x : Str) (sg : Scope) (g : Addr) (cdg : Value) (bg : List Stmt) (a : Str) (q : Str) (TT : (XK → Hp → VK → Prop) → Hp → VK → Prop) : Prop :=
  ∀ (f c' : Addr) (s : Shared) (H : Hp) (Q : VK) (tl : XK → Hp → VK → Prop), Room 0 (X.A.deeper (envOfC x sg s.heap.objs.size g cdg)) →
    (∀ (W : WX) (pn : List (Addr × Obj)) (xe : Value → Shared → Prop) (p1 p2 : Pos), Takes ((cxOf C8.CX0 X.prog X.w X.K X.mg X.base Ng x sg g cdg X.A X.stack s H C8.E0).tr pn xe) W →
      PE ((cxOf C8.CX0 X.prog X.w X.K X.mg X.base Ng x sg g cdg X.A X.stack s H C8.E0).tr pn xe) (.Call (.Name a p1) [] [] p2) (fun σZ HZ Q => σZ[0]? = some (some (.ref f)) ∧ HZ c' = some (LamX.CodeO c' q) ∧ tl (WE W σZ) HZ Q)) →
    H c' = some (LamX.CodeO c' q) → TT tl H Q →
    ∃ t, PSs (cxOf C8.CX0 X.prog X.w X.K X.mg X.base Ng x sg g cdg X.A X.stack s H C8.E0).nox bg t ∧ t { nx := fun _ H' => Q .non H', rt := Q } (L2.start Ng [.ref f]) H
/-- a def that calls the lambda it gets -/
structure HelpG (P : Program) (w : World) (K : PySem.W.Frag) (mg : Str → Option Value) (base : Heap) (lv : Nat) (A : Ad) (x : Str) (f : (Store → Res PV) → Store → Res PV) : Prop where
  ex : ∃ (g : Addr) (pg : Arguments) (bg : List Stmt) (sg : Scope) (dV kV doc pm cdv ct oc : Value) (an od : Option Addr) (osl : Array (Option Value)) (Ng : List Str) (a : Str), mg x = some (.ref g) ∧ PySem.W.keepIn K (.ref g) = true ∧
    K.lookup g = some ⟨oc, od, .func (PySem.W.fnOf x x pg bg sg dV kV doc pm an cdv ct), osl⟩ ∧ PySem.W.codeIn K cdv x = true ∧ L2.Binds K (PySem.W.fnOf x x pg bg sg dV kV doc pm an cdv ct) [a] [] ∧ FnScope Ng [a] sg ∧ Ng[0]? = some a ∧ Vis sg a ∧
    (a == ("__debug__" : Str)) = false ∧ (a == ("__classdict__" : Str)) = false ∧
    ∀ X : Cx, X.prog = P → X.w = w → X.K = K → X.mg = mg → X.base = base → X.A.guards = some [] → Room lv X.A → ∀ q, GivesTo3 X Ng x sg g cdv bg a q (TTh K A f)
structure XOk (B : Tb) (A : Ad) (C : Cn) (X : Cx) (W : WX) (cm : Bool) : Prop where
  calm : cm = true → X.calm = true
  tk : Takes X W
  nd : X.N.Nodup
  hu : X.A.units + 70 < cLine
  hg : X.A.guards = some []
  kit : KitF X.K A C.S
  kie : KitE X.K A C.S
  gf : GF B A X.K X.mg
  room : cm = true → Room B.lv X.A
  fns : ∀ (k : Nat) x n l, B.fns[k]? = some (x, n, l) → l ≤ B.lv → ∃ fd ps, ps.length = n ∧ FnG X.prog X.w X.K X.mg X.base l (A.fa k) fd ps (spFn X.K A.base n (C.S.fn k)) ∧ Binds X.K fd ps []
  lams : ∀ (k : Nat) x l, B.lams[k]? = some (x, l) → l ≤ B.lv → HelpG X.prog X.w X.K X.mg X.base l A.base x (C.S.lam k)
  pins : ∀ p ∈ A.pins, p.1 ∈ C.pins
  th : ∀ r, C.th = some r → ∀ W' pn xe, Takes (X.tr pn xe) W' → ∀ a p1 p2, X.N[0]? = some a → PE (X.tr pn xe) (.Call (.Name a p1) [] [] p2) (TEv X.K A (fun _ => rV X.K A) W' (fun _ st => r st))
  erc : cm = true → C.er = none
  ar : ∀ k n l, C.S.ar k = some (n, l) → ∃ x, B.fns[k]? = some (x, n, l)
  lv : cm = true → C.lv ≤ B.lv
  tab : C.tab = true → ∃ c P, X.env.code = .ref c ∧ LamX.TabB X.base X.mg c P ∧ (P, X.env.qual ++ "<lambda>") ∈ A.tabs ∧ ∀ p ∈ A.tabs, p.1 = P → p.2 = X.env.qual ++ "<lambda>"
  er : ∀ i c fs, C.er = some (i, c, fs) → ∃ a, (i, a) ∈ A.pins ∧ (fs = [] → C.S.ise c = true → CallR X (.builtin "isinstance") (rIsE X.K (A.ca c) a))
section
variable {K : PySem.W.Frag} {A A' : Ad} {m m' : List Addr} {st st' : Store} {H H' : Hp}
mutual
theorem RV.ad (hf : A'.fa = A.fa) (hc : A'.ca = A.ca) : ∀ {v : PV} {x : V}, RV K A H m v x → RV K A' H m v x
  | .non, _, h => by simp only [RV] at h ⊢; exact h
  | .bl b, _, h => by simp only [RV] at h ⊢; exact h
  | .int i, _, h => by simp only [RV] at h ⊢; exact h
  | .str x, _, h => by simp only [RV] at h ⊢; exact h
  | .tup xs, _, h => by
    simp only [RV] at h ⊢
    obtain ⟨a, ys, e, hs, hl, hr⟩ := h
    exact ⟨a, ys, e, hs, hl, RVs.ad hf hc hr⟩
  | .ref i, _, h => by simp only [RV] at h ⊢; exact h
  | .fn k, _, h => by simp only [RV] at h ⊢; rw [hf]; exact h
  | .cls k, _, h => by simp only [RV] at h ⊢; rw [hc]; exact h
  | .ty n, _, h => by simp only [RV] at h ⊢; exact h
theorem RVs.ad (hf : A'.fa = A.fa) (hc : A'.ca = A.ca) : ∀ {vs : List PV} {xs : List V}, RVs K A H m vs xs → RVs K A' H m vs xs
  | [], _, h => by simp only [RVs] at h ⊢; exact h
  | v :: vs, _, h => by
    simp only [RVs] at h ⊢
    obtain ⟨y, r, e, h1, h2⟩ := h
    exact ⟨y, r, e, RV.ad hf hc h1, RVs.ad hf hc h2⟩
end
theorem FR.ad (hf : A'.fa = A.fa) (hc : A'.ca = A.ca) : ∀ {fs : List (Str × PV)} {gs : List (Str × V)}, FR K A H m fs gs → FR K A' H m fs gs
  | [], _, h => by simp only [FR] at h ⊢; exact h
  | (f, v) :: vs, _, h => by
    simp only [FR] at h ⊢
    obtain ⟨y, r, e, h1, h2⟩ := h
    exact ⟨y, r, e, RV.ad hf hc h1, FR.ad hf hc h2⟩
theorem OR.ad (hf : A'.fa = A.fa) (hc : A'.ca = A.ca) {o : SO} {a : Addr} (h : OR K A H m o a) : OR K A' H m o a := by
  cases o with
  | lst xs => obtain ⟨ys, h1, h2, h3⟩ := h; exact ⟨ys, h1, h2, h3.ad hf hc⟩
  | frz xs => obtain ⟨ob, ys, h1, h2, h3⟩ := h; exact ⟨ob, ys, h1, h2, h3.ad hf hc⟩
  | dic kvs => exact h
  | ins c fs => obtain ⟨dx, gs, h1, h2⟩ := h; exact ⟨dx, gs, by rw [hc]; exact h1, h2.ad hf hc⟩
  | gone => exact h
theorem Sim.ad (hf : A'.fa = A.fa) (hc : A'.ca = A.ca) (S : Sim K A m st H) (t : TabK A' H) (hs : ∀ q, A'.sn = some q → Later q.1 q.2 m H) : Sim K A' m st H := ⟨S.len, S.nd, fun i o a h1 h2 => (S.at_ i o a h1 h2).ad hf hc, t, hs⟩
theorem Sim.noCode (S : Sim K A m st H) {a : Addr} {q : Str} (h : H a = some (LamX.CodeO a q)) : a ∉ m := fun hm => by
  obtain ⟨i, hi, e⟩ := List.mem_iff_getElem.mp hm
  have hi2 : i < st.length := by rw [← S.len]; exact hi
  have o := S.at_ i st[i] a (List.getElem?_eq_getElem hi2) (by rw [List.getElem?_eq_getElem hi, e])
  unfold LamX.CodeO at h
  cases q : st[i] with
  | lst xs => rw [q] at o; obtain ⟨zs, hz, _⟩ := o; rw [h] at hz; cases hz
  | frz xs => rw [q] at o; obtain ⟨ob, zs, hz, _⟩ := o; rw [h] at hz; cases hz
  | dic kvs => rw [q] at o; obtain ⟨_, hz⟩ := o; rw [h] at hz; cases hz
  | ins c fs => rw [q] at o; obtain ⟨_, _, hz, _⟩ := o; rw [h] at hz; cases hz
  | gone => rw [q] at o; exact o.elim
theorem Sim.toBase (S : Sim K A m st H) : Sim K A.base m st H := Sim.ad (A := A) (A' := A.base) rfl rfl S ⟨S.tb.1, fun p hp => absurd hp (by simp [Ad.base])⟩ (fun q hq => by cases hq)
theorem Sim.ofBase (S : Sim K A m st H) (l : Later m H m' H') (S' : Sim K A.base m' st' H') : Sim K A m' st' H' :=
  Sim.ad (A := A.base) (A' := A) rfl rfl S' ⟨S'.tb.1, fun p hp => l.fr _ _ (S.tb.2 p hp) (S.noCode (S.tb.2 p hp)) (fun ps e => by unfold LamX.CodeO at e; cases e)⟩ (fun q hq => (S.sn q hq).trans l)
theorem ExcR.ad (hf : A'.fa = A.fa) (hc : A'.ca = A.ca) {c : Nat} {fs : List (Str × PV)} {cls : Value} {d : Option Addr} (h : ExcR K A H m c fs cls d) : ExcR K A' H m c fs cls d :=
  ⟨by rw [hc]; exact h.1, h.2.imp id fun ⟨h1, dd, gs, h2, h3, h4⟩ => ⟨h1, dd, gs, h2, h3, h4.ad hf hc⟩⟩
theorem Fin.toBase {W : Value → Option Addr → Hp → Prop} {Q : VK} {r : Res PV} (S : Sim K A m st H) (h : Fin K A (rV K A) W m H Q r) : Fin K A.base (rV K A.base) W m H Q r := by
  cases r with
  | ok v st1 => exact fun m' H' x l S' r => h m' H' x l (S.ofBase l S') (RV.ad (A := A.base) (A' := A) rfl rfl r)
  | exc c fs st1 => exact fun m' H' cls d l S' r => h m' H' cls d l (S.ofBase l S') (ExcR.ad (A := A.base) (A' := A) rfl rfl r)
  | bad => exact h
end
/-- e is the evaluator's e' -/
def SE (B : Tb) (cm : Bool) (sc : Scope) (N : List Str) (e : Expr) (e' : Ex) : Prop := ∀ X A C W, XOk B A C X W cm → X.env.scope = sc → X.N = N → PE X e (TEv X.K A (fun _ => rV X.K A) W (ev C e'))
def SEs (B : Tb) (cm : Bool) (sc : Scope) (N : List Str) (es : List Expr) (es' : List Ex) : Prop := ∀ X A C W, XOk B A C X W cm → X.env.scope = sc → X.N = N → PA X es (TEv X.K A (fun _ => rVs X.K A) W (evs C es'))
/-- a list that is made here -/
def SF (B : Tb) (cm : Bool) (sc : Scope) (N : List Str) (e : Expr) (e' : Lx) : Prop := ∀ X A C W, XOk B A C X W cm → X.env.scope = sc → X.N = N → PE X e (TEv X.K A (rF X.K A) W (evL C e'))
/-- a list that is read -/
def SL (B : Tb) (cm : Bool) (sc : Scope) (N : List Str) (e : Expr) (e' : Lx) : Prop := ∀ X A C W, XOk B A C X W cm → X.env.scope = sc → X.N = N → PE X e (TEv X.K A (fun _ => rL X.K A) W (evL C e'))
/-- a test -/
def ST (B : Tb) (cm : Bool) (sc : Scope) (N : List Str) (e : Expr) (e' : Ex) : Prop := ∀ X A C W, XOk B A C X W cm → X.env.scope = sc → X.N = N → PT X e (fun σ H Q => TEv X.K A (fun _ => rV X.K A) W (ev C e') σ H (fun x H' => ∃ b, x = .bl b ∧ Q b H'))
def STw (B : Tb) (cm : Bool) (sc : Scope) (N : List Str) (e : Expr) (e' : Ex) : Prop := ∀ X A C W, XOk B A C X W cm → X.env.scope = sc → X.N = N → PW X e (fun σ H Q => TEv X.K A (fun _ => rV X.K A) W (ev C e') σ H (fun x H' => ∃ b, x = .bl b ∧ Q b H'))
section
variable {B : Tb} {cm : Bool} {sc : Scope} {N : List Str} {e a b c : Expr} {e' a' b' c' : Ex} {es : List Expr} {es' : List Ex} {pos : Pos}

theorem SE.int {i : Int} {j : Nat} : SE B cm sc N (.Constant (.int i) j pos) (.lit (.int i)) := fun X A C W _ _ _ => PE.imp pe_int fun σ H Q ⟨m, st, ρ, S, _, h⟩ => h m H _ (Later.refl _ _) S (by simp only [RV])
theorem SE.bl {i : Bool} {j : Nat} : SE B cm sc N (.Constant (.bool i) j pos) (.lit (.bl i)) := fun X A C W _ _ _ => PE.imp pe_bl fun σ H Q ⟨m, st, ρ, S, _, h⟩ => h m H _ (Later.refl _ _) S (by simp only [RV])
theorem SE.non {j : Nat} : SE B cm sc N (.Constant .none j pos) (.lit .non) := fun X A C W _ _ _ => PE.imp pe_non fun σ H Q ⟨m, st, ρ, S, _, h⟩ => h m H _ (Later.refl _ _) S (by simp only [RV])
theorem SE.str {i : Str} {j : Nat} : SE B cm sc N (.Constant (.str i) j pos) (.lit (.str i)) := fun X A C W _ _ _ => PE.imp pe_str fun σ H Q ⟨m, st, ρ, S, _, h⟩ => h m H _ (Later.refl _ _) S (by simp only [RV])
theorem SE.var {i : Nat} {x : Str} (hN : N[i]? = some x) (hv : Vis sc x) (hd : (x == ("__debug__" : Str)) = false) (hcd : (x == ("__classdict__" : Str)) = false) : SE B cm sc N (.Name x pos) (.var i) := by
  intro X A C W _ hs hn
  subst hs hn
  refine PE.imp (pe_var hN hv hd hcd) fun σ H Q ⟨m, st, ρ, S, R, h⟩ => ?_
  unfold ev at h
  split at h
  · rename_i v q
    obtain ⟨y, h1, h2⟩ := R.2.1 i v q
    exact ⟨y, h1, h m H y (Later.refl _ _) S h2⟩
  · exact h.elim
theorem SE.glob {x : Str} {v : PV} (hg : sc.names.lookup x = some .globalImplicit) (hc : B.cons.lookup x = some v) (hd : (x == ("__debug__" : Str)) = false) : SE B cm sc N (.Name x pos) (.lit v) := by
  intro X A C W O hs hn
  subst hs hn
  obtain ⟨u, y, h1, h2, h3⟩ := O.gf.co x v hc
  exact PE.imp (pe_glob hg h1 h2 hd) fun σ H Q ⟨m, st, ρ, S, R, h⟩ => h m H _ (Later.refl _ _) S (h3 A H m)
theorem SE.gfn {x : Str} {k n l : Nat} (hg : sc.names.lookup x = some .globalImplicit) (hc : B.fns[k]? = some (x, n, l)) (hd : (x == ("__debug__" : Str)) = false) : SE B cm sc N (.Name x pos) (.lit (.fn k)) := by
  intro X A C W O hs hn
  subst hs hn
  obtain ⟨h1, _⟩ := O.gf.fn k x n l hc
  exact PE.imp (pe_glob (v := .ref (A.fa k)) hg h1 rfl hd) fun σ H Q ⟨m, st, ρ, S, R, h⟩ => h m H _ (Later.refl _ _) S (by simp only [RV])
theorem SE.gcl {x : Str} {k : Nat} (hg : sc.names.lookup x = some .globalImplicit) (hc : B.clss[k]? = some x) (hd : (x == ("__debug__" : Str)) = false) : SE B cm sc N (.Name x pos) (.lit (.cls k)) := by
  intro X A C W O hs hn
  subst hs hn
  have h1 := O.gf.cl k x hc
  exact PE.imp (pe_glob (v := .ref (A.ca k)) hg h1 rfl hd) fun σ H Q ⟨m, st, ρ, S, R, h⟩ => h m H _ (Later.refl _ _) S (by simp only [RV])
theorem SE.gty {x : Str} {n : String} (hg : sc.names.lookup x = some .globalImplicit) (hf : x ∈ B.frees) (hb : bootBuiltins x = some (.type n)) (hn : x ≠ "__name__") (hd : (x == ("__debug__" : Str)) = false) : SE B cm sc N (.Name x pos) (.lit (.ty n)) := by
  intro X A C W O hs hn'
  subst hs hn'
  exact PE.imp (pe_bltn (v := .ty n) hg (O.gf.fr x hf) hb rfl hn hd) fun σ H Q ⟨m, st, ρ, S, R, h⟩ => h m H _ (Later.refl _ _) S (by simp only [RV])
theorem SEs.nil : SEs B cm sc N [] [] := fun X A C W _ _ _ => PA.imp pa_nil fun σ H Q ⟨m, st, ρ, S, _, h⟩ => h m H [] (Later.refl _ _) S RVs.nil
theorem SEs.cons (he : SE B cm sc N e e') (hes : SEs B cm sc N es es') (hs : ∀ env, starEach (e :: es) env = (false, eval e env) :: starEach es env) : SEs B cm sc N (e :: es) (e' :: es') := by
  intro X A C W O h1 h2
  refine PA.imp (pa_cons (he X A C W O h1 h2) (hes X A C W O h1 h2) (hs _)) fun σ H Q ⟨m, st, ρ, S, R, h⟩ => ?_
  refine ⟨m, st, ρ, S, R, Fin.imp (Fin.bind (rel := rV X.K A) h) fun x H1 ⟨m1, st1, v, _, l, S1, r, h⟩ => ?_⟩
  refine ⟨m1, st1, ρ, S1, R.later S l, Fin.imp (Fin.bind (rel := rVs X.K A) h) fun xs H2 ⟨m2, st2, vs, _, l2, S2, r2, h⟩ => ?_⟩
  exact h m2 H2 (x :: xs) (Later.refl _ _) S2 (RVs.cons (r.later S1 l2) r2)
theorem evs_len {C : Cn} : ∀ {es : List Ex} {ρ : Env} {st st' : Store} {vs : List PV}, evs C es ρ st = .ok vs st' → vs.length = es.length
  | [], ρ, st, st', vs, h => by unfold evs at h; cases h; rfl
  | e :: es, ρ, st, st', vs, h => by
    unfold evs at h
    cases q : ev C e ρ st with
    | ok v st1 =>
      rw [q, Res.bind_ok] at h
      cases q2 : evs C es ρ st1 with
      | ok ws st2 => rw [q2, Res.bind_ok] at h; cases h; simp [evs_len q2]
      | exc c fs st2 => rw [q2, Res.bind_exc] at h; cases h
      | bad => rw [q2, Res.bind_bad] at h; cases h
    | exc c fs st2 => rw [q, Res.bind_exc] at h; cases h
    | bad => rw [q, Res.bind_bad] at h; cases h
theorem SE.tup {x1 : Nat} (h : SEs B cm sc N es es') (hl : es'.length ≤ szl) : SE B cm sc N (.Tuple es x1 pos) (.tup es') := by
  intro X A C W O h1 h2
  refine PE.imp (pe_tup (h X A C W O h1 h2)) fun σ H Q ⟨m, st, ρ, S, R, h⟩ => ?_
  unfold ev at h
  refine ⟨m, st, ρ, S, R, Fin.imp (Fin.bind (rel := rVs X.K A) h) fun xs H1 ⟨m1, st1, vs, q, l, S1, r, h⟩ => ?_⟩
  have hv : vs.length ≤ szl := by rw [evs_len q]; exact hl
  exact ⟨by rw [r.len, ← szl_eq]; exact hv, fun p hp => fin_tup S1 r hv h hp⟩
theorem SF.lst (h : SEs B cm sc N es es') (hl : es'.length ≤ szl) : SF B cm sc N (.List es pos) (.lst es') := by
  intro X A C W O h1 h2
  refine PE.imp (pe_lst (h X A C W O h1 h2)) fun σ H Q ⟨m, st, ρ, S, R, h⟩ => ?_
  unfold evL at h
  have h : Fin X.K A (rF X.K A H) (fun c d H' => W c d σ H') m H Q ((evs C es' ρ st).bind fun vs st => .ok vs st) := by
    cases q : evs C es' ρ st with
    | ok vs st' => rw [q] at h; exact h
    | exc c fs st' => rw [q] at h; exact h
    | bad => rw [q] at h; exact h
  refine ⟨m, st, ρ, S, R, Fin.imp (Fin.bind (rel := rVs X.K A) h) fun xs H1 ⟨m1, st1, vs, q, l, S1, r, h⟩ => ?_⟩
  have hv : vs.length ≤ szl := by rw [evs_len q]; exact hl
  refine ⟨by rw [r.len, ← szl_eq]; exact hv, fun p hp => ?_⟩
  have hm := S1.fresh hp
  have l2 : Later m1 H1 m1 (upd H1 p (.lst xs)) := Later.new hp
  refine h m1 _ (.ref p) l2 (S1.objNew hp) ⟨p, xs, rfl, ?_, hm, upd_same, hv, r.later S1 l2⟩
  cases q : H p with
  | none => rfl
  | some o => exact absurd hp (l.al p (by rw [q]; simp))
/-- a list made here, kept -/
theorem SE.lx {e : Expr} {a : Lx} (h : SF B cm sc N e a) : SE B cm sc N e (.lx a) := by
  intro X A C W O h1 h2
  refine PE.imp (h X A C W O h1 h2) fun σ H Q ⟨m, st, ρ, S, R, h⟩ => ⟨m, st, ρ, S, R, ?_⟩
  unfold ev at h
  revert h
  cases evL C a ρ st with
  | ok vs st' =>
    intro h m' H' x l S' ⟨p, ys, e1, hn, hm, e2, e3, e4⟩
    subst e1
    obtain ⟨⟨more, l1, l2⟩, l3, l4⟩ := l
    have L : Later m H (m' ++ [p]) H' := ⟨⟨more ++ [p], by rw [l1, List.append_assoc], fun b hb => by
      rcases List.mem_append.mp hb with hb | hb
      · exact l2 b hb
      · rw [List.mem_singleton.mp hb]; exact hn⟩, l3, l4⟩
    refine h (m' ++ [p]) H' (.ref p) L (S'.wide hm (S.since hn) ⟨ys, e2, e3, e4⟩) ?_
    simp only [RV]
    exact ⟨p, by rw [← S'.len, List.getElem?_append_right (Nat.le_refl _), Nat.sub_self]; rfl, rfl⟩
  | exc c fs st' => exact fun h => h
  | bad => exact fun h => h
/-- a list made here is a list that is read -/
theorem SL.fresh {e : Expr} {a : Lx} (h : SF B cm sc N e a) : SL B cm sc N e a := by
  intro X A C W O h1 h2
  refine PE.imp (h X A C W O h1 h2) fun σ H Q ⟨m, st, ρ, S, R, h⟩ => ⟨m, st, ρ, S, R, ?_⟩
  revert h
  cases evL C a ρ st with
  | ok vs st' => exact fun h m' H' x l S' ⟨p, ys, e1, _, _, e2, e3, e4⟩ => h m' H' x l S' ⟨p, ys, e1, e2, e3, e4⟩
  | exc c fs st' => exact fun h => h
  | bad => exact fun h => h
theorem SL.of (h : SE B cm sc N e e') : SL B cm sc N e (.of e') := by
  intro X A C W O h1 h2
  refine PE.imp (h X A C W O h1 h2) fun σ H Q ⟨m, st, ρ, S, R, h⟩ => ?_
  unfold evL at h
  refine ⟨m, st, ρ, S, R, Fin.imp (Fin.bind (rel := rV X.K A) h) fun x H1 ⟨m1, st1, v, q, l, S1, r, h⟩ => ?_⟩
  cases v with
  | ref i =>
    simp only [lstAt] at h
    cases q : st1[i]? with
    | none => rw [q] at h; exact h.elim
    | some o =>
      rw [q] at h
      obtain ⟨a, h1, rfl, h3⟩ := S1.obj q r
      cases o with
      | lst zs => obtain ⟨ys, g1, g2, g3⟩ := h3; exact h m1 H1 _ (Later.refl _ _) S1 ⟨a, ys, rfl, g1, g2, g3⟩
      | frz zs => exact h.elim
      | dic _ => exact h.elim
      | ins _ _ => exact h.elim
      | gone => exact h.elim
  | _ => exact h.elim
theorem SE.bin {op : Operator} (ha : SE B cm sc N a a') (hb : SE B cm sc N b b') : SE B cm sc N (.BinOp a op b pos) (.bin op a' b') := by
  intro X A C W O h1 h2
  refine PE.imp (pe_op (op_bin (A := A) op) (ha X A C W O h1 h2) (hb X A C W O h1 h2)) fun σ H Q ⟨m, st, ρ, S, R, h⟩ => ?_
  unfold ev at h
  refine ⟨m, st, ρ, S, R, Fin.imp (Fin.bind (rel := rV X.K A) h) fun x H1 ⟨m1, st1, v, _, l, S1, r, h⟩ => ?_⟩
  refine ⟨m1, st1, ρ, S1, R.later S l, Fin.imp (Fin.bind (rel := rV X.K A) h) fun y H2 ⟨m2, st2, w, _, l2, S2, r2, h⟩ => ?_⟩
  exact ⟨_, m2, st2, v, w, S2, r.later S1 l2, r2, h⟩
theorem SE.neg (ha : SE B cm sc N a a') : SE B cm sc N (.UnaryOp .USub a pos) (.neg a') := by
  intro X A C W O h1 h2
  refine PE.imp (pe_un (un_negA (A := A)) (ha X A C W O h1 h2)) fun σ H Q ⟨m, st, ρ, S, R, h⟩ => ?_
  unfold ev at h
  exact ⟨m, st, ρ, S, R, Fin.imp (Fin.bind (rel := rV X.K A) h) fun x H1 ⟨m1, st1, v, _, l, S1, r, h⟩ => ⟨_, m1, st1, v, S1, r, h⟩⟩
theorem SE.cmp {op : CmpOp} (ha : SE B cm sc N a a') (hb : SE B cm sc N b b') (hm : behindInMarks op b = false) : SE B cm sc N (.Compare a [op] [b] pos) (.cmp op a' b') := by
  intro X A C W O h1 h2
  refine PE.imp (pe_cmpR (op_cmp (A := A) (by have := O.hu; omega) op) (ha X A C W O h1 h2) (hb X A C W O h1 h2) hm) fun σ H Q ⟨m, st, ρ, S, R, h⟩ => ?_
  unfold ev at h
  refine ⟨m, st, ρ, S, R, Fin.imp (Fin.bind (rel := rV X.K A) h) fun x H1 ⟨m1, st1, v, _, l, S1, r, h⟩ => ?_⟩
  refine ⟨m1, st1, ρ, S1, R.later S l, Fin.imp (Fin.bind (rel := rV X.K A) h) fun y H2 ⟨m2, st2, w, _, l2, S2, r2, h⟩ => ?_⟩
  exact ⟨_, m2, st2, v, w, S2, r.later S1 l2, r2, h⟩
theorem SE.idx (ha : SE B cm sc N a a') (hb : SE B cm sc N b b') (hp : PlainIx b) : SE B cm sc N (.Subscript a b pos) (.idx a' b') := by
  intro X A C W O h1 h2
  refine PE.imp (pe_ix (ix_any (A := A)) (ha X A C W O h1 h2) (hb X A C W O h1 h2) hp) fun σ H Q ⟨m, st, ρ, S, R, h⟩ => ?_
  unfold ev at h
  refine ⟨m, st, ρ, S, R, Fin.imp (Fin.bind (rel := rV X.K A) h) fun x H1 ⟨m1, st1, v, _, l, S1, r, h⟩ => ?_⟩
  refine ⟨m1, st1, ρ, S1, R.later S l, Fin.imp (Fin.bind (rel := rV X.K A) h) fun y H2 ⟨m2, st2, w, _, l2, S2, r2, h⟩ => ?_⟩
  exact ⟨_, m2, st2, v, w, S2, r.later S1 l2, r2, h⟩
/-- a bool in, and the two ways -/
theorem fin_b {X : Cx} {A : Ad} {W : Value → Option Addr → Hp → Prop} {α β : Type} {rel : Hp → List Addr → α → β → Prop} {m : List Addr} {H : Hp} {Q : β → Hp → Prop} {v : PV} {x : V} {f g : Res α} (r : RV X.K A H m v x)
    (h : Fin X.K A rel W m H Q (ifB v f g)) : ∃ k, v = .bl k ∧ x = .bl k ∧ Fin X.K A rel W m H Q (if k = true then f else g) := by
  cases v with
  | bl k =>
    simp only [RV] at r
    cases k with
    | true => exact ⟨true, rfl, r, h⟩
    | false => exact ⟨false, rfl, r, h⟩
  | _ => exact h.elim
theorem ite_imp {k : Bool} {P Q P' Q' : Prop} (h : if k = true then P else Q) (f : k = true → P → P') (g : k = false → Q → Q') : if k = true then P' else Q' := by
  cases k with
  | true => exact f rfl h
  | false => exact g rfl h
theorem fin_ite {X : Cx} {A : Ad} {W : Value → Option Addr → Hp → Prop} {α β : Type} {rel : Hp → List Addr → α → β → Prop} {m : List Addr} {H : Hp} {Q : β → Hp → Prop} {k : Bool} {f g : Res α} (h : Fin X.K A rel W m H Q (if k = true then f else g)) :
    if k = true then Fin X.K A rel W m H Q f else Fin X.K A rel W m H Q g := by
  cases k with
  | true => exact h
  | false => exact h
theorem chain_imp {X : Cx} {A : Ad} {C : Cn} {W : WX} {op op' : CmpOp} {σ : L2.St} {H : Hp} {Q : VK}
    (h : TEv X.K A (fun _ => rV X.K A) W (ev C (.chain op op' a' b' c')) σ H Q) :
    tChain (r2 X.K A (cmpOp op)) (r2 X.K A (cmpOp op')) (TEv X.K A (fun _ => rV X.K A) W (ev C a')) (TEv X.K A (fun _ => rV X.K A) W (ev C b')) (TEv X.K A (fun _ => rV X.K A) W (ev C c')) σ H Q := by
  obtain ⟨m, st, ρ, S, R, h⟩ := h
  unfold ev at h
  refine ⟨m, st, ρ, S, R, Fin.imp (Fin.bind (rel := rV X.K A) h) fun x H1 ⟨m1, st1, v, _, l, S1, r, h⟩ => ?_⟩
  refine ⟨m1, st1, ρ, S1, R.later S l, Fin.imp (Fin.bind (rel := rV X.K A) h) fun y H2 ⟨m2, st2, w, _, l2, S2, r2, h⟩ => ?_⟩
  refine ⟨_, m2, st2, v, w, S2, r.later S1 l2, r2, Fin.imp (Fin.bind (rel := rV X.K A) h) fun z H3 ⟨m3, st3, u, _, l3, S3, r3, h⟩ => ?_⟩
  obtain ⟨k, e1, e2, h⟩ := fin_b r3 h
  refine ⟨k, e2, ite_imp (fin_ite h) (fun _ h => ?_) (fun _ h => h m3 H3 _ (Later.refl _ _) S3 (by simp only [RV]))⟩
  refine ⟨m3, st3, ρ, S3, (R.later S (l.trans (l2.trans l3))), Fin.imp (Fin.bind (rel := rV X.K A) h) fun t H4 ⟨m4, st4, q, _, l4, S4, r4, h⟩ => ?_⟩
  exact ⟨_, m4, st4, w, q, S4, (r2.later S2 l3).later S3 l4, r4, h⟩
theorem SE.chain {op op' : CmpOp} (ha : SE B cm sc N a a') (hb : SE B cm sc N b b') (hc : SE B cm sc N c c') (hm : lastMarks [op, op'] [b, c] = false) : SE B cm sc N (.Compare a [op, op'] [b, c] pos) (.chain op op' a' b' c') := by
  intro X A C W O h1 h2
  have hu : X.A.units + 65 < cLine := by have := O.hu; omega
  exact PE.imp (pe_chain (op_cmp (A := A) hu op) (op_cmp (A := A) hu op') (ha X A C W O h1 h2) (hb X A C W O h1 h2) (hc X A C W O h1 h2) hm) fun σ H Q h => chain_imp h
theorem ST.chain {op op' : CmpOp} (ha : SE B cm sc N a a') (hb : SE B cm sc N b b') (hc : SE B cm sc N c c') (hm : lastMarks [op, op'] [b, c] = false) : ST B cm sc N (.Compare a [op, op'] [b, c] pos) (.chain op op' a' b' c') := by
  intro X A C W O h1 h2
  have hu : X.A.units + 65 < cLine := by have := O.hu; omega
  exact PT.imp (pt_chain (op_cmp (A := A) hu op) (op_cmp (A := A) hu op') (ha X A C W O h1 h2) (hb X A C W O h1 h2) (hc X A C W O h1 h2) hm) fun σ H Q h => chain_imp h
theorem ST.cmp {op : CmpOp} (ha : SE B cm sc N a a') (hb : SE B cm sc N b b') (hm : behindInMarks op b = false) : ST B cm sc N (.Compare a [op] [b] pos) (.cmp op a' b') := by
  intro X A C W O h1 h2
  refine PT.imp (pt_cmpR (op_cmp (A := A) (by have := O.hu; omega) op) (ha X A C W O h1 h2) (hb X A C W O h1 h2) hm) fun σ H Q ⟨m, st, ρ, S, R, h⟩ => ?_
  unfold ev at h
  refine ⟨m, st, ρ, S, R, Fin.imp (Fin.bind (rel := rV X.K A) h) fun x H1 ⟨m1, st1, v, _, l, S1, r, h⟩ => ?_⟩
  refine ⟨m1, st1, ρ, S1, R.later S l, Fin.imp (Fin.bind (rel := rV X.K A) h) fun y H2 ⟨m2, st2, w, _, l2, S2, r2, h⟩ => ?_⟩
  exact ⟨_, m2, st2, v, w, S2, r.later S1 l2, r2, h⟩
/-- a value that is a bool, as a test -/
theorem ST.val (h : SE B cm sc N e e') (he : ∀ env whole, isTrue e env whole = (do let v ← whole; standAt e.pos; holding [v] (truthy v))) : ST B cm sc N e e' := by
  intro X A C W O h1 h2
  exact PT.imp (pt_val (h X A C W O h1 h2) (fun w => he _ w)) fun σ H Q h => h
theorem ST.not (h : ST B cm sc N a a') : ST B cm sc N (.UnaryOp .Not a pos) (.not a') := by
  intro X A C W O h1 h2
  refine PT.imp (pt_not (h X A C W O h1 h2)) fun σ H Q ⟨m, st, ρ, S, R, h⟩ => ?_
  unfold ev at h
  refine ⟨m, st, ρ, S, R, Fin.imp (Fin.bind (rel := rV X.K A) h) fun x H1 ⟨m1, st1, v, _, l, S1, r, h⟩ => ?_⟩
  cases v with
  | bl k =>
    simp only [RV] at r
    obtain ⟨b, e, q⟩ := h m1 H1 (.bl (!k)) (Later.refl _ _) S1 (by simp only [RV])
    cases e
    exact ⟨k, r, q⟩
  | _ => exact h.elim
theorem SE.not (h : SE B cm sc N a a') : SE B cm sc N (.UnaryOp .Not a pos) (.not a') := by
  intro X A C W O h1 h2
  refine PE.imp (pe_not (h X A C W O h1 h2)) fun σ H Q ⟨m, st, ρ, S, R, h⟩ => ?_
  unfold ev at h
  refine ⟨m, st, ρ, S, R, Fin.imp (Fin.bind (rel := rV X.K A) h) fun x H1 ⟨m1, st1, v, _, l, S1, r, h⟩ => ?_⟩
  cases v with
  | bl k =>
    simp only [RV] at r
    exact ⟨k, r, h m1 H1 _ (Later.refl _ _) S1 (by simp only [RV])⟩
  | _ => exact h.elim
theorem STw.and1 (h : ST B cm sc N a a') : STw B cm sc N (.BoolOp .And [a] pos) a' := fun X A C W O h1 h2 => pw_and1 (h X A C W O h1 h2)
theorem STw.or1 (h : ST B cm sc N a a') : STw B cm sc N (.BoolOp .Or [a] pos) a' := fun X A C W O h1 h2 => pw_or1 (h X A C W O h1 h2)
theorem STw.st (h : STw B cm sc N a a') : ST B cm sc N a a' := fun X A C W O h1 h2 => (h X A C W O h1 h2).pt
theorem STw.and (ha : ST B cm sc N a a') (hb : STw B cm sc N (.BoolOp .And (b :: es) pos) b') : STw B cm sc N (.BoolOp .And (a :: b :: es) pos) (.and a' b') := by
  intro X A C W O h1 h2
  refine PW.imp (pw_and (ha X A C W O h1 h2) (hb X A C W O h1 h2)) fun σ H Q ⟨m, st, ρ, S, R, h⟩ => ?_
  unfold ev at h
  refine ⟨m, st, ρ, S, R, Fin.imp (Fin.bind (rel := rV X.K A) h) fun x H1 ⟨m1, st1, v, _, l, S1, r, h⟩ => ?_⟩
  obtain ⟨k, e1, e2, h⟩ := fin_b r h
  refine ⟨k, e2, ite_imp (fin_ite h) (fun _ h => ⟨m1, st1, ρ, S1, R.later S l, h⟩) (fun _ h => ?_)⟩
  obtain ⟨b, e, q⟩ := h m1 H1 (.bl false) (Later.refl _ _) S1 (by simp only [RV])
  cases e
  exact q
theorem STw.or (ha : ST B cm sc N a a') (hb : STw B cm sc N (.BoolOp .Or (b :: es) pos) b') : STw B cm sc N (.BoolOp .Or (a :: b :: es) pos) (.or a' b') := by
  intro X A C W O h1 h2
  refine PW.imp (pw_or (ha X A C W O h1 h2) (hb X A C W O h1 h2)) fun σ H Q ⟨m, st, ρ, S, R, h⟩ => ?_
  unfold ev at h
  refine ⟨m, st, ρ, S, R, Fin.imp (Fin.bind (rel := rV X.K A) h) fun x H1 ⟨m1, st1, v, _, l, S1, r, h⟩ => ?_⟩
  obtain ⟨k, e1, e2, h⟩ := fin_b r h
  refine ⟨k, e2, ite_imp (fin_ite h) (fun _ h => ?_) (fun _ h => ⟨m1, st1, ρ, S1, R.later S l, h⟩)⟩
  obtain ⟨b, e, q⟩ := h m1 H1 (.bl true) (Later.refl _ _) S1 (by simp only [RV])
  cases e
  exact q
theorem SE.one {op : BoolOp} (h : SE B cm sc N a a') : SE B cm sc N (.BoolOp op [a] pos) a' := fun X A C W O h1 h2 => pe_one (h X A C W O h1 h2)
theorem SE.and (ha : SE B cm sc N a a') (hb : SE B cm sc N (.BoolOp .And (b :: es) pos) b') : SE B cm sc N (.BoolOp .And (a :: b :: es) pos) (.and a' b') := by
  intro X A C W O h1 h2
  refine PE.imp (pe_and (ha X A C W O h1 h2) (hb X A C W O h1 h2)) fun σ H Q ⟨m, st, ρ, S, R, h⟩ => ?_
  unfold ev at h
  refine ⟨m, st, ρ, S, R, Fin.imp (Fin.bind (rel := rV X.K A) h) fun x H1 ⟨m1, st1, v, _, l, S1, r, h⟩ => ?_⟩
  obtain ⟨k, e1, e2, h⟩ := fin_b r h
  exact ⟨k, e2, ite_imp (fin_ite h) (fun _ h => ⟨m1, st1, ρ, S1, R.later S l, h⟩) (fun _ h => h m1 H1 _ (Later.refl _ _) S1 (by simp only [RV]))⟩
theorem SE.or (ha : SE B cm sc N a a') (hb : SE B cm sc N (.BoolOp .Or (b :: es) pos) b') : SE B cm sc N (.BoolOp .Or (a :: b :: es) pos) (.or a' b') := by
  intro X A C W O h1 h2
  refine PE.imp (pe_or (ha X A C W O h1 h2) (hb X A C W O h1 h2)) fun σ H Q ⟨m, st, ρ, S, R, h⟩ => ?_
  unfold ev at h
  refine ⟨m, st, ρ, S, R, Fin.imp (Fin.bind (rel := rV X.K A) h) fun x H1 ⟨m1, st1, v, _, l, S1, r, h⟩ => ?_⟩
  obtain ⟨k, e1, e2, h⟩ := fin_b r h
  exact ⟨k, e2, ite_imp (fin_ite h) (fun _ h => h m1 H1 _ (Later.refl _ _) S1 (by simp only [RV])) (fun _ h => ⟨m1, st1, ρ, S1, R.later S l, h⟩)⟩
theorem SE.ife (hc : ST B cm sc N c c') (ha : SE B cm sc N a a') (hb : SE B cm sc N b b') : SE B cm sc N (.IfExp c a b pos) (.ife c' a' b') := by
  intro X A C W O h1 h2
  refine PE.imp (pe_ifExp (hc X A C W O h1 h2) (ha X A C W O h1 h2) (hb X A C W O h1 h2)) fun σ H Q ⟨m, st, ρ, S, R, h⟩ => ?_
  unfold ev at h
  refine ⟨m, st, ρ, S, R, Fin.imp (Fin.bind (rel := rV X.K A) h) fun x H1 ⟨m1, st1, v, _, l, S1, r, h⟩ => ?_⟩
  obtain ⟨k, e1, e2, h⟩ := fin_b r h
  exact ⟨k, e2, ite_imp (fin_ite h) (fun _ h => ⟨m1, st1, ρ, S1, R.later S l, h⟩) (fun _ h => ⟨m1, st1, ρ, S1, R.later S l, h⟩)⟩

def SO_ (B : Tb) (cm : Bool) (sc : Scope) (N : List Str) (e : Option Expr) (e' : Option Ex) : Prop := ∀ X A C W, XOk B A C X W cm → X.env.scope = sc → X.N = N → PO X e (TEv X.K A (fun _ _ _ o o' => o' = o) W (evO C e'))
theorem SO_.none : SO_ B cm sc N none none := fun X A C W _ _ _ => ⟨fun pins s σ H Q I ⟨m, st, ρ, S, R, h⟩ => po_none.run pins s σ H Q I (h m H Option.none (Later.refl _ _) S rfl)⟩
theorem SO_.some (h : SE B cm sc N a a') : SO_ B cm sc N (some a) (some a') := by
  intro X A C W O h1 h2
  refine ⟨fun pins s σ H Q I ⟨m, st, ρ, S, R, hh⟩ => (po_some (h X A C W O h1 h2)).run pins s σ H Q I ?_⟩
  unfold evO at hh
  refine ⟨m, st, ρ, S, R, Fin.imp (Fin.bind (rel := rV X.K A) hh) fun x H1 ⟨m1, st1, v, _, l, S1, r, h⟩ => ?_⟩
  cases v with
  | int i => simp only [RV] at r; exact ⟨i, r, h m1 H1 _ (Later.refl _ _) S1 rfl⟩
  | _ => exact h.elim
theorem SE.slice {lo hi : Option Expr} {lo' hi' : Option Ex} {p2 : Pos} (ha : SE B cm sc N a a') (hl : SO_ B cm sc N lo lo') (hh : SO_ B cm sc N hi hi') : SE B cm sc N (.Subscript a (.Slice lo hi none p2) pos) (.slice a' lo' hi') := by
  intro X A C W O h1 h2
  refine PE.imp (pe_slice (sl_any (A := A)) (ha X A C W O h1 h2) (hl X A C W O h1 h2) (hh X A C W O h1 h2)) fun σ H Q ⟨m, st, ρ, S, R, h⟩ => ?_
  unfold ev at h
  refine ⟨m, st, ρ, S, R, Fin.imp (Fin.bind (rel := rV X.K A) h) fun x H1 ⟨m1, st1, v, _, l, S1, r, h⟩ => ?_⟩
  refine ⟨m1, st1, ρ, S1, R.later S l, Fin.imp (Fin.bind (rel := fun _ _ o o' => o' = o) h) fun y H2 ⟨m2, st2, w, _, l2, S2, r2, h⟩ => ?_⟩
  refine ⟨m2, st2, ρ, S2, R.later S (l.trans l2), Fin.imp (Fin.bind (rel := fun _ _ o o' => o' = o) h) fun z H3 ⟨m3, st3, u, _, l3, S3, r3, h⟩ => ?_⟩
  subst r2 r3
  exact ⟨_, m3, st3, v, S3, (r.later S1 l2).later S2 l3, h⟩
/-- an own def -/
theorem SE.call {x : Str} {k n l : Nat} {p : Pos} (hg : sc.names.lookup x = some .globalImplicit) (hk : B.fns[k]? = some (x, n, l)) (hlv : l ≤ B.lv) (ha : SEs B true sc N (e :: es) es') (hn : es'.length = n) (hd : (x == ("__debug__" : Str)) = false)
    (hs : ∀ env, starEach (e :: es) env = (false, eval e env) :: starEach es env) (hpl : ∀ env, (backTo pos (starEach es env)).any (·.1) = false) : SE B true sc N (.Call (.Name x p) (e :: es) [] pos) (.call k es') := by
  intro X A C W O h1 h2
  obtain ⟨fd, ps, hps, F, hb⟩ := O.fns k x n l hk hlv
  obtain ⟨hm, hkp⟩ := O.gf.fn k x n l hk
  have hgl : Gl X x := by subst h1; exact hg
  refine PE.imp (pe_callG F ((O.room rfl).mono hlv) O.hg hb O.tk hgl hm hkp (ha X A C W O h1 h2) hd (hs _) (hpl _)) fun σ H Q ⟨m, st, ρ, S, R, h⟩ => ?_
  unfold ev at h
  refine ⟨m, st, ρ, S, R, Fin.imp (Fin.bind (rel := rVs X.K A) h) fun xs H1 ⟨m1, st1, vs, q, l, S1, r, h⟩ => ?_⟩
  exact ⟨by rw [r.len, evs_len q]; exact hn, m1, st1, vs, S1.toBase, RVs.ad (A := A) (A' := A.base) rfl rfl r, Fin.toBase S1 h⟩
/-- the built-in's name -/
theorem blt_call {X : Cx} {k : Blt} {x : Str} {p : Pos} {r : List V → Hp → VK → Prop} {t : TA} (hc : CallR X (bltV k) r) (hg : Gl X x) (hm : X.mg x = none) (hv : bootBuiltins x = some (bltV k)) (ha : PA X (e :: es) t) (hn : x ≠ "__name__") (hdb : (x == ("__debug__" : Str)) = false)
    (he : starEach (e :: es) X.env = (false, eval e X.env) :: starEach es X.env) (hpl : (backTo pos (starEach es X.env)).any (·.1) = false) : PE X (.Call (.Name x p) (e :: es) [] pos) (fun σ H Q => t σ H fun vs H1 => r vs H1 Q) := by
  cases k with
  | len => exact pe_callB hc hg hm hv ha hn hdb he hpl
  | all => exact pe_callB hc hg hm hv ha hn hdb he hpl
  | any => exact pe_callB hc hg hm hv ha hn hdb he hpl
  | tuple => exact pe_callTy hc hg hm hv ha hn hdb he hpl
  | list => exact pe_callTy hc hg hm hv ha hn hdb he hpl
  | sorted => exact pe_callB hc hg hm hv ha hn hdb he hpl
  | int => exact pe_callTy hc hg hm hv ha hn hdb he hpl
  | abs => exact pe_callB hc hg hm hv ha hn hdb he hpl
  | isinst => exact pe_callB hc hg hm hv ha hn hdb he hpl
  | repr => exact pe_callB hc hg hm hv ha hn hdb he hpl
  | sum => exact pe_callB hc hg hm hv ha hn hdb he hpl
  | min => exact pe_callB hc hg hm hv ha hn hdb he hpl
  | max => exact pe_callB hc hg hm hv ha hn hdb he hpl
theorem SE.blt {k : Blt} {x : Str} {p : Pos} (hg : sc.names.lookup x = some .globalImplicit) (hf : x ∈ B.frees) (hv : bootBuiltins x = some (bltV k)) (ha : SEs B true sc N (e :: es) es') (hn : x ≠ "__name__") (hd : (x == ("__debug__" : Str)) = false)
    (hs : ∀ env, starEach (e :: es) env = (false, eval e env) :: starEach es env) (hpl : ∀ env, (backTo pos (starEach es env)).any (·.1) = false) : SE B true sc N (.Call (.Name x p) (e :: es) [] pos) (.blt k es') := by
  intro X A C W O h1 h2
  have hgl : Gl X x := by subst h1; exact hg
  refine PE.imp (blt_call (cr_blt (O.calm rfl) O.hg O.hu O.kit k) hgl (O.gf.fr x hf) hv (ha X A C W O h1 h2) hn hd (hs _) (hpl _)) fun σ H Q ⟨m, st, ρ, S, R, h⟩ => ?_
  unfold ev at h
  exact ⟨m, st, ρ, S, R, Fin.imp (Fin.bind (rel := rVs X.K A) h) fun xs H1 ⟨m1, st1, vs, q, l, S1, r, h⟩ => ⟨_, m1, st1, vs, S1, r, h⟩⟩
/-- a built-in of one list that is read -/
theorem SE.blt1 {k : Blt} {x : Str} {p : Pos} {a' : Lx} (hg : sc.names.lookup x = some .globalImplicit) (hf : x ∈ B.frees) (hv : bootBuiltins x = some (bltV k)) (ha : SL B true sc N a a') (hn : x ≠ "__name__") (hd : (x == ("__debug__" : Str)) = false)
    (hs : ∀ env, starEach [a] env = (false, eval a env) :: starEach [] env) (hpl : ∀ env, (backTo pos (starEach [] env)).any (·.1) = false) : SE B true sc N (.Call (.Name x p) [a] [] pos) (.blt1 k a') := by
  intro X A C W O h1 h2
  have hgl : Gl X x := by subst h1; exact hg
  refine PE.imp (blt_call (cr_blt1 (S0 := C.S) (A := A) (O.calm rfl) k) hgl (O.gf.fr x hf) hv (pa_cons (ha X A C W O h1 h2) pa_nil (hs _)) hn hd (hs _) (hpl _)) fun σ H Q ⟨m, st, ρ, S, R, h⟩ => ?_
  unfold ev at h
  refine ⟨m, st, ρ, S, R, Fin.imp (Fin.bind (rel := rL X.K A) h) fun x H1 ⟨m1, st1, vs, q, l, S1, r, h⟩ => ?_⟩
  obtain ⟨p, ys, rfl, hp, hl, hr⟩ := r
  exact ⟨_, m1, st1, vs, p, ys, rfl, S1, .inl (.inl hp), hl, hr, h⟩
theorem SF.sorted {x : Str} {p : Pos} {a' : Lx} (hg : sc.names.lookup x = some .globalImplicit) (hf : x ∈ B.frees) (hv : bootBuiltins x = some (bltV .sorted)) (ha : SL B true sc N a a') (hn : x ≠ "__name__") (hd : (x == ("__debug__" : Str)) = false)
    (hs : ∀ env, starEach [a] env = (false, eval a env) :: starEach [] env) (hpl : ∀ env, (backTo pos (starEach [] env)).any (·.1) = false) : SF B true sc N (.Call (.Name x p) [a] [] pos) (.sorted a') := by
  intro X A C W O h1 h2
  have hgl : Gl X x := by subst h1; exact hg
  refine PE.imp (blt_call (k := .sorted) cr_sortedI hgl (O.gf.fr x hf) hv (pa_cons (ha X A C W O h1 h2) pa_nil (hs _)) hn hd (hs _) (hpl _)) fun σ H Q ⟨m, st, ρ, S, R, h⟩ => ?_
  unfold evL at h
  refine ⟨m, st, ρ, S, R, Fin.imp (Fin.bind (rel := rL X.K A) h) fun x H1 ⟨m1, st1, vs, q, l, S1, r, h⟩ => ?_⟩
  obtain ⟨p, ys, rfl, hp, hl, hr⟩ := r
  unfold sortP at h
  cases q : intsOf vs with
  | none => rw [q] at h; exact h.elim
  | some ns =>
    rw [q] at h
    rw [ints_of q hr] at hp
    refine ⟨p, ns, rfl, .inl (.inl hp), fun ns' p' hp1 hp2 hn => ?_⟩
    rw [sort_uniq hp1 hp2] at *
    have hm := S1.fresh hn
    have l2 : Later m1 H1 m1 (upd H1 p' (.lst ((sortI ns).map V.int))) := Later.new hn
    refine h m1 _ (.ref p') l2 (S1.objNew hn) ⟨p', _, rfl, ?_, hm, upd_same, ?_, RVs.ofInts _⟩
    · cases q : H p' with
      | none => rfl
      | some o => exact absurd hn (l.al p' (by rw [q]; simp))
    · rw [List.length_map, (sortI_perm ns).length_eq, intsOf_len q]; exact hl
theorem SF.cat {b' : Lx} {a' : Lx} (ha : SF B cm sc N a a') (hb : SL B cm sc N b b') : SF B cm sc N (.BinOp a .Add b pos) (.cat a' b') := by
  intro X A C W O h1 h2
  refine PE.imp (pe_op op_cat (ha X A C W O h1 h2) (hb X A C W O h1 h2)) fun σ H Q ⟨m, st, ρ, S, R, h⟩ => ?_
  unfold evL at h
  refine ⟨m, st, ρ, S, R, Fin.imp (Fin.bind (rel := rF X.K A H) h) fun x H1 ⟨m1, st1, vs, q, l, S1, r, h⟩ => ?_⟩
  refine ⟨m1, st1, ρ, S1, R.later S l, Fin.imp (Fin.bind (rel := rL X.K A) h) fun y H2 ⟨m2, st2, ws, _, l2, S2, r2, h⟩ => ?_⟩
  obtain ⟨p, ys, rfl, hn, hm, hp, hl, hr⟩ := r
  obtain ⟨p2, ys2, rfl, hp2, hl2, hr2⟩ := r2
  split at h
  · rename_i hsz
    refine ⟨p, p2, ys, ys2, rfl, rfl, l2.fr _ _ hp hm (fun _ e => nomatch e), hp2, by rw [hr.len, hr2.len, ← szl_eq]; exact hsz, fun p' hn' => ?_⟩
    have hm' := S2.fresh hn'
    have l3 : Later m2 H2 m2 (upd H2 p' (.lst (ys ++ ys2))) := Later.new hn'
    refine h m2 _ (.ref p') l3 (S2.objNew hn')
      ⟨p', _, rfl, ?_, hm', upd_same, by rw [List.length_append]; exact hsz, ((hr.later S1 l2).append hr2).later S2 l3⟩
    cases q : H p' with
    | none => rfl
    | some o => exact absurd hn' ((l.trans l2).al p' (by rw [q]; simp))
  · exact h.elim
theorem lst_ty {X : Cx} {A : Ad} {m : List Addr} {st : Store} {H : Hp} {v : PV} {x : V} {xs : List PV} (S : Sim X.K A m st H) (r : RV X.K A H m v x) (e : lstAt st v = some xs) : tyV X.K "list" x H := by
  cases v with
  | ref i =>
    simp only [lstAt] at e
    cases q : st[i]? with
    | none => rw [q] at e; cases e
    | some o =>
      rw [q] at e
      obtain ⟨a, h1, rfl, h3⟩ := S.obj q r
      cases o with
      | lst zs => obtain ⟨ys, g1, g2, g3⟩ := h3; exact .inl ⟨rfl, ys, .inl (.inl g1)⟩
      | frz zs => cases e
      | dic _ => cases e
      | ins _ _ => cases e
      | gone => cases e
  | _ => cases e
theorem SE.meth0 {k : Mth} {o : Expr} {o' : Ex} {name : Str} {apos : Pos} (ho : SE B cm sc N o o') (hs : Slot "list" name (mthId k)) (hty : typeOf (.builtin (mthId k)) = pure (.type "method_descriptor"))
    (hb : ∀ env, attributeBase o name env (eval o env) = eval o env) (hl : (apos.endLine == pos.line) = true) : SE B cm sc N (.Call (.Attribute o name apos) [] [] pos) (.meth k o' []) := by
  intro X A C W O h1 h2
  refine PE.imp (pe_bm0 PySem.F.plainAttrs_list hs hty (mt_any (A := A) O.hu k) (ho X A C W O h1 h2) (hb _) hl) fun σ H Q ⟨m, st, ρ, S, R, h⟩ => ?_
  unfold ev at h
  refine ⟨m, st, ρ, S, R, Fin.imp (Fin.bind (rel := rV X.K A) h) fun x H1 ⟨m1, st1, v, _, l, S1, r, h⟩ => ?_⟩
  split at h
  · rename_i xs e
    unfold evs at h
    exact ⟨lst_ty S1 r e, _, m1, st1, v, [], S1, r, RVs.nil, h⟩
  · exact h.elim
theorem SE.meth {k : Mth} {o : Expr} {o' : Ex} {name : Str} {apos : Pos} (ho : SE B cm sc N o o') (ha : SEs B cm sc N (e :: es) es') (hs : Slot "list" name (mthId k)) (hty : typeOf (.builtin (mthId k)) = pure (.type "method_descriptor"))
    (hb : ∀ env, attributeBase o name env (eval o env) = eval o env)
    (hfew : ∀ env, ((backTo pos (starEach (e :: es) env)).all (fun x => !x.1) && (backToKw pos (keywordEach [] env)).all (fun x => x.1.isSome) && decide ((e :: es).length + ([] : List Keyword).length + (if ([] : List Keyword).isEmpty then 0 else 1) < 30)) = true)
    (hl : (apos.endLine == pos.line) = true) (hst : ∀ env, starEach (e :: es) env = (false, eval e env) :: starEach es env) (hpl : ∀ env, (backTo pos (starEach es env)).any (·.1) = false) : SE B cm sc N (.Call (.Attribute o name apos) (e :: es) [] pos) (.meth k o' es') := by
  intro X A C W O h1 h2
  refine PE.imp (pe_bm PySem.F.plainAttrs_list hs hty (mt_any (A := A) O.hu k) (ho X A C W O h1 h2) (ha X A C W O h1 h2) (hb _) (hfew _) hl (hst _) (hpl _)) fun σ H Q ⟨m, st, ρ, S, R, h⟩ => ?_
  unfold ev at h
  refine ⟨m, st, ρ, S, R, Fin.imp (Fin.bind (rel := rV X.K A) h) fun x H1 ⟨m1, st1, v, _, l, S1, r, h⟩ => ?_⟩
  split at h
  · rename_i xs e
    refine ⟨lst_ty S1 r e, m1, st1, ρ, S1, R.later S l, Fin.imp (Fin.bind (rel := rVs X.K A) h) fun ys H2 ⟨m2, st2, vs, _, l2, S2, r2, h⟩ => ?_⟩
    exact ⟨_, m2, st2, v, vs, S2, r.later S1 l2, r2, h⟩
  · exact h.elim
end
end MP
set_option linter.all false
set_option Elab.async false
set_option maxRecDepth 100000
set_option maxHeartbeats 2000000
namespace MP
open PySem PySem.Spec PyProof.Rows L2

/-- they agree but at vs -/
def Agree (vs : List Nat) (σ σ' : L2.St) : Prop := σ'.length = σ.length ∧ ∀ i, i ∉ vs → σ'[i]? = σ[i]?
theorem Agree.refl {vs : List Nat} (σ : L2.St) : Agree vs σ σ := ⟨rfl, fun _ _ => rfl⟩
theorem Agree.trans {vs ws : List Nat} {σ σ1 σ2 : L2.St} (a : Agree vs σ σ1) (b : Agree ws σ1 σ2) : Agree (vs ++ ws) σ σ2 :=
  ⟨b.1.trans a.1, fun i hi => by rw [List.mem_append, not_or] at hi; exact (b.2 i hi.2).trans (a.2 i hi.1)⟩
theorem Agree.mono {vs ws : List Nat} {σ σ1 : L2.St} (a : Agree vs σ σ1) (h : ∀ i ∈ vs, i ∈ ws) : Agree ws σ σ1 :=
  ⟨a.1, fun i hi => a.2 i fun q => hi (h i q)⟩
theorem wipeL_get {σ : L2.St} : ∀ {vs : List Nat} {i : Nat}, (L2.wipe σ vs)[i]? = if i ∈ vs then (if i < σ.length then some none else none) else σ[i]?
  | [], i => by simp [L2.wipe]
  | v :: vs, i => by
    unfold L2.wipe
    rw [List.getElem?_set, wipeL_get, L2.wipe_length]
    by_cases h : v = i
    · subst h; simp
    · rw [if_neg h]
      have : (i ∈ v :: vs) ↔ i ∈ vs := by simp [Ne.symm h]
      simp only [this]
theorem Agree.wipe {vs own : List Nat} {σ σ' : L2.St} (a : Agree vs (L2.wipe σ own) σ') (h : ∀ i ∈ vs, i ∈ own) : L2.wipe σ' own = L2.wipe σ own := by
  have hl : σ'.length = σ.length := by rw [a.1, L2.wipe_length]
  apply List.ext_getElem?
  intro i
  rw [wipeL_get, wipeL_get, hl]
  by_cases hi : i ∈ own
  · simp [hi]
  · rw [if_neg hi, if_neg hi, a.2 i fun q => hi (h i q), wipeL_get, if_neg hi]
section
variable {K : PySem.W.Frag} {A : Ad} {m m' : List Addr} {st st' : Store} {H H' : Hp}
theorem wipe_key : ∀ {own : List Nat} {ρ : Env} (i : Nat) (v : PV), (MP.wipe ρ own)[i]? = some (some v) → ρ[i]? = some (some v) ∧ i ∉ own
  | [], ρ, i, v, h => ⟨h, by simp⟩
  | j :: js, ρ, i, v, h => by
    obtain ⟨h1, h2⟩ := wipe_key (own := js) (ρ := ρ.set j none) i v h
    by_cases q : j = i
    · subst q
      by_cases hj : j < ρ.length
      · rw [List.getElem?_set_self hj] at h1; cases h1
      · rw [List.getElem?_eq_none (by simp; omega)] at h1; cases h1
    · rw [List.getElem?_set_ne q] at h1
      exact ⟨h1, by simp only [List.mem_cons, not_or]; exact ⟨fun e => q e.symm, h2⟩⟩
theorem wipe_len : ∀ (own : List Nat) (ρ : Env), (MP.wipe ρ own).length = ρ.length
  | [], ρ => rfl
  | j :: js, ρ => by show (MP.wipe (ρ.set j none) js).length = _; rw [wipe_len js, List.length_set]
theorem EnvR.wipes {own : List Nat} {ρ : Env} {σ : L2.St} (r : EnvR K A H m ρ σ) (hp : ∀ p ∈ A.pins, p.1 ∉ own) : EnvR K A H m (MP.wipe ρ own) (L2.wipe σ own) := by
  refine ⟨by rw [wipe_len, L2.wipe_length]; exact r.1, fun i v e => ?_, fun p hp' => by rw [wipeL_get, if_neg (hp p hp')]; exact r.2.2 p hp'⟩
  obtain ⟨h1, h2⟩ := wipe_key i v e
  obtain ⟨x, g1, g2⟩ := r.2.1 i v h1
  exact ⟨x, by rw [wipeL_get, if_neg h2]; exact g1, g2⟩
end
/-- a target's reading -/
def gT (K : PySem.W.Frag) (A : Ad) (t : Tg) : TG := fun x σ H Q => ∃ m st ρ v ρ', Sim K A m st H ∧ EnvR K A H m ρ σ ∧ RV K A H m v x ∧ t.put v ρ = some ρ' ∧ (∀ p ∈ A.pins, p.1 ∉ t.vars) ∧ ∀ σ', EnvR K A H m ρ' σ' → Agree t.vars σ σ' → Q σ' H
def gTs (K : PySem.W.Frag) (A : Ad) (ts : List Tg) : TGs := fun xs σ H Q => ∃ m st ρ vs ρ', Sim K A m st H ∧ EnvR K A H m ρ σ ∧ RVs K A H m vs xs ∧ Tg.puts ts vs ρ = some ρ' ∧ (∀ p ∈ A.pins, p.1 ∉ Tg.varss ts) ∧ ∀ σ', EnvR K A H m ρ' σ' → Agree (Tg.varss ts) σ σ' → Q σ' H
theorem PG.imp {X : Cx} {e : Expr} {t t' : TG} (h : PG X e t) (f : ∀ v σ H Q, t' v σ H Q → t v σ H Q) : PG X e t' := ⟨fun pins s σ H v u Q I r hw => h.run pins s σ H v u Q I r (f _ _ _ _ hw)⟩
theorem PGs.imp {X : Cx} {e : List Expr} {t t' : TGs} (h : PGs X e t) (f : ∀ v σ H Q, t' v σ H Q → t v σ H Q) : PGs X e t' := ⟨fun pins s σ H v u Q I r hw => h.run pins s σ H v u Q I r (f _ _ _ _ hw)⟩
theorem PI.imp {X : Cx} {tg e : Expr} {t t' : TI} (h : PI X tg e t) (f : ∀ σ H R, t' σ H R → t σ H R) : PI X tg e t' := ⟨fun pins s σ H R I hw => h.run pins s σ H R I (f _ _ _ hw)⟩
theorem PI.or {X : Cx} {tg e : Expr} {t t' : TI} (h : PI X tg e t) (h' : PI X tg e t') : PI X tg e (fun σ H R => t σ H R ∨ t' σ H R) := ⟨fun pins s σ H R I hw => hw.elim (fun hw => h.run pins s σ H R I hw) (fun hw => h'.run pins s σ H R I hw)⟩
theorem PTs.imp {X : Cx} {e : List Expr} {t t' : TT} (h : PTs X e t) (f : ∀ σ H R, t' σ H R → t σ H R) : PTs X e t' := ⟨fun pins s σ H R I hw => h.run pins s σ H R I (f _ _ _ hw)⟩
/-- a target: F the names whose cells were made here -/
def SG (F : List Str) (sc : Scope) (N : List Str) (e : Expr) (t : Tg) : Prop := ∀ X (A : Ad), X.calm = true → X.N.Nodup → (∀ x ∈ F, X.fn x = true) → X.env.scope = sc → X.N = N → PG X e (gT X.K A t)
def SGs (F : List Str) (sc : Scope) (N : List Str) (es : List Expr) (ts : List Tg) : Prop := ∀ X (A : Ad), X.calm = true → X.N.Nodup → (∀ x ∈ F, X.fn x = true) → X.env.scope = sc → X.N = N → PGs X es (gTs X.K A ts)
section
variable {F : List Str} {sc : Scope} {N : List Str} {e : Expr} {es : List Expr} {t : Tg} {ts : List Tg} {pos : Pos}
theorem SG.name {i : Nat} {x : Str} (hi : N[i]? = some x) (hx : Loc sc x) (hf : x ∈ F ∨ sc.names.lookup x = some .local) : SG F sc N (.Name x pos) (.nm i) := by
  intro X A hc hN hF h1 h2
  subst h1 h2
  refine PG.imp (pg_name hN hi hx (hf.imp (hF x) id)) fun v σ H Q ⟨m, st, ρ, pv, ρ', S, R, r, q, hp, h⟩ => ?_
  simp only [Tg.put] at q
  split at q
  · cases q
    refine h _ (R.set r fun p hp' e => hp p hp' (by simp [Tg.vars, e])) ⟨by simp, fun j hj => ?_⟩
    simp only [Tg.vars, List.mem_singleton] at hj
    exact List.getElem?_set_ne (Ne.symm hj)
  · cases q
theorem SGs.nil : SGs F sc N [] [] := by
  intro X A hc hN hF h1 h2
  refine PGs.imp pgs_nil fun v σ H Q ⟨m, st, ρ, pv, ρ', S, R, r, q, hp, h⟩ => ?_
  cases pv with
  | nil => simp only [RVs] at r; simp only [Tg.puts] at q; cases q; exact ⟨r, h _ R (Agree.refl _)⟩
  | cons _ _ => simp only [Tg.puts] at q; cases q
theorem SGs.cons (h1 : SG F sc N e t) (h2 : SGs F sc N es ts) (hs : ∀ env, (assignEach (e :: es) env).map (·.2) = assign e env :: (assignEach es env).map (·.2)) : SGs F sc N (e :: es) (t :: ts) := by
  intro X A hc hN hF g1 g2
  refine PGs.imp (pgs_cons (h1 X A hc hN hF g1 g2) (h2 X A hc hN hF g1 g2) (hs _)) fun xs σ H Q ⟨m, st, ρ, pv, ρ', S, R, r, q, hp, h⟩ => ?_
  cases pv with
  | nil => simp only [Tg.puts] at q; cases q
  | cons v vs =>
    simp only [RVs] at r
    obtain ⟨y, rr, rfl, r1, r2⟩ := r
    simp only [Tg.puts] at q
    cases q1 : t.put v ρ with
    | none => rw [q1] at q; cases q
    | some ρ1 =>
      rw [q1] at q
      simp only [Tg.varss, List.mem_append, not_or] at hp
      exact ⟨y, rr, rfl, m, st, ρ, v, ρ1, S, R, r1, q1, fun p hp' => (hp p hp').1, fun σ1 R1 a1 => ⟨m, st, ρ1, vs, ρ', S, R1, r2, q, fun p hp' => (hp p hp').2, fun σ2 R2 a2 => h σ2 R2 (by simp only [Tg.varss]; exact a1.trans a2)⟩⟩
theorem puts_len : ∀ {ts : List Tg} {vs : List PV} {ρ ρ' : Env}, Tg.puts ts vs ρ = some ρ' → vs.length = ts.length
  | [], [], _, _, _ => rfl
  | [], _ :: _, _, _, h => by simp only [Tg.puts] at h; cases h
  | _ :: _, [], _, _, h => by simp only [Tg.puts] at h; cases h
  | t :: ts, v :: vs, ρ, ρ', h => by
    simp only [Tg.puts] at h
    split at h
    · simp [puts_len h]
    · cases h
theorem SG.tup {k : Nat} (h : SGs F sc N es ts) (hn : ∀ env, (assignEach es env).length = ts.length) (hst : ∀ env, (assignEach es env).findIdx? (·.1) = none) : SG F sc N (.Tuple es k pos) (.tup ts) := by
  intro X A hc hN hF g1 g2
  refine PG.imp (pg_tup hc (h X A hc hN hF g1 g2) (hn _) (hst _)) fun x σ H Q ⟨m, st, ρ, pv, ρ', S, R, r, q, hp, h⟩ => ?_
  cases pv with
  | tup vs =>
    simp only [RV] at r
    obtain ⟨a, ys, rfl, hs, hl, hr⟩ := r
    simp only [Tg.put] at q
    exact ⟨a, ys, rfl, hs, by rw [hr.len, puts_len q], m, st, ρ, vs, ρ', S, R, hr, q, fun p hp' => by have := hp p hp'; simp only [Tg.vars] at this; exact this, fun σ' R' a' => h σ' R' (by simp only [Tg.vars]; exact a')⟩
  | _ => simp only [Tg.put] at q; cases q
end

/-- J goes through s's items -/
def rI (K : PySem.W.Frag) (A : Ad) : Hp → List Addr → Src → L2.It → Prop := fun H' m' s J => s.items.length ≤ szl ∧ ∀ m2 st2 H2, Later m' H' m2 H2 → Sim K A m2 st2 H2 → Src.ok s.watch st2 = true →
  (∀ i v, s.items[i]? = some v → J.go i H2 ∧ ∀ x H3, J.yld i H2 x H3 → Later m2 H2 m2 H3 ∧ Sim K A m2 st2 H3 ∧ RV K A H3 m2 v x) ∧ J.stop s.items.length H2
def SI (B : Tb) (cm : Bool) (sc : Scope) (N : List Str) (tg e : Expr) (e' : MP.It) : Prop := ∀ X A C W, XOk B A C X W cm → X.env.scope = sc → X.N = N → PI X tg e (TEv X.K A (fun _ => rI X.K A) W (evI C e'))
section
variable {K : PySem.W.Frag} {A : Ad} {m m' : List Addr} {st st' : Store} {H H' : Hp}
theorem RVs.item {vs : List PV} {xs : List V} (r : RVs K A H m vs xs) {i : Nat} {v : PV} (h : vs[i]? = some v) {x : V} (e : xs[i]? = some x) : RV K A H m v x := by
  obtain ⟨y, h1, h2⟩ := r.get h
  rw [e] at h1; cases h1; exact h2
theorem rI_tup {a : Addr} {ys : List V} {vs : List PV} (S : Sim K A m st H) (hs : SqT K H a ys) (hl : vs.length ≤ szl) (hr : RVs K A H m vs ys) : rI K A H m ⟨vs, []⟩ (Itt K a) := by
  refine ⟨hl, fun m2 st2 H2 l S2 _ => ⟨fun i v e => ?_, ?_⟩⟩
  · obtain ⟨x, h1, h2⟩ := hr.get e
    exact ⟨⟨ys, x, sqt_later S l hs, h1⟩, fun x' H3 ⟨e3, y3⟩ => by subst e3; exact ⟨Later.refl _ _, S2, (hr.later S l).item e (y3 ys (sqt_later S l hs))⟩⟩
  · exact ⟨ys, sqt_later S l hs, by rw [hr.len]; exact Nat.le_refl _⟩
theorem watch_list {i : Nat} {a : Addr} {vs : List PV} {m2 : List Addr} {st2 : Store} {H2 : Hp} (S2 : Sim K A m2 st2 H2) (w : Src.ok [(i, vs)] st2 = true) (hm : m2[i]? = some a) : ∃ ys, SqL K H2 a ys ∧ RVs K A H2 m2 vs ys := by
  simp only [Src.ok, List.all_cons, List.all_nil, Bool.and_true, Bool.or_eq_true, decide_eq_true_eq] at w
  rcases w with w | w
  · obtain ⟨zs, h1, _, h3⟩ := S2.at_ i _ a w hm; exact ⟨zs, .inl (.inl h1), h3⟩
  · obtain ⟨ob, zs, h1, _, h3⟩ := S2.at_ i _ a w hm; exact ⟨zs, .inl (.inr ⟨ob, h1⟩), h3⟩
theorem rI_list {i : Nat} {a : Addr} {vs : List PV} (hm : m[i]? = some a) (hl : vs.length ≤ szl) : rI K A H m ⟨vs, [(i, vs)]⟩ (Itl K a) := by
  refine ⟨hl, fun m2 st2 H2 l S2 w => ?_⟩
  obtain ⟨ys, q, hr⟩ := watch_list S2 w (l.get hm)
  refine ⟨fun j v e => ?_, ⟨ys, q, by rw [hr.len]; exact Nat.le_refl _⟩⟩
  obtain ⟨x, h1, h2⟩ := hr.get e
  exact ⟨⟨ys, x, q, h1⟩, fun x' H3 ⟨e3, y3⟩ => by subst e3; exact ⟨Later.refl _ _, S2, hr.item e (y3 ys q)⟩⟩
/-- a list not of the store -/
theorem rI_fresh {a : Addr} {ys : List V} {vs : List PV} (S : Sim K A m st H) (ha : H a = some (.lst ys)) (hm : a ∉ m) (hl : vs.length ≤ szl) (hr : RVs K A H m vs ys) : rI K A H m ⟨vs, []⟩ (Itl K a) := by
  refine ⟨hl, fun m2 st2 H2 l S2 _ => ?_⟩
  have q : SqL K H2 a ys := .inl (.inl (l.fr _ _ ha hm (fun _ e => nomatch e)))
  refine ⟨fun i v e => ?_, ⟨ys, q, by rw [hr.len]; exact Nat.le_refl _⟩⟩
  obtain ⟨x, h1, h2⟩ := hr.get e
  exact ⟨⟨ys, x, q, h1⟩, fun x' H3 ⟨e3, y3⟩ => by subst e3; exact ⟨Later.refl _ _, S2, (hr.later S l).item e (y3 ys q)⟩⟩
theorem rangeP_get {lo : Int} {n i : Nat} {v : PV} (h : (rangeP lo n)[i]? = some v) : i < n ∧ v = .int (lo + (i : Int)) := by
  unfold rangeP at h
  rw [List.getElem?_map] at h
  cases q : (List.range n)[i]? with
  | none => rw [q] at h; cases h
  | some j =>
    rw [q] at h
    have hi : i < n := by
      by_cases hi : i < n
      · exact hi
      · rw [List.getElem?_eq_none (by simp; omega)] at q; cases q
    rw [List.getElem?_range hi] at q
    cases q
    cases h
    exact ⟨hi, rfl⟩
theorem rangeP_len {lo : Int} {n : Nat} : (rangeP lo n).length = n := by simp [rangeP]
theorem rI_range {lo : Int} {n : Nat} (hn : n ≤ szl) : rI K A H m ⟨rangeP lo n, []⟩ (Itr lo n) := by
  refine ⟨by rw [rangeP_len]; exact hn, fun m2 st2 H2 l S2 _ => ⟨fun i v e => ?_, ?_⟩⟩
  · obtain ⟨h1, h2⟩ := rangeP_get e
    exact ⟨h1, fun x H3 ⟨e1, e2⟩ => by subst e1 e2 h2; exact ⟨Later.refl _ _, S2, by simp only [RV]⟩⟩
  · show n ≤ _
    rw [rangeP_len]
    exact Nat.le_refl _
end
section
variable {B : Tb} {cm : Bool} {sc : Scope} {N : List Str} {tg e a b c : Expr} {e' a' b' c' : Ex} {es : List Expr} {es' : List Ex} {pos : Pos}
theorem SI.ex (h : SE B cm sc N e e') : SI B cm sc N tg e (.ex e') := by
  intro X A C W O h1 h2
  have H0 := h X A C W O h1 h2
  refine PI.imp (PI.or (pi_list H0) (pi_tup H0)) fun σ H R ⟨m, st, ρ, S, En, h⟩ => ?_
  unfold evI at h
  have hb := Fin.bind (rel := rV X.K A) h
  cases q : ev C e' ρ st with
  | bad => rw [q] at hb; exact hb.elim
  | exc c fs st1 =>
    rw [q] at hb
    exact .inl ⟨m, st, ρ, S, En, by rw [q]; exact hb⟩
  | ok v st1 =>
    cases v with
    | tup vs =>
      refine .inr ⟨m, st, ρ, S, En, Fin.imp hb fun x H1 ⟨m1, st1', v, e, l, S1, r, h⟩ => ?_⟩
      rw [q] at e
      cases e
      simp only [RV] at r
      obtain ⟨p, ys, rfl, hs, hl, hr⟩ := r
      exact ⟨p, rfl, ⟨ys, hs⟩, h m1 H1 _ (Later.refl _ _) S1 (rI_tup S1 hs hl hr)⟩
    | ref i =>
      refine .inl ⟨m, st, ρ, S, En, Fin.imp hb fun x H1 ⟨m1, st1', v, e, l, S1, r, h⟩ => ?_⟩
      rw [q] at e
      cases e
      simp only [srcOf] at h
      cases q2 : st1[i]? with
      | none => rw [q2] at h; exact h.elim
      | some o =>
        rw [q2] at h
        obtain ⟨p, g1, rfl, g3⟩ := S1.obj q2 r
        cases o with
        | lst zs => obtain ⟨ys, k1, k2, k3⟩ := g3; exact ⟨p, rfl, ⟨ys, .inl (.inl k1)⟩, h m1 H1 _ (Later.refl _ _) S1 (rI_list g1 k2)⟩
        | frz zs => obtain ⟨ob, ys, k1, k2, k3⟩ := g3; exact ⟨p, rfl, ⟨ys, .inl (.inr ⟨ob, k1⟩)⟩, h m1 H1 _ (Later.refl _ _) S1 (rI_list g1 k2)⟩
        | dic _ => exact h.elim
        | ins _ _ => exact h.elim
        | gone => exact h.elim
    | _ =>
      refine .inl ⟨m, st, ρ, S, En, Fin.imp hb fun x H1 ⟨m1, st1', v, e, l, S1, r, h⟩ => ?_⟩
      rw [q] at e
      cases e
      exact h.elim
theorem SI.lx {a' : Lx} (h : SF B cm sc N a a') : SI B cm sc N tg a (.lx a') := by
  intro X A C W O h1 h2
  refine PI.imp (pi_list (h X A C W O h1 h2)) fun σ H R ⟨m, st, ρ, S, En, h⟩ => ?_
  unfold evI at h
  refine ⟨m, st, ρ, S, En, Fin.imp (Fin.bind (rel := rF X.K A H) h) fun x H1 ⟨m1, st1, vs, e, l, S1, r, h⟩ => ?_⟩
  obtain ⟨p, ys, rfl, hn, hm, hp, hl, hr⟩ := r
  exact ⟨p, rfl, ⟨ys, .inl (.inl hp)⟩, h m1 H1 _ (Later.refl _ _) S1 (rI_fresh S1 hp hm hl hr)⟩
theorem SI.range1 {p : Pos} (hg : sc.names.lookup ("range" : Str) = some .globalImplicit) (hf : ("range" : Str) ∈ B.frees) (ha : SEs B cm sc N [a] [a']) (hs : ∀ env, starEach [a] env = [(false, eval a env)]) : SI B cm sc N tg (.Call (.Name "range" p) [a] [] pos) (.range1 a') := by
  intro X A C W O h1 h2
  have hgl : Gl X "range" := by subst h1; exact hg
  refine PI.imp (pi_range1 hgl (O.gf.fr _ hf) (ha X A C W O h1 h2) (hs _)) fun σ H R ⟨m, st, ρ, S, En, h⟩ => ?_
  unfold evI at h
  have h : Fin X.K A (rI X.K A) (fun c d H' => W c d σ H') m H R ((evs C [a'] ρ st).bind fun vs st => match vs with
    | [.int j] => if -(2 ^ 62) ≤ j ∧ j ≤ szl then .ok ⟨rangeP 0 j.toNat, []⟩ st else .bad
    | _ => .bad) := by
    revert h
    simp only [evs]
    cases ev C a' ρ st with
    | ok v st1 => simp only [Res.bind_ok]; intro h; cases v <;> exact h
    | exc c fs st1 => simp only [Res.bind_exc]; exact fun h => h
    | bad => simp only [Res.bind_bad]; exact fun h => h
  refine ⟨m, st, ρ, S, En, Fin.imp (Fin.bind (rel := rVs X.K A) h) fun xs H1 ⟨m1, st1, vs, e, l, S1, r, h⟩ => ?_⟩
  split at h
  · rename_i j
    simp only [RVs, RV] at r
    obtain ⟨_, _, rfl, rfl, rfl⟩ := r
    split at h
    · rename_i hc
      have e1 : (szl : Int) = 16777216 := by decide
      exact ⟨j, rfl, hc.1, by omega, h m1 H1 _ (Later.refl _ _) S1 (rI_range (by omega))⟩
    · exact h.elim
  · exact h.elim
theorem SI.range2 {p : Pos} (hg : sc.names.lookup ("range" : Str) = some .globalImplicit) (hf : ("range" : Str) ∈ B.frees) (ha : SEs B cm sc N [a, b] [a', b']) (hs : ∀ env, starEach [a, b] env = [(false, eval a env), (false, eval b env)]) (hs2 : ∀ env, starEach [b] env = [(false, eval b env)]) :
    SI B cm sc N tg (.Call (.Name "range" p) [a, b] [] pos) (.range2 a' b') := by
  intro X A C W O h1 h2
  have hgl : Gl X "range" := by subst h1; exact hg
  refine PI.imp (pi_range2 hgl (O.gf.fr _ hf) (ha X A C W O h1 h2) (hs _) (hs2 _)) fun σ H R ⟨m, st, ρ, S, En, h⟩ => ?_
  unfold evI at h
  have h : Fin X.K A (rI X.K A) (fun c d H' => W c d σ H') m H R ((evs C [a', b'] ρ st).bind fun vs st => match vs with
    | [.int i, .int j] => if -(2 ^ 61) ≤ i ∧ i < 2 ^ 61 ∧ -(2 ^ 61) ≤ j ∧ j < 2 ^ 61 ∧ j - i ≤ szl then .ok ⟨rangeP i (j - i).toNat, []⟩ st else .bad
    | _ => .bad) := by
    revert h
    simp only [evs]
    cases ev C a' ρ st with
    | ok v st1 =>
      simp only [Res.bind_ok]
      cases ev C b' ρ st1 with
      | ok w st2 => simp only [Res.bind_ok]; intro h; cases v <;> cases w <;> exact h
      | exc c fs st2 => simp only [Res.bind_exc]; exact fun h => h
      | bad => simp only [Res.bind_bad]; exact fun h => h
    | exc c fs st1 => simp only [Res.bind_exc]; exact fun h => h
    | bad => simp only [Res.bind_bad]; exact fun h => h
  refine ⟨m, st, ρ, S, En, Fin.imp (Fin.bind (rel := rVs X.K A) h) fun xs H1 ⟨m1, st1, vs, e, l, S1, r, h⟩ => ?_⟩
  split at h
  · rename_i i j
    simp only [RVs, RV] at r
    obtain ⟨_, _, rfl, rfl, _, _, rfl, rfl, rfl⟩ := r
    split at h
    · rename_i hc
      have e1 : (szl : Int) = 16777216 := by decide
      exact ⟨i, j, rfl, ⟨by omega, by omega, by omega, by omega⟩, h m1 H1 _ (Later.refl _ _) S1 (rI_range (by omega))⟩
    · exact h.elim
  · exact h.elim
end

section
variable {K : PySem.W.Frag} {A : Ad} {m m' : List Addr} {st st' : Store} {H H' : Hp} {D : Addr} {o : HO} {zs : List V}
theorem sqt_poke (hD : H D = some (.lst zs)) {a : Addr} {ys : List V} (h : SqT K H a ys) : SqT K (upd H D o) a ys := by
  rcases h with h | h
  · have ne : a ≠ D := fun e => by
      subst e
      rcases h with h | ⟨ob, h⟩
      · rw [hD] at h; cases h
      · rw [hD] at h; cases h
    rcases h with h | ⟨ob, h⟩
    · exact .inl (.inl (by rw [upd_ne ne]; exact h))
    · exact .inl (.inr ⟨ob, by rw [upd_ne ne]; exact h⟩)
  · exact .inr h
mutual
theorem RV.poke (hD : H D = some (.lst zs)) : ∀ {v : PV} {x : V}, RV K A H m v x → RV K A (upd H D o) m v x
  | .non, _, h => by simp only [RV] at h ⊢; exact h
  | .bl b, _, h => by simp only [RV] at h ⊢; exact h
  | .int i, _, h => by simp only [RV] at h ⊢; exact h
  | .str x, _, h => by simp only [RV] at h ⊢; exact h
  | .tup xs, _, h => by
    simp only [RV] at h ⊢
    obtain ⟨a, ys, e, hs, hl, hr⟩ := h
    exact ⟨a, ys, e, sqt_poke hD hs, hl, RVs.poke hD hr⟩
  | .ref i, _, h => by simp only [RV] at h ⊢; exact h
  | .fn k, _, h => by simp only [RV] at h ⊢; exact h
  | .cls k, _, h => by simp only [RV] at h ⊢; exact h
  | .ty n, _, h => by simp only [RV] at h ⊢; exact h
theorem RVs.poke (hD : H D = some (.lst zs)) : ∀ {vs : List PV} {xs : List V}, RVs K A H m vs xs → RVs K A (upd H D o) m vs xs
  | [], _, h => by simp only [RVs] at h ⊢; exact h
  | v :: vs, _, h => by
    simp only [RVs] at h ⊢
    obtain ⟨y, r, e, h1, h2⟩ := h
    exact ⟨y, r, e, RV.poke hD h1, RVs.poke hD h2⟩
end
theorem FR.poke (hD : H D = some (.lst zs)) : ∀ {fs : List (Str × PV)} {gs : List (Str × V)}, FR K A H m fs gs → FR K A (upd H D o) m fs gs
  | [], _, h => by simp only [FR] at h ⊢; exact h
  | (f, v) :: vs, _, h => by
    simp only [FR] at h ⊢
    obtain ⟨y, r, e, h1, h2⟩ := h
    exact ⟨y, r, e, RV.poke hD h1, FR.poke hD h2⟩
theorem Later.poke {m0 : List Addr} {H0 : Hp} (l : Later m0 H0 m H) (hD : H0 D = none) : Later m0 H0 m (upd H D o) :=
  ⟨l.ex, fun a u h hm ht => by rw [upd_ne (ne_of_none h hD)]; exact l.fr a u h hm ht, fun a h => by
    by_cases e : a = D
    · rw [e, upd_same]; simp
    · rw [upd_ne e]; exact l.al a h⟩
/-- a list that is not of the store changes -/
theorem Sim.poke (S : Sim K A m st H) (hD : H D = some (.lst zs)) (hm : D ∉ m) (hs : ∀ q, A.sn = some q → q.2 D = none) {ys : List V} : Sim K A m st (upd H D (.lst ys)) := by
  refine ⟨S.len, S.nd, fun i o a h1 h2 => ?_, ?_, fun q hq => (S.sn q hq).poke (hs q hq)⟩
  · have ne : a ≠ D := fun e => hm (e ▸ List.mem_of_getElem? h2)
    have h := S.at_ i o a h1 h2
    cases o with
    | lst xs => obtain ⟨ys, h1, h2, h3⟩ := h; exact ⟨ys, by rw [upd_ne ne]; exact h1, h2, h3.poke hD⟩
    | frz xs => obtain ⟨ob, ys, h1, h2, h3⟩ := h; exact ⟨ob, ys, by rw [upd_ne ne]; exact h1, h2, h3.poke hD⟩
    | dic kvs => obtain ⟨h1, h2⟩ := h; exact ⟨h1, by rw [upd_ne ne]; exact h2⟩
    | ins c fs => obtain ⟨dx, gs, h1, h2⟩ := h; exact ⟨dx, gs, by rw [upd_ne ne]; exact h1, h2.poke hD⟩
    | gone => exact h
  · exact S.tb.upd hD (fun _ e => nomatch e) (fun q e => by unfold LamX.CodeO at e; cases e)
theorem EnvR.poke {ρ : Env} {σ : L2.St} (h : EnvR K A H m ρ σ) (hD : H D = some (.lst zs)) : EnvR K A (upd H D o) m ρ σ :=
  ⟨h.1, fun i v e => by obtain ⟨x, h1, h2⟩ := h.2.1 i v e; exact ⟨x, h1, h2.poke hD⟩, h.2.2⟩
/-- what was not of the store, and stood, is not of the store later -/
theorem Later.notin (l : Later m H m' H') (h : H D ≠ none) (hm : D ∉ m) : D ∉ m' := by
  obtain ⟨more, e, f⟩ := l.ex
  rw [e]
  intro q
  rcases List.mem_append.mp q with q | q
  · exact hm q
  · exact h (f D q)
end
/-- tests -/
def SPTs (B : Tb) (cm : Bool) (sc : Scope) (N : List Str) (es : List Expr) (es' : List Ex) : Prop := ∀ X A C, XOk B A C X (fun _ _ _ _ => False) cm → X.env.scope = sc → X.N = N → PTs X es (TEv X.K A (fun _ _ _ b c => c = b) (fun _ _ _ _ => False) (evT C es'))
section
variable {B : Tb} {cm : Bool} {sc : Scope} {N : List Str} {c : Expr} {c' : Ex}
theorem SPTs.nil : SPTs B cm sc N [] [] := fun X A C O h1 h2 => PTs.imp pts_nil fun σ H Q ⟨m, st, ρ, S, R, h⟩ => h m H _ (Later.refl _ _) S rfl
theorem SPTs.one (h : ST B cm sc N c c') : SPTs B cm sc N [c] [c'] := by
  intro X A C O h1 h2
  refine PTs.imp (pts_one (h X A C _ O h1 h2)) fun σ H Q ⟨m, st, ρ, S, R, h⟩ => ?_
  unfold evT at h
  refine ⟨m, st, ρ, S, R, Fin.imp (Fin.bind (rel := rV X.K A) h) fun x H1 ⟨m1, st1, v, _, l, S1, r, h⟩ => ?_⟩
  cases v with
  | bl b =>
    simp only [RV] at r
    refine ⟨b, r, ?_⟩
    cases b with
    | true => exact h m1 H1 _ (Later.refl _ _) S1 rfl
    | false => exact h m1 H1 _ (Later.refl _ _) S1 rfl
  | _ => exact h.elim
end
theorem lc_body {K : PySem.W.Frag} {A : Ad} {C : Cn} {ifs : List Ex} {elt : Ex} {ρ : Env} {st : Store} {m : List Addr} {H : Hp} {σ : L2.St} {W : Value → Option Addr → Hp → Prop} {P : List PV → Store → Res (List PV)} {Q : VK} {rel : Hp → List Addr → List PV → V → Prop} {f : Option PV → Store → Res (List PV)}
    (S : Sim K A m st H) (R : EnvR K A H m ρ σ)
    {m0 : List Addr} {H0 : Hp} (h : Fin K A rel W m0 H0 Q ((((evT C ifs ρ st).bind fun k st => match k with
          | true => (ev C elt ρ st).bind fun v st => .ok (some v) st
          | false => .ok none st).calm).bind f)) (T : Bool → Hp → Prop)
    (hT : ∀ m1 st1 H1, Later m H m1 H1 → Sim K A m1 st1 H1 → Fin K A rel W m0 H0 Q (f none st1) → T false H1)
    (hE : ∀ m1 st1 H1, Later m H m1 H1 → Sim K A m1 st1 H1 → EnvR K A H1 m1 ρ σ → (∀ (U : V → Hp → Prop), (∀ m2 st2 H2 v x, Later m H m2 H2 → Sim K A m2 st2 H2 → RV K A H2 m2 v x → Fin K A rel W m0 H0 Q (f (some v) st2) → U x H2) → TEv K A (fun _ => rV K A) (fun _ _ _ _ => False) (ev C elt) σ H1 U) → T true H1) :
    TEv K A (fun _ _ _ b c => c = b) (fun _ _ _ _ => False) (evT C ifs) σ H T := by
  refine ⟨m, st, ρ, S, R, ?_⟩
  cases q : evT C ifs ρ st with
  | bad => rw [q] at h; exact h.elim
  | exc c fs st1 => rw [q] at h; exact h.elim
  | ok b st1 =>
    intro m1 H1 x l S1 e
    subst e
    rw [q, Res.bind_ok] at h
    cases x with
    | false => exact hT m1 st1 H1 l S1 h
    | true =>
      refine hE m1 st1 H1 l S1 (R.later S l) fun U hU => ⟨m1, st1, ρ, S1, R.later S l, ?_⟩
      cases q2 : ev C elt ρ st1 with
      | bad => rw [q2] at h; exact h.elim
      | exc c fs st2 => rw [q2] at h; exact h.elim
      | ok v st2 =>
        intro m2 H2 y l2 S2 r2
        rw [q2] at h
        exact hU m2 st2 H2 v y (l.trans l2) S2 r2 h
/-- the comprehension's reading -/
theorem lc_read {K : PySem.W.Frag} {A : Ad} {C : Cn} {W : WX} {own : List Nat} {elt : Ex} {tg : Tg} {it : MP.It} {ifs : List Ex} {σ : L2.St} {H : Hp} {Q : VK} (hv : ∀ i ∈ tg.vars, i ∈ own) (hpp : ∀ p ∈ A.pins, p.1 ∈ C.pins)
    (h : TEv K A (rF K A) W (evL C (.lc own elt tg it ifs)) σ H Q) :
    tLc (TEv K A (fun _ => rI K A) W (evI C it)) (gT K A tg) (TEv K A (fun _ _ _ b c => c = b) (fun _ _ _ _ => False) (evT C.bare ifs)) (TEv K A (fun _ => rV K A) (fun _ _ _ _ => False) (ev C.bare elt)) own σ H Q := by
  obtain ⟨m, st, ρ, S, R, h⟩ := h
  unfold evL at h
  split at h
  · exact h.elim
  rename_i hpc
  have hpn : ∀ p ∈ A.pins, p.1 ∉ own := fun p hp q => hpc (List.any_eq_true.mpr ⟨p.1, hpp p hp, by simpa using q⟩)
  refine ⟨m, st, ρ, S, R, Fin.imp (Fin.bind (rel := rI K A) h) fun J H1 ⟨m1, st1, s, e, l, S1, r, h⟩ => ?_⟩
  obtain ⟨hsz, hw⟩ := r
  intro D hD
  -- the invariant
  generalize hf : (fun (x : PV) (st : Store) => match tg.put x (MP.wipe ρ own) with
        | some ρ' => (((evT C.bare ifs ρ' st).bind fun k st => match k with
          | true => (ev C.bare elt ρ' st).bind fun v st => .ok (some v) st
          | false => .ok none st).calm : Res (Option PV))
        | none => .bad) = f at h
  have R1 := R.later S l
  let Pv : Nat → Hp → Prop := fun i H2 => ∃ m2 st2 acc ys, Later m1 H1 m2 H2 ∧ Sim K A m2 st2 H2 ∧ D ∉ m2 ∧ H2 D = some (.lst ys) ∧ RVs K A H2 m2 acc ys ∧ acc.length ≤ i ∧ EnvR K A H2 m2 (MP.wipe ρ own) (L2.wipe σ own) ∧
    Fin K A (rF K A H) (fun c d H' => W c d σ H') m1 H1 Q (lcLoop s.watch f (s.items.drop i) acc st2)
  have hm1 := S1.fresh hD
  refine ⟨fun i n H2 => n = s.items.length - i ∧ i ≤ s.items.length ∧ Pv i H2, ⟨s.items.length, by simp, Nat.zero_le _, m1, st1, [], [], Later.new hD, S1.objNew hD, hm1, upd_same, RVs.nil, Nat.le_refl _, (R1.later S1 (Later.new hD)).wipes hpn, h⟩, ?_⟩
  rintro i n H2 ⟨rfl, hi, m2, st2, acc, ys, l2, S2, hm2, hD2, hr, hl, hE, h⟩
  have hok : Src.ok s.watch st2 = true := by
    cases q : Src.ok s.watch st2 with
    | true => rfl
    | false =>
      exfalso
      cases q2 : s.items.drop i with
      | nil => rw [q2] at h; simp only [lcLoop, q] at h; exact h
      | cons v vs => rw [q2] at h; simp only [lcLoop, q] at h; exact h
  obtain ⟨hgo, hstop⟩ := hw m2 st2 H2 l2 S2 hok
  by_cases hlt : i < s.items.length
  · have hx : s.items[i]? = some s.items[i] := List.getElem?_eq_getElem hlt
    have hdr : s.items.drop i = s.items[i] :: s.items.drop (i + 1) := List.drop_eq_getElem_cons hlt
    obtain ⟨go, yld⟩ := hgo i _ hx
    rw [hdr] at h
    simp only [lcLoop, hok, if_true] at h
    refine .inr ⟨go, Pv (i + 1), fun H' p' => ⟨s.items.length - (i + 1), by omega, rfl, hlt, p'⟩, fun x H3 y => ?_⟩
    obtain ⟨l3, S3, r3⟩ := yld x H3 y
    -- the target
    have h : ∃ ρ', tg.put s.items[i] (MP.wipe ρ own) = some ρ' ∧ Fin K A (rF K A H) (fun c d H' => W c d σ H') m1 H1 Q ((((evT C.bare ifs ρ' st2).bind fun k st => match k with
          | true => (ev C.bare elt ρ' st).bind fun v st => .ok (some v) st
          | false => .ok none st).calm).bind fun o st' => match o with
      | some v => lcLoop s.watch f (s.items.drop (i + 1)) (acc ++ [v]) st'
      | none => lcLoop s.watch f (s.items.drop (i + 1)) acc st') := by
      rw [← hf] at h ⊢
      simp only at h ⊢
      cases q : tg.put s.items[i] (MP.wipe ρ own) with
      | none => rw [q] at h; exact h.elim
      | some ρ' => rw [q] at h; exact ⟨ρ', rfl, h⟩
    obtain ⟨ρ', hp, h⟩ := h
    have hE3 := hE.later S2 l3
    have hD3 : H3 D = some (.lst ys) := l3.fr _ _ hD2 hm2 (fun _ e => nomatch e)
    refine ⟨m2, st2, MP.wipe ρ own, s.items[i], ρ', S3, hE3, r3, hp, fun p hp' q => hpn p hp' (hv _ q), fun σ' R' ag => ⟨ag.wipe hv, ?_⟩⟩
    have hE' : ∀ m4 H4, Later m2 H3 m4 H4 → EnvR K A H4 m4 (MP.wipe ρ own) (L2.wipe σ own) := fun m4 H4 l4 => hE3.later S3 l4
    refine lc_body (P := fun _ _ => .bad) S3 R' h _ (fun m4 st4 H4 l4 S4 h4 => ?_) (fun m4 st4 H4 l4 S4 R4 k4 => ?_)
    · simp only [Bool.false_eq_true, if_false]
      exact ⟨m4, st4, acc, ys, (l2.trans l3).trans l4, S4, l4.notin (by rw [hD3]; simp) hm2, l4.fr _ _ hD3 hm2 (fun _ e => nomatch e), (hr.later S2 l3).later S3 l4, Nat.le_succ_of_le hl, hE' m4 H4 l4, h4⟩
    · simp only [if_true]
      refine k4 _ fun m5 st5 H5 v z l5 S5 r5 h5 => ?_
      have hD5 : H5 D = some (.lst ys) := l5.fr _ _ hD3 hm2 (fun _ e => nomatch e)
      have hm5 := l5.notin (by rw [hD3]; simp) hm2
      have hr5 := (hr.later S2 l3).later S3 l5
      have lall : Later m1 H1 m5 H5 := (l2.trans l3).trans l5
      refine ⟨ys, hD5, by rw [hr.len, ← szl_eq]; omega, m5, st5, acc ++ [v], ys ++ [z], lall.poke hD, S5.poke hD5 hm5 (S1.since hD), hm5, upd_same, (hr5.append (RVs.cons r5 RVs.nil)).poke hD5, by simp; omega, (hE' m5 H5 l5).poke hD5, h5⟩
  · have e : i = s.items.length := by omega
    subst e
    rw [List.drop_length] at h
    simp only [lcLoop, hok, if_true] at h
    refine .inl ⟨hstop, h m2 H2 _ l2 S2 ⟨D, ys, rfl, ?_, hm2, hD2, Nat.le_trans hl hsz, hr⟩⟩
    cases q : H D with
    | none => rfl
    | some o => exact absurd hD (l.al D (by rw [q]; simp))
theorem XOk.blk {B : Tb} {A : Ad} {C : Cn} {X : Cx} {W : WX} {cm : Bool} (O : XOk B A C X W cm) (s : Shared) (H : Hp) (scope : Scope) (cenv : PySem.Env) (fp : List Addr) : XOk B A C.bare (X.blk s H scope cenv fp) (fun _ _ _ _ => False) cm :=
  ⟨O.calm, takes0, O.nd, O.hu, O.hg, O.kit, O.kie, O.gf, O.room, O.fns, O.lams, O.pins, (fun _ e => nomatch e), (fun _ => rfl), O.ar, O.lv, (fun e => nomatch e), fun _ _ _ e => nomatch e⟩
section
variable {B : Tb} {sc scope : Scope} {N : List Str} {tg iter elt : Expr} {ifs : List Expr} {own : List (Str × Nat)} {elt' : Ex} {t : Tg} {it : MP.It} {ifs' : List Ex} {pos : Pos} {F : List Str}
/-- a comprehension's parts, in its block -/
structure LcP (B : Tb) (X : Cx) (A : Ad) (C : Cn) (W : WX) (N : List Str) (sc scope : Scope) (own : List (Str × Nat)) (tg iter elt : Expr) (ifs : List Expr) (t : Tg) (it : MP.It) (elt' : Ex) (ifs' : List Ex) : Prop where
  pi : PI X tg iter (TEv X.K A (fun _ => rI X.K A) W (evI C it))
  ok : BlkOk X.N X.env.scope scope own
  pg : ∀ (s : Shared) (H : Hp) (c : Addr) (cl : List (Str × Addr)) (fp : List Addr), PG (X.blk s H scope (compEnvC scope cl c X.env) fp) tg (gT X.K A t)
  pt : ∀ (s : Shared) (H : Hp) (c : Addr) (cl : List (Str × Addr)) (fp : List Addr), PTs (X.blk s H scope (compEnvC scope cl c X.env) fp) ifs (TEv X.K A (fun _ _ _ b c => c = b) (fun _ _ _ _ => False) (evT C.bare ifs'))
  pe : ∀ (s : Shared) (H : Hp) (c : Addr) (cl : List (Str × Addr)) (fp : List Addr), PE (X.blk s H scope (compEnvC scope cl c X.env) fp) elt (TEv X.K A (fun _ => rV X.K A) (fun _ _ _ _ => False) (ev C.bare elt'))
theorem LcP.of {X : Cx} {A : Ad} {C : Cn} {W : WX} (O : XOk B A C X W true) (h1 : X.env.scope = sc) (h2 : X.N = N) (hb : blkC N sc scope own = true) (hF : ∀ x ∈ F, scope.names.lookup x = some .cell)
    (hi : SI B true sc N tg iter it) (hg : SG F (relS scope sc) N tg t) (ht : SPTs B true (relS scope sc) N ifs ifs') (he : SE B true (relS scope sc) N elt elt') : LcP B X A C W N sc scope own tg iter elt ifs t it elt' ifs' := by
  subst h1 h2
  refine ⟨hi X A C W O rfl rfl, blkOk_by hb, fun s H c cl fp => ?_, fun s H c cl fp => ?_, fun s H c cl fp => ?_⟩
  · exact hg _ A (O.calm rfl) O.nd (fun x hx => by show (scope.names.lookup x == some .cell) = true; rw [hF x hx]; rfl) rfl rfl
  · exact ht _ A C.bare (O.blk s H scope _ fp) rfl rfl
  · exact he _ A C.bare _ (O.blk s H scope _ fp) rfl rfl
theorem SF.lc (hb : blkC N sc scope own = true) (hF : ∀ x ∈ F, scope.names.lookup x = some .cell) (hv : ∀ i ∈ t.vars, i ∈ own.map (·.2))
    (hi : SI B true sc N tg iter it) (hg : SG F (relS scope sc) N tg t) (ht : SPTs B true (relS scope sc) N ifs ifs') (he : SE B true (relS scope sc) N elt elt')
    (hs : ∀ env x, foldedSetIterable iter env x = pure x) : SF B true sc N (.ListComp elt [⟨tg, iter, ifs, 0⟩] scope pos) (.lc (own.map (·.2)) elt' t it ifs') := by
  intro X A C W O h1 h2
  have L := LcP.of (A := A) (C := C) O h1 h2 hb hF hi hg ht he
  exact PE.imp (pe_lc (O.calm rfl) O.nd L.pi L.ok L.pg L.pt L.pe (hs _)) fun σ H Q h => lc_read hv O.pins h
end
end MP
set_option linter.all false
set_option Elab.async false
set_option maxRecDepth 100000
set_option maxHeartbeats 2000000
namespace MP
open PySem PySem.Spec PyProof.Rows L2
open Sem (wp)

def SqK (K : PySem.W.Frag) (H : Hp) (k : Bool) (a : Addr) (xs : List V) : Prop := match k with
  | true => SqL K H a xs
  | false => SqT K H a xs
def SqIt (h : Heap) (k : Bool) (it a : Addr) (i : Nat) : Prop := match k with
  | true => h.IsListIter it a i
  | false => h.IsTupleIter it a i
def SqAt (h : Heap) (k : Bool) (a : Addr) (its : Array Value) : Prop := match k with
  | true => h.IsList a its
  | false => h.IsTuple a its
def sqO (k : Bool) (a : Addr) : Obj := match k with
  | true => { cls := .type "list_iterator", data := .fields #[.ref a, .int 0 0] }
  | false => { cls := .type "tuple_iterator", data := .fields #[.ref a, .int 0 0] }
section
variable {prog : Program} {w : World} {A : Around} {h h' : Heap} {k : Bool} {it a b : Addr} {i : Nat} {its : Array Value}
theorem SqIt.at (x : SqIt h k it a i) (g : ∀ o, h.get? it = some o → h'.get? it = some o) : SqIt h' k it a i := by
  cases k
  · exact Heap.IsTupleIter.at x g
  · exact Heap.IsListIter.at x g
theorem SqAt.at (x : SqAt h k a its) (g : ∀ o, h.get? a = some o → h'.get? a = some o) : SqAt h' k a its := by
  cases k
  · exact Heap.IsTuple.at x g
  · exact Heap.IsList.at x g
theorem SqIt.obj (x : SqIt h k it a i) : ∃ o, h.get? it = some o ∧ ∀ v, o.data ≠ .cell v := by
  cases k
  · obtain ⟨o, e, _, d⟩ := x; exact ⟨o, e, fun v q => by rw [d] at q; cases q⟩
  · obtain ⟨o, e, _, d⟩ := x; exact ⟨o, e, fun v q => by rw [d] at q; cases q⟩
theorem SqAt.lt (x : SqAt h k a its) : a < h.objs.size := by
  cases k
  · obtain ⟨o, e, _⟩ := x; exact Heap.lt_size e
  · obtain ⟨o, e, _⟩ := x; exact Heap.lt_size e
theorem sqDraws (hh : A.handled = none) (k : Bool) (it a : Addr) (hne : a ≠ it) (its : Array Value) : Draws prog w A it [it, a] its.size (fun i v => its[i]? = some v) (fun i h => SqIt h k it a i ∧ SqAt h k a its) := by
  cases k
  · exact Draws.tuple hh it a hne its
  · exact Draws.list hh it a hne its
theorem sqBegins (k : Bool) (a : Addr) (its : Array Value) : Begins (.ref a) (sqO k a) fun h => SqAt h k a its := by
  cases k
  · exact begins_tuple a its
  · exact begins_list a its
theorem sqO_it {k : Bool} {a it : Addr} {h : Heap} (e : h.get? it = some (sqO k a)) : SqIt h k it a 0 := by
  cases k
  · exact ⟨_, e, rfl, rfl⟩
  · exact ⟨_, e, rfl, rfl⟩
end
section
variable {X : Cx} {pins : List (Addr × Obj)} {σ : L2.St} {H : Hp} {s : Shared} {k : Bool} {a : Addr} {xs ys : List V}
theorem inv_sq (I : Inv X pins σ H s) (q : SqK X.K H k a xs) : ∃ its, Vals xs its ∧ SqAt s.heap k a its.toArray := by
  cases k
  · obtain ⟨its, r, p, _⟩ := I.tuple q; exact ⟨its, r, p⟩
  · obtain ⟨its, r, p, _⟩ := I.list q; exact ⟨its, r, p.isList⟩
theorem sq_inj (I : Inv X pins σ H s) (q : SqK X.K H k a xs) (q' : SqK X.K H k a ys) : xs = ys := by
  cases k
  · exact I.tuple_inj q q'
  · exact I.list_inj q q'
end

theorem meets_enumerate_newB1 {v : Value} {o : Obj} {H : Heap → Prop} (B : Begins v o H) :
    Meets (Builtin.«enumerate.__new__» ⟨[.type "enumerate", v], []⟩) (fun _ R s => H s.heap ∧
      R (.ok (.ret (.ref (s.heap.push o).objs.size))) { s with heap := (s.heap.push o).push { cls := .type "enumerate", data := .fields #[.none, .bool false, .ref s.heap.objs.size, rawInt 0, .none, .none] } }) :=
  .of_wp fun prog w A R s h => by
    obtain ⟨hp, g, d, tk, os⟩ := s; obtain ⟨h1, h⟩ := h
    have hsub := sub_enumerate
    have q1 : ∀ {A' : Around} {E : Value → Shared → Prop} {Q : Value → Shared → Prop}, Q (.ref hp.objs.size) ⟨hp.push o, g, d, tk, os⟩ → wpAny (model prog w) A' (pyIter v) Q E ⟨hp, g, d, tk, os⟩ :=
      fun q => B.iter prog w _ _ ⟨hp, g, d, tk, os⟩ _ h1 q
    wp_walk using q1
    refine wpAny_stack_any fun st => wpAny_pure ?_
    split
    · rename_i c _ _ _ _ _
      cases (c == Value.type "enumerate")
      · wp_walk using q1
        exact ⟨_, rfl, h⟩
      · wp_walk using q1
        exact ⟨_, rfl, h⟩
    · wp_walk using q1
      exact ⟨_, rfl, h⟩
/-- over what is its own iterator -/
theorem meets_enumerate_newI {v : Value} {H : Heap → Prop} (B : ∀ (prog : Program) (w : World) (A : Around) (E : Value → Shared → Prop) (s : Shared) (Q : Value → Shared → Prop), H s.heap → Q v s → wpAny (model prog w) A (pyIter v) Q E s) :
    Meets (Builtin.«enumerate.__new__» ⟨[.type "enumerate", v], []⟩) (fun _ R s => H s.heap ∧
      R (.ok (.ret (.ref s.heap.objs.size))) { s with heap := s.heap.push { cls := .type "enumerate", data := .fields #[.none, .bool false, v, rawInt 0, .none, .none] } }) :=
  .of_wp fun prog w A R s h => by
    obtain ⟨hp, g, d, tk, os⟩ := s; obtain ⟨h1, h⟩ := h
    have hsub := sub_enumerate
    have q1 : ∀ {A' : Around} {E : Value → Shared → Prop} {Q : Value → Shared → Prop}, Q v ⟨hp, g, d, tk, os⟩ → wpAny (model prog w) A' (pyIter v) Q E ⟨hp, g, d, tk, os⟩ :=
      fun q => B prog w _ _ ⟨hp, g, d, tk, os⟩ _ h1 q
    wp_walk using q1
    refine wpAny_stack_any fun st => wpAny_pure ?_
    split
    · rename_i c _ _ _ _ _
      cases (c == Value.type "enumerate")
      · wp_walk using q1
        exact ⟨_, rfl, h⟩
      · wp_walk using q1
        exact ⟨_, rfl, h⟩
    · wp_walk using q1
      exact ⟨_, rfl, h⟩
section
variable {prog : Program} {w : World} {A : Around} {E : Value → Shared → Prop} {s : Shared}
theorem enum_begins1 {v : Value} {o : Obj} {H : Heap → Prop} {Q : Value → Shared → Prop} (B : Begins v o H) (h1 : H s.heap)
    (h : ∀ h', IsEnum h' (s.heap.objs.size + 1) s.heap.objs.size 0 .none → h'.get? s.heap.objs.size = some o → h'.objs.size = s.heap.objs.size + 2 →
      (∀ b o, s.heap.get? b = some o → h'.get? b = some o) → Q (.ref (s.heap.objs.size + 1)) { s with heap := h' }) :
    wpAny (model prog w) A (call (.type "enumerate") [v]) Q E s := by
  refine callType_new F.called_enumerate (by decide) (F.typeCall_enumerate_1 _) (F.newCall_enumerate_1 _) (fun obj => F.args_object_init_2 obj _) F.entry_enumerate_new
    (meets_enumerate_newB1 B) ⟨h1, ?_⟩
  have hz : (s.heap.push o).objs.size = s.heap.objs.size + 1 := Heap.size_push ..
  show _ ∧ _
  rw [hz]
  have he : IsEnum ((s.heap.push o).push { cls := .type "enumerate", data := .fields #[.none, .bool false, .ref s.heap.objs.size, rawInt 0, .none, .none] }) (s.heap.objs.size + 1) s.heap.objs.size 0 .none := by
    have := Heap.get?_push_size (s.heap.push o) (o := { cls := .type "enumerate", data := .fields #[.none, .bool false, .ref s.heap.objs.size, rawInt 0, .none, .none] }) rfl
    rw [hz] at this; exact this
  refine ⟨⟨_, he, rfl⟩, h _ he (Heap.get?_push_of_some _ (Heap.get?_push_size _ B.free)) (by rw [Heap.size_push, hz]) fun b o x => Heap.get?_push_of_some _ (Heap.get?_push_of_some _ x)⟩
theorem enum_beginsI {it : Addr} {H : Heap → Prop} {Q : Value → Shared → Prop} (B : ∀ (prog : Program) (w : World) (A : Around) (E : Value → Shared → Prop) (s : Shared) (Q : Value → Shared → Prop), H s.heap → Q (.ref it) s → wpAny (model prog w) A (pyIter (.ref it)) Q E s) (h1 : H s.heap)
    (h : ∀ h', IsEnum h' s.heap.objs.size it 0 .none → h'.objs.size = s.heap.objs.size + 1 → (∀ b o, s.heap.get? b = some o → h'.get? b = some o) → Q (.ref s.heap.objs.size) { s with heap := h' }) :
    wpAny (model prog w) A (call (.type "enumerate") [.ref it]) Q E s := by
  refine callType_new F.called_enumerate (by decide) (F.typeCall_enumerate_1 _) (F.newCall_enumerate_1 _) (fun obj => F.args_object_init_2 obj _) F.entry_enumerate_new
    (meets_enumerate_newI B) ⟨h1, ?_⟩
  show _ ∧ _
  have he : IsEnum (s.heap.push { cls := .type "enumerate", data := .fields #[.none, .bool false, .ref it, rawInt 0, .none, .none] }) s.heap.objs.size it 0 .none := Heap.get?_push_size _ rfl
  exact ⟨⟨_, he, rfl⟩, h _ he (by rw [Heap.size_push]) fun b o x => Heap.get?_push_of_some _ x⟩
end

/-- the sequence at a, each item in a new pair -/
def IteS (K : PySem.W.Frag) (k : Bool) (a : Addr) : L2.It :=
  ⟨fun i H => ∃ (xs : List V) (x : V), SqK K H k a xs ∧ xs[i]? = some x, fun i H v H' => ∃ T x, v = .ref T ∧ H T = none ∧ H' = upd H T (.tup [.int (i : Nat), x]) ∧ ∀ xs, SqK K H k a xs → xs[i]? = some x, fun i H => ∃ xs : List V, SqK K H k a xs ∧ xs.length = i⟩
theorem turn_enumS {P : Program} {w : World} {K : PySem.W.Frag} {elts : List Expr} {kk : Nat} {tpos : Pos} (k : Bool) (a e it : Addr) (n1 : e ≠ it) (n2 : a ≠ it) (n3 : e ≠ a) :
    Turn P w K (.Tuple elts kk tpos) (IteS K k a) [e, it] e (fun i h => (∃ old, IsEnum h e it ((i : Nat) : Int) old) ∧ SqIt h k it a i) where
  mem := by simp
  obj := fun i h st b hb => by
    obtain ⟨⟨old, he⟩, hi⟩ := st
    have e' : b = e ∨ b = it := by simpa using hb
    rcases e' with z | z
    · rw [z]; exact ⟨_, he, fun v q => nomatch q⟩
    · rw [z]; exact hi.obj
  keep := fun i h h' st k => let ⟨⟨old, he⟩, hi⟩ := st; ⟨⟨old, k e (by simp) _ he⟩, hi.at fun o q => k it (by simp) o q⟩
  item := by
    intro X hP hw hK hc i pins s σ H E I hf st hg
    subst hP hw hK
    obtain ⟨⟨old, he⟩, hit⟩ := st
    obtain ⟨xs, x, hq, hx⟩ := hg
    obtain ⟨its, rv, p⟩ := inv_sq I hq
    obtain ⟨u, hu, ru⟩ := rv.get hx
    have hel : e < s.heap.objs.size := Heap.lt_size he
    have hil : it < s.heap.objs.size := by obtain ⟨_, q, _⟩ := hit.obj; exact Heap.lt_size q
    have hi : i < its.toArray.size := by
      have := (List.getElem?_eq_some_iff.mp hu).1
      simpa using this
    have D : Draws X.prog X.w X.A.in1 it [it, a] its.toArray.size (fun i v => its.toArray[i]? = some v) (fun i h => SqIt h k it a i ∧ SqAt h k a its.toArray) := sqDraws (show X.A.in1.handled = none from I.ok.hd hc) k it a n2 its.toArray
    refine wpAny_pyNext_enum_itemC D he ⟨hit, p⟩ hi n1 (by simp [n1, n3]) fun u' h' tk hP' ho st' hT hsz hk => ?_
    have hu' : u' = u := by rw [List.getElem?_toArray, hu] at hP'; exact (Option.some.inj hP').symm
    subst hu'
    refine ⟨_, rfl, wpAny_letOwnedTupleGo_enum (s := { s with heap := h', toks := tk + 1 }) ho fun h'' he' sb => ?_⟩
    have hT2 : h''.get? s.heap.objs.size = some { cls := .type "tuple", data := .seq #[.int i tk, u'] } := (sb.2 _ (Nat.ne_of_gt hel)).trans hT
    have new : ObjOk X.prog X.w (upd H s.heap.objs.size (.tup [.int (i : Nat), x])) h'' s.heap.objs.size (.tup [.int (i : Nat), x]) :=
      ⟨by show 2 ≤ sizeLine; decide, [.int i tk, u'], .cons ⟨_, rfl⟩ (.cons ru .nil), ⟨_, hT2, rfl, _, rfl⟩⟩
    have I1 : Inv X pins σ (upd H s.heap.objs.size (.tup [.int (i : Nat), x])) { s with heap := h'', toks := tk + 1 } :=
      I.turnedNew (ch := [e, it]) (fun b ob hb q => (sb.2 b (fun z => hb (by simp [z]))).trans (hk b ob (fun z => hb (by simp [z])) (fun z => hb (by simp [z])) q)) hf (Nat.le_refl _) new
    refine ⟨.ref s.heap.objs.size, _, I1, rfl, ⟨_, x, rfl, I.hok.fresh (Nat.le_refl _), rfl, fun ys hy => by rw [sq_inj I hy hq]; exact hx⟩, ⟨⟨u', ?_⟩, st'.1.at fun o q => (sb.2 it (Ne.symm n1)).trans q⟩, fun b hb => ?_⟩
    · have e1 : ((i + 1 : Nat) : Int) = (i : Int) + 1 := by omega
      rw [e1]; exact he'
    · have hb' : b < s.heap.objs.size := by
        have e' : b = e ∨ b = it := by simpa using hb
        rcases e' with z | z
        · rw [z]; exact hel
        · rw [z]; exact hil
      rw [upd_ne (Nat.ne_of_lt hb')]
      exact (hf b hb).1
  done := by
    intro X hP hw hK hc i pins s σ H E I hf st hg
    subst hP hw hK
    obtain ⟨⟨old, he⟩, hit⟩ := st
    obtain ⟨xs, hq, hx⟩ := hg
    obtain ⟨its, rv, p⟩ := inv_sq I hq
    have hl := rv.length
    have D : Draws X.prog X.w X.A.in1 it [it, a] its.toArray.size (fun i v => its.toArray[i]? = some v) (fun i h => SqIt h k it a i ∧ SqAt h k a its.toArray) := sqDraws (show X.A.in1.handled = none from I.ok.hd hc) k it a n2 its.toArray
    obtain ⟨f0, f1, f2, f3, f4, f5⟩ := hf it (by simp)
    refine wpAny_pyNext_enum_endD D he (?_ : SqIt s.heap k it a its.toArray.size ∧ SqAt s.heap k a its.toArray) fun h' eb => ⟨rfl, I.turned (t' := s.toks) (fun b o hb q => eb b o hb q) f0 f1 f3 f4 f5⟩
    have e1 : its.toArray.size = i := by simp; omega
    rw [e1]
    exact ⟨hit, p⟩
  self := fun A i s Q E st h => let ⟨⟨_, he⟩, _⟩ := st; wpAny_pyIter_enum he h
def iEnumS (K : PySem.W.Frag) (k : Bool) (ta : TA) : TI := fun σ H R => ta σ H fun vs H1 => ∃ a xs, vs = [.ref a] ∧ SqK K H1 k a xs ∧ R (IteS K k a) H1
theorem pi_enumS {X : Cx} {e : Expr} {ta : TA} {p pos tpos : Pos} {elts : List Expr} {kk : Nat} (k : Bool) (hg : Gl X "enumerate") (hm : X.mg "enumerate" = none) (ha : PA X [e] ta) (hs : starEach [e] X.env = [(false, eval e X.env)]) :
    PI X (.Tuple elts kk tpos) (.Call (.Name "enumerate" p) [e] [] pos) (iEnumS X.K k ta) := by
  refine ⟨fun pins s σ H R I h => ?_⟩
  refine Call_ (ld_blt I hg hm boot_enumerate (PyProof.Rows.callWith_type1 (thn (ha.run pos pins s σ H _ I h) fun us s1 ⟨vs, H1, I1, r1, q1⟩ => ?_) hs rfl))
  obtain ⟨a, xs, ex, hq, q⟩ := q1
  subst ex
  cases r1 with
  | cons r rr =>
    cases rr
    cases r
    obtain ⟨its, rv, p'⟩ := inv_sq I1 hq
    have hal := p'.lt
    refine enum_begins1 (sqBegins k a its.toArray) p' fun h' he ho hsz hk => wpAny_pyIter_enum he ?_
    have I2 : Inv X pins σ H1 { s1 with heap := h' } := I1.kept (t' := s1.toks) hk
    refine ⟨s1.heap.objs.size + 1, [s1.heap.objs.size + 1, s1.heap.objs.size], _, _, H1, rfl, I2, turn_enumS k a (s1.heap.objs.size + 1) s1.heap.objs.size (Nat.succ_ne_self _) (Nat.ne_of_lt hal) (Nat.ne_of_gt (Nat.lt_succ_of_lt hal)), ⟨⟨.none, he⟩, sqO_it ho⟩, fun b hb => ?_, q⟩
    have e' : b = s1.heap.objs.size + 1 ∨ b = s1.heap.objs.size := by simpa using hb
    have hle : s1.heap.objs.size ≤ b := by
      rcases e' with z | z
      · rw [z]; exact Nat.le_add_right _ _
      · rw [z]; exact Nat.le_refl _
    exact I1.fpOk hle (I1.hok.fresh hle)

def ItzS (K : PySem.W.Frag) (k1 k2 : Bool) (a b : Addr) : L2.It :=
  ⟨fun i H => ∃ (xs ys : List V) (x y : V), SqK K H k1 a xs ∧ SqK K H k2 b ys ∧ xs[i]? = some x ∧ ys[i]? = some y,
    fun i H v H' => ∃ T x y, v = .ref T ∧ H T = none ∧ H' = upd H T (.tup [x, y]) ∧ (∀ xs, SqK K H k1 a xs → xs[i]? = some x) ∧ ∀ ys, SqK K H k2 b ys → ys[i]? = some y,
    fun i H => ∃ xs ys : List V, SqK K H k1 a xs ∧ SqK K H k2 b ys ∧ i = min xs.length ys.length⟩
theorem turn_zipS {P : Program} {w : World} {K : PySem.W.Frag} {elts : List Expr} {kk : Nat} {tpos : Pos} {k1 k2 : Bool} {a b z TI TO i1 i2 : Addr} (S : ZipSep2 z TI TO i1 i2 [i1, a] [i2, b]) (n1 : a ≠ i1) (n2 : b ≠ i2) :
    Turn P w K (.Tuple elts kk tpos) (ItzS K k1 k2 a b) [z, TI, TO, i1, i2] z (fun i h => IsZip h z TI TO .none ∧ IsTupOf2 h TI (.ref i1) (.ref i2) ∧ (∃ x y, IsTupOf2 h TO x y) ∧ SqIt h k1 i1 a i ∧ SqIt h k2 i2 b i) where
  mem := by simp
  obj := fun i h st c hc => by
    obtain ⟨hz, hTI, ⟨x, y, hTO⟩, h1, h2⟩ := st
    have e' : c = z ∨ c = TI ∨ c = TO ∨ c = i1 ∨ c = i2 := by simpa using hc
    rcases e' with q | q | q | q | q
    · rw [q]; exact ⟨_, hz, fun v q => nomatch q⟩
    · rw [q]; exact ⟨_, hTI, fun v q => nomatch q⟩
    · rw [q]; exact ⟨_, hTO, fun v q => nomatch q⟩
    · rw [q]; exact h1.obj
    · rw [q]; exact h2.obj
  keep := fun i h h' st k => by
    obtain ⟨hz, hTI, ⟨x, y, hTO⟩, h1, h2⟩ := st
    exact ⟨k z (by simp) _ hz, k TI (by simp) _ hTI, ⟨x, y, k TO (by simp) _ hTO⟩, h1.at fun o q => k i1 (by simp) o q, h2.at fun o q => k i2 (by simp) o q⟩
  item := by
    intro X hP hw hK hc i pins s σ H E I hf st hg
    subst hP hw hK
    obtain ⟨hz, hTI, ⟨x0, y0, hTO⟩, h1, h2⟩ := st
    obtain ⟨xs, ys, x, y, hqx, hqy, hx, hy⟩ := hg
    obtain ⟨its, rv, p⟩ := inv_sq I hqx
    obtain ⟨its2, rv2, p2⟩ := inv_sq I hqy
    obtain ⟨u, hu, ru⟩ := rv.get hx
    obtain ⟨u2, hu2, ru2⟩ := rv2.get hy
    have hi : i < its.toArray.size := by simpa using (List.getElem?_eq_some_iff.mp hu).1
    have hi2 : i < its2.toArray.size := by simpa using (List.getElem?_eq_some_iff.mp hu2).1
    have hzl : z < s.heap.objs.size := Heap.lt_size hz
    have D1 : Draws X.prog X.w X.A.in1 i1 [i1, a] its.toArray.size (fun i v => its.toArray[i]? = some v) (fun i h => SqIt h k1 i1 a i ∧ SqAt h k1 a its.toArray) := sqDraws (show X.A.in1.handled = none from I.ok.hd hc) k1 i1 a n1 its.toArray
    have D2 : Draws X.prog X.w X.A.in1 i2 [i2, b] its2.toArray.size (fun i v => its2.toArray[i]? = some v) (fun i h => SqIt h k2 i2 b i ∧ SqAt h k2 b its2.toArray) := sqDraws (show X.A.in1.handled = none from I.ok.hd hc) k2 i2 b n2 its2.toArray
    refine wpAny_pyNext_zipD2_item S D1 D2 hz hTI hTO ⟨h1, p⟩ ⟨h2, p2⟩ hi hi2 fun u' u2' h' tk hP1 hP2 z' TO' st1' st2' hT hsz hk => ?_
    have hu' : u' = u := by rw [List.getElem?_toArray, hu] at hP1; exact (Option.some.inj hP1).symm
    have hu2' : u2' = u2 := by rw [List.getElem?_toArray, hu2] at hP2; exact (Option.some.inj hP2).symm
    subst hu' hu2'
    refine ⟨_, rfl, wpAny_letOwnedTupleGo_zip (s := { s with heap := h', toks := tk }) z' fun h'' z'' sb => ?_⟩
    have hT2 : h''.get? s.heap.objs.size = some { cls := .type "tuple", data := .seq #[u', u2'] } := (sb.2 _ (Nat.ne_of_gt hzl)).trans hT
    have new : ObjOk X.prog X.w (upd H s.heap.objs.size (.tup [x, y])) h'' s.heap.objs.size (.tup [x, y]) :=
      ⟨by show 2 ≤ sizeLine; decide, [u', u2'], .cons ru (.cons ru2 .nil), ⟨_, hT2, rfl, _, rfl⟩⟩
    have I1 : Inv X pins σ (upd H s.heap.objs.size (.tup [x, y])) { s with heap := h'', toks := tk } :=
      I.turnedNew (t' := tk) (ch := [z, TI, TO, i1, i2]) (fun c o hb q => (sb.2 c (fun q' => hb (by simp [q']))).trans (hk c o (fun q' => hb (by simp [q'])) (fun q' => hb (by simp [q'])) (fun q' => hb (by simp [q'])) (fun q' => hb (by simp [q'])) q)) hf (Nat.le_refl _) new
    refine ⟨.ref s.heap.objs.size, _, I1, rfl, ⟨_, x, y, rfl, I.hok.fresh (Nat.le_refl _), rfl, fun l hl => by rw [sq_inj I hl hqx]; exact hx, fun l hl => by rw [sq_inj I hl hqy]; exact hy⟩, ⟨z'', ?_, ⟨u', u2', ?_⟩, ?_, ?_⟩, fun c hcm => ?_⟩
    · exact (sb.2 _ S.TIz).trans (hk _ _ S.TIz S.TITO S.TIi1 S.TIi2 hTI)
    · exact (sb.2 _ S.TOz).trans TO'
    · exact st1'.1.at fun o q => (sb.2 _ S.zi1.symm).trans q
    · exact st2'.1.at fun o q => (sb.2 _ S.zi2.symm).trans q
    · have hlt : c < s.heap.objs.size := by
        have e' : c = z ∨ c = TI ∨ c = TO ∨ c = i1 ∨ c = i2 := by simpa using hcm
        rcases e' with q | q | q | q | q
        · rw [q]; exact hzl
        · rw [q]; exact Heap.lt_size hTI
        · rw [q]; exact Heap.lt_size hTO
        · rw [q]; obtain ⟨_, e1, _⟩ := h1.obj; exact Heap.lt_size e1
        · rw [q]; obtain ⟨_, e2, _⟩ := h2.obj; exact Heap.lt_size e2
      rw [upd_ne (Nat.ne_of_lt hlt)]
      exact (hf c hcm).1
  done := by
    intro X hP hw hK hc i pins s σ H E I hf st hg
    subst hP hw hK
    obtain ⟨hz, hTI, ⟨x0, y0, hTO⟩, h1, h2⟩ := st
    obtain ⟨xs, ys, hqx, hqy, hend⟩ := hg
    obtain ⟨its, rv, p⟩ := inv_sq I hqx
    obtain ⟨its2, rv2, p2⟩ := inv_sq I hqy
    have l1 := rv.length
    have l2 := rv2.length
    have D1 : Draws X.prog X.w X.A.in1 i1 [i1, a] its.toArray.size (fun i v => its.toArray[i]? = some v) (fun i h => SqIt h k1 i1 a i ∧ SqAt h k1 a its.toArray) := sqDraws (show X.A.in1.handled = none from I.ok.hd hc) k1 i1 a n1 its.toArray
    have D2 : Draws X.prog X.w X.A.in1 i2 [i2, b] its2.toArray.size (fun i v => its2.toArray[i]? = some v) (fun i h => SqIt h k2 i2 b i ∧ SqAt h k2 b its2.toArray) := sqDraws (show X.A.in1.handled = none from I.ok.hd hc) k2 i2 b n2 its2.toArray
    exact wpAny_pyNext_zipD2_end S D1 D2 hz hTI hTO ⟨h1, p⟩ ⟨h2, p2⟩ (by simp; omega) (by simp; omega) (by simp; omega) fun h' tk hk => ⟨rfl, I.turnedL (t' := tk) (ch := [z, TI, TO, i1, i2]) (fun c o hb q =>
      hk c o (fun q' => hb (by simp [q'])) (fun q' => hb (by simp [q'])) (fun q' => hb (by simp [q'])) (fun q' => hb (by simp [q'])) q) hf⟩
  self := fun A i s Q E st h => wpAny_pyIter_zip st.1 h
theorem zip_sep {N a b : Nat} (ha : a < N) (hb : b < N) : ZipSep2 (N + 4) (N + 2) (N + 3) N (N + 1) [N, a] [N + 1, b] := by
  have mem : ∀ {x y z : Nat}, x ≠ y → x ≠ z → x ∉ [y, z] := fun h1 h2 => by simp [h1, h2]
  constructor
  · exact (show (N + 2 : Nat) ≠ N + 4 by omega)
  · exact (show (N + 3 : Nat) ≠ N + 4 by omega)
  · exact (show (N + 2 : Nat) ≠ N + 3 by omega)
  · exact (show (N + 2 : Nat) ≠ N by omega)
  · exact List.mem_cons_self ..
  · exact mem (by omega) (by omega)
  · exact mem (by omega) (by omega)
  · exact (show (N + 2 : Nat) ≠ N + 1 by omega)
  · exact List.mem_cons_self ..
  · exact mem (by omega) (by omega)
  · exact mem (by omega) (by omega)
  · exact mem (by omega) (by omega)
  · exact mem (by omega) (by omega)
def iZipS (K : PySem.W.Frag) (k1 k2 : Bool) (ta : TA) : TI := fun σ H R => ta σ H fun vs H1 => ∃ a b xs ys, vs = [.ref a, .ref b] ∧ SqK K H1 k1 a xs ∧ SqK K H1 k2 b ys ∧ R (ItzS K k1 k2 a b) H1
theorem pi_zipS {X : Cx} {e e2 : Expr} {ta : TA} {p pos tpos : Pos} {elts : List Expr} {kk : Nat} (k1 k2 : Bool) (hg : Gl X "zip") (hm : X.mg "zip" = none) (ha : PA X [e, e2] ta)
    (hs : starEach [e, e2] X.env = (false, eval e X.env) :: starEach [e2] X.env) (hpl : (backTo pos (starEach [e2] X.env)).any (·.1) = false) :
    PI X (.Tuple elts kk tpos) (.Call (.Name "zip" p) [e, e2] [] pos) (iZipS X.K k1 k2 ta) := by
  refine ⟨fun pins s σ H R I h => ?_⟩
  refine Call_ (ld_blt I hg hm PyProof.Rows.boot_zip (PyProof.Rows.callWith_type1 (thn (ha.run pos pins s σ H _ I h) fun us s1 ⟨vs, H1, I1, r1, q1⟩ => ?_) hs hpl))
  obtain ⟨a, b, xs, ys, ex, hqx, hqy, q⟩ := q1
  subst ex
  cases r1 with
  | cons r rr =>
    cases rr with
    | cons r' rr =>
      cases rr
      cases r
      cases r'
      obtain ⟨its, rv, p1⟩ := inv_sq I1 hqx
      obtain ⟨its2, rv2, p2⟩ := inv_sq I1 hqy
      refine zip_begins2 (sqBegins k1 a its.toArray) (sqBegins k2 b its2.toArray) p1 p2 fun h' hz hTI hTO h1 h2 hsz hk => wpAny_pyIter_zip hz ?_
      have I2 : Inv X pins σ H1 { s1 with heap := h' } := I1.kept (t' := s1.toks) hk
      refine ⟨s1.heap.objs.size + 4, [s1.heap.objs.size + 4, s1.heap.objs.size + 2, s1.heap.objs.size + 3, s1.heap.objs.size, s1.heap.objs.size + 1], _, _, H1, rfl, I2, turn_zipS (zip_sep p1.lt p2.lt) (Nat.ne_of_lt p1.lt) (Nat.ne_of_lt (Nat.lt_succ_of_lt p2.lt)), ⟨hz, hTI, ⟨_, _, hTO⟩, sqO_it h1, sqO_it h2⟩, fun c hcm => ?_, q⟩
      have e' : c = s1.heap.objs.size + 4 ∨ c = s1.heap.objs.size + 2 ∨ c = s1.heap.objs.size + 3 ∨ c = s1.heap.objs.size ∨ c = s1.heap.objs.size + 1 := by simpa using hcm
      have hle : s1.heap.objs.size ≤ c := by
        rcases e' with z | z | z | z | z
        · rw [z]; exact Nat.le_add_right _ _
        · rw [z]; exact Nat.le_add_right _ _
        · rw [z]; exact Nat.le_add_right _ _
        · rw [z]; exact Nat.le_refl _
        · rw [z]; exact Nat.le_add_right _ _
      exact I1.fpOk hle (I1.hok.fresh hle)
end MP
set_option linter.all false
set_option Elab.async false
set_option maxRecDepth 100000
set_option maxHeartbeats 2000000
namespace MP
open PySem PySem.Spec PyProof.Rows L2
open Sem (wp)

/-- a zip whose pair may be out still -/
abbrev IsZipF (h : Heap) (z TI TO : Addr) (v : Value) (f : Bool) : Prop :=
  h.get? z = some { cls := .type "zip", dict := none, data := .fields #[v, .bool f, .bool false, .ref TI, .ref TO], slots := #[] }
section
variable {prog : Program} {w : World} {A : Around} {E : Value → Shared → Prop} {s : Shared}
theorem free_or {z TI TO : Addr} {v : Value} {f : Bool} {Q : Bool → Shared → Prop} (hz : IsZipF s.heap z TI TO v f) (hv : v = .none ∨ ∃ T : Addr, v = rawInt T) (h1 : Q true s)
    (h2 : ∀ h', IsZipF h' z TI TO v true → Heap.SameBut z s.heap h' → Q false { s with heap := h' }) : wpAny (model prog w) A (Builtin.SmallTypes.ownedTupleIsFree (.ref z)) Q E s := by
  rcases hv with rfl | ⟨T, rfl⟩
  · unfold Builtin.SmallTypes.ownedTupleIsFree
    exact wpAny_bind (wpAny_field hz rfl (x := .none) rfl (wpAny_pure h1))
  · cases hT : s.heap.get? T with
    | some oT => exact wpAny_tupleHeld_zip hz hT h2
    | none =>
      unfold Builtin.SmallTypes.ownedTupleIsFree
      refine wpAny_bind (wpAny_field hz rfl (x := rawInt T) rfl ?_)
      show wpAny _ _ (loadIfAlive ((T : Int).toNat) >>= _) _ _ _
      rw [Int.toNat_natCast]
      have alive : ∀ {Q : Option Obj → Shared → Prop}, Q none s → wpAny (model prog w) A (loadIfAlive T) Q E s := fun {Q} h => by
        have h' : Q (s.heap.get? T) s := by rw [hT]; exact h
        exact fun _ _ _ => h'
      refine wpAny_bind (alive ?_)
      simp only [Option.isNone_none, if_true]
      exact wpAny_pure h1
variable {z TI TO i1 i2 : Addr} {fp1 fp2 : List Addr} {n1 n2 i : Nat} {P1 P2 : Nat → Value → Prop} {St1 St2 : Nat → Heap → Prop} {a1 a2 : Value} {v : Value} {f : Bool}
/-- what a zip's turn leaves -/
structure ZipTurn (z TI TO i1 i2 : Addr) (P1 P2 : Nat → Value → Prop) (St1 St2 : Nat → Heap → Prop) (i : Nat) (hp : Heap) (x : Value) (h' : Heap) : Prop where
  out : ∃ (T : Addr) (x1 x2 : Value), x = .ref T ∧ P1 i x1 ∧ P2 i x2 ∧ IsTupOf2 h' T x1 x2 ∧ hp.objs.size ≤ T ∧ T < h'.objs.size
  zip : ∃ v f, (v = .none ∨ ∃ T : Addr, v = rawInt T) ∧ IsZipF h' z TI TO v f
  tO : ∃ b1 b2, IsTupOf2 h' TO b1 b2
  s1 : St1 (i + 1) h'
  s2 : St2 (i + 1) h'
  keep : ∀ c o, c ≠ z → c ≠ TO → c ≠ i1 → c ≠ i2 → hp.get? c = some o → h'.get? c = some o
theorem zipG_next_item {Q : Value → Shared → Prop} (S : ZipSep2 z TI TO i1 i2 fp1 fp2) (D1 : Draws prog w A i1 fp1 n1 P1 St1) (D2 : Draws prog w A i2 fp2 n2 P2 St2)
    (hz : IsZipF s.heap z TI TO v f) (hv : v = .none ∨ ∃ T : Addr, v = rawInt T) (hTI : IsTupOf2 s.heap TI (.ref i1) (.ref i2)) (hTO : IsTupOf2 s.heap TO a1 a2) (st1 : St1 i s.heap) (st2 : St2 i s.heap) (hlt1 : i < n1) (hlt2 : i < n2)
    (hQ : ∀ x h' tk, ZipTurn z TI TO i1 i2 P1 P2 St1 St2 i s.heap x h' → Q x { s with heap := h', toks := tk }) :
    wpAny (model prog w) A (Builtin.«zip.__next__» ⟨[.ref z], []⟩) (fun fin s' => ∃ v, fin = .done (.ret v) ∧ Q v s') E s := by
  obtain ⟨hp, g, d, tk0, os⟩ := s
  show wpAny _ _ (field (.ref z) 2 >>= _) _ _ _
  refine wpAny_bind (wpAny_field hz rfl (x := .bool false) rfl ?_)
  show wpAny _ _ (field (.ref z) 3 >>= _) _ _ _
  refine wpAny_bind (wpAny_field hz rfl (x := .ref TI) rfl ?_)
  refine wpAny_bind (wpAny_seqItems hTI rfl ?_)
  show wpAny _ _ (Builtin.SmallTypes.ownedTupleIsFree (.ref z) >>= _) _ _ _
  refine wpAny_bind (free_or hz hv ?_ ?_)
  · simp only [if_true]
    refine wpAny_bind (wpAny_rule ?_)
    refine wpAny_bind (wpAny_field hz rfl (x := .ref TO) rfl ?_)
    refine wpAny_bind (wpAny_setField_rec hz (by simp) fun g0 hz0 hs0 => ?_)
    replace hz0 : IsZipF g0 z TI TO .ellipsis f := hz0
    replace hs0 : Heap.SameBut z hp g0 := hs0
    refine wpAny_bind ?_
    simp only [List.zipIdx_cons, List.zipIdx_nil, List.forIn_cons, List.forIn_nil]
    refine wpAny_bind (wpAny_bind (wpAny_onRaise ?_))
    show wpAny _ _ (Builtin.SmallTypes.nextOf (.ref i1) >>= _) _ _ ⟨g0, g, d, tk0, os⟩
    refine wpAny_bind (D1.item i _ _ _ hlt1 (D1.over st1 hs0 S.zf1) fun x1 p1 tk1 hx1 sn1 hp1 => wpAny_pure ?_)
    replace hp1 : Heap.SameBut i1 g0 p1 := hp1
    have hU1 : IsTupOf2 p1 TO a1 a2 := hp1.extBut _ _ S.Ti1 (hs0.extBut _ _ S.TOz hTO)
    refine wpAny_bind (wpAny_seqItems (s := ⟨p1, g, d, tk1, os⟩) hU1 rfl ?_)
    refine wpAny_bind (updateSeq_IsTupOf2 (s := ⟨p1, g, d, tk1, os⟩) hU1 fun g1 hT1 hs1 => ?_)
    replace hT1 : IsTupOf2 g1 TO x1 a2 := hT1
    replace hs1 : Heap.SameBut TO p1 g1 := hs1
    refine wpAny_bind (wpAny_letGo (wpAny_pure ?_))
    refine wpAny_bind (wpAny_bind (wpAny_onRaise ?_))
    show wpAny _ _ (Builtin.SmallTypes.nextOf (.ref i2) >>= _) _ _ ⟨g1, g, d, tk1, os⟩
    refine wpAny_bind (D2.item i _ _ _ hlt2 (D2.over (D2.over (D2.over st2 hs0 S.zf2) hp1 S.sep1_2) hs1 S.Tf2) fun x2 p2 tk2 hx2 sn2 hp2 => wpAny_pure ?_)
    replace hp2 : Heap.SameBut i2 g1 p2 := hp2
    have hU2 : IsTupOf2 p2 TO x1 a2 := hp2.extBut _ _ S.Ti2 hT1
    refine wpAny_bind (wpAny_seqItems (s := ⟨p2, g, d, tk2, os⟩) hU2 rfl ?_)
    refine wpAny_bind (updateSeq_IsTupOf2 (s := ⟨p2, g, d, tk2, os⟩) hU2 fun g2 hT2 hs2 => ?_)
    replace hT2 : IsTupOf2 g2 TO x1 x2 := hT2
    replace hs2 : Heap.SameBut TO p2 g2 := hs2
    refine wpAny_bind (wpAny_letGo (wpAny_pure (wpAny_pure ?_)))
    refine wpAny_bind (wpAny_seqItems (s := ⟨g2, g, d, tk2, os⟩) hT2 rfl ?_)
    refine wpAny_bind (wpAny_newTuple ?_)
    have hsz : g2.objs.size = hp.objs.size := by rw [hs2.1, hp2.1, hs1.1, hp1.1, hs0.1]
    have hzz : IsZipF g2 z TI TO .ellipsis f := (hs2.extBut _ _ S.TOz.symm (hp2.extBut _ _ S.zi2 (hs1.extBut _ _ S.TOz.symm (hp1.extBut _ _ S.zi1 hz0))))
    have hkk : ∀ c o, c ≠ z → c ≠ TO → c ≠ i1 → c ≠ i2 → hp.get? c = some o → g2.get? c = some o := fun c o cz cT c1 c2 e =>
      (hs2.extBut _ _ cT (hp2.extBut _ _ c2 (hs1.extBut _ _ cT (hp1.extBut _ _ c1 (hs0.extBut _ _ cz e)))))
    have hj1 : St1 (i + 1) g2 := (D1.over (D1.over (D1.over sn1 hs1 S.Tf1) hp2 S.sep2_1) hs2 S.Tf1)
    have hj2 : St2 (i + 1) g2 := (D2.over sn2 hs2 S.Tf2)
    have hzlt : z < g2.objs.size := Heap.lt_size hzz
    show wpAny _ _ (Builtin.SmallTypes.ownedTupleHandOut (.ref z) (.ref g2.objs.size) >>= _) _ _ ⟨g2.push { cls := .type "tuple", data := .seq #[x1, x2] }, g, d, tk2, os⟩
    refine wpAny_bind ?_
    unfold Builtin.SmallTypes.ownedTupleHandOut
    have hz₆ : IsZipF (g2.push { cls := .type "tuple", data := .seq #[x1, x2] }) z TI TO .ellipsis f := Heap.get?_push_of_some _ hzz
    refine wpAny_bind (wpAny_setField_rec hz₆ (by simp) fun h₇ hz₇ hs₇ => ?_)
    replace hz₇ : IsZipF h₇ z TI TO (rawInt g2.objs.size) f := hz₇
    refine wpAny_setField_rec hz₇ (by simp) fun h₈ hz₈ hs₈ => ?_
    replace hz₈ : IsZipF h₈ z TI TO (rawInt g2.objs.size) false := hz₈
    replace hs₇ : Heap.SameBut z (g2.push { cls := .type "tuple", data := .seq #[x1, x2] }) h₇ := hs₇
    replace hs₈ : Heap.SameBut z h₇ h₈ := hs₈
    have up : ∀ c o, c ≠ z → g2.get? c = some o → h₈.get? c = some o := fun c o c1 e => hs₈.extBut _ _ c1 (hs₇.extBut _ _ c1 (Heap.get?_push_of_some _ e))
    have hT₈ : IsTupOf2 h₈ g2.objs.size x1 x2 := hs₈.extBut _ _ (Nat.ne_of_gt hzlt) (hs₇.extBut _ _ (Nat.ne_of_gt hzlt) (Heap.get?_push_size _ rfl))
    have hz8 : h₈.objs.size = g2.objs.size + 1 := by rw [hs₈.1, hs₇.1, Heap.size_push]
    refine wpAny_pure ⟨_, rfl, ?_⟩
    show Q (.ref g2.objs.size) ⟨h₈, g, d, tk2, os⟩
    exact hQ _ h₈ tk2 ⟨⟨_, x1, x2, rfl, hx1, hx2, hT₈, Nat.le_of_eq hsz.symm, by rw [hz8]; exact Nat.lt_succ_self _⟩, ⟨_, _, .inr ⟨_, rfl⟩, hz₈⟩, ⟨_, _, up _ _ S.TOz hT2⟩,
      D1.frame _ _ _ hj1 fun b hb o e => up b o (fun q => S.zf1 (q ▸ hb)) e, D2.frame _ _ _ hj2 fun b hb o e => up b o (fun q => S.zf2 (q ▸ hb)) e, fun c o cz cT c1 c2 e => up c o cz (hkk c o cz cT c1 c2 e)⟩
  · intro g0 hz0 hs0
    replace hs0 : Heap.SameBut z hp g0 := hs0
    simp only [Bool.false_eq_true, if_false]
    refine wpAny_bind ?_
    rw [← Array.forIn_toList]
    simp only [List.forIn_cons, List.forIn_nil]
    refine wpAny_bind (wpAny_bind (wpAny_holding ?_))
    show wpAny _ _ (Builtin.SmallTypes.nextOf (.ref i1) >>= _) _ _ ⟨g0, g, d, tk0, os⟩
    refine wpAny_bind (D1.item i _ _ _ hlt1 (D1.over st1 hs0 S.zf1) fun x1 p1 tk1 hx1 sn1 hp1 => wpAny_pure ?_)
    replace hp1 : Heap.SameBut i1 g0 p1 := hp1
    refine wpAny_pure ?_
    refine wpAny_bind (wpAny_bind (wpAny_holding ?_))
    show wpAny _ _ (Builtin.SmallTypes.nextOf (.ref i2) >>= _) _ _ ⟨p1, g, d, tk1, os⟩
    refine wpAny_bind (D2.item i _ _ _ hlt2 (D2.over (D2.over st2 hs0 S.zf2) hp1 S.sep1_2) fun x2 p2 tk2 hx2 sn2 hp2 => wpAny_pure ?_)
    replace hp2 : Heap.SameBut i2 p1 p2 := hp2
    refine wpAny_pure (wpAny_pure ?_)
    show wpAny _ _ (newTuple [x1, x2] >>= _) _ _ _
    refine wpAny_bind (wpAny_newTuple ?_)
    have hsz : p2.objs.size = hp.objs.size := by rw [hp2.1, hp1.1, hs0.1]
    refine wpAny_pure ⟨_, rfl, ?_⟩
    show Q (.ref p2.objs.size) ⟨p2.push { cls := .type "tuple", data := .seq #[x1, x2] }, g, d, tk2, os⟩
    have up : ∀ c o, p2.get? c = some o → (p2.push { cls := .type "tuple", data := .seq #[x1, x2] }).get? c = some o := fun c o e => Heap.get?_push_of_some _ e
    have hzz : IsZipF p2 z TI TO v true := hp2.extBut _ _ S.zi2 (hp1.extBut _ _ S.zi1 hz0)
    have hkk : ∀ c o, c ≠ z → c ≠ TO → c ≠ i1 → c ≠ i2 → hp.get? c = some o → p2.get? c = some o := fun c o cz cT c1 c2 e => hp2.extBut _ _ c2 (hp1.extBut _ _ c1 (hs0.extBut _ _ cz e))
    exact hQ _ _ tk2 ⟨⟨_, x1, x2, rfl, hx1, hx2, Heap.get?_push_size _ rfl, Nat.le_of_eq hsz.symm, by rw [Heap.size_push]; exact Nat.lt_succ_self _⟩, ⟨_, _, hv, up _ _ hzz⟩, ⟨_, _, up _ _ (hp2.extBut _ _ S.Ti2 (hp1.extBut _ _ S.Ti1 (hs0.extBut _ _ S.TOz hTO)))⟩,
      D1.frame _ _ _ (D1.over sn1 hp2 S.sep2_1) fun b hb o e => up b o e, D2.frame _ _ _ sn2 fun b hb o e => up b o e, fun c o cz cT c1 c2 e => up c o (hkk c o cz cT c1 c2 e)⟩
theorem zipG_next_end {Q : PySem.Fin → Shared → Prop} (S : ZipSep2 z TI TO i1 i2 fp1 fp2) (D1 : Draws prog w A i1 fp1 n1 P1 St1) (D2 : Draws prog w A i2 fp2 n2 P2 St2)
    (hz : IsZipF s.heap z TI TO v f) (hv : v = .none ∨ ∃ T : Addr, v = rawInt T) (hTI : IsTupOf2 s.heap TI (.ref i1) (.ref i2)) (hTO : IsTupOf2 s.heap TO a1 a2) (st1 : St1 i s.heap) (st2 : St2 i s.heap) (hle1 : i ≤ n1) (hle2 : i ≤ n2) (hend : i = n1 ∨ i = n2)
    (hE : ∀ h' tk e, (∀ c o, c ≠ z → c ≠ TO → c ≠ i1 → c ≠ i2 → s.heap.get? c = some o → h'.get? c = some o) → (∃ o, h'.get? e = some o ∧ o.cls = .type "StopIteration") → E (.ref e) { s with heap := h', toks := tk }) :
    wpAny (model prog w) A (Builtin.«zip.__next__» ⟨[.ref z], []⟩) Q E s := by
  obtain ⟨hp, g, d, tk0, os⟩ := s
  show wpAny _ _ (field (.ref z) 2 >>= _) _ _ _
  refine wpAny_bind (wpAny_field hz rfl (x := .bool false) rfl ?_)
  show wpAny _ _ (field (.ref z) 3 >>= _) _ _ _
  refine wpAny_bind (wpAny_field hz rfl (x := .ref TI) rfl ?_)
  refine wpAny_bind (wpAny_seqItems hTI rfl ?_)
  show wpAny _ _ (Builtin.SmallTypes.ownedTupleIsFree (.ref z) >>= _) _ _ _
  refine wpAny_bind (free_or hz hv ?_ ?_)
  · simp only [if_true]
    refine wpAny_bind (wpAny_rule ?_)
    refine wpAny_bind (wpAny_field hz rfl (x := .ref TO) rfl ?_)
    refine wpAny_bind (wpAny_setField_rec hz (by simp) fun g0 hz0 hs0 => ?_)
    replace hz0 : IsZipF g0 z TI TO .ellipsis f := hz0
    replace hs0 : Heap.SameBut z hp g0 := hs0
    refine wpAny_bind ?_
    simp only [List.zipIdx_cons, List.zipIdx_nil, List.forIn_cons, List.forIn_nil]
    refine wpAny_bind (wpAny_bind (wpAny_onRaise ?_))
    show wpAny _ _ (Builtin.SmallTypes.nextOf (.ref i1) >>= _) _ _ ⟨g0, g, d, tk0, os⟩
    by_cases hlt1 : i < n1
    · refine wpAny_bind (D1.item i _ _ _ hlt1 (D1.over st1 hs0 S.zf1) fun x1 p1 tk1 hx1 sn1 hp1 => wpAny_pure ?_)
      replace hp1 : Heap.SameBut i1 g0 p1 := hp1
      have hU1 : IsTupOf2 p1 TO a1 a2 := hp1.extBut _ _ S.Ti1 (hs0.extBut _ _ S.TOz hTO)
      refine wpAny_bind (wpAny_seqItems (s := ⟨p1, g, d, tk1, os⟩) hU1 rfl ?_)
      refine wpAny_bind (updateSeq_IsTupOf2 (s := ⟨p1, g, d, tk1, os⟩) hU1 fun g1 hT1 hs1 => ?_)
      replace hT1 : IsTupOf2 g1 TO x1 a2 := hT1
      replace hs1 : Heap.SameBut TO p1 g1 := hs1
      refine wpAny_bind (wpAny_letGo (wpAny_pure ?_))
      have hi2 : i = n2 := by omega
      refine wpAny_bind (wpAny_bind (wpAny_onRaise ?_))
      show wpAny _ _ (Builtin.SmallTypes.nextOf (.ref i2) >>= _) _ _ ⟨g1, g, d, tk1, os⟩
      refine wpAny_bind (D2.done ⟨g1, g, d, tk1, os⟩ _ _ (by rw [← hi2]; exact (D2.over (D2.over (D2.over st2 hs0 S.zf2) hp1 S.sep1_2) hs1 S.Tf2)) fun q e hq he => ?_)
      replace hq : Heap.ExtBut i2 g1 q := hq
      obtain ⟨oe, hoe, hce⟩ := he
      replace hoe : q.get? e = some oe := hoe
      have hzq : IsZipF q z TI TO .ellipsis f := hq _ _ S.zi2 (hs1.extBut _ _ S.TOz.symm (hp1.extBut _ _ S.zi1 hz0))
      have hez : e ≠ z := fun x => by subst x; rw [hzq] at hoe; cases hoe; simp at hce
      refine wpAny_setField_rec (s := ⟨q, g, d, tk1, os⟩) hzq (by simp) fun q' _ hq' => ?_
      replace hq' : Heap.SameBut z q q' := hq'
      exact hE q' tk1 e (fun c o cz cT c1 c2 x => hq'.extBut _ _ cz (hq _ _ c2 (hs1.extBut _ _ cT (hp1.extBut _ _ c1 (hs0.extBut _ _ cz x))))) ⟨oe, hq'.extBut _ _ hez hoe, hce⟩
    · have hi1 : i = n1 := by omega
      refine wpAny_bind (D1.done ⟨g0, g, d, tk0, os⟩ _ _ (by rw [← hi1]; exact (D1.over st1 hs0 S.zf1)) fun q e hq he => ?_)
      replace hq : Heap.ExtBut i1 g0 q := hq
      obtain ⟨oe, hoe, hce⟩ := he
      replace hoe : q.get? e = some oe := hoe
      have hzq : IsZipF q z TI TO .ellipsis f := hq _ _ S.zi1 hz0
      have hez : e ≠ z := fun x => by subst x; rw [hzq] at hoe; cases hoe; simp at hce
      refine wpAny_setField_rec (s := ⟨q, g, d, tk0, os⟩) hzq (by simp) fun q' _ hq' => ?_
      replace hq' : Heap.SameBut z q q' := hq'
      exact hE q' tk0 e (fun c o cz cT c1 c2 x => hq'.extBut _ _ cz (hq _ _ c1 (hs0.extBut _ _ cz x))) ⟨oe, hq'.extBut _ _ hez hoe, hce⟩
  · intro g0 hz0 hs0
    replace hs0 : Heap.SameBut z hp g0 := hs0
    simp only [Bool.false_eq_true, if_false]
    refine wpAny_bind ?_
    rw [← Array.forIn_toList]
    simp only [List.forIn_cons, List.forIn_nil]
    refine wpAny_bind (wpAny_bind (wpAny_holding ?_))
    show wpAny _ _ (Builtin.SmallTypes.nextOf (.ref i1) >>= _) _ _ ⟨g0, g, d, tk0, os⟩
    by_cases hlt1 : i < n1
    · refine wpAny_bind (D1.item i _ _ _ hlt1 (D1.over st1 hs0 S.zf1) fun x1 p1 tk1 hx1 sn1 hp1 => wpAny_pure ?_)
      replace hp1 : Heap.SameBut i1 g0 p1 := hp1
      refine wpAny_pure ?_
      have hi2 : i = n2 := by omega
      refine wpAny_bind (wpAny_bind (wpAny_holding ?_))
      show wpAny _ _ (Builtin.SmallTypes.nextOf (.ref i2) >>= _) _ _ ⟨p1, g, d, tk1, os⟩
      refine wpAny_bind (D2.done ⟨p1, g, d, tk1, os⟩ _ _ (by rw [← hi2]; exact (D2.over (D2.over st2 hs0 S.zf2) hp1 S.sep1_2)) fun q e hq he => ?_)
      replace hq : Heap.ExtBut i2 p1 q := hq
      exact hE q tk1 e (fun c o cz cT c1 c2 x => hq _ _ c2 (hp1.extBut _ _ c1 (hs0.extBut _ _ cz x))) he
    · have hi1 : i = n1 := by omega
      refine wpAny_bind (D1.done ⟨g0, g, d, tk0, os⟩ _ _ (by rw [← hi1]; exact (D1.over st1 hs0 S.zf1)) fun q e hq he => ?_)
      replace hq : Heap.ExtBut i1 g0 q := hq
      exact hE q tk0 e (fun c o cz cT c1 c2 x => hq _ _ c1 (hs0.extBut _ _ cz x)) he
end

section
variable {prog : Program} {w : World} {A : Around} {E : Value → Shared → Prop} {s : Shared}
/-- enumerate over any iterator: one turn -/
theorem enumG_next_item {e it : Addr} {c : Int} {P : Value → Heap → Prop} {wr : List Addr} {old : Value} {Q : Value → Shared → Prop}
    (hD : ∀ (Q : Value → Shared → Prop), (∀ x h₁ tk, P x h₁ → s.heap.objs.size ≤ h₁.objs.size → (∀ b o, b ∉ wr → s.heap.get? b = some o → h₁.get? b = some o) → Q x { s with heap := h₁, toks := tk }) → wpAny (model prog w) A (Builtin.SmallTypes.nextOf (.ref it)) Q E s)
    (he : IsEnum s.heap e it c old) (hew : e ∉ wr)
    (hQ : ∀ x h₁ tk₁ h' tk, P x h₁ → s.heap.objs.size ≤ h₁.objs.size → (∀ b o, b ∉ wr → s.heap.get? b = some o → h₁.get? b = some o) →
      IsEnumOut h' e it (c + 1) x h₁.objs.size → h'.get? h₁.objs.size = some { cls := .type "tuple", data := .seq #[.int c tk₁, x] } →
      (∀ b o, b ≠ e → h₁.get? b = some o → h'.get? b = some o) → Q (.ref h₁.objs.size) { s with heap := h', toks := tk }) :
    wpAny (model prog w) A (Builtin.«enumerate.__next__» ⟨[.ref e], []⟩) (fun fin s' => ∃ v, fin = .done (.ret v) ∧ Q v s') E s := by
  obtain ⟨hp, g, d, tk₀, os⟩ := s
  show wpAny _ _ (field (.ref e) 2 >>= _) _ _ _
  refine wpAny_bind (wpAny_field he rfl (x := .ref it) rfl ?_)
  refine wpAny_bind (hD _ fun x h₁ tk hPx hz1 hk1 => ?_)
  replace hk1 : ∀ b o, b ∉ wr → hp.get? b = some o → h₁.get? b = some o := hk1
  replace hz1 : hp.objs.size ≤ h₁.objs.size := hz1
  have he₁ : IsEnum h₁ e it c old := hk1 _ _ hew he
  show wpAny _ _ (field (.ref e) 3 >>= _) _ _ ⟨h₁, g, d, tk, os⟩
  refine wpAny_bind (wpAny_field he₁ rfl (x := rawInt c) rfl ?_)
  show wpAny _ _ (field (.ref e) 4 >>= _) _ _ ⟨h₁, g, d, tk, os⟩
  refine wpAny_bind (wpAny_field he₁ rfl (x := .none) rfl ?_)
  show wpAny _ _ (mkInt c >>= _) _ _ ⟨h₁, g, d, tk, os⟩
  refine wpAny_bind (wpAny_mkInt ?_)
  show wpAny _ _ (setField (.ref e) 3 (rawInt (c + 1)) >>= _) _ _ ⟨h₁, g, d, tk + 1, os⟩
  refine wpAny_bind (wpAny_setField_rec he₁ (by simp) fun h₂ he₂ hs₂ => ?_)
  replace hs₂ : Heap.SameBut e h₁ h₂ := hs₂
  replace he₂ : IsEnum h₂ e it (c + 1) old := he₂
  show wpAny _ _ (setField (.ref e) 4 .none >>= _) _ _ ⟨h₂, g, d, tk + 1, os⟩
  refine wpAny_bind (wpAny_setField_rec he₂ (by simp) fun h₃ he₃ hs₃ => ?_)
  replace hs₃ : Heap.SameBut e h₂ h₃ := hs₃
  replace he₃ : IsEnum h₃ e it (c + 1) old := he₃
  show wpAny _ _ (newTuple [.int c tk, x] >>= _) _ _ ⟨h₃, g, d, tk + 1, os⟩
  refine wpAny_bind (wpAny_newTuple ?_)
  have he₄ : IsEnum (h₃.push { cls := .type "tuple", data := .seq #[.int c tk, x] }) e it (c + 1) old := Heap.get?_push_of_some _ he₃
  generalize hh₄ : h₃.push { cls := .type "tuple", data := .seq #[.int c tk, x] } = h₄ at he₄
  have hsz : h₃.objs.size = h₁.objs.size := by rw [hs₃.1, hs₂.1]
  have hel : e < h₁.objs.size := Heap.lt_size he₁
  have ht₄ : h₄.get? h₁.objs.size = some { cls := .type "tuple", data := .seq #[.int c tk, x] } := by rw [← hh₄, ← hsz]; exact Heap.get?_push_size _ rfl
  have hk₄ : ∀ b o, b ≠ e → h₁.get? b = some o → h₄.get? b = some o := fun b o hbe hb => by
    rw [← hh₄]; exact Heap.get?_push_of_some _ (hs₃.extBut b o hbe (hs₂.extBut b o hbe hb))
  show wpAny _ _ (Builtin.SmallTypes.ownedTupleIsFree (.ref e) >>= _) _ _ ⟨h₄, g, d, tk + 1, os⟩
  rw [hsz]
  clear hh₄ he₃ hs₃ he₂ hs₂ hsz h₃ h₂
  refine wpAny_bind ?_
  · unfold Builtin.SmallTypes.ownedTupleIsFree
    refine wpAny_bind (wpAny_field he₄ rfl (x := .none) rfl (wpAny_pure ?_))
    simp only [if_true]
    refine wpAny_bind (wpAny_rule ?_)
    refine wpAny_bind (wpAny_field he₄ rfl (x := old) rfl ?_)
    refine wpAny_bind (wpAny_setField_rec he₄ (by simp) fun h₅ he₅ hs₅ => ?_)
    replace hs₅ : Heap.SameBut e h₄ h₅ := hs₅
    replace he₅ : IsEnum h₅ e it (c + 1) x := he₅
    show wpAny _ _ (Builtin.SmallTypes.ownedTupleHandOut (.ref e) (.ref h₁.objs.size) >>= _) _ _ ⟨h₅, g, d, tk + 1, os⟩
    refine wpAny_bind ?_
    · unfold Builtin.SmallTypes.ownedTupleHandOut
      refine wpAny_bind (wpAny_setField_rec he₅ (by simp) fun h₆ he₆ hs₆ => ?_)
      replace hs₆ : Heap.SameBut e h₅ h₆ := hs₆
      replace he₆ : IsEnumOut h₆ e it (c + 1) x h₁.objs.size := he₆
      refine wpAny_setField_rec he₆ (by simp) fun h₇ he₇ hs₇ => ?_
      replace hs₇ : Heap.SameBut e h₆ h₇ := hs₇
      replace he₇ : IsEnumOut h₇ e it (c + 1) x h₁.objs.size := he₇
      refine wpAny_bind (wpAny_letGo (wpAny_pure ⟨_, rfl, hQ x h₁ tk h₇ (tk + 1) hPx hz1 hk1 he₇ ?_ ?_⟩))
      · exact hs₇.extBut _ _ (Nat.ne_of_gt hel) (hs₆.extBut _ _ (Nat.ne_of_gt hel) (hs₅.extBut _ _ (Nat.ne_of_gt hel) ht₄))
      · exact fun b o hbe hb => hs₇.extBut b o hbe (hs₆.extBut b o hbe (hs₅.extBut b o hbe (hk₄ b o hbe hb)))
theorem nextOf_zip {z TI TO : Addr} {v : Value} {f : Bool} {Q : Value → Shared → Prop} (hz : IsZipF s.heap z TI TO v f)
    (h : wpAny (model prog w) A.in1 (Builtin.«zip.__next__» ⟨[.ref z], []⟩) (fun fin s' => ∃ v, fin = .done (.ret v) ∧ Q v s') E s) : wpAny (model prog w) A (Builtin.SmallTypes.nextOf (.ref z)) Q E s := by
  have hT : s.TypeIs (.ref z) "zip" := ⟨_, hz, rfl⟩
  unfold Builtin.SmallTypes.nextOf
  refine wpAny_bind (wpAny_callSpecial?_slot (name := Str.ofString "__next__") hT F.slot_zip_next
    (wpAny_call_entry F.slot_zip_next hT F.entry_zip_next ?_ (F.args_zip_next_1 _)))
  exact wpAny_mono h (fun fin s' ⟨v, e, q⟩ => ⟨v, e, wpAny_pure q⟩) fun _ _ e => e
end

/-- enumerate(zip(..)): the pair in a new pair -/
def ItezS (K : PySem.W.Frag) (k1 k2 : Bool) (a b : Addr) : L2.It :=
  ⟨fun i H => ∃ (xs ys : List V) (x y : V), SqK K H k1 a xs ∧ SqK K H k2 b ys ∧ xs[i]? = some x ∧ ys[i]? = some y,
    fun i H v H' => ∃ T T1 x y, v = .ref T ∧ H T1 = none ∧ (upd H T1 (.tup [x, y])) T = none ∧ H' = upd (upd H T1 (.tup [x, y])) T (.tup [.int (i : Nat), .ref T1]) ∧ (∀ xs, SqK K H k1 a xs → xs[i]? = some x) ∧ ∀ ys, SqK K H k2 b ys → ys[i]? = some y,
    fun i H => ∃ xs ys : List V, SqK K H k1 a xs ∧ SqK K H k2 b ys ∧ i = min xs.length ys.length⟩
theorem turn_enumZ {P : Program} {w : World} {K : PySem.W.Frag} {elts : List Expr} {kk : Nat} {tpos : Pos} {k1 k2 : Bool} {a b e z TI TO i1 i2 : Addr} (S : ZipSep2 z TI TO i1 i2 [i1, a] [i2, b]) (n1 : a ≠ i1) (n2 : b ≠ i2) (ne : e ∉ [z, TI, TO, i1, i2]) (nea : e ≠ a) (neb : e ≠ b) :
    Turn P w K (.Tuple elts kk tpos) (ItezS K k1 k2 a b) [e, z, TI, TO, i1, i2] e (fun i h => (∃ old, IsEnum h e z ((i : Nat) : Int) old) ∧ (∃ v f, (v = .none ∨ ∃ T : Addr, v = rawInt T) ∧ IsZipF h z TI TO v f) ∧ IsTupOf2 h TI (.ref i1) (.ref i2) ∧ (∃ x y, IsTupOf2 h TO x y) ∧ SqIt h k1 i1 a i ∧ SqIt h k2 i2 b i) where
  mem := by simp
  obj := fun i h st c hc => by
    obtain ⟨⟨old, he⟩, ⟨v, f, _, hz⟩, hTI, ⟨x, y, hTO⟩, h1, h2⟩ := st
    have e' : c = e ∨ c = z ∨ c = TI ∨ c = TO ∨ c = i1 ∨ c = i2 := by simpa using hc
    rcases e' with q | q | q | q | q | q
    · rw [q]; exact ⟨_, he, fun v q => nomatch q⟩
    · rw [q]; exact ⟨_, hz, fun v q => nomatch q⟩
    · rw [q]; exact ⟨_, hTI, fun v q => nomatch q⟩
    · rw [q]; exact ⟨_, hTO, fun v q => nomatch q⟩
    · rw [q]; exact h1.obj
    · rw [q]; exact h2.obj
  keep := fun i h h' st k => by
    obtain ⟨⟨old, he⟩, ⟨v, f, hv, hz⟩, hTI, ⟨x, y, hTO⟩, h1, h2⟩ := st
    exact ⟨⟨old, k e (by simp) _ he⟩, ⟨v, f, hv, k z (by simp) _ hz⟩, k TI (by simp) _ hTI, ⟨x, y, k TO (by simp) _ hTO⟩, h1.at fun o q => k i1 (by simp) o q, h2.at fun o q => k i2 (by simp) o q⟩
  item := by
    intro X hP hw hK hc i pins s σ H E I hf st hg
    subst hP hw hK
    obtain ⟨⟨old, he⟩, ⟨v, f, hv, hz⟩, hTI, ⟨x0, y0, hTO⟩, h1, h2⟩ := st
    obtain ⟨xs, ys, x, y, hqx, hqy, hx, hy⟩ := hg
    obtain ⟨its, rv, p⟩ := inv_sq I hqx
    obtain ⟨its2, rv2, p2⟩ := inv_sq I hqy
    obtain ⟨u, hu, ru⟩ := rv.get hx
    obtain ⟨u2, hu2, ru2⟩ := rv2.get hy
    have hi : i < its.toArray.size := by simpa using (List.getElem?_eq_some_iff.mp hu).1
    have hi2 : i < its2.toArray.size := by simpa using (List.getElem?_eq_some_iff.mp hu2).1
    have hel : e < s.heap.objs.size := Heap.lt_size he
    have D1 : Draws X.prog X.w X.A.in1.in1 i1 [i1, a] its.toArray.size (fun i v => its.toArray[i]? = some v) (fun i h => SqIt h k1 i1 a i ∧ SqAt h k1 a its.toArray) := sqDraws (show X.A.in1.in1.handled = none from I.ok.hd hc) k1 i1 a n1 its.toArray
    have D2 : Draws X.prog X.w X.A.in1.in1 i2 [i2, b] its2.toArray.size (fun i v => its2.toArray[i]? = some v) (fun i h => SqIt h k2 i2 b i ∧ SqAt h k2 b its2.toArray) := sqDraws (show X.A.in1.in1.handled = none from I.ok.hd hc) k2 i2 b n2 its2.toArray
    have hT : s.TypeIs (.ref e) "enumerate" := ⟨_, he, rfl⟩
    simp only [List.mem_cons, List.not_mem_nil, or_false, not_or] at ne
    obtain ⟨e1, e2, e3, e4, e5⟩ := ne
    unfold pyNext
    refine wpAny_bind (wpAny_attempt (wpAny_callSpecial?_slot (name := Str.ofString "__next__") hT F.slot_enumerate_next
      (wpAny_call_entry F.slot_enumerate_next hT F.entry_enumerate_next
        (enumG_next_item (P := fun x h' => ZipTurn z TI TO i1 i2 (fun i v => its.toArray[i]? = some v) (fun i v => its2.toArray[i]? = some v) (fun i h => SqIt h k1 i1 a i ∧ SqAt h k1 a its.toArray) (fun i h => SqIt h k2 i2 b i ∧ SqAt h k2 b its2.toArray) i s.heap x h') (wr := [z, TO, i1, i2])
          (fun Q hQ => nextOf_zip hz (zipG_next_item S D1 D2 hz hv hTI hTO ⟨h1, p⟩ ⟨h2, p2⟩ hi hi2 fun x h' tk zt => hQ x h' tk zt ?_ fun b o hb q => zt.keep b o (fun q' => hb (by simp [q'])) (fun q' => hb (by simp [q'])) (fun q' => hb (by simp [q'])) (fun q' => hb (by simp [q'])) q))
          he (by simp [e1, e3, e4, e5]) fun xv h₁ tk₁ h' tk zt hz1 hk1 ho hT' hk' => wpAny_pure ?_) (F.args_enumerate_next_1 _))))
    · obtain ⟨T, _, _, _, _, _, _, q1, q2⟩ := zt.out
      exact Nat.le_of_lt (Nat.lt_of_le_of_lt q1 q2)
    obtain ⟨⟨T1, u', u2', rfl, hP1, hP2, hT1, hT1a, hT1b⟩, ⟨v', f', hv', hz'⟩, ⟨b1, b2, hTO'⟩, s1', s2', kp⟩ := zt
    have hu' : u' = u := by rw [List.getElem?_toArray, hu] at hP1; exact (Option.some.inj hP1).symm
    have hu2' : u2' = u2 := by rw [List.getElem?_toArray, hu2] at hP2; exact (Option.some.inj hP2).symm
    subst hu' hu2'
    have hel1 : e < h₁.objs.size := Nat.lt_of_lt_of_le hel hz1
    refine ⟨_, rfl, wpAny_letOwnedTupleGo_enum (s := { s with heap := h', toks := tk }) ho fun h'' he' sb => ?_⟩
    have up : ∀ c o, c ≠ e → h₁.get? c = some o → h''.get? c = some o := fun c o hc q => (sb.2 c hc).trans (hk' c o hc q)
    have ninT : ∀ c ∈ [e, z, TI, TO, i1, i2], c < s.heap.objs.size := fun c hcm => by
      have e' : c = e ∨ c = z ∨ c = TI ∨ c = TO ∨ c = i1 ∨ c = i2 := by simpa using hcm
      rcases e' with q | q | q | q | q | q
      · rw [q]; exact hel
      · rw [q]; exact Heap.lt_size hz
      · rw [q]; exact Heap.lt_size hTI
      · rw [q]; exact Heap.lt_size hTO
      · rw [q]; obtain ⟨_, e1, _⟩ := h1.obj; exact Heap.lt_size e1
      · rw [q]; obtain ⟨_, e2, _⟩ := h2.obj; exact Heap.lt_size e2
    -- the inner pair
    have new1 : ObjOk X.prog X.w (upd H T1 (.tup [x, y])) h₁ T1 (.tup [x, y]) :=
      ⟨by show 2 ≤ sizeLine; decide, [u', u2'], .cons ru (.cons ru2 .nil), ⟨_, hT1, rfl, _, rfl⟩⟩
    have I1 : Inv X pins σ (upd H T1 (.tup [x, y])) { s with heap := h₁, toks := tk₁ } :=
      I.turnedNew (t' := tk₁) (ch := [e, z, TI, TO, i1, i2]) (fun c o hb q => hk1 c o (fun hm => hb (by
        have e' : c = z ∨ c = TO ∨ c = i1 ∨ c = i2 := by simpa using hm
        rcases e' with q | q | q | q <;> simp [q])) q) hf hT1a new1
    have f1 : ∀ c ∈ [e, z, TI, TO, i1, i2], FpOk X pins (upd H T1 (.tup [x, y])) c := fun c hcm => ⟨by rw [upd_ne (Nat.ne_of_lt (Nat.lt_of_lt_of_le (ninT c hcm) hT1a))]; exact (hf c hcm).1, (hf c hcm).2⟩
    -- the outer pair
    have hT2 : h''.get? h₁.objs.size = some { cls := .type "tuple", data := .seq #[.int i tk₁, .ref T1] } := (sb.2 _ (Nat.ne_of_gt hel1)).trans hT'
    have new2 : ObjOk X.prog X.w (upd (upd H T1 (.tup [x, y])) h₁.objs.size (.tup [.int (i : Nat), .ref T1])) h'' h₁.objs.size (.tup [.int (i : Nat), .ref T1]) :=
      ⟨by show 2 ≤ sizeLine; decide, [.int i tk₁, .ref T1], .cons ⟨_, rfl⟩ (.cons rfl .nil), ⟨_, hT2, rfl, _, rfl⟩⟩
    have I2 : Inv X pins σ (upd (upd H T1 (.tup [x, y])) h₁.objs.size (.tup [.int (i : Nat), .ref T1])) { s with heap := h'', toks := tk } :=
      I1.turnedNew (t' := tk) (ch := [e]) (fun c o hb q => up c o (fun q' => hb (by simp [q'])) q) (fun c hcm => f1 c (by rw [List.mem_singleton.mp hcm]; simp)) (Nat.le_refl _) new2
    refine ⟨.ref h₁.objs.size, _, I2, rfl, ⟨_, T1, x, y, rfl, I.hok.fresh hT1a, I1.hok.fresh (Nat.le_refl _), rfl, fun l hl => by rw [sq_inj I hl hqx]; exact hx, fun l hl => by rw [sq_inj I hl hqy]; exact hy⟩, ⟨⟨.ref T1, ?_⟩, ⟨v', f', hv', up _ _ (Ne.symm e1) hz'⟩, ?_, ⟨b1, b2, up _ _ (Ne.symm e3) hTO'⟩, ?_, ?_⟩, fun c hcm => ?_⟩
    · have e1 : ((i + 1 : Nat) : Int) = (i : Int) + 1 := by omega
      rw [e1]; exact he'
    · exact up _ _ (Ne.symm e2) (kp _ _ S.TIz S.TITO S.TIi1 S.TIi2 hTI)
    · exact s1'.1.at fun o q => up _ _ (Ne.symm e4) q
    · exact s2'.1.at fun o q => up _ _ (Ne.symm e5) q
    · rw [upd_ne (Nat.ne_of_lt (Nat.lt_of_lt_of_le (ninT c hcm) hz1))]
      exact (f1 c hcm).1
  done := by
    intro X hP hw hK hc i pins s σ H E I hf st hg
    subst hP hw hK
    obtain ⟨⟨old, he⟩, ⟨v, f, hv, hz⟩, hTI, ⟨x0, y0, hTO⟩, h1, h2⟩ := st
    obtain ⟨xs, ys, hqx, hqy, hend⟩ := hg
    obtain ⟨its, rv, p⟩ := inv_sq I hqx
    obtain ⟨its2, rv2, p2⟩ := inv_sq I hqy
    have l1 := rv.length
    have l2 := rv2.length
    have D1 : Draws X.prog X.w X.A.in1.in1 i1 [i1, a] its.toArray.size (fun i v => its.toArray[i]? = some v) (fun i h => SqIt h k1 i1 a i ∧ SqAt h k1 a its.toArray) := sqDraws (show X.A.in1.in1.handled = none from I.ok.hd hc) k1 i1 a n1 its.toArray
    have D2 : Draws X.prog X.w X.A.in1.in1 i2 [i2, b] its2.toArray.size (fun i v => its2.toArray[i]? = some v) (fun i h => SqIt h k2 i2 b i ∧ SqAt h k2 b its2.toArray) := sqDraws (show X.A.in1.in1.handled = none from I.ok.hd hc) k2 i2 b n2 its2.toArray
    have hT : s.TypeIs (.ref e) "enumerate" := ⟨_, he, rfl⟩
    unfold pyNext
    refine wpAny_bind (wpAny_attempt (wpAny_callSpecial?_slot (name := Str.ofString "__next__") hT F.slot_enumerate_next
      (wpAny_call_entry F.slot_enumerate_next hT F.entry_enumerate_next ?_ (F.args_enumerate_next_1 _))))
    show wpAny _ _ (field (.ref e) 2 >>= _) _ _ _
    refine wpAny_bind (wpAny_field he rfl (x := .ref z) rfl ?_)
    refine wpAny_bind (nextOf_zip hz (zipG_next_end S D1 D2 hz hv hTI hTO ⟨h1, p⟩ ⟨h2, p2⟩ (by simp; omega) (by simp; omega) (by simp; omega) fun h' tk x hk hx' => ?_))
    obtain ⟨o, ho, hc⟩ := hx'
    refine wpAny_bind (wpAny_isInstance (T := "StopIteration") (b := true) ⟨o, ho, hc⟩ isSubtype_stop ?_)
    exact wpAny_pure ⟨rfl, I.turnedL (t' := tk) (ch := [e, z, TI, TO, i1, i2]) (fun c o hb q => hk c o (fun q' => hb (by simp [q'])) (fun q' => hb (by simp [q'])) (fun q' => hb (by simp [q'])) (fun q' => hb (by simp [q'])) q) hf⟩
  self := fun A i s Q E st h => let ⟨⟨_, he⟩, _⟩ := st; wpAny_pyIter_enum he h
def iEnumZ (K : PySem.W.Frag) (k1 k2 : Bool) (ta : TA) : TI := fun σ H R => ta σ H fun vs H1 => ∃ a b xs ys, vs = [.ref a, .ref b] ∧ SqK K H1 k1 a xs ∧ SqK K H1 k2 b ys ∧ R (ItezS K k1 k2 a b) H1
theorem pi_enumZ {X : Cx} {e e2 : Expr} {ta : TA} {p p2 pos pos2 tpos : Pos} {elts : List Expr} {kk : Nat} (k1 k2 : Bool) (hg2 : Gl X "enumerate") (hm2 : X.mg "enumerate" = none) (hg : Gl X "zip") (hm : X.mg "zip" = none) (ha : PA X [e, e2] ta)
    (hs : starEach [e, e2] X.env = (false, eval e X.env) :: starEach [e2] X.env) (hpl : (backTo pos (starEach [e2] X.env)).any (·.1) = false)
    (na : starEach [.Call (.Name "zip" p) [e, e2] [] pos] X.env = (false, eval (.Call (.Name "zip" p) [e, e2] [] pos) X.env) :: starEach [] X.env) :
    PI X (.Tuple elts kk tpos) (.Call (.Name "enumerate" p2) [.Call (.Name "zip" p) [e, e2] [] pos] [] pos2) (iEnumZ X.K k1 k2 ta) := by
  refine ⟨fun pins s σ H R I h => ?_⟩
  refine Call_ (ld_blt I hg2 hm2 boot_enumerate (PyProof.Rows.callWith_type1 (PyProof.Rows.args_cons ?_ na) na rfl))
  refine Call_ (ld_blt I hg hm PyProof.Rows.boot_zip (PyProof.Rows.callWith_type1 (thn (ha.run pos pins s σ H _ I h) fun us s1 ⟨vs, H1, I1, r1, q1⟩ => ?_) hs hpl))
  obtain ⟨a, b, xs, ys, ex, hqx, hqy, q⟩ := q1
  subst ex
  cases r1 with
  | cons r rr =>
    cases rr with
    | cons r' rr =>
      cases rr
      cases r
      cases r'
      obtain ⟨its, rv, q1⟩ := inv_sq I1 hqx
      obtain ⟨its2, rv2, q2⟩ := inv_sq I1 hqy
      refine zip_begins2 (sqBegins k1 a its.toArray) (sqBegins k2 b its2.toArray) q1 q2 fun h' hz hTI hTO h1 h2 hsz hk => PyProof.Rows.args_nil ?_
      have I2 : Inv X pins σ H1 { s1 with heap := h' } := I1.kept (t' := s1.toks) hk
      refine enum_beginsI (s := { s1 with heap := h' }) (H := fun h => IsZip h (s1.heap.objs.size + 4) (s1.heap.objs.size + 2) (s1.heap.objs.size + 3) .none) (fun prog w A E s Q h1 h2 => wpAny_pyIter_zip h1 h2) hz fun h'' he hsz' hk' => wpAny_pyIter_enum he ?_
      have I3 : Inv X pins σ H1 { s1 with heap := h'' } := I2.kept (t' := s1.toks) hk'
      have la := q1.lt
      have lb := q2.lt
      have hsz5 : h'.objs.size = s1.heap.objs.size + 5 := hsz
      have big : ∀ c, c ≤ s1.heap.objs.size + 4 → h'.objs.size ≠ c := fun c hc => by
        rw [hsz5]; exact Nat.ne_of_gt (Nat.lt_succ_of_le hc)
      refine ⟨h'.objs.size, [h'.objs.size, s1.heap.objs.size + 4, s1.heap.objs.size + 2, s1.heap.objs.size + 3, s1.heap.objs.size, s1.heap.objs.size + 1], _, _, H1, rfl, I3,
        turn_enumZ (zip_sep la lb) (Nat.ne_of_lt la) (Nat.ne_of_lt (Nat.lt_succ_of_lt lb)) ?_ (big _ (Nat.le_trans (Nat.le_of_lt la) (Nat.le_add_right _ _))) (big _ (Nat.le_trans (Nat.le_of_lt lb) (Nat.le_add_right _ _))),
        ⟨⟨.none, he⟩, ⟨_, _, .inl rfl, hk' _ _ hz⟩, hk' _ _ hTI, ⟨_, _, hk' _ _ hTO⟩, (sqO_it h1).at fun o e => hk' _ _ e, (sqO_it h2).at fun o e => hk' _ _ e⟩, fun c hcm => ?_, q⟩
      · simp only [List.mem_cons, List.not_mem_nil, or_false, not_or]
        exact ⟨big _ (Nat.le_refl _), big _ (Nat.add_le_add_left (by decide) _), big _ (Nat.add_le_add_left (by decide) _), big _ (Nat.le_add_right _ _), big _ (Nat.add_le_add_left (by decide) _)⟩
      · have e' : c = h'.objs.size ∨ c = s1.heap.objs.size + 4 ∨ c = s1.heap.objs.size + 2 ∨ c = s1.heap.objs.size + 3 ∨ c = s1.heap.objs.size ∨ c = s1.heap.objs.size + 1 := by simpa using hcm
        have hle : s1.heap.objs.size ≤ c := by
          rcases e' with z | z | z | z | z | z
          · rw [z, hsz5]; exact Nat.le_add_right _ _
          · rw [z]; exact Nat.le_add_right _ _
          · rw [z]; exact Nat.le_add_right _ _
          · rw [z]; exact Nat.le_add_right _ _
          · rw [z]; exact Nat.le_refl _
          · rw [z]; exact Nat.le_add_right _ _
        exact I1.fpOk hle (I1.hok.fresh hle)
end MP
set_option linter.all false
set_option Elab.async false
set_option maxRecDepth 100000
set_option maxHeartbeats 2000000
namespace MP
open PySem PySem.Spec PyProof.Rows L2

/-- a source that stands at a -/
structure SrcAt (K : PySem.W.Frag) (A : Ad) (H : Hp) (m : List Addr) (s : Src) (k : Bool) (a : Addr) : Prop where
  len : s.items.length ≤ szl
  now : ∃ ys, SqK K H k a ys
  st : ∀ m2 st2 H2, Later m H m2 H2 → Sim K A m2 st2 H2 → Src.ok s.watch st2 = true → ∃ ys, SqK K H2 k a ys ∧ RVs K A H2 m2 s.items ys
def kindP : PV → Bool
  | .tup _ => false
  | _ => true
section
variable {K : PySem.W.Frag} {A : Ad} {m m' : List Addr} {st st' : Store} {H H' : Hp}
theorem srcAt {v : PV} {x : V} {s : Src} (S : Sim K A m st H) (r : RV K A H m v x) (e : srcOf st v = some s) : ∃ a, x = .ref a ∧ SrcAt K A H m s (kindP v) a := by
  cases v with
  | tup vs =>
    cases e
    simp only [RV] at r
    obtain ⟨p, ys, rfl, hs, hl, hr⟩ := r
    exact ⟨p, rfl, hl, ⟨ys, hs⟩, fun m2 st2 H2 l S2 _ => ⟨ys, sqt_later S l hs, hr.later S l⟩⟩
  | ref i =>
    simp only [srcOf] at e
    cases q2 : st[i]? with
    | none => rw [q2] at e; cases e
    | some o =>
      rw [q2] at e
      obtain ⟨p, g1, rfl, g3⟩ := S.obj q2 r
      cases o with
      | lst zs => cases e; obtain ⟨ys, k1, k2, k3⟩ := g3; exact ⟨p, rfl, k2, ⟨ys, .inl (.inl k1)⟩, fun m2 st2 H2 l S2 w => watch_list S2 w (l.get g1)⟩
      | frz zs => cases e; obtain ⟨ob, ys, k1, k2, k3⟩ := g3; exact ⟨p, rfl, k2, ⟨ys, .inl (.inr ⟨ob, k1⟩)⟩, fun m2 st2 H2 l S2 w => watch_list S2 w (l.get g1)⟩
      | dic _ => cases e
      | ins _ _ => cases e
      | gone => cases e
  | _ => cases e
theorem ok_append {a b : List (Nat × List PV)} (h : Src.ok (a ++ b) st = true) : Src.ok a st = true ∧ Src.ok b st = true := by
  simp only [Src.ok, List.all_append, Bool.and_eq_true] at h
  exact h
theorem enumFrom_get : ∀ {xs : List PV} {n i : Nat} {v : PV}, (enumFrom n xs)[i]? = some v → ∃ x, xs[i]? = some x ∧ v = .tup [.int ((n + i : Nat) : Int), x]
  | [], n, i, v, h => by simp [enumFrom] at h
  | x :: xs, n, 0, v, h => by simp [enumFrom] at h; exact ⟨x, rfl, by rw [← h]; rfl⟩
  | x :: xs, n, i + 1, v, h => by
    simp only [enumFrom, List.getElem?_cons_succ] at h
    obtain ⟨y, h1, h2⟩ := enumFrom_get h
    exact ⟨y, by simpa using h1, by rw [h2, show n + 1 + i = n + (i + 1) by omega]⟩
theorem enumFrom_len : ∀ {xs : List PV} {n : Nat}, (enumFrom n xs).length = xs.length
  | [], n => rfl
  | x :: xs, n => by simp only [enumFrom, List.length_cons, enumFrom_len]
theorem zipP_get : ∀ {xs ys : List PV} {i : Nat} {v : PV}, (zipP xs ys)[i]? = some v → ∃ x y, xs[i]? = some x ∧ ys[i]? = some y ∧ v = .tup [x, y]
  | [], ys, i, v, h => by cases ys <;> simp [zipP] at h
  | x :: xs, [], i, v, h => by simp [zipP] at h
  | x :: xs, y :: ys, 0, v, h => by simp [zipP] at h; exact ⟨x, y, rfl, rfl, h.symm⟩
  | x :: xs, y :: ys, i + 1, v, h => by
    simp only [zipP, List.getElem?_cons_succ] at h
    obtain ⟨a, b, h1, h2, h3⟩ := zipP_get h
    exact ⟨a, b, by simpa using h1, by simpa using h2, h3⟩
theorem zipP_len : ∀ {xs ys : List PV}, (zipP xs ys).length = min xs.length ys.length
  | [], ys => by cases ys <;> simp [zipP]
  | x :: xs, [] => by simp [zipP]
  | x :: xs, y :: ys => by simp only [zipP, List.length_cons, zipP_len]; omega
theorem two_le {v w : PV} : [v, w].length ≤ szl := by show 2 ≤ 16777216; decide
/-- a new tuple that the store does not have -/
theorem RV.newT {vs : List PV} {ys : List V} {T : Addr} (S : Sim K A m st H) (hT : H T = none) (hl : vs.length ≤ szl) (r : RVs K A H m vs ys) : Later m H m (upd H T (.tup ys)) ∧ Sim K A m st (upd H T (.tup ys)) ∧ RV K A (upd H T (.tup ys)) m (.tup vs) (.ref T) := by
  refine ⟨Later.new hT, S.objNew hT, ?_⟩
  simp only [RV]
  exact ⟨T, ys, rfl, .inl (.inl upd_same), hl, r.later S (Later.new hT)⟩
theorem RVs.two {v w : PV} {x y : V} (h1 : RV K A H m v x) (h2 : RV K A H m w y) : RVs K A H m [v, w] [x, y] := RVs.cons h1 (RVs.cons h2 RVs.nil)
theorem rI_enum {s : Src} {k : Bool} {a : Addr} (h : SrcAt K A H m s k a) : rI K A H m ⟨enumFrom 0 s.items, s.watch⟩ (IteS K k a) := by
  refine ⟨by rw [enumFrom_len]; exact h.len, fun m2 st2 H2 l S2 w => ?_⟩
  obtain ⟨ys, q, hr⟩ := h.st m2 st2 H2 l S2 w
  refine ⟨fun i v e => ?_, ⟨ys, q, by rw [enumFrom_len, hr.len]⟩⟩
  obtain ⟨x, h1, rfl⟩ := enumFrom_get e
  obtain ⟨y, h3, h4⟩ := hr.get h1
  refine ⟨⟨ys, y, q, h3⟩, fun x' H3 ⟨T, y', e1, hT, e2, hy⟩ => ?_⟩
  have ey : y' = y := by have := hy ys q; rw [h3] at this; exact (Option.some.inj this).symm
  subst e1 e2 ey
  exact RV.newT S2 hT two_le (RVs.two (by simp only [RV]; rw [Nat.zero_add]) h4)
theorem rI_zip {s t : Src} {k1 k2 : Bool} {a b : Addr} (h : SrcAt K A H m s k1 a) (g : SrcAt K A H m t k2 b) : rI K A H m ⟨zipP s.items t.items, s.watch ++ t.watch⟩ (ItzS K k1 k2 a b) := by
  refine ⟨by rw [zipP_len]; exact Nat.le_trans (Nat.min_le_left _ _) h.len, fun m2 st2 H2 l S2 w => ?_⟩
  obtain ⟨w1, w2⟩ := ok_append w
  obtain ⟨ys, q, hr⟩ := h.st m2 st2 H2 l S2 w1
  obtain ⟨zs, q2, hr2⟩ := g.st m2 st2 H2 l S2 w2
  refine ⟨fun i v e => ?_, ⟨ys, zs, q, q2, by rw [zipP_len, hr.len, hr2.len]⟩⟩
  obtain ⟨x, y, h1, h2, rfl⟩ := zipP_get e
  obtain ⟨x', h3, h4⟩ := hr.get h1
  obtain ⟨y', h5, h6⟩ := hr2.get h2
  refine ⟨⟨ys, zs, x', y', q, q2, h3, h5⟩, fun v' H3 ⟨T, x2, y2, e1, hT, e2, hx, hy⟩ => ?_⟩
  have ex : x2 = x' := by have := hx ys q; rw [h3] at this; exact (Option.some.inj this).symm
  have ey : y2 = y' := by have := hy zs q2; rw [h5] at this; exact (Option.some.inj this).symm
  subst e1 e2 ex ey
  exact RV.newT S2 hT two_le (RVs.two h4 h6)
theorem rI_enumz {s t : Src} {k1 k2 : Bool} {a b : Addr} (h : SrcAt K A H m s k1 a) (g : SrcAt K A H m t k2 b) : rI K A H m ⟨enumFrom 0 (zipP s.items t.items), s.watch ++ t.watch⟩ (ItezS K k1 k2 a b) := by
  refine ⟨by rw [enumFrom_len, zipP_len]; exact Nat.le_trans (Nat.min_le_left _ _) h.len, fun m2 st2 H2 l S2 w => ?_⟩
  obtain ⟨w1, w2⟩ := ok_append w
  obtain ⟨ys, q, hr⟩ := h.st m2 st2 H2 l S2 w1
  obtain ⟨zs, q2, hr2⟩ := g.st m2 st2 H2 l S2 w2
  refine ⟨fun i v e => ?_, ⟨ys, zs, q, q2, by rw [enumFrom_len, zipP_len, hr.len, hr2.len]⟩⟩
  obtain ⟨v0, e0, rfl⟩ := enumFrom_get e
  obtain ⟨x, y, h1, h2, rfl⟩ := zipP_get e0
  obtain ⟨x', h3, h4⟩ := hr.get h1
  obtain ⟨y', h5, h6⟩ := hr2.get h2
  refine ⟨⟨ys, zs, x', y', q, q2, h3, h5⟩, fun v' H3 ⟨T, T1, x2, y2, e1, hT1, hT, e2, hx, hy⟩ => ?_⟩
  have ex : x2 = x' := by have := hx ys q; rw [h3] at this; exact (Option.some.inj this).symm
  have ey : y2 = y' := by have := hy zs q2; rw [h5] at this; exact (Option.some.inj this).symm
  subst e1 e2 ex ey
  obtain ⟨l1, S1, r1⟩ := RV.newT S2 hT1 two_le (RVs.two h4 h6)
  obtain ⟨l2, S3, r3⟩ := RV.newT (vs := [.int ((0 + i : Nat) : Int), .tup [x, y]]) (ys := [.int (i : Nat), .ref T1]) S1 hT two_le (RVs.two (by simp only [RV]; rw [Nat.zero_add]) r1)
  exact ⟨l1.trans l2, S3, r3⟩
theorem rev_get {α : Type} {xs : List α} {i : Nat} {v : α} (h : xs.reverse[i]? = some v) : i < xs.length ∧ xs[xs.length - 1 - i]? = some v := by
  have hi : i < xs.length := by
    by_cases hi : i < xs.length
    · exact hi
    · rw [List.getElem?_eq_none (by simp; omega)] at h; cases h
  rw [List.getElem?_reverse hi] at h
  exact ⟨hi, h⟩
def ItvK (K : PySem.W.Frag) (k : Bool) (a : Addr) (n : Nat) : L2.It := match k with
  | true => Itv K a n
  | false => RT.ItvT K a n
theorem rI_rev {s : Src} {k : Bool} {a : Addr} (h : SrcAt K A H m s k a) : rI K A H m ⟨s.items.reverse, s.watch⟩ (ItvK K k a s.items.length) := by
  refine ⟨by rw [List.length_reverse]; exact h.len, fun m2 st2 H2 l S2 w => ?_⟩
  obtain ⟨ys, q, hr⟩ := h.st m2 st2 H2 l S2 w
  cases k with
  | true =>
    refine ⟨fun i v e => ?_, by show s.items.length ≤ _; rw [List.length_reverse]; exact Nat.le_refl _⟩
    obtain ⟨h1, h2⟩ := rev_get e
    obtain ⟨y, h3, h4⟩ := hr.get h2
    exact ⟨⟨h1, ys, y, q, h3⟩, fun x' H3 ⟨e1, hy⟩ => by subst e1; exact ⟨Later.refl _ _, S2, hr.item h2 (hy ys q)⟩⟩
  | false =>
    refine ⟨fun i v e => ?_, by show s.items.length ≤ _; rw [List.length_reverse]; exact Nat.le_refl _⟩
    obtain ⟨h1, h2⟩ := rev_get e
    obtain ⟨y, h3, h4⟩ := hr.get h2
    exact ⟨⟨h1, ys, y, q, h3⟩, fun x' H3 ⟨e1, hy⟩ => by subst e1; exact ⟨Later.refl _ _, S2, hr.item h2 (hy ys q)⟩⟩
theorem rI_rrange {lo : Int} {n : Nat} (hn : n ≤ szl) : rI K A H m ⟨(rangeP lo n).reverse, []⟩ (Itc (lo + (n : Int) - 1) (-1) n) := by
  refine ⟨by rw [List.length_reverse, rangeP_len]; exact hn, fun m2 st2 H2 l S2 _ => ⟨fun i v e => ?_, ?_⟩⟩
  · obtain ⟨h1, h2⟩ := rev_get e
    rw [rangeP_len] at h1 h2
    obtain ⟨h3, rfl⟩ := rangeP_get h2
    exact ⟨h1, fun x H3 ⟨e1, e2⟩ => by subst e1 e2; exact ⟨Later.refl _ _, S2, by simp only [RV]; congr 1; omega⟩⟩
  · show n ≤ _
    rw [List.length_reverse, rangeP_len]
    exact Nat.le_refl _
end
section
variable {C : Cn} {a b : Ex} {ρ : Env} {st : Store} {α : Type}
theorem evs1 (f : PV → Store → Res α) : (ev C a ρ st).bind f = (evs C [a] ρ st).bind fun vs st => match vs with
    | [v] => f v st
    | _ => .bad := by
  simp only [evs]
  cases ev C a ρ st with
  | ok v st1 => rfl
  | exc c fs st1 => rfl
  | bad => rfl
theorem evs2 (f : PV → PV → Store → Res α) : ((ev C a ρ st).bind fun v st => (ev C b ρ st).bind fun w st => f v w st) = (evs C [a, b] ρ st).bind fun vs st => match vs with
    | [v, w] => f v w st
    | _ => .bad := by
  simp only [evs]
  cases ev C a ρ st with
  | ok v st1 =>
    simp only [Res.bind_ok]
    cases ev C b ρ st1 with
    | ok w st2 => rfl
    | exc c fs st1 => rfl
    | bad => rfl
  | exc c fs st1 => rfl
  | bad => rfl
end
section
variable {B : Tb} {cm : Bool} {sc : Scope} {N : List Str} {e a b : Expr} {a' b' : Ex} {pos : Pos} {elts : List Expr} {kk : Nat} {tpos p p2 pos2 : Pos}
theorem SI.enum (hg : sc.names.lookup ("enumerate" : Str) = some .globalImplicit) (hf : ("enumerate" : Str) ∈ B.frees) (ha : SEs B cm sc N [a] [a']) (hs : ∀ env, starEach [a] env = [(false, eval a env)]) :
    SI B cm sc N (.Tuple elts kk tpos) (.Call (.Name "enumerate" p) [a] [] pos) (.enum a') := by
  intro X A C W O h1 h2
  have hgl : Gl X "enumerate" := by subst h1; exact hg
  have HA := ha X A C W O h1 h2
  refine PI.imp (PI.or (pi_enumS true hgl (O.gf.fr _ hf) HA (hs _)) (pi_enumS false hgl (O.gf.fr _ hf) HA (hs _))) fun σ H R ⟨m, st, ρ, S, En, h⟩ => ?_
  unfold evI at h
  rw [evs1] at h
  have hb := Fin.bind (rel := rVs X.K A) h
  have key : ∀ (k : Bool), (∀ vs st1, evs C [a'] ρ st = .ok vs st1 → ∀ v s, vs = [v] → srcOf st1 v = some s → kindP v = k) → iEnumS X.K k (TEv X.K A (fun _ => rVs X.K A) W (evs C [a'])) σ H R := fun k hk => by
    refine ⟨m, st, ρ, S, En, Fin.imp hb fun xs H1 ⟨m1, st1, vs, e, l, S1, r, h⟩ => ?_⟩
    split at h
    · rename_i v
      simp only [RVs] at r
      obtain ⟨x, _, rfl, rx, rfl⟩ := r
      cases q : srcOf st1 v with
      | none => rw [q] at h; exact h.elim
      | some s =>
        rw [q] at h
        obtain ⟨p, rfl, sa⟩ := srcAt S1 rx q
        rw [hk _ _ e v s rfl q] at sa
        obtain ⟨ys, now⟩ := sa.now
        exact ⟨p, ys, rfl, now, h m1 H1 _ (Later.refl _ _) S1 (rI_enum sa)⟩
    · exact h.elim
  cases q : evs C [a'] ρ st with
  | ok vs st1 =>
    by_cases hv : ∃ zs, vs = [.tup zs]
    · refine .inr (key false fun vs' st1' e v s e2 _ => ?_)
      rw [q] at e; cases e
      obtain ⟨zs, rfl⟩ := hv
      cases e2; rfl
    · refine .inl (key true fun vs' st1' e v s e2 _ => ?_)
      rw [q] at e; cases e
      subst e2
      cases v with
      | tup zs => exact absurd ⟨zs, rfl⟩ hv
      | _ => rfl
  | exc c fs st1 => exact .inl (key true fun vs st1 e => by rw [q] at e; cases e)
  | bad => exact .inl (key true fun vs st1 e => by rw [q] at e; cases e)
theorem SI.rev {tg : Expr} (hg : sc.names.lookup ("reversed" : Str) = some .globalImplicit) (hf : ("reversed" : Str) ∈ B.frees) (ha : SE B cm sc N a a') (hs : ∀ env, starEach [a] env = (false, eval a env) :: starEach [] env) :
    SI B cm sc N tg (.Call (.Name "reversed" p) [a] [] pos) (.rev a') := by
  intro X A C W O h1 h2
  have hgl : Gl X "reversed" := by subst h1; exact hg
  refine PI.imp (RT.pi_revA hgl (O.gf.fr _ hf) (ha X A C W O h1 h2) (hs _)) fun σ H R ⟨m, st, ρ, S, En, h⟩ => ?_
  unfold evI at h
  refine ⟨m, st, ρ, S, En, Fin.imp (Fin.bind (rel := rV X.K A) h) fun x H1 ⟨m1, st1, v, e, l, S1, r, h⟩ => ?_⟩
  cases q : srcOf st1 v with
  | none => rw [q] at h; exact h.elim
  | some s =>
    rw [q] at h
    obtain ⟨p, rfl, sa⟩ := srcAt S1 r q
    obtain ⟨ys, now⟩ := sa.now
    have hw : Src.ok s.watch st1 = true := by
      cases v with
      | tup zs => cases q; rfl
      | ref i =>
        simp only [srcOf] at q
        split at q
        · rename_i e; cases q; simp [Src.ok, e]
        · rename_i e; cases q; simp [Src.ok, e]
        · cases q
      | _ => cases q
    obtain ⟨zs, q1, r1⟩ := sa.st m1 st1 H1 (Later.refl _ _) S1 hw
    have hR := h m1 H1 _ (Later.refl _ _) S1 (rI_rev sa)
    refine ⟨p, zs, rfl, ?_⟩
    cases hk : kindP v with
    | true => rw [hk] at q1 hR; exact .inl ⟨q1, by rw [r1.len]; exact hR⟩
    | false => rw [hk] at q1 hR; exact .inr ⟨q1, by rw [r1.len]; exact hR⟩
theorem zip_core {X : Cx} {A : Ad} {C : Cn} {W : WX} {it : MP.It} {F : Src → Src → Src} {J : Bool → Bool → Addr → Addr → L2.It} {σ : L2.St} {H : Hp} {R : L2.It → Hp → Prop}
    (hit : ∀ ρ st, evI C it ρ st = (ev C a' ρ st).bind fun v st => (ev C b' ρ st).bind fun w st => match srcOf st v, srcOf st w with
      | some s, some t => .ok (F s t) st
      | _, _ => .bad)
    (hJ : ∀ {H1 m1 s t k1 k2 p q}, SrcAt X.K A H1 m1 s k1 p → SrcAt X.K A H1 m1 t k2 q → rI X.K A H1 m1 (F s t) (J k1 k2 p q))
    (h : TEv X.K A (fun _ => rI X.K A) W (evI C it) σ H R) :
    ∃ k1 k2, TEv X.K A (fun _ => rVs X.K A) W (evs C [a', b']) σ H (fun vs H1 => ∃ a b xs ys, vs = [.ref a, .ref b] ∧ SqK X.K H1 k1 a xs ∧ SqK X.K H1 k2 b ys ∧ R (J k1 k2 a b) H1) := by
  obtain ⟨m, st, ρ, S, En, h⟩ := h
  rw [hit, evs2] at h
  have hb := Fin.bind (rel := rVs X.K A) h
  have key : ∀ (k1 k2 : Bool), (∀ vs st1, evs C [a', b'] ρ st = .ok vs st1 → ∀ v w, vs = [v, w] → kindP v = k1 ∧ kindP w = k2) → TEv X.K A (fun _ => rVs X.K A) W (evs C [a', b']) σ H (fun vs H1 => ∃ a b xs ys, vs = [.ref a, .ref b] ∧ SqK X.K H1 k1 a xs ∧ SqK X.K H1 k2 b ys ∧ R (J k1 k2 a b) H1) := fun k1 k2 hk => by
    refine ⟨m, st, ρ, S, En, Fin.imp hb fun xs H1 ⟨m1, st1, vs, e, l, S1, r, h⟩ => ?_⟩
    split at h
    · rename_i v w
      simp only [RVs] at r
      obtain ⟨x, _, rfl, rx, y, _, rfl, ry, rfl⟩ := r
      split at h
      · rename_i s t q1 q2
        obtain ⟨p, rfl, sa⟩ := srcAt S1 rx q1
        obtain ⟨q, rfl, sb⟩ := srcAt S1 ry q2
        obtain ⟨e1, e2⟩ := hk _ _ e v w rfl
        rw [e1] at sa
        rw [e2] at sb
        obtain ⟨ys, now⟩ := sa.now
        obtain ⟨zs, now2⟩ := sb.now
        exact ⟨p, q, ys, zs, rfl, now, now2, h m1 H1 _ (Later.refl _ _) S1 (hJ sa sb)⟩
      · exact h.elim
    · exact h.elim
  cases q : evs C [a', b'] ρ st with
  | ok vs st1 =>
    by_cases hv : ∃ v w, vs = [v, w]
    · obtain ⟨v, w, rfl⟩ := hv
      exact ⟨kindP v, kindP w, key _ _ fun vs' st1' e v' w' e2 => by rw [q] at e; cases e; cases e2; exact ⟨rfl, rfl⟩⟩
    · exact ⟨true, true, key _ _ fun vs' st1' e v' w' e2 => by rw [q] at e; cases e; exact absurd ⟨v', w', e2⟩ hv⟩
  | exc c fs st1 => exact ⟨true, true, key _ _ fun vs' st1' e => by rw [q] at e; cases e⟩
  | bad => exact ⟨true, true, key _ _ fun vs' st1' e => by rw [q] at e; cases e⟩
theorem PI.any {X : Cx} {ι : Type} {tg e : Expr} {t : ι → TI} (h : ∀ i, PI X tg e (t i)) : PI X tg e (fun σ H R => ∃ i, t i σ H R) := ⟨fun pins s σ H R I ⟨i, hw⟩ => (h i).run pins s σ H R I hw⟩
theorem SI.zip (hg : sc.names.lookup ("zip" : Str) = some .globalImplicit) (hf : ("zip" : Str) ∈ B.frees) (ha : SEs B cm sc N [a, b] [a', b']) (hs : ∀ env, starEach [a, b] env = (false, eval a env) :: starEach [b] env) (hpl : ∀ env, (backTo pos (starEach [b] env)).any (·.1) = false) :
    SI B cm sc N (.Tuple elts kk tpos) (.Call (.Name "zip" p) [a, b] [] pos) (.zip a' b') := by
  intro X A C W O h1 h2
  have hgl : Gl X "zip" := by subst h1; exact hg
  have HA := ha X A C W O h1 h2
  refine PI.imp (PI.any (ι := Bool × Bool) fun k => pi_zipS k.1 k.2 hgl (O.gf.fr _ hf) HA (hs _) (hpl _)) fun σ H R h => ?_
  obtain ⟨k1, k2, q⟩ := zip_core (it := .zip a' b') (F := fun s t => ⟨zipP s.items t.items, s.watch ++ t.watch⟩) (J := ItzS X.K) (fun ρ st => by simp only [evI] <;> rfl) (fun sa sb => rI_zip sa sb) h
  exact ⟨(k1, k2), q⟩
theorem SI.enumz (hg2 : sc.names.lookup ("enumerate" : Str) = some .globalImplicit) (hf2 : ("enumerate" : Str) ∈ B.frees) (hg : sc.names.lookup ("zip" : Str) = some .globalImplicit) (hf : ("zip" : Str) ∈ B.frees) (ha : SEs B cm sc N [a, b] [a', b'])
    (hs : ∀ env, starEach [a, b] env = (false, eval a env) :: starEach [b] env) (hpl : ∀ env, (backTo pos (starEach [b] env)).any (·.1) = false)
    (na : ∀ env, starEach [.Call (.Name "zip" p) [a, b] [] pos] env = (false, eval (.Call (.Name "zip" p) [a, b] [] pos) env) :: starEach [] env) :
    SI B cm sc N (.Tuple elts kk tpos) (.Call (.Name "enumerate" p2) [.Call (.Name "zip" p) [a, b] [] pos] [] pos2) (.enumz a' b') := by
  intro X A C W O h1 h2
  have hgl : Gl X "zip" := by subst h1; exact hg
  have hgl2 : Gl X "enumerate" := by subst h1; exact hg2
  have HA := ha X A C W O h1 h2
  refine PI.imp (PI.any (ι := Bool × Bool) fun k => pi_enumZ k.1 k.2 hgl2 (O.gf.fr _ hf2) hgl (O.gf.fr _ hf) HA (hs _) (hpl _) (na _)) fun σ H R h => ?_
  obtain ⟨k1, k2, q⟩ := zip_core (it := .enumz a' b') (F := fun s t => ⟨enumFrom 0 (zipP s.items t.items), s.watch ++ t.watch⟩) (J := ItezS X.K) (fun ρ st => by simp only [evI] <;> rfl) (fun sa sb => rI_enumz sa sb) h
  exact ⟨(k1, k2), q⟩
theorem SI.rrange1 {tg : Expr} {p0 pos0 : Pos} (hg : sc.names.lookup ("reversed" : Str) = some .globalImplicit) (hf : ("reversed" : Str) ∈ B.frees) (hg2 : sc.names.lookup ("range" : Str) = some .globalImplicit) (hf2 : ("range" : Str) ∈ B.frees) (ha : SE B cm sc N a a') (na : ∀ env, starEach [a] env = (false, eval a env) :: starEach [] env)
    (hs : ∀ env, starEach [.Call (.Name "range" p0) [a] [] pos0] env = (false, eval (.Call (.Name "range" p0) [a] [] pos0) env) :: starEach [] env) :
    SI B cm sc N tg (.Call (.Name "reversed" p) [.Call (.Name "range" p0) [a] [] pos0] [] pos) (.rrange1 a') := by
  intro X A C W O h1 h2
  have hgl : Gl X "reversed" := by subst h1; exact hg
  have hgl2 : Gl X "range" := by subst h1; exact hg2
  refine PI.imp (pi_revR hgl (O.gf.fr _ hf) (prg_1 hgl2 (O.gf.fr _ hf2) (ha X A C W O h1 h2) (na _)) (hs _)) fun σ H R ⟨m, st, ρ, S, En, h⟩ => ?_
  unfold evI at h
  refine ⟨m, st, ρ, S, En, Fin.imp (Fin.bind (rel := rV X.K A) h) fun x H1 ⟨m1, st1, v, e, l, S1, r, h⟩ => ?_⟩
  cases v with
  | int j =>
    simp only [RV] at r
    simp only at h
    split at h
    · rename_i hc
      have e1 : (szl : Int) = 16777216 := by decide
      refine ⟨j, r, by omega, by omega, by omega, by omega, ?_⟩
      have := h m1 H1 _ (Later.refl _ _) S1 (rI_rrange (lo := 0) (n := j.toNat) (by omega))
      rw [Int.sub_zero]
      exact this
    · exact h.elim
  | _ => exact h.elim
end
section
variable {B : Tb} {cm : Bool} {sc : Scope} {N : List Str} {pos : Pos}
/-- {} -/
theorem SE.emp : SE B cm sc N (.Dict [] [] pos) .emp := by
  intro X A C W O h1 h2
  refine PE.imp pe_dnewK fun σ H Q ⟨m, st, ρ, S, R, h⟩ p hp => ?_
  unfold ev at h
  refine h (m ++ [p]) _ (.ref p) (Later.newS hp) (S.push hp ⟨rfl, upd_same⟩) ?_
  simp only [RV]
  exact ⟨p, by rw [← S.len, List.getElem?_append_right (Nat.le_refl _), Nat.sub_self]; rfl, rfl⟩
end
end MP
set_option linter.all false
set_option Elab.async false
set_option maxRecDepth 100000
set_option maxHeartbeats 2000000
namespace MP
open PySem PySem.Spec PyProof.Rows L2

section
variable (K : PySem.W.Frag) (A : Ad)
def FlR (W : WX) (m : List Addr) (H : Hp) (D : Ends) : Fl → Prop
  | .nx ρ st => ∀ m' H' σ', Later m H m' H' → Sim K A m' st H' → EnvR K A H' m' ρ σ' → D.nx σ' H'
  | .bk ρ st => ∀ m' H' σ', Later m H m' H' → Sim K A m' st H' → EnvR K A H' m' ρ σ' → D.bk σ' H'
  | .ct ρ st => ∀ m' H' σ', Later m H m' H' → Sim K A m' st H' → EnvR K A H' m' ρ σ' → D.ct σ' H'
  | .rt v st => ∀ m' H' x, Later m H m' H' → Sim K A m' st H' → RV K A H' m' v x → D.rt x H'
  | .exc c fs ρ st => ∀ m' H' σ' cls d, Later m H m' H' → Sim K A m' st H' → EnvR K A H' m' ρ σ' → ExcR K A H' m' c fs cls d → W cls d σ' H'
  | .bad => False
def TFl (W : WX) (f : Env → Store → Fl) : TS := fun D σ H => ∃ m st ρ, Sim K A m st H ∧ EnvR K A H m ρ σ ∧ FlR K A W m H D (f ρ st)
end
section
variable {K : PySem.W.Frag} {A : Ad} {W : WX} {m m1 : List Addr} {H H1 : Hp} {D D' : Ends}
theorem FlR.later (l : Later m H m1 H1) {f : Fl} (h : FlR K A W m H D f) : FlR K A W m1 H1 D f := by
  cases f with
  | nx ρ st => exact fun m' H' σ' l2 => h m' H' σ' (l.trans l2)
  | bk ρ st => exact fun m' H' σ' l2 => h m' H' σ' (l.trans l2)
  | ct ρ st => exact fun m' H' σ' l2 => h m' H' σ' (l.trans l2)
  | rt v st => exact fun m' H' x l2 => h m' H' x (l.trans l2)
  | exc c fs ρ st => exact fun m' H' σ' cls d l2 => h m' H' σ' cls d (l.trans l2)
  | bad => exact h
theorem FlR.fl {α β : Type} {rel : Hp → List Addr → α → β → Prop} {r : Res α} {ρ : Env} {σ : L2.St} {st : Store} {f : α → Store → Fl} (S : Sim K A m st H) (R : EnvR K A H m ρ σ) (h : FlR K A W m H D (r.fl ρ f)) :
    Fin K A rel (fun c d H' => W c d σ H') m H (fun x H1 => ∃ m1 st1 v, r = .ok v st1 ∧ Later m H m1 H1 ∧ Sim K A m1 st1 H1 ∧ rel H1 m1 v x ∧ FlR K A W m1 H1 D (f v st1)) r := by
  cases r with
  | ok v st1 => exact fun m1 H1 x l S1 r => ⟨m1, st1, v, rfl, l, S1, r, FlR.later l h⟩
  | exc c fs st1 => exact fun m' H' cls d l S' e => h m' H' σ cls d l S' (R.later S l) e
  | bad => exact h
end
theorem FlR.fl0 {K : PySem.W.Frag} {A : Ad} {W : WX} {m : List Addr} {H : Hp} {D : Ends} {α β : Type} {rel : Hp → List Addr → α → β → Prop} {r : Res α} {ρ : Env} {σ : L2.St} {st : Store} {f : α → Store → Fl} (S : Sim K A m st H) (R : EnvR K A H m ρ σ) (h : FlR K A W m H D (r.fl ρ f)) :
    Fin K A rel (fun c d H' => W c d σ H') m H (fun x H1 => ∃ m1 st1 v, r = .ok v st1 ∧ Later m H m1 H1 ∧ Sim K A m1 st1 H1 ∧ rel H1 m1 v x ∧ FlR K A W m H D (f v st1)) r := by
  cases r with
  | ok v st1 => exact fun m1 H1 x l S1 r => ⟨m1, st1, v, rfl, l, S1, r, h⟩
  | exc c fs st1 => exact fun m' H' cls d l S' e => h m' H' σ cls d l S' (R.later S l) e
  | bad => exact h
structure SOk (B : Tb) (A : Ad) (C : Cn) (X : Cx) (W : WX) (cm : Bool) : Prop extends XOk B A C X W cm where
  fn : ∀ x, X.fn x = true
  po : PassesOwn (model X.prog X.w) X.A X.env X.xe
  hs : X.stack = X.env :: X.outer
  hf : X.env.frame = some X.env.locals
def SS (B : Tb) (cm : Bool) (sc : Scope) (N : List Str) (s : Stmt) (s' : MP.St) : Prop := ∀ X A C W, SOk B A C X W cm → X.env.scope = sc → X.N = N → PS X s (TFl X.K A W (exS C s'))
def SSs (B : Tb) (cm : Bool) (sc : Scope) (N : List Str) (s : List Stmt) (s' : List MP.St) : Prop := ∀ X A C W, SOk B A C X W cm → X.env.scope = sc → X.N = N → PSs X s (TFl X.K A W (exs C s'))
section
variable {B : Tb} {cm : Bool} {sc : Scope} {N : List Str} {e a b c o i : Expr} {e' a' b' c' o' i' : Ex} {es : List Expr} {es' : List Ex} {pos : Pos} {s : Stmt} {s' : MP.St} {ss ss2 : List Stmt} {ss' ss2' : List MP.St}
theorem SSs.nil : SSs B cm sc N [] [] := fun X A C W _ _ _ => PSs.imp pss_nil fun D σ H ⟨m, st, ρ, S, R, h⟩ => by
  unfold exs at h
  exact h m H σ (Later.refl _ _) S R
theorem SSs.cons (h1 : SS B cm sc N s s') (h2 : SSs B cm sc N ss ss') : SSs B cm sc N (s :: ss) (s' :: ss') := by
  intro X A C W O g1 g2
  refine PSs.imp (pss_cons (h1 X A C W O g1 g2) (h2 X A C W O g1 g2)) fun D σ H ⟨m, st, ρ, S, R, h⟩ => ?_
  unfold exs at h
  refine ⟨m, st, ρ, S, R, ?_⟩
  cases q : exS C s' ρ st with
  | nx ρ1 st1 => rw [q] at h; exact fun m' H' σ' l S' R' => ⟨m', st1, ρ1, S', R', FlR.later l h⟩
  | bk ρ1 st1 => rw [q] at h; exact h
  | ct ρ1 st1 => rw [q] at h; exact h
  | rt v st1 => rw [q] at h; exact h
  | exc c fs ρ1 st1 => rw [q] at h; exact h
  | bad => rw [q] at h; exact h
theorem SS.pass : SS B cm sc N (.Pass pos) .pass := fun X A C W _ _ _ => PS.imp ps_pass fun D σ H ⟨m, st, ρ, S, R, h⟩ => by
  unfold exS at h; exact h m H σ (Later.refl _ _) S R
theorem SS.brk : SS B cm sc N (.Break pos) .brk := fun X A C W _ _ _ => PS.imp ps_break fun D σ H ⟨m, st, ρ, S, R, h⟩ => by
  unfold exS at h; exact h m H σ (Later.refl _ _) S R
theorem SS.cont : SS B cm sc N (.Continue pos) .cont := fun X A C W _ _ _ => PS.imp ps_continue fun D σ H ⟨m, st, ρ, S, R, h⟩ => by
  unfold exS at h; exact h m H σ (Later.refl _ _) S R
theorem SS.doc {x : Str} {j : Nat} {pos' : Pos} : SS B cm sc N (.Expr (.Constant (.str x) j pos) pos') .pass := fun X A C W _ _ _ => PS.imp ps_doc fun D σ H ⟨m, st, ρ, S, R, h⟩ => by
  unfold exS at h; exact h m H σ (Later.refl _ _) S R
theorem SS.expr (he : SE B cm sc N e e') (hs : ∀ env, swapsWith e none pos.line env = pure false) : SS B cm sc N (.Expr e pos) (.expr e') := by
  intro X A C W O h1 h2
  refine PS.imp (ps_expr (he X A C W O.toXOk h1 h2) (hs _)) fun D σ H ⟨m, st, ρ, S, R, h⟩ => ?_
  unfold exS at h
  exact ⟨m, st, ρ, S, R, Fin.imp (FlR.fl (rel := rV X.K A) S R h) fun x H1 ⟨m1, st1, v, _, l, S1, r, h⟩ => h m1 H1 σ (Later.refl _ _) S1 (R.later S l)⟩
theorem SS.ret (he : SE B cm sc N e e') : SS B cm sc N (.Return (some e) pos) (.ret e') := by
  intro X A C W O h1 h2
  refine PS.imp (ps_ret (he X A C W O.toXOk h1 h2)) fun D σ H ⟨m, st, ρ, S, R, h⟩ => ?_
  unfold exS at h
  exact ⟨m, st, ρ, S, R, Fin.imp (FlR.fl (rel := rV X.K A) S R h) fun x H1 ⟨m1, st1, v, _, l, S1, r, h⟩ => h m1 H1 x (Later.refl _ _) S1 r⟩
theorem SS.retN : SS B cm sc N (.Return none pos) .retN := fun X A C W _ _ _ => PS.imp ps_retN fun D σ H ⟨m, st, ρ, S, R, h⟩ => by
  unfold exS at h; exact h m H .non (Later.refl _ _) S (by simp only [RV])
theorem SS.ife (hc : ST B cm sc N c c') (ha : SSs B cm sc N ss ss') (hb : SSs B cm sc N ss2 ss2') : SS B cm sc N (.If c ss ss2 pos) (.ife c' ss' ss2') := by
  intro X A C W O h1 h2
  refine PS.imp (ps_if (hc X A C W O.toXOk h1 h2) (ha X A C W O h1 h2) (hb X A C W O h1 h2)) fun D σ H ⟨m, st, ρ, S, R, h⟩ => ?_
  unfold exS at h
  refine ⟨m, st, ρ, S, R, Fin.imp (FlR.fl (rel := rV X.K A) S R h) fun x H1 ⟨m1, st1, v, _, l, S1, r, h⟩ => ?_⟩
  cases v with
  | bl k =>
    simp only [RV] at r
    refine ⟨k, r, ?_⟩
    cases k with
    | true => exact ⟨m1, st1, ρ, S1, R.later S l, h⟩
    | false => exact ⟨m1, st1, ρ, S1, R.later S l, h⟩
  | _ => exact h.elim

theorem no_pins {A : Ad} {C : Cn} {vs : List Nat} (hp : ∀ p ∈ A.pins, p.1 ∈ C.pins) (h : ¬ (C.pins.any vs.contains) = true) : ∀ p ∈ A.pins, p.1 ∉ vs :=
  fun p hp' q => h (List.any_eq_true.mpr ⟨p.1, hp p hp', by simpa using q⟩)
theorem SS.setN {x : Str} {j : Nat} {pos' : Pos} (hi : N[j]? = some x) (hx : Loc sc x) (he : SE B cm sc N e e') (hs : ∀ env, env.scope = sc → swapsWith e (some (.Name x pos')) pos.line env = pure false) : SS B cm sc N (.Assign [.Name x pos'] e pos) (.asg (.nm j) e') := by
  intro X A C W O h1 h2
  have hs' := hs X.env h1
  have hE := he X A C W O.toXOk h1 h2
  subst h1 h2
  refine PS.imp (ps_set O.nd hi hx hE hs' (.inl (O.fn _))) fun D σ H ⟨m, st, ρ, S, R, h⟩ => ?_
  unfold exS at h
  split at h
  · exact h.elim
  · rename_i hp
    refine ⟨m, st, ρ, S, R, Fin.imp (FlR.fl (rel := rV X.K A) S R h) fun y H1 ⟨m1, st1, v, _, l, S1, r, h⟩ => ?_⟩
    simp only [Tg.put] at h
    split at h
    · rename_i ρ' q
      split at q
      · cases q
        exact h m1 H1 _ (Later.refl _ _) S1 ((R.later S l).set r fun p hp' e => no_pins O.pins hp p hp' (by simp [Tg.vars, e]))
      · cases q
    · exact h.elim
theorem SS.asg {tg : Expr} {t : Tg} {F : List Str} (hg : SG F sc N tg t) (he : SE B true sc N e e') (hs : ∀ env, env.scope = sc → swapsWithSole [tg] e pos.line env = pure false) (hw : ∀ env, env.scope = sc → swappedStores [tg] e env = pure none) (hst : ∀ env, (assignEach [tg] env).map (·.2) = [assign tg env]) :
    SS B true sc N (.Assign [tg] e pos) (.asg t e') := by
  intro X A C W O h1 h2
  refine PS.imp (ps_asg (he X A C W O.toXOk h1 h2) (hg X A (O.calm rfl) O.nd (fun x _ => O.fn x) h1 h2) (hs _ h1) (hw _ h1) (hst _)) fun D σ H ⟨m, st, ρ, S, R, h⟩ => ?_
  unfold exS at h
  split at h
  · exact h.elim
  · rename_i hp
    refine ⟨m, st, ρ, S, R, Fin.imp (FlR.fl (rel := rV X.K A) S R h) fun y H1 ⟨m1, st1, v, _, l, S1, r, h⟩ => ?_⟩
    cases q : t.put v ρ with
    | none => rw [q] at h; exact h.elim
    | some ρ' => rw [q] at h; exact ⟨m1, st1, ρ, v, ρ', S1, R.later S l, r, q, no_pins O.pins hp, fun σ' R' _ => h m1 H1 σ' (Later.refl _ _) S1 R'⟩
/-- y = [..] where the store comes within the block -/
theorem SS.setLc {y : Str} {j : Nat} {py spos : Pos} {elt iter tg : Expr} {ifs : List Expr} {scope : Scope} {own : List (Str × Nat)} {elt' : Ex} {t : Tg} {it : MP.It} {ifs' : List Ex} {F : List Str} (hy : N[j]? = some y) (hyl : sc.names.lookup y = some .local)
    (hsw : ∀ env, env.scope = sc → swapsWith (.ListComp elt [⟨tg, iter, ifs, 0⟩] scope pos) (some (.Name y py)) spos.line env = pure true)
    (hb : blkC N sc scope own = true) (hF : ∀ x ∈ F, scope.names.lookup x = some .cell) (hv : ∀ i ∈ t.vars, i ∈ own.map (·.2))
    (hi : SI B true sc N tg iter it) (hg : SG F (relS scope sc) N tg t) (ht : SPTs B true (relS scope sc) N ifs ifs') (he : SE B true (relS scope sc) N elt elt') (hs : ∀ env x, foldedSetIterable iter env x = pure x) :
    SS B true sc N (.Assign [.Name y py] (.ListComp elt [⟨tg, iter, ifs, 0⟩] scope pos) spos) (.asg (.nm j) (.lx (.lc (own.map (·.2)) elt' t it ifs'))) := by
  intro X A C W O h1 h2
  have L := LcP.of (A := A) (C := C) O.toXOk h1 h2 hb hF hi hg ht he
  have hsw' := hsw X.env h1
  subst h1 h2
  refine PS.imp (ps_setLc (O.calm rfl) O.nd hy hyl hsw' L.pi L.ok L.pg L.pt L.pe (hs _)) fun D σ H ⟨m, st, ρ, S, R, h⟩ => ?_
  show tLc _ _ _ _ _ σ H (fun x H1 => gName j x σ H1 D.nx)
  refine lc_read hv O.pins ?_
  unfold exS at h
  split at h
  · exact h.elim
  · rename_i hp
    unfold ev at h
    have h2 : FlR X.K A W m H D ((evL C (.lc (own.map (·.2)) elt' t it ifs') ρ st).fl ρ fun vs st1 => match Tg.put (.nm j) (.ref st1.length) ρ with
      | some ρ' => .nx ρ' (st1 ++ [.lst vs])
      | none => .bad) := by
      revert h
      cases evL C (.lc (own.map (·.2)) elt' t it ifs') ρ st with
      | ok vs st1 => exact fun h => h
      | exc c fs st1 => exact fun h => h
      | bad => exact fun h => h
    refine ⟨m, st, ρ, S, R, Fin.imp (FlR.fl0 (rel := rF X.K A H) S R h2) fun x H1 ⟨m1, st1, vs, _, l, S1, r, h⟩ => ?_⟩
    obtain ⟨p, ys, rfl, hn, hm, hp1, hl, hr⟩ := r
    simp only [Tg.put] at h
    split at h
    · rename_i ρ' q
      split at q
      · cases q
        have L2 := l.take hn
        refine h (m1 ++ [p]) H1 _ L2 (S1.wide hm (S.since hn) ⟨ys, hp1, hl, hr⟩) ((R.later S L2).set ?_ fun p hp' e => no_pins O.pins hp p hp' (by simp [Tg.vars, e]))
        simp only [RV]
        exact ⟨p, by rw [← S1.len, List.getElem?_append_right (Nat.le_refl _), Nat.sub_self]; rfl, rfl⟩
      · cases q
    · exact h.elim
/-- o[i] = e -/
theorem SS.set {p2 : Pos} (ho : SE B cm sc N o o') (hi : SE B cm sc N i i') (he : SE B cm sc N e e') (hs : ∀ env, swapsWithSole [.Subscript o i p2] e pos.line env = pure false) (hw : ∀ env, swappedStores [.Subscript o i p2] e env = pure none)
    (ha : ∀ env v, assign (.Subscript o i p2) env v = (do
      let ov ← holding [v] (eval o env)
      let iv ← holding [v, ov] (eval i env)
      standAt p2
      holding [v, ov, iv] (setItem ov iv v)
      release [v, ov, iv] [])) : SS B cm sc N (.Assign [.Subscript o i p2] e pos) (.set o' i' e') := by
  intro X A C W O h1 h2
  refine PS.imp (ps_asg (he X A C W O.toXOk h1 h2) (pg_sub (ho X A C W O.toXOk h1 h2) (hi X A C W O.toXOk h1 h2) (set_any (A := A)) (ha _)) (hs _) (hw _) rfl) fun D σ H ⟨m, st, ρ, S, R, h⟩ => ?_
  unfold exS at h
  refine ⟨m, st, ρ, S, R, Fin.imp (FlR.fl (rel := rV X.K A) S R h) fun y H1 ⟨m1, st1, v, _, l, S1, r, h⟩ => ?_⟩
  have R1 := R.later S l
  refine ⟨m1, st1, ρ, S1, R1, Fin.imp (FlR.fl (rel := rV X.K A) S1 R1 h) fun y2 H2 ⟨m2, st2, v2, _, l2, S2, r2, h⟩ => ?_⟩
  have R2 := R1.later S1 l2
  refine ⟨m2, st2, ρ, S2, R2, Fin.imp (FlR.fl (rel := rV X.K A) S2 R2 h) fun y3 H3 ⟨m3, st3, v3, _, l3, S3, r3, h⟩ => ?_⟩
  refine ⟨m3, st3, v2, v3, v, S3, r2.later S2 l3, r3, (r.later S1 l2).later S2 l3, ?_⟩
  have R3 := R2.later S2 l3
  revert h
  have ne : ∀ c fs st', setOp v2 v3 v st3 ≠ .exc c fs st' := fun c fs st' => by
    unfold setOp
    split
    · split
      · split
        · intro q; cases q
        · intro q; cases q
      · intro q; cases q
    · intro q; cases q
  cases q : setOp v2 v3 v st3 with
  | ok v st4 => exact fun h m' H' x l' S' _ => h m' H' σ l' S' (R3.later S3 l')
  | exc c fs st4 => exact absurd q (ne _ _ _)
  | bad => exact fun h => h
/-- a, b = x, y by plain local names -/
theorem SS.par {x y : Str} {i j : Nat} {px py pt pt2 : Pos} {kt k2 : Nat} (hi : N[i]? = some x) (hj : N[j]? = some y) (hij : i ≠ j) (hx : sc.names.lookup x = some .local) (hy : sc.names.lookup y = some .local) (ha : SEs B true sc N [a, b] [a', b'])
    (hw : ∀ env, env.scope = sc → swappedStores [.Tuple [.Name x px, .Name y py] kt pt] (.Tuple [a, b] k2 pt2) env = pure (some [x, y])) :
    SS B true sc N (.Assign [.Tuple [.Name x px, .Name y py] kt pt] (.Tuple [a, b] k2 pt2) pos) (.asg (.tup [.nm i, .nm j]) (.tup [a', b'])) := by
  intro X A C W O h1 h2
  have hw' := hw X.env h1
  have HA := ha X A C W O.toXOk h1 h2
  subst h1 h2
  refine PS.imp (ps_par (O.calm rfl) O.nd hi hj hij hx hy HA hw') fun D σ H ⟨m, st, ρ, S, R, h⟩ => ?_
  unfold exS at h
  split at h
  · exact h.elim
  · rename_i hp
    have hp' := no_pins O.pins hp
    unfold ev at h
    have h2 : FlR X.K A W m H D ((evs C [a', b'] ρ st).fl ρ fun vs st => match Tg.put (.tup [.nm i, .nm j]) (.tup vs) ρ with
      | some ρ' => .nx ρ' st
      | none => .bad) := by
      revert h
      cases evs C [a', b'] ρ st with
      | ok vs st1 => exact fun h => h
      | exc c fs st1 => exact fun h => h
      | bad => exact fun h => h
    refine ⟨m, st, ρ, S, R, Fin.imp (FlR.fl (rel := rVs X.K A) S R h2) fun xs H1 ⟨m1, st1, vs, e, l, S1, r, h⟩ => ?_⟩
    have hl := evs_len e
    match vs, hl with
    | [v, w], _ =>
      simp only [RVs] at r
      obtain ⟨z1, _, rfl, r1, z2, _, rfl, r2, rfl⟩ := r
      refine ⟨z1, z2, rfl, ?_⟩
      have R1 := R.later S l
      simp only [Tg.put, Tg.puts] at h
      split at h
      · rename_i ρ' q
        split at q
        · rename_i ρ1 q1
          split at q1
          · cases q1
            split at q
            · rename_i ρ2 q2
              split at q2
              · cases q2; cases q
                exact h m1 H1 _ (Later.refl _ _) S1 ((R1.set r1 fun p hp2 e => hp' p hp2 (by simp [Tg.vars, Tg.varss, e])).set r2 fun p hp2 e => hp' p hp2 (by simp [Tg.vars, Tg.varss, e]))
              · cases q2
            · cases q
          · cases q1
        · cases q
      · exact h.elim
theorem SS.par3 {x y z : Str} {i j k : Nat} {px py pz pt pt2 : Pos} {kt k2 : Nat} (hi : N[i]? = some x) (hj : N[j]? = some y) (hk : N[k]? = some z) (hij : i ≠ j) (hik : i ≠ k) (hjk : j ≠ k) (hx : sc.names.lookup x = some .local) (hy : sc.names.lookup y = some .local) (hz : sc.names.lookup z = some .local) (ha : SEs B true sc N [a, b, c] [a', b', c'])
    (hw : ∀ env, env.scope = sc → swappedStores [.Tuple [.Name x px, .Name y py, .Name z pz] kt pt] (.Tuple [a, b, c] k2 pt2) env = pure (some [x, y, z])) :
    SS B true sc N (.Assign [.Tuple [.Name x px, .Name y py, .Name z pz] kt pt] (.Tuple [a, b, c] k2 pt2) pos) (.asg (.tup [.nm i, .nm j, .nm k]) (.tup [a', b', c'])) := by
  intro X A C W O h1 h2
  have hw' := hw X.env h1
  have HA := ha X A C W O.toXOk h1 h2
  subst h1 h2
  refine PS.imp (ps_par3 (O.calm rfl) O.nd hi hj hk hij hik hjk hx hy hz HA hw') fun D σ H ⟨m, st, ρ, S, R, h⟩ => ?_
  unfold exS at h
  split at h
  · exact h.elim
  · rename_i hp
    have hp' := no_pins O.pins hp
    unfold ev at h
    have h2 : FlR X.K A W m H D ((evs C [a', b', c'] ρ st).fl ρ fun vs st => match Tg.put (.tup [.nm i, .nm j, .nm k]) (.tup vs) ρ with
      | some ρ' => .nx ρ' st
      | none => .bad) := by
      revert h
      cases evs C [a', b', c'] ρ st with
      | ok vs st1 => exact fun h => h
      | exc c fs st1 => exact fun h => h
      | bad => exact fun h => h
    refine ⟨m, st, ρ, S, R, Fin.imp (FlR.fl (rel := rVs X.K A) S R h2) fun xs H1 ⟨m1, st1, vs, e, l, S1, r, h⟩ => ?_⟩
    have hl := evs_len e
    match vs, hl with
    | [v, w, u], _ =>
      simp only [RVs] at r
      obtain ⟨z1, _, rfl, r1, z2, _, rfl, r2, z3, _, rfl, r3, rfl⟩ := r
      have R1 := R.later S l
      simp only [Tg.put, Tg.puts] at h
      have hlen : ρ.length = ρ.length := rfl
      by_cases k1 : i < ρ.length
      · by_cases k2 : j < ρ.length
        · by_cases k3 : k < ρ.length
          · simp only [k1, k2, k3, List.length_set, if_true] at h
            have RR := ((R1.set (i := i) r1 fun p hp2 e => hp' p hp2 (by simp [Tg.vars, Tg.varss, e])).set (i := j) r2 fun p hp2 e => hp' p hp2 (by simp [Tg.vars, Tg.varss, e])).set (i := k) r3 fun p hp2 e => hp' p hp2 (by simp [Tg.vars, Tg.varss, e])
            exact ⟨z1, z2, z3, rfl, h m1 H1 _ (Later.refl _ _) S1 RR⟩
          · simp only [k1, k2, k3, List.length_set, if_true, if_false] at h; exact h.elim
        · simp only [k1, k2, List.length_set, if_true, if_false] at h; exact h.elim
      · simp only [k1, if_false] at h; exact h.elim
end
end MP
set_option linter.all false
set_option Elab.async false
set_option maxRecDepth 100000
set_option maxHeartbeats 2000000
namespace MP
open PySem PySem.Spec PyProof.Rows L2
section
variable {B : Tb} {cm : Bool} {sc : Scope} {N : List Str} {e a b c o i : Expr} {e' a' b' c' o' i' : Ex} {es : List Expr} {es' : List Ex} {pos : Pos} {s : Stmt} {s' : MP.St} {ss ss2 : List Stmt} {ss' ss2' : List MP.St}
theorem SS.while_ (hc : ST B cm sc N c c') (hb : SSs B cm sc N ss ss') : SS B cm sc N (.While c ss [] pos) (.while_ c' ss') := by
  intro X A C W O h1 h2
  refine PS.imp (ps_while O.po (hc X A C W O.toXOk h1 h2) (hb X A C W O h1 h2)) fun D σ H ⟨m, st, ρ, S, R, h⟩ => ?_
  unfold exS at h
  refine ⟨fun n σ H => ∃ m st ρ, Sim X.K A m st H ∧ EnvR X.K A H m ρ σ ∧ FlR X.K A W m H D (whileLoop (fun ρ st => ev C c' ρ st) (fun ρ st => exs C ss' ρ st) n ρ st), ⟨wfuel, m, st, ρ, S, R, h⟩, ?_⟩
  rintro n σ H ⟨m, st, ρ, S, R, h⟩
  cases n with
  | zero => exact h.elim
  | succ n =>
    simp only [whileLoop] at h
    refine ⟨m, st, ρ, S, R, Fin.imp (FlR.fl (rel := rV X.K A) S R h) fun x H1 ⟨m1, st1, v, _, l, S1, r, h⟩ => ?_⟩
    cases v with
    | bl k =>
      simp only [RV] at r
      refine ⟨k, r, ?_⟩
      cases k with
      | true =>
        simp only [if_true]
        refine ⟨fun σ' H' => ∃ m st ρ, Sim X.K A m st H' ∧ EnvR X.K A H' m ρ σ' ∧ FlR X.K A W m H' D (whileLoop (fun ρ st => ev C c' ρ st) (fun ρ st => exs C ss' ρ st) n ρ st), fun σ' H' w => ⟨n, Nat.lt_succ_self n, w⟩, m1, st1, ρ, S1, R.later S l, ?_⟩
        simp only at h
        cases q : exs C ss' ρ st1 with
        | nx ρ2 st2 => rw [q] at h; exact fun m' H' σ' l' S' R' => ⟨m', st2, ρ2, S', R', FlR.later l' h⟩
        | ct ρ2 st2 => rw [q] at h; exact fun m' H' σ' l' S' R' => ⟨m', st2, ρ2, S', R', FlR.later l' h⟩
        | bk ρ2 st2 => rw [q] at h; exact h
        | rt v st2 => rw [q] at h; exact h
        | exc c fs ρ2 st2 => rw [q] at h; exact h
        | bad => rw [q] at h; exact h
      | false =>
        simp only [Bool.false_eq_true, if_false]
        exact h m1 H1 σ (Later.refl _ _) S1 (R.later S l)
    | _ => exact h.elim
theorem SS.for_ {tg iter : Expr} {t : Tg} {it : MP.It} {F : List Str} (hg : SG F sc N tg t) (hi : SI B true sc N tg iter it) (hb : SSs B true sc N ss ss') (hs : ∀ env x, foldedSetIterable iter env x = pure x) : SS B true sc N (.For tg iter ss [] pos) (.for_ t it ss') := by
  intro X A C W O h1 h2
  refine PS.imp (ps_for O.po (O.calm rfl) (hi X A C W O.toXOk h1 h2) (hg X A (O.calm rfl) O.nd (fun x _ => O.fn x) h1 h2) (hb X A C W O h1 h2) (hs _)) fun D σ H ⟨m, st, ρ, S, R, h⟩ => ?_
  unfold exS at h
  split at h
  · exact h.elim
  rename_i hp
  have hp' := no_pins O.pins hp
  refine ⟨m, st, ρ, S, R, Fin.imp (FlR.fl (rel := rI X.K A) S R h) fun J H1 ⟨m1, st1, s, e, l, S1, r, h⟩ => ?_⟩
  obtain ⟨hsz, hw⟩ := r
  generalize hpu : (fun (x : PV) (ρ : Env) => t.put x ρ) = put at h
  generalize hbo : (fun (ρ : Env) (st : Store) => exs C ss' ρ st) = body at h
  let Pv : Nat → L2.St → Hp → Prop := fun i σ H2 => ∃ m2 st2 ρ2, Later m1 H1 m2 H2 ∧ Sim X.K A m2 st2 H2 ∧ EnvR X.K A H2 m2 ρ2 σ ∧ FlR X.K A W m2 H2 D (forLoop s.watch put body (s.items.drop i) ρ2 st2)
  refine ⟨fun i n σ H2 => n = s.items.length - i ∧ i ≤ s.items.length ∧ Pv i σ H2, ⟨s.items.length, by simp, Nat.zero_le _, m1, st1, ρ, Later.refl _ _, S1, R.later S l, h⟩, ?_⟩
  rintro i n σ2 H2 ⟨rfl, hi2, m2, st2, ρ2, l2, S2, R2, h⟩
  have hok : Src.ok s.watch st2 = true := by
    cases q : Src.ok s.watch st2 with
    | true => rfl
    | false =>
      exfalso
      cases q2 : s.items.drop i with
      | nil => rw [q2] at h; simp only [forLoop, q] at h; exact h
      | cons v vs => rw [q2] at h; simp only [forLoop, q] at h; exact h
  obtain ⟨hgo, hstop⟩ := hw m2 st2 H2 l2 S2 hok
  by_cases hlt : i < s.items.length
  · have hx : s.items[i]? = some s.items[i] := List.getElem?_eq_getElem hlt
    have hdr : s.items.drop i = s.items[i] :: s.items.drop (i + 1) := List.drop_eq_getElem_cons hlt
    obtain ⟨go, yld⟩ := hgo i _ hx
    rw [hdr] at h
    simp only [forLoop, hok, if_true] at h
    refine .inr ⟨go, Pv (i + 1), fun σ' H' p' => ⟨s.items.length - (i + 1), by omega, rfl, hlt, p'⟩, fun x H3 y => ?_⟩
    obtain ⟨l3, S3, r3⟩ := yld x H3 y
    cases q : put s.items[i] ρ2 with
    | none => rw [q] at h; exact h.elim
    | some ρ3 =>
      rw [q] at h
      simp only at h
      refine ⟨m2, st2, ρ2, s.items[i], ρ3, S3, R2.later S2 l3, r3, by rw [← hpu] at q; exact q, hp', fun σ' R' _ => ?_⟩
      have h := FlR.later l3 h
      refine ⟨m2, st2, ρ3, S3, R', ?_⟩
      have eb : exs C ss' ρ3 st2 = body ρ3 st2 := by rw [← hbo]
      rw [eb]
      cases q : body ρ3 st2 with
      | nx ρ4 st4 => rw [q] at h; exact fun m' H' σ' l' S' R' => ⟨m', st4, ρ4, (l2.trans l3).trans l', S', R', FlR.later l' h⟩
      | ct ρ4 st4 => rw [q] at h; exact fun m' H' σ' l' S' R' => ⟨m', st4, ρ4, (l2.trans l3).trans l', S', R', FlR.later l' h⟩
      | bk ρ4 st4 => rw [q] at h; exact h
      | rt v st4 => rw [q] at h; exact h
      | exc c fs ρ4 st4 => rw [q] at h; exact h
      | bad => rw [q] at h; exact h
  · have e : i = s.items.length := by omega
    subst e
    rw [List.drop_length] at h
    simp only [forLoop, hok, if_true] at h
    exact .inl ⟨hstop, h m2 H2 σ2 (Later.refl _ _) S2 R2⟩
theorem SS.augI {x : Str} {j : Nat} {pos' : Pos} (op : Operator) (hop : op = .Add ∨ op = .Sub) (hi : N[j]? = some x) (hx : Loc sc x) (he : SE B cm sc N e e') : SS B cm sc N (.AugAssign (.Name x pos') op e pos) (.aug j op e') := by
  intro X A C W O h1 h2
  have hE := he X A C W O.toXOk h1 h2
  subst h1 h2
  have key : ∀ (ti : TIp), PIp X op ti → (∀ (a b : Int) (H1 : Hp) (Q : VK), (match op with | .Add => Q (.int (a + b)) H1 | _ => Q (.int (a - b)) H1) → ti (.int a) (.int b) H1 Q) → PS X (.AugAssign (.Name x pos') op e pos) (TFl X.K A W (exS C (.aug j op e'))) := by
    intro ti hti hQ
    refine PS.imp (ps_aug O.nd hi hx hE hti (.inl (O.fn _))) fun D σ H ⟨m, st, ρ, S, R, h⟩ => ?_
    unfold exS at h
    split at h
    · exact h.elim
    rename_i hp
    have hp' : ∀ p ∈ A.pins, p.1 ≠ j := fun p hp2 e => hp (by
      have := O.pins p hp2
      rw [e] at this
      simpa using this)
    split at h
    · rename_i v q
      obtain ⟨xv, g1, g2⟩ := R.2.1 j v q
      refine ⟨xv, g1, m, st, ρ, S, R, Fin.imp (FlR.fl (rel := rV X.K A) S R h) fun y H1 ⟨m1, st1, w, _, l, S1, r, h⟩ => ?_⟩
      have R1 := R.later S l
      split at h
      · simp only [RV] at g2 r
        subst g2 r
        refine hQ _ _ _ _ ?_
        exact h m1 H1 _ (Later.refl _ _) S1 (R1.set (by simp only [RV]) hp')
      · simp only [RV] at g2 r
        subst g2 r
        refine hQ _ _ _ _ ?_
        exact h m1 H1 _ (Later.refl _ _) S1 (R1.set (by simp only [RV]) hp')
      · exact h.elim
    · exact h.elim
  rcases hop with rfl | rfl
  · exact key _ ip_add fun a b H1 Q h => ⟨a, b, rfl, rfl, h⟩
  · exact key _ ip_sub fun a b H1 Q h => ⟨a, b, rfl, rfl, h⟩

/-- X(), X an own exception without own __init__ -/
theorem pmk_own0 {X : Cx} {C : Addr} {bmB : List Value} {T newId initId : String} {x : Str} {p : Pos} (F : ExcBaseFacts T newId initId bmB) (q : PySem.W.excIn X.K C bmB newId = true) (gC : X.mg x = some (.ref C)) (kC : PySem.W.keepIn X.K (.ref C) = true) (r : Raises X (.ref C)) (hg : Gl X x)
    (hdb : (x == ("__debug__" : Str)) = false) : PMk X (.Call (.Name x p) [] [] pos) (fun _ H Q => Q (.ref C) none H) := by
  intro pins s σ H Q I h
  refine wpAny_Call_Name_kw (ld_glob I hg gC ?_ hdb)
  refine PySem.W.callWith_K0 I.kIn kC ?_
  show wpAny _ _ (call (.ref C) []) _ _ _
  obtain ⟨bm, N, nm, qn, bs, hdct, sn, sub, ab, col, dd, k0, k1, k2, k3, k5, mN, hC, hN, hni, T⟩ := exc_obj I.kIn q
  refine wpAny_call_exc_subT F T hC hN hni (fun h' e hm => ?_) (Nat.zero_le _)
  exact mk_of I hm r h (I.hok.gone hm.new)
theorem SS.raise0 {x : Str} {k : Nat} {p pos' : Pos} (hg : sc.names.lookup x = some .globalImplicit) (hc : B.clss[k]? = some x) (hd : (x == ("__debug__" : Str)) = false) : SS B true sc N (.Raise (some (.Call (.Name x p) [] [] pos)) none pos') (.raise k []) := by
  intro X A C W O h1 h2
  have hgl : Gl X x := by subst h1; exact hg
  by_cases he : C.S.ise k = true
  · obtain ⟨g1, g2⟩ := O.kie.made k he
    obtain ⟨r1, r2⟩ := O.kie.rs k he
    refine PS.imp (ps_raise (O.calm rfl) O.tk (pmk_own0 PySem.F.excBase_ValueError g2 (O.gf.cl k x hc) g1 (raises_own r1 r2) hgl hd)) fun D σ H ⟨m, st, ρ, S, R, h⟩ => ?_
    unfold exS at h
    simp only [evs, Res.fl_ok, he, if_true] at h
    exact h m H σ _ _ (Later.refl _ _) S R ⟨rfl, .inl ⟨rfl, rfl⟩⟩
  · refine PS.imp ps_never fun D σ H ⟨m, st, ρ, S, R, h⟩ => ?_
    unfold exS at h
    simp only [evs, Res.fl_ok, he] at h
    exact h

theorem FlR.out {K : PySem.W.Frag} {A : Ad} {W : WX} {m : List Addr} {H : Hp} {D : Ends} {f : Fl} : FlR K A W m H D f → FlR K A W m H D f := id
end
/-- the context of a try's body -/
theorem SOk.tr {B : Tb} {A : Ad} {C : Cn} {X : Cx} {W W' : WX} (O : SOk B A C X W true) {pn : List (Addr × Obj)} {xe : Value → Shared → Prop} (tk : Takes (X.tr pn xe) W') (po : PassesOwn (model X.prog X.w) X.A X.env xe) : SOk B A C (X.tr pn xe) W' true where
  calm := O.calm
  tk := tk
  nd := O.nd
  hu := O.hu
  hg := O.hg
  kit := O.kit
  kie := O.kie
  gf := O.gf
  room := O.room
  fns := O.fns
  lams := O.lams
  pins := O.pins
  th := fun r hr W2 pn2 xe2 tk2 a p1 p2 ha => O.th r hr W2 pn2 xe2 tk2 a p1 p2 ha
  erc := O.erc
  ar := O.ar
  lv := O.lv
  tab := O.tab
  er := fun i c fs e => by rw [O.erc rfl] at e; cases e
  fn := O.fn
  po := po
  hs := O.hs
  hf := O.hf
/-- a pin more -/
def Ad.pin (A : Ad) (i : Nat) (a : Addr) : Ad := { A with pins := (i, a) :: A.pins }
/-- the context of an except suite -/
theorem SOk.suite {B : Tb} {A A' : Ad} {C C' : Cn} {X : Cx} {W : WX} (O : SOk B A C X W true) {a : Addr} {pn : List (Addr × Obj)} (hS : C'.S = C.S) (hth : C'.th = none) (htb : C'.tab = false) (hbase : A'.base = A.base) (hp : ∀ p ∈ A'.pins, p.1 ∈ C'.pins)
    (her : ∀ i c fs, C'.er = some (i, c, fs) → ∃ b, (i, b) ∈ A'.pins ∧ (fs = [] → C'.S.ise c = true → CallR (X.suite a pn) (.builtin "isinstance") (rIsE X.K (A.ca c) b))) : SOk B A' C' (X.suite a pn) (fun _ _ _ _ => False) false :=
  have hfa : A'.fa = A.fa := (show A'.base.fa = A.base.fa by rw [hbase])
  have hca : A'.ca = A.ca := (show A'.base.ca = A.base.ca by rw [hbase])
  { calm := fun e => nomatch e
    tk := takes0
    nd := O.nd
    hu := O.hu
    hg := O.hg
    kit := by
      have k := O.kit
      exact ⟨by rw [hS, hca]; exact k.own, by rw [hS, hca]; exact k.tc, by rw [hS, hca]; exact k.ct, by rw [hS, hca]; exact k.cc⟩
    kie := by
      have k := O.kie
      exact ⟨by rw [hS, hca]; exact k.ex, by rw [hS, hca]; exact k.kit, by rw [hS, hca]; exact k.val, by rw [hS, hca]; exact k.exm, by rw [hS, hca]; exact k.rs, by rw [hS, hca]; exact k.made⟩
    gf := by
      have k := O.gf
      exact ⟨k.fr, k.co, by rw [hfa]; exact k.fn, by rw [hca]; exact k.cl⟩
    room := fun e => nomatch e
    fns := by rw [hbase, hS, hfa]; exact O.fns
    lams := by rw [hbase, hS]; exact O.lams
    pins := hp
    th := fun r hr => by rw [hth] at hr; cases hr
    erc := fun e => nomatch e
    ar := by rw [hS]; exact O.ar
    lv := fun e => nomatch e
    tab := fun e => by rw [htb] at e; cases e
    er := by rw [hca]; exact her
    fn := O.fn
    po := PassesOwn.never
    hs := O.hs
    hf := O.hf }

section
variable {K : PySem.W.Frag} {A A' : Ad} {m m' : List Addr} {st st' : Store} {H H' : Hp}
theorem TabK.pinned (t : TabK A H) (hb : A'.tabs = A.tabs) (hk : A'.kp = A.kp) : TabK A' H := ⟨by rw [hb]; exact t.1, by rw [hk]; exact t.2⟩
theorem Sim.pin {i : Nat} {a : Addr} (S : Sim K A m st H) : Sim K (A.pin i a) m st H := Sim.ad (A := A) (A' := A.pin i a) rfl rfl S (S.tb.pinned rfl rfl) S.sn
theorem Sim.unpin {i : Nat} {a : Addr} (S : Sim K (A.pin i a) m st H) : Sim K A m st H := Sim.ad (A := A.pin i a) (A' := A) rfl rfl S (S.tb.pinned rfl rfl) S.sn
theorem EnvR.pin {i : Nat} {a : Addr} {ρ : Env} {σ : L2.St} (h : EnvR K A H m ρ σ) (hi : i < ρ.length) (hp : ∀ p ∈ A.pins, p.1 ≠ i) : EnvR K (A.pin i a) H m (ρ.set i none) (σ.set i (some (.ref a))) := by
  obtain ⟨h1, h2, h3⟩ := h.setN (i := i) (x := some (.ref a)) hp
  refine ⟨h1, fun j v e => ?_, fun p hp' => ?_⟩
  · obtain ⟨x, g1, g2⟩ := h2 j v e
    exact ⟨x, g1, RV.ad (A := A) (A' := A.pin i a) rfl rfl g2⟩
  · have hp' : p ∈ (i, a) :: A.pins := hp'
    rcases List.mem_cons.mp hp' with e | hp'
    · subst e
      exact List.getElem?_set_self (by rw [← h.1]; exact hi)
    · exact h3 p hp'
theorem EnvR.unpin {i : Nat} {a : Addr} {ρ : Env} {σ : L2.St} (h : EnvR K (A.pin i a) H m ρ σ) (hp : ∀ p ∈ A.pins, p.1 ≠ i) : EnvR K A H m (ρ.set i none) (σ.set i none) := by
  refine EnvR.setN (A := A) ⟨h.1, fun j v e => ?_, fun p hp' => h.2.2 p (List.mem_cons_of_mem _ hp')⟩ hp
  obtain ⟨x, g1, g2⟩ := h.2.1 j v e
  exact ⟨x, g1, RV.ad (A := A.pin i a) (A' := A) rfl rfl g2⟩
/-- the suite's end -/
def sufl (nm : Option Nat) : Fl → Fl
  | .nx ρ3 st3 => .nx (match nm with | some i => ρ3.set i none | none => ρ3) st3
  | .rt v st3 => .rt v st3
  | _ => .bad
end
section
variable {B : Tb} {sc : Scope} {N : List Str} {body suite : List Stmt} {b₀ : Stmt} {body' suite' : List MP.St} {x n : Str} {k i : Nat} {np pos pos' : Pos}
theorem SS.tryAs (hb : SSs B true sc N body body') (hsu : SSs B false sc N (b₀ :: suite) suite') (hg : sc.names.lookup x = some .globalImplicit) (hc : B.clss[k]? = some x) (hd : (x == ("__debug__" : Str)) = false) (hi : N[i]? = some n) (hln : sc.names.lookup n = some .local) :
    SS B true sc N (.Try body [.ExceptHandler (some (.Name x np)) (some n) (b₀ :: suite) pos'] [] [] pos) (.try_ body' (.cls k) (some i) suite') := by
  intro X A C W O h1 h2
  have hnames : Names X x (.ref (A.ca k)) := ⟨by subst h1; exact hg, hd, .inl (O.gf.cl k x hc)⟩
  have hln' : X.env.kindOf n = some .local := by subst h1; exact hln
  have hi' : X.N[i]? = some n := by subst h2; exact hi
  refine PS.imp (ps_try_as (Wout := W) (tb := fun W' => TFl X.K A W' (exs C body')) (ts := fun a cls d => fun D σ H => ∃ c m st ρ, cls = .ref (A.ca c) ∧ d = none ∧ C.S.ise c = true ∧ (∀ p ∈ A.pins, p.1 ≠ i) ∧
      Sim X.K (A.pin i a) m st H ∧ EnvR X.K (A.pin i a) H m ρ σ ∧ FlR X.K (A.pin i a) (fun _ _ _ _ => False) m H D (exs ⟨C.S, none, some (i, c, []), i :: C.pins, false, 0⟩ suite' ρ st))
      O.hs O.hf O.nd hi' hln' hnames O.tk (fun W' pn xe tk po => hb (X.tr pn xe) A C W' (O.tr tk po) h1 h2) (fun a oe cls d pn hz hf => ?_)) fun D σ H ⟨m, st, ρ, S, R, h⟩ => ?_
  · refine ⟨fun pins s σ H D I ⟨c, m, st, ρ, e1, e2, e3, hpi, S, R, h⟩ => ?_⟩
    subst e1 e2
    have O' : SOk B (A.pin i a) ⟨C.S, none, some (i, c, []), i :: C.pins, false, 0⟩ (X.suite a ((a, oe) :: pn)) (fun _ _ _ _ => False) false := by
      refine O.suite rfl rfl rfl rfl (fun p hp => ?_) fun j c' fs e => ?_
      · have hp : p ∈ (i, a) :: A.pins := hp
        rcases List.mem_cons.mp hp with e | hp
        · subst e; exact List.mem_cons_self
        · exact List.mem_cons_of_mem _ (O.pins p hp)
      · cases e
        exact ⟨a, List.mem_cons_self, fun _ _ => call_isE (O.kie.ex c e3) hz hf⟩
    exact (hsu _ _ _ _ O' h1 h2).run pins s σ H D I ⟨m, st, ρ, S, R, h⟩
  · unfold exS at h
    refine ⟨m, st, ρ, S, R, ?_⟩
    cases q : exs C body' ρ st with
    | nx ρ1 st1 => rw [q] at h; exact h
    | bk ρ1 st1 => rw [q] at h; exact h
    | ct ρ1 st1 => rw [q] at h; exact h
    | rt v st1 => rw [q] at h; exact h
    | bad => rw [q] at h; exact h
    | exc c fs ρ1 st1 =>
      rw [q] at h
      intro m' H' σ' cls d l S' R' ⟨e1, e2⟩
      simp only [errOk] at h
      by_cases hk : (C.S.ise c && C.S.ise k) = true
      · rw [if_pos hk] at h
        rw [Bool.and_eq_true] at hk
        have hx := O.kie.exm c k hk.1 hk.2
        subst e1
        refine ⟨_, hx, fun hs a na => ?_, fun hs => ?_⟩
        · rw [hs] at h
          cases fs with
          | cons f fs => exact h.elim
          | nil =>
          simp only at h
          split at h
          · exact h.elim
          rename_i hpc
          rw [not_or] at hpc
          have hpi : ∀ p ∈ A.pins, p.1 ≠ i := fun p hp e => hpc.1 (by have := O.pins p hp; rw [e] at this; simpa using this)
          have hd : d = none := by
            rcases e2 with e2 | ⟨ne, _⟩
            · exact e2.2
            · exact absurd rfl ne
          subst hd
          refine ⟨c, m', st1, ρ1.set i none, rfl, rfl, hk.1, hpi, S'.pin, R'.pin (by omega) hpi, ?_⟩
          have h := FlR.later l h
          revert h
          cases exs ⟨C.S, none, some (i, c, []), i :: C.pins, false, 0⟩ suite' (ρ1.set i none) st1 with
          | nx ρ3 st3 => exact fun h m2 H2 σ2 l2 S2 R2 => h m2 H2 _ l2 S2.unpin (R2.unpin hpi)
          | rt v st3 => exact fun h m2 H2 x2 l2 S2 r2 => h m2 H2 x2 l2 S2.unpin (RV.ad (A := A.pin i a) (A' := A) rfl rfl r2)
          | bk ρ3 st3 => exact fun h => h.elim
          | ct ρ3 st3 => exact fun h => h.elim
          | exc c fs ρ3 st3 => exact fun h => h.elim
          | bad => exact fun h => h.elim
        · rw [hs] at h
          exact h m' H' σ' _ d l S' R' ⟨rfl, e2⟩
      · rw [if_neg hk] at h
        exact h.elim
theorem SS.tryOnly (hb : SSs B true sc N body body') (hsu : SSs B false sc N (b₀ :: suite) suite') (hg : sc.names.lookup x = some .globalImplicit) (hc : B.clss[k]? = some x) (hd : (x == ("__debug__" : Str)) = false) :
    SS B true sc N (.Try body [.ExceptHandler (some (.Name x np)) none (b₀ :: suite) pos'] [] [] pos) (.try_ body' (.cls k) none suite') := by
  intro X A C W O h1 h2
  have hnames : Names X x (.ref (A.ca k)) := ⟨by subst h1; exact hg, hd, .inl (O.gf.cl k x hc)⟩
  refine PS.imp (ps_try_only (Wout := W) (tb := fun W' => TFl X.K A W' (exs C body')) (ts := fun a cls d => TFl X.K A (fun _ _ _ _ => False) (exs ⟨C.S, none, none, C.pins, false, 0⟩ suite'))
      O.hs O.hf hnames O.tk (fun W' pn xe tk po => hb (X.tr pn xe) A C W' (O.tr tk po) h1 h2) (fun a oe cls d pn hz hf => ?_)) fun D σ H ⟨m, st, ρ, S, R, h⟩ => ?_
  · exact hsu _ _ _ _ (O.suite (A' := A) (C' := ⟨C.S, none, none, C.pins, false, 0⟩) rfl rfl rfl rfl O.pins fun j c' fs e => by cases e) h1 h2
  · unfold exS at h
    refine ⟨m, st, ρ, S, R, ?_⟩
    cases q : exs C body' ρ st with
    | nx ρ1 st1 => rw [q] at h; exact h
    | bk ρ1 st1 => rw [q] at h; exact h
    | ct ρ1 st1 => rw [q] at h; exact h
    | rt v st1 => rw [q] at h; exact h
    | bad => rw [q] at h; exact h
    | exc c fs ρ1 st1 =>
      rw [q] at h
      intro m' H' σ' cls d l S' R' ⟨e1, e2⟩
      simp only [errOk] at h
      by_cases hk : (C.S.ise c && C.S.ise k) = true
      · rw [if_pos hk] at h
        rw [Bool.and_eq_true] at hk
        have hx := O.kie.exm c k hk.1 hk.2
        subst e1
        refine ⟨_, hx, fun hs a na => ?_, fun hs => ?_⟩
        · rw [hs] at h
          refine ⟨m', st1, ρ1, S', R', ?_⟩
          have h := FlR.later l h
          have h : FlR X.K A W m' H' D (match exs ⟨C.S, none, none, C.pins, false, 0⟩ suite' ρ1 st1 with
            | .nx ρ3 st3 => .nx ρ3 st3
            | .rt v st3 => .rt v st3
            | _ => .bad) := by
            cases fs with
            | nil => exact h
            | cons f fs => exact h
          revert h
          cases exs ⟨C.S, none, none, C.pins, false, 0⟩ suite' ρ1 st1 with
          | nx ρ3 st3 => exact fun h => h
          | rt v st3 => exact fun h => h
          | bk ρ3 st3 => exact fun h => h.elim
          | ct ρ3 st3 => exact fun h => h.elim
          | exc c fs ρ3 st3 => exact fun h => h.elim
          | bad => exact fun h => h.elim
        · rw [hs] at h
          exact h m' H' σ' _ d l S' R' ⟨rfl, e2⟩
      · rw [if_neg hk] at h
        exact h.elim
end
end MP
set_option linter.all false
set_option Elab.async false
set_option maxRecDepth 100000
set_option maxHeartbeats 2000000
namespace MP
open PySem PySem.Spec PyProof.Rows L2 LamX

theorem PE.never {X : Cx} {e : Expr} {t : TE} (h : ∀ σ H Q, ¬ t σ H Q) : PE X e t := ⟨fun _ _ _ _ _ _ hw => absurd hw (h _ _ _)⟩
section
variable {B : Tb} {cm : Bool} {sc : Scope} {N : List Str} {e a b : Expr} {e' a' b' : Ex} {es : List Expr} {es' : List Ex} {pos p p1 p2 : Pos} {i k : Nat} {n x : Str}
theorem isErr_args {X : Cx} {A : Ad} {cv : V} {u : Value} {σ : L2.St} {H : Hp} {R : List V → Hp → Prop} {ad : Addr} (hi : X.N[i]? = some n) (hv : Vis X.env.scope n) (hd : (n == ("__debug__" : Str)) = false) (hcd : (n == ("__classdict__" : Str)) = false)
    (h2 : PE X (.Name x p2) (tC cv)) : PA X [.Name n p1, .Name x p2] (fun σ H Q => ∃ v, σ[i]? = some (some v) ∧ Q [v, cv] H) := by
  refine PA.imp (pa_cons (pe_var hi hv hd hcd) (pa_cons h2 pa_nil)) fun σ H Q ⟨v, h1, h⟩ => ?_
  exact ⟨v, h1, h⟩
theorem SE.isErrC (hg0 : sc.names.lookup ("isinstance" : Str) = some .globalImplicit) (hf : ("isinstance" : Str) ∈ B.frees) (hi : N[i]? = some n) (hv : Vis sc n) (hd : (n == ("__debug__" : Str)) = false) (hcd : (n == ("__classdict__" : Str)) = false)
    (hg : sc.names.lookup x = some .globalImplicit) (hc : B.clss[k]? = some x) (hxd : (x == ("__debug__" : Str)) = false) : SE B cm sc N (.Call (.Name "isinstance" p) [.Name n p1, .Name x p2] [] pos) (.isErr i (.cls k)) := by
  intro X A C W O h1 h2
  subst h1 h2
  cases her : C.er with
  | none => exact PE.never fun σ H Q ⟨m, st, ρ, S, R, h⟩ => by unfold ev at h; rw [her] at h; exact h
  | some q =>
    obtain ⟨j, c, fs⟩ := q
    cases fs with
    | cons f fs => exact PE.never fun σ H Q ⟨m, st, ρ, S, R, h⟩ => by unfold ev at h; rw [her] at h; exact h
    | nil =>
      by_cases hk : i = j ∧ C.S.ise c = true ∧ C.S.ise k = true
      · obtain ⟨rfl, k1, k2⟩ := hk
        obtain ⟨a, ha, hcall⟩ := O.er i c [] her
        have hm := O.gf.cl k x hc
        refine PE.imp (blt_call (k := .isinst) (hcall rfl k1) hg0 (O.gf.fr _ hf) rfl (isErr_args (A := A) (cv := .ref (A.ca k)) (u := .ref (A.ca k)) (σ := []) (H := fun _ => none) (R := fun _ _ => True) (ad := a) hi hv hd hcd (pe_glob hg hm rfl hxd)) (by decide) (by decide) rfl rfl) fun σ H Q ⟨m, st, ρ, S, R, h⟩ => ?_
        unfold ev at h
        rw [her] at h
        simp only [k1, k2, and_self, if_true] at h
        exact ⟨_, R.2.2 _ ha, .ref (A.ca k), .ref (A.ca k), _, rfl, fun u r => r, O.kie.kit c k k1 k2, h m H _ (Later.refl _ _) S (by simp only [RV])⟩
      · exact PE.never fun σ H Q ⟨m, st, ρ, S, R, h⟩ => by unfold ev at h; rw [her] at h; simp only [hk, if_false] at h; exact h
theorem SE.isErrV (hg0 : sc.names.lookup ("isinstance" : Str) = some .globalImplicit) (hf : ("isinstance" : Str) ∈ B.frees) (hi : N[i]? = some n) (hv : Vis sc n) (hd : (n == ("__debug__" : Str)) = false) (hcd : (n == ("__classdict__" : Str)) = false)
    (hg : sc.names.lookup ("ValueError" : Str) = some .globalImplicit) (hf2 : ("ValueError" : Str) ∈ B.frees) : SE B cm sc N (.Call (.Name "isinstance" p) [.Name n p1, .Name "ValueError" p2] [] pos) (.isErr i (.ty "ValueError")) := by
  intro X A C W O h1 h2
  subst h1 h2
  cases her : C.er with
  | none => exact PE.never fun σ H Q ⟨m, st, ρ, S, R, h⟩ => by unfold ev at h; rw [her] at h; exact h
  | some q =>
    obtain ⟨j, c, fs⟩ := q
    cases fs with
    | cons f fs => exact PE.never fun σ H Q ⟨m, st, ρ, S, R, h⟩ => by unfold ev at h; rw [her] at h; exact h
    | nil =>
      by_cases hk : i = j ∧ C.S.ise c = true
      · obtain ⟨rfl, k1⟩ := hk
        obtain ⟨a, ha, hcall⟩ := O.er i c [] her
        refine PE.imp (blt_call (k := .isinst) (hcall rfl k1) hg0 (O.gf.fr _ hf) rfl (isErr_args (A := A) (cv := .ty "ValueError") (u := .type "ValueError") (σ := []) (H := fun _ => none) (R := fun _ _ => True) (ad := a) hi hv hd hcd (pe_bltn (v := .ty "ValueError") hg (O.gf.fr _ hf2) rfl rfl (by decide) (by decide))) (by decide) (by decide) rfl rfl) fun σ H Q ⟨m, st, ρ, S, R, h⟩ => ?_
        unfold ev at h
        rw [her] at h
        simp only [k1, and_self, if_true] at h
        exact ⟨_, R.2.2 _ ha, .ty "ValueError", .type "ValueError", _, rfl, fun u r => r, O.kie.val c k1, h m H _ (Later.refl _ _) S (by simp only [RV])⟩
      · exact PE.never fun σ H Q ⟨m, st, ρ, S, R, h⟩ => by
          unfold ev at h
          rw [her] at h
          simp only at h
          rw [if_neg (fun q => hk ⟨q.1, q.2.1⟩)] at h
          exact h
theorem SE.thunk (hi : N[0]? = some n) : SE B cm sc N (.Call (.Name n p1) [] [] p2) .thunk := by
  intro X A C W O h1 h2
  subst h1 h2
  cases hth : C.th with
  | none => exact PE.never fun σ H Q ⟨m, st, ρ, S, R, h⟩ => by unfold ev at h; rw [hth] at h; exact h
  | some r =>
    have := O.th r hth W X.pn X.xe O.tk n p1 p2 hi
    refine PE.imp this fun σ H Q ⟨m, st, ρ, S, R, h⟩ => ?_
    unfold ev at h
    rw [hth] at h
    exact ⟨m, st, ρ, S, R, h⟩
/-- a call by a local name that holds a def -/
theorem pe_callGA {X : Cx} {W : WX} {ix : Addr → Option (Nat × FuncData × List Str × Sp)} {t : TA} (F : ∀ f q, ix f = some q → FnG X.prog X.w X.K X.mg X.base q.1 f q.2.1 q.2.2.1 q.2.2.2 ∧ Room q.1 X.A ∧ Binds X.K q.2.1 q.2.2.1 [] ∧ PySem.W.keepIn X.K (.ref f) = true) (hg : X.A.guards = some []) (tk : Takes X W)
    (hN : X.N[i]? = some x) (hv : Vis X.env.scope x) (hdb : (x == ("__debug__" : Str)) = false) (hcd : (x == ("__classdict__" : Str)) = false)
    (ha : PA X (e :: es) t) (he : starEach (e :: es) X.env = (false, eval e X.env) :: starEach es X.env) (hpl : (backTo pos (starEach es X.env)).any (·.1) = false) :
    PE X (.Call (.Name x p) (e :: es) [] pos) (fun σ H Q => ∃ f q, σ[i]? = some (some (.ref f)) ∧ ix f = some q ∧ t σ H fun vs H1 => q.2.2.2 vs H1 Q (fun c d H' => W c d σ H')) := by
  refine ⟨fun pins s σ H Q I ⟨f, q, hs, hq, ht⟩ => ?_⟩
  obtain ⟨F, hr, hb, hk⟩ := F f q hq
  refine wpAny_Call_Name_kw (thn ((pe_var (pos := p) hN hv hdb hcd).run pins s σ H (fun v H1 => v = .ref f ∧ H1 = H) I ⟨.ref f, hs, rfl, rfl⟩) fun u s1 ⟨v, H1, I1, r1, q1⟩ => ?_)
  obtain ⟨rfl, rfl⟩ := q1
  cases r1
  refine PySem.W.callWith_K (h₀ := X.base) I.ok.mod.kin hk (thn (ha.run pos pins s1 σ _ _ I1 ht) fun us s2 ⟨vs, H2, I2, r, q⟩ => ⟨I2.kIn, ?_⟩) he hpl
  exact run_fnG F hr hg hb tk I2 r q
theorem SE.callV (hi : N[i]? = some x) (hv : Vis sc x) (hdb : (x == ("__debug__" : Str)) = false) (hcd : (x == ("__classdict__" : Str)) = false) (ha : SEs B true sc N (e :: es) es')
    (hs : ∀ env, starEach (e :: es) env = (false, eval e env) :: starEach es env) (hpl : ∀ env, (backTo pos (starEach es env)).any (·.1) = false) : SE B true sc N (.Call (.Name x p) (e :: es) [] pos) (.callV i es') := by
  intro X A C W O h1 h2
  subst h1 h2
  -- which def: told by the slot, so by the evaluator's environment
  refine ⟨fun pins s σ H Q I ⟨m, st, ρ, S, R, h⟩ => ?_⟩
  unfold ev at h
  split at h
  · rename_i k q
    split at h
    · rename_i nn l har
      split at h
      · rename_i hc
        obtain ⟨xx, hB⟩ := O.ar k nn l har
        have hl : l ≤ B.lv := Nat.le_trans hc.2 (O.lv rfl)
        obtain ⟨fd, ps, hps, F, hb⟩ := O.fns k xx nn l hB hl
        obtain ⟨hm, hkp⟩ := O.gf.fn k xx nn l hB
        obtain ⟨y, hy, ry⟩ := R.2.1 i _ q
        simp only [RV] at ry
        subst ry
        have key := pe_callGA (p := p) (pos := pos) (W := W) (ix := fun f => if f = A.fa k then some (l, fd, ps, spFn X.K A.base nn (C.S.fn k)) else none) (fun f q hq => by
          by_cases e : f = A.fa k
          · simp only [e, if_true] at hq
            cases hq
            subst e
            exact ⟨F, (O.room rfl).mono hl, hb, hkp⟩
          · simp only [e, if_false] at hq; cases hq) O.hg O.tk hi hv hdb hcd (ha X A C W O rfl rfl) (hs _) (hpl _)
        refine key.run pins s σ H Q I ⟨A.fa k, _, hy, if_pos rfl, m, st, ρ, S, R, Fin.imp (Fin.bind (rel := rVs X.K A) h) fun xs H1 ⟨m1, st1, vs, e, l, S1, r, h⟩ => ?_⟩
        exact ⟨by rw [r.len, evs_len e]; exact hc.1, m1, st1, vs, S1.toBase, RVs.ad (A := A) (A' := A.base) rfl rfl r, Fin.toBase S1 h⟩
      · exact h.elim
    · exact h.elim
  · exact h.elim
end
end MP
set_option linter.all false
set_option Elab.async false
set_option maxRecDepth 100000
set_option maxHeartbeats 2000000
namespace MP
open PySem PySem.Spec PyProof.Rows L2 LamX
section
variable {X : Cx} {pins : List (Addr × Obj)} {σ : L2.St} {H : Hp} {s : Shared}
/-- the lambda is made: its code object is new, or found in the table -/
theorem lam_make3 {T : List (Addr × Str)} {c P : Addr} {params : Arguments} {body : Expr} {scope : Scope} {pos : Pos} {E : Value → Shared → Prop} {Q : Value → Shared → Prop} (I : Inv X pins σ H s) (TB : TabB X.base X.mg c P) (hcode : X.env.code = .ref c)
    (hm : (P, X.env.qual ++ "<lambda>") ∈ T) (hu : ∀ p ∈ T, p.1 = P → p.2 = X.env.qual ++ "<lambda>") (hT : Tabs T H) (hdef : defaultsOf params X.env = ([], [])) (hfree : ∀ y ∈ scope.names, y.2 = .free → ∃ c, X.env.cells.lookup y.1 = some c)
    (h : ∀ (f c' : Addr) (pm ctv : Value) (H1 : Hp) (s' : Shared), Inv X pins σ H1 s' → ExtN H H1 → (∀ b, H b ≠ none → H1 b ≠ none) → Tabs T H1 →
      s'.heap.get? f = some (PySem.W.kla_obj "<lambda>" (X.env.qual ++ "<lambda>") params body scope (cloFrom X.env.cells scope.names []) pm c' ctv) → H1 f = none → f ∉ frs X.stack → H1 c' = some (CodeO c' (X.env.qual ++ "<lambda>")) → Q (.ref f) s') :
    wpAny (model X.prog X.w) X.A (eval (.Lambda params body scope pos) X.env) Q E s := by
  obtain ⟨ps, hP, ht, ha⟩ := hT _ hm
  refine PySem.W.kla_eval hdef ?_
  have bP : s.heap.BuiltinsAt X.mg P := TB.bm.keeps I.bk
  have hP' : s.heap.get? P = some { cls := .none, data := .fields ps } := I.hok P _ hP
  have nofr : ∀ f, s.heap.objs.size ≤ f → f ∉ frs X.stack := fun f hf z => by
    rcases List.mem_cons.mp (I.stkSub _ z) with e | e
    · have h1 := I.lt
      rw [← e] at h1
      exact Nat.lt_irrefl _ (Nat.lt_of_lt_of_le h1 hf)
    · exact I.nofs hf e
  cases hc : codeAmong pos ps.toList with
  | none =>
    refine PySem.W.kla_makeFunction (mg := X.mg) (c := c) (P := P) (ps := ps) (closure_ok hfree) I.ok.glob (I.mod.glob.keeps I.bk) hcode (TB.code.keeps I.bk) hP' ht hc TB.gP bP fun c' ctv h' tk hx hge hlt hrec htb => ?_
    obtain ⟨c2, oc, vs, t, e2, hoc, hd, hv⟩ := hrec
    cases e2
    have hsz : s.heap.objs.size ≤ h'.objs.size := Nat.le_trans hge (Nat.le_of_lt hlt)
    have nC : H c' = none := I.hok.fresh hge
    have I1 := inv_table (t' := tk) (more := #[rawInt pos.line, rawInt pos.col, .ref c']) (h' := h'.push (PySem.W.kla_obj "<lambda>" (X.env.qual ++ "<lambda>") params body scope (cloFrom X.env.cells scope.names []) ((X.mg "__name__").getD .none) c' ctv)) I hP
      (fun b o hb e => Heap.get?_push_of_some _ (hx b o hb e)) (Heap.get?_push_of_some _ htb) hge ⟨oc, vs, t, Heap.get?_push_of_some _ hoc, hd, hv⟩
    have hE : ExtN H (upd (upd H P (.tbl (ps ++ #[rawInt pos.line, rawInt pos.col, .ref c']))) c' (CodeO c' (X.env.qual ++ "<lambda>"))) := fun b o e n => by
      rw [upd_ne (ne_of_none e nC), upd_ne (fun z => n ps (Option.some.inj (e.symm.trans (by rw [z]; exact hP))))]
      exact e
    have eL : (ps ++ #[rawInt pos.line, rawInt pos.col, .ref c']).toList = ps.toList ++ [rawInt pos.line, rawInt pos.col, .ref c'] := by simp
    have hA : ∀ b, H b ≠ none → (upd (upd H P (.tbl (ps ++ #[rawInt pos.line, rawInt pos.col, .ref c']))) c' (CodeO c' (X.env.qual ++ "<lambda>"))) b ≠ none := fun b hb => by
      by_cases e1 : b = c'
      · rw [e1, upd_same]; simp
      · rw [upd_ne e1]
        by_cases e2 : b = P
        · rw [e2, upd_same]; simp
        · rw [upd_ne e2]; exact hb
    refine h h'.objs.size c' ((X.mg "__name__").getD .none) ctv _ _ I1 hE hA (fun p hp => ?_) (Heap.get?_push_size _ rfl) ?_ (nofr _ hsz) upd_same
    · by_cases hb : p.1 = P
      · rw [hu p hp hb, hb]
        refine ⟨_, by rw [upd_ne (ne_of_none hP nC), upd_same], by rw [eL]; exact PySem.TriplesOk_snoc _ _ _ _ ht, fun p' cv hcv => ?_⟩
        rw [eL] at hcv
        rcases among_app _ ht hcv with z | z
        · obtain ⟨c0, e1, e2⟩ := ha p' cv z
          exact ⟨c0, e1, hE _ _ e2 codeO_ne⟩
        · exact ⟨c', z, upd_same⟩
      · obtain ⟨ps', a1, a2, a3⟩ := hT p hp
        refine ⟨ps', by rw [upd_ne (ne_of_none a1 nC), upd_ne hb]; exact a1, a2, fun p' cv hcv => ?_⟩
        obtain ⟨c0, e1, e2⟩ := a3 p' cv hcv
        exact ⟨c0, e1, hE _ _ e2 codeO_ne⟩
    · have n1 : h'.objs.size ≠ c' := Nat.ne_of_gt hlt
      have n2 : h'.objs.size ≠ P := Nat.ne_of_gt (Nat.lt_of_lt_of_le (Heap.lt_size hP') hsz)
      rw [upd_ne n1, upd_ne n2]
      exact I.hok.fresh hsz
  | some cv =>
    obtain ⟨c', e, hco⟩ := ha pos cv hc
    subst e
    refine PySem.W.kla_makeFunctionHit (mg := X.mg) (c := c) (P := P) (ps := ps) (closure_ok hfree) I.ok.glob (I.mod.glob.keeps I.bk) hcode (TB.code.keeps I.bk) hP' ht hc bP fun ctv h' tk hx hsz => ?_
    have I1 : Inv X pins σ H { s with heap := h'.push (PySem.W.kla_obj "<lambda>" (X.env.qual ++ "<lambda>") params body scope (cloFrom X.env.cells scope.names []) ((X.mg "__name__").getD .none) c' ctv), toks := tk } := I.kept fun b o e => Heap.get?_push_of_some _ (hx b o e)
    exact h h'.objs.size c' ((X.mg "__name__").getD .none) ctv H _ I1 (ExtN.refl H) (fun _ h => h) hT (Heap.get?_push_size _ rfl) (I.hok.fresh hsz) (nofr _ hsz) hco
end
section
variable {X : Cx} {pins : List (Addr × Obj)} {σ : L2.St} {H HZ : Hp} {s s1 : Shared}
/-- x(), in the def that got the lambda: Z is that def's context, entered at s -/
theorem pe_act3 {CXg : CXT} {Eg : XK} {Ng : List Str} {qg : Str} {sg : Scope} {g f c' : Addr} {cdg pm ctv : Value} {params : Arguments} {body : Expr} {scope : Scope} {k i : Nat} {a : Str} {pn : List (Addr × Obj)} {xe : Value → Shared → Prop} {W : WX} {tb : XK → TE} {p1 p2 : Pos}
    (I : Inv X pins σ H s) (L : LamS X.env.scope scope) (hf : s.heap.get? f = some (PySem.W.kla_obj "<lambda>" (X.env.qual ++ "<lambda>") params body scope (cloFrom X.env.cells scope.names []) pm c' ctv)) (hfn : H f = none) (hfr : f ∉ frs X.stack)
    (hbind : bindArgs (PySem.W.kla_fn "<lambda>" (X.env.qual ++ "<lambda>") params body scope (cloFrom X.env.cells scope.names []) pm (.ref c') ctv) ⟨[], []⟩ = pure [])
    (tk : Takes ((cxOf CXg X.prog X.w X.K X.mg X.base Ng qg sg g cdg X.A X.stack s H Eg).tr pn xe) W) (hr : Room (k + 1) (X.A.deeper (envOfC qg sg s.heap.objs.size g cdg)))
    (hbody : ∀ (A : Around) (outer : List PySem.Env) (s : Shared) (H : Hp) (E : XK), Room k (A.deeper (lamEnv X scope s.heap.objs.size f c')) → A.guards = X.A.guards → PE (lamCx X A outer s H E scope f c') body (tb E))
    (hN : Ng[i]? = some a) (hv : Vis sg a) (hd : (a == ("__debug__" : Str)) = false := by decide) (hcd : (a == ("__classdict__" : Str)) = false := by decide) :
    PE ((cxOf CXg X.prog X.w X.K X.mg X.base Ng qg sg g cdg X.A X.stack s H Eg).tr pn xe) (.Call (.Name a p1) [] [] p2)
      (fun σZ HZ Q => σZ[i]? = some (some (.ref f)) ∧ HZ c' = some (CodeO c' (X.env.qual ++ "<lambda>")) ∧ tb (WE W σZ) σ HZ Q) := by
  refine ⟨fun pinsZ sZ σZ HZ Q IZ h => ?_⟩
  obtain ⟨hs, hc, ht⟩ := h
  refine wpAny_Call_Name_kw (thn ((pe_var (pos := p1) (i := i) hN hv hd hcd).run pinsZ sZ σZ HZ (fun v H1 => v = .ref f ∧ H1 = HZ) IZ ⟨.ref f, hs, rfl, rfl⟩) fun u s1 ⟨v, H1, I1, r1, q1⟩ => ?_)
  obtain ⟨ev, eH⟩ := q1
  subst ev
  rw [eH] at I1
  obtain rfl : u = Value.ref f := r1
  have of1 : s1.heap.get? f = some (PySem.W.kla_obj "<lambda>" (X.env.qual ++ "<lambda>") params body scope (cloFrom X.env.cells scope.names []) pm c' ctv) := I1.base.keep f _ hf hfn hfr (fun z => nomatch (show f ∈ ([] : List Addr) from z))
  refine PySem.W.callWith_F0 ⟨_, _, _, _, of1⟩ ?_
  have un : Un (frs X.stack) [] H HZ s.heap s1.heap := I1.base
  obtain ⟨⟨oc, vs, t, hoc, hdc, hvc⟩, _, _⟩ := I1.hok c' _ hc
  have rc : codeAny (model X.prog X.w) (X.A.deeper (envOfC qg sg s.heap.objs.size g cdg)) (.call (.ref f) ⟨[], []⟩) (CR (L2.CX X.prog X.w) (envOfC qg sg s.heap.objs.size g cdg :: X.stack) X.prog X.w HZ s1 Q (WE W σZ)) s1 := by
    refine PySem.W.kla_callFunE hr.depth of1 rfl L.co L.gen rfl ⟨c', oc, vs, t, rfl, hoc, hdc, hvc⟩ ?_
    rw [hbind]
    refine wpAny_pure (wpAny_newFunctionEnv (fun y hy => (L.own y hy).2) (fun y hy => absurd hy (by simp)) (fun h₁ hns hsb => ⟨I1.nolimit.fresh _ hsb, ?_⟩) L.kind)
    show codeAny _ _ (.expr body (lamEnv X scope s1.heap.objs.size f c')) _ _
    have kp : ∀ b o, s1.heap.get? b = some o → h₁.get? b = some o := fun b o e => hsb.extBut b o (Nat.ne_of_lt (Heap.lt_size e)) (Heap.get?_push_of_some _ e)
    have J : Inv (lamCx X (X.A.deeper (envOfC qg sg s.heap.objs.size g cdg)) (envOfC qg sg s.heap.objs.size g cdg :: X.stack) s1 HZ (WE W σZ) scope f c') [] σ HZ { s1 with heap := h₁, toks := s1.toks + ([] : List (Str × Value)).length } :=
      lam_start2 I L I1.env0 hr.hd un hns kp
    refine PySem.W.kla_codeExpr (wpAny_mono ((hbody _ _ s1 HZ (WE W σZ) (hr.deeper _) rfl).run [] _ _ HZ Q J ht) (fun v s' hq => ?_) fun e s' hq => hq)
    obtain ⟨w', H', J', rv, q⟩ := hq
    exact ⟨w', H', J'.os, J'.bare, J'.base, J'.hok, rv, q⟩
  have hx := passAt tk σZ
  refine wpAny_call (codeAny_mono rc fun r s' hq => ?_)
  cases r with
  | error e => exact hx pinsZ HZ s1 e s' I1 hq
  | ok fl =>
    cases fl with
    | ret u => exact I1.after hq
    | next => exact False.elim hq
    | brk => exact False.elim hq
    | cont => exact False.elim hq
end
def tLam3 (T : List (Addr × Str)) (TT : (XK → Hp → VK → Prop) → Hp → VK → Prop) (t : XK → TE) : TE := fun σ H Q => Tabs T H ∧ ∀ H1, ExtN H H1 → (∀ b, H b ≠ none → H1 b ≠ none) → Tabs T H1 → TT (fun E H' Q' => t E σ H' Q') H1 Q
section
variable {X : Cx}
/-- x(lambda: body) -/
theorem pe_lamcall3 {T : List (Addr × Str)} {TT : (XK → Hp → VK → Prop) → Hp → VK → Prop} {x a : Str} {g c P : Addr} {k : Nat} {pg : Arguments} {bg : List Stmt} {sg : Scope} {dV kV doc pm cdv ct oc : Value} {an od : Option Addr} {osl : Array (Option Value)} {Ng : List Str}
    {params : Arguments} {body : Expr} {scope : Scope} {t : XK → TE} {p lpos pos : Pos} (hg : Gl X x) (hm : X.mg x = some (.ref g)) (hk : PySem.W.keepIn X.K (.ref g) = true)
    (lk : X.K.lookup g = some ⟨oc, od, .func (PySem.W.fnOf x x pg bg sg dV kV doc pm an cdv ct), osl⟩) (hcg : PySem.W.codeIn X.K cdv x = true) (hb : L2.Binds X.K (PySem.W.fnOf x x pg bg sg dV kV doc pm an cdv ct) [a] []) (Sg : FnScope Ng [a] sg) (hNg : Ng[0]? = some a) (hva : Vis sg a)
    (hG : GivesTo3 X Ng x sg g cdv bg a (X.env.qual ++ "<lambda>") TT)
    (TB : TabB X.base X.mg c P) (hcode : X.env.code = .ref c) (hmT : (P, X.env.qual ++ "<lambda>") ∈ T) (hu : ∀ p ∈ T, p.1 = P → p.2 = X.env.qual ++ "<lambda>") (hr : Room (k + 2) X.A) (L : LamS X.env.scope scope) (hdef : defaultsOf params X.env = ([], []))
    (hbind : ∀ (q : Str) (cl : List (Str × Addr)) (pm cv ctv : Value), bindArgs (PySem.W.kla_fn "<lambda>" q params body scope cl pm cv ctv) ⟨[], []⟩ = pure [])
    (hbody : ∀ (A : Around) (outer : List PySem.Env) (s : Shared) (H : Hp) (E : XK) (f c' : Addr), Room k (A.deeper (lamEnv X scope s.heap.objs.size f c')) → A.guards = X.A.guards → PE (lamCx X A outer s H E scope f c') body (t E))
    (hdb : (x == ("__debug__" : Str)) = false := by decide) (hd : (a == ("__debug__" : Str)) = false := by decide) (hcd : (a == ("__classdict__" : Str)) = false := by decide) :
    PE X (.Call (.Name x p) [.Lambda params body scope lpos] [] pos) (tLam3 T TT t) := by
  refine ⟨fun pins s σ H Q I h => ?_⟩
  obtain ⟨hT, h⟩ := h
  refine wpAny_Call_Name_kw (ld_glob I hg hm ?_ hdb)
  refine PySem.W.callWith_K (h₀ := X.base) I.ok.mod.kin hk ?_ (by rfl) (by rfl)
  show wpAny _ _ (spliced ((false, eval (.Lambda params body scope lpos) X.env) :: backTo pos (starEach [] X.env))) _ _ s
  refine Calls.spliced_cons (lam_make3 I TB hcode hmT hu hT hdef (L.has I.ok) fun f c' pm' ctv H1 s' I1 eN aN T1 hf hfn hfr hco => ?_)
  refine Calls.spliced_nil ⟨I1.kIn, ?_⟩
  have rc : codeAny (model X.prog X.w) X.A (.call (.ref g) ⟨[.ref f], []⟩) (CR C8.CX0 X.stack X.prog X.w H1 s' Q C8.E0) s' := by
    refine run_ofS (N := Ng) (ps := [a]) (us := [.ref f]) (vs := [.ref f]) lk hcg Sg hr I1.env0 (hb s' [.ref f] I1.kIn rfl) (.cons rfl .nil) rfl fun hr' => ?_
    obtain ⟨t', ht', hq'⟩ := hG f c' s' H1 Q (fun E H' Q' => t E σ H' Q') (hr'.mono (Nat.zero_le _)) (fun W pn xe p1 p2 tk => pe_act3 (i := 0) (tb := t) I1 L hf hfn hfr (hbind _ _ _ _ _) tk hr' (fun A outer s H E hr2 hgd => hbody A outer s H E f c' hr2 hgd) hNg hva hd hcd) hco (h H1 eN aN T1)
    exact ⟨t', ht'.nox, hq'⟩
  refine wpAny_call (codeAny_mono rc fun r s2 hq => ?_)
  cases r with
  | error e => exact (show False from hq).elim
  | ok fl =>
    cases fl with
    | ret u => exact I1.after hq
    | next => exact False.elim hq
    | brk => exact False.elim hq
    | cont => exact False.elim hq
end
section
variable {K : PySem.W.Frag} {A A' : Ad} {m m' : List Addr} {st st' : Store} {H H' : Hp}
/-- more of the tables, the rest as it was -/
theorem Later.ext (S : Sim K A m st H) (e : ExtN H H') (al : ∀ b, H b ≠ none → H' b ≠ none) : Later m H m H' := ⟨⟨[], by simp, by simp⟩, fun a o h _ ht => e a o h ht, al⟩
theorem Sim.notTbl (S : Sim K A m st H) {a : Addr} (hm : a ∈ m) {o : HO} (h : H a = some o) : ∀ ps, o ≠ .tbl ps := fun ps e => by
  subst e
  obtain ⟨i, hi, e⟩ := List.mem_iff_getElem.mp hm
  have hi2 : i < st.length := by rw [← S.len]; exact hi
  have o := S.at_ i st[i] a (List.getElem?_eq_getElem hi2) (by rw [List.getElem?_eq_getElem hi, e])
  cases q : st[i] with
  | lst xs => rw [q] at o; obtain ⟨zs, hz, _⟩ := o; rw [h] at hz; cases hz
  | frz xs => rw [q] at o; obtain ⟨ob, zs, hz, _⟩ := o; rw [h] at hz; cases hz
  | dic kvs => rw [q] at o; obtain ⟨_, hz⟩ := o; rw [h] at hz; cases hz
  | ins c fs => rw [q] at o; obtain ⟨_, _, hz, _⟩ := o; rw [h] at hz; cases hz
  | gone => rw [q] at o; exact o.elim
theorem Sim.ext (S : Sim K A m st H) (e : ExtN H H') (al : ∀ b, H b ≠ none → H' b ≠ none) (t : Tabs A.tabs H') : Sim K A m st H' := by
  refine S.keep (Later.ext S e al) (fun a ha => ?_) ⟨t, fun p hp => e _ _ (S.tb.2 p hp) (fun ps q => by unfold LamX.CodeO at q; cases q)⟩
  obtain ⟨o, h, _⟩ := S.use ha
  rw [h]
  exact e a o h (S.notTbl ha h)
end
theorem takes_lam {X : Cx} {A : Around} {outer : List PySem.Env} {s : Shared} {H : Hp} {E : XK} {scope : Scope} {f c' : Addr} : Takes (lamCx X A outer s H E scope f c') (fun cls d _ H => E cls d H) :=
  takes_of (X := lamCx X A outer s H E scope f c') rfl rfl rfl rfl
/-- with less room -/
def Tb.low (B : Tb) : Tb := { B with lv := B.lv - 2 }
theorem XOk.lam {B : Tb} {A : Ad} {C : Cn} {X : Cx} {W : WX} (O : XOk B A C X W true) {A' : Around} {outer : List PySem.Env} {s : Shared} {H : Hp} {E : XK} {scope : Scope} {f c' : Addr} (hr : Room (B.lv - 2) (A'.deeper (lamEnv X scope s.heap.objs.size f c'))) (hg : A'.guards = X.A.guards) :
    XOk B.low A C.inLam (lamCx X A' outer s H E scope f c') (fun cls d _ H => E cls d H) true where
  calm := fun _ => rfl
  tk := takes_lam
  nd := O.nd
  hu := by have := hr.un; show (A'.deeper _).units + 70 < _; omega
  hg := by show (A'.deeper _).guards = some []; rw [show (A'.deeper (lamEnv X scope s.heap.objs.size f c')).guards = A'.guards from rfl, hg]; exact O.hg
  kit := O.kit
  kie := O.kie
  gf := ⟨O.gf.fr, O.gf.co, O.gf.fn, O.gf.cl⟩
  room := fun _ => hr
  fns := fun k x n l h1 h2 => O.fns k x n l h1 (Nat.le_trans h2 (Nat.sub_le _ _))
  lams := fun k x l h1 h2 => O.lams k x l h1 (Nat.le_trans h2 (Nat.sub_le _ _))
  pins := O.pins
  th := fun r hr => nomatch hr
  erc := fun _ => rfl
  ar := O.ar
  lv := fun _ => Nat.sub_le_sub_right (O.lv rfl) 2
  tab := fun e => nomatch e
  er := fun _ _ _ e => nomatch e
section
variable {B : Tb} {sc : Scope} {N : List Str}
/-- x(lambda: body) -/
theorem SE.lam {x : Str} {k l : Nat} {body : Expr} {body' : Ex} {params : Arguments} {scope : Scope} {p lpos pos : Pos} (hlam : B.lams[k]? = some (x, l)) (hl : l ≤ B.lv) (hl2 : 2 ≤ B.lv)
    (hg : sc.names.lookup x = some .globalImplicit) (hdb : (x == ("__debug__" : Str)) = false) (L : LamS sc scope) (hdef : ∀ env, defaultsOf params env = ([], []))
    (hbind : ∀ (q : Str) (cl : List (Str × Addr)) (pm cv ctv : Value), bindArgs (PySem.W.kla_fn "<lambda>" q params body scope cl pm cv ctv) ⟨[], []⟩ = pure [])
    (hb : SE B.low true scope N body body') : SE B true sc N (.Call (.Name x p) [.Lambda params body scope lpos] [] pos) (.lam k body') := by
  intro X A C W O h1 h2
  cases htb : C.tab with
  | false => exact PE.never fun σ H Q ⟨m, st, ρ, S, R, h⟩ => by unfold ev at h; rw [htb] at h; exact h
  | true =>
  obtain ⟨c, P, hcode, TB, hmT, hu⟩ := O.tab htb
  obtain ⟨g, pg, bg, sg, dV, kV, doc, pm, cdv, ct, oc, an, od, osl, Ng, a, q1, q2, q3, q4, q5, q6, q7, q8, q9, q10, q11⟩ := (O.lams k x l hlam hl).ex
  have hgl : Gl X x := by subst h1; exact hg
  have hr2 : Room (B.lv - 2 + 2) X.A := (O.room rfl).mono (by omega)
  refine PE.imp (pe_lamcall3 (T := A.tabs) (TT := TTh X.K A.base (C.S.lam k)) (t := fun E => TEv X.K A (fun _ => rV X.K A) (fun c d _ H => E c d H) (ev C.inLam body')) hgl q1 q2 q3 q4 q5 q6 q7 q8
    (q11 X rfl rfl rfl rfl rfl O.hg ((O.room rfl).mono hl) _) TB hcode hmT hu hr2 (by subst h1; exact L) (hdef _) hbind
    (fun A' outer s H E f c' hr hgd => hb _ A C.inLam _ (O.lam hr hgd) rfl h2) hdb q9 q10) fun σ H Q ⟨m, st, ρ, S, R, h⟩ => ?_
  unfold ev at h
  rw [if_pos htb] at h
  refine ⟨S.tb.1, fun H1 eN aN T1 => ?_⟩
  have S1 := S.ext eN aN T1
  have l1 := Later.ext S eN aN
  refine ⟨m, st, fun st' => ev C.inLam body' ρ st', S1.toBase, fun E m' H' st' Q' l2 S2 hF => ⟨m', st', ρ, S1.ofBase l2 S2, (R.later S (l1.trans l2)), ?_⟩, ?_⟩
  · -- the lambda's doing, back with the pins
    have hF : Fin X.K A.base (rV X.K A.base) E m' H' Q' (ev C.inLam body' ρ st') := hF
    revert hF
    cases ev C.inLam body' ρ st' with
    | ok v st3 => exact fun hF m3 H3 x3 l3 S3 r3 => hF m3 H3 x3 l3 S3.toBase (RV.ad (A := A) (A' := A.base) rfl rfl r3)
    | exc c fs st3 => exact fun hF m3 H3 cls d l3 S3 r3 => hF m3 H3 cls d l3 S3.toBase (ExcR.ad (A := A) (A' := A.base) rfl rfl r3)
    | bad => exact fun hF => hF
  · have h := Fin.later l1 h
    have h := Fin.toBase S1 h
    revert h
    cases C.S.lam k (fun st' => ev C.inLam body' ρ st') st with
    | ok v st3 => exact fun h => h
    | exc c fs st3 => exact fun h => h.elim
    | bad => exact fun h => h
end
end MP
set_option linter.all false
set_option Elab.async false
set_option maxRecDepth 100000
set_option maxHeartbeats 2000000
namespace MP
open PySem PySem.Spec PyProof.Rows L2 LamX

/-- what is known of the whole text, up to a level -/
structure Glob (P : Program) (w : World) (K : PySem.W.Frag) (mg : Str → Option Value) (base : Heap) (B : Tb) (A : Ad) (S : Sig) : Prop where
  kit : KitF K A S
  kie : KitE K A S
  gf : GF B A K mg
  bare : A.base = A
  ar : ∀ k n l, S.ar k = some (n, l) → ∃ x, B.fns[k]? = some (x, n, l)
  fns : ∀ (k : Nat) x n l, B.fns[k]? = some (x, n, l) → l ≤ B.lv → ∃ fd ps, ps.length = n ∧ FnG P w K mg base l (A.fa k) fd ps (spFn K A n (S.fn k)) ∧ L2.Binds K fd ps []
  lams : ∀ (k : Nat) x l, B.lams[k]? = some (x, l) → l ≤ B.lv → HelpG P w K mg base l A x (S.lam k)
/-- what a def that makes lambdas needs -/
def TabOk (base : Heap) (mg : Str → Option Value) (A : Ad) (qual : Str) (cdv : Value) : Prop := ∃ c Pt, cdv = .ref c ∧ LamX.TabB base mg c Pt ∧ (Pt, (qual ++ ".<locals>.") ++ "<lambda>") ∈ A.tabs ∧ ∀ p ∈ A.tabs, p.1 = Pt → p.2 = (qual ++ ".<locals>.") ++ "<lambda>"
section
variable {P : Program} {w : World} {K : PySem.W.Frag} {mg : Str → Option Value} {base : Heap} {B : Tb} {A : Ad} {S : Sig} {N ps : List Str} {qual : Str} {scope : Scope} {f : Addr} {cdv : Value} {A0 : Around} {outer : List PySem.Env} {s : Shared} {H : Hp} {E : XK} {tb : Bool}
theorem Glob.pins (G : Glob P w K mg base B A S) : A.pins = [] := by rw [← G.bare]; rfl
theorem Glob.sok (G : Glob P w K mg base B A S) (Sc : FnScope N ps scope) (hr : Room B.lv (A0.deeper (envOfC qual scope s.heap.objs.size f cdv))) (hg : A0.guards = some []) (ht : tb = true → TabOk base mg A qual cdv) :
    SOk B A ⟨S, none, none, [], tb, B.lv⟩ (cxOf (L2.CX P w) P w K mg base N qual scope f cdv A0 outer s H E) (fun c d _ H' => E c d H') true where
  calm := fun _ => rfl
  tk := takes_of (X := cxOf (L2.CX P w) P w K mg base N qual scope f cdv A0 outer s H E) (E := E) rfl rfl rfl rfl
  nd := Sc.nd
  hu := by
    have h2 := hr.un
    have h3 : (A0.deeper (envOfC qual scope s.heap.objs.size f cdv)).units + 70 < cLine := by omega
    exact h3
  hg := hg
  kit := G.kit
  kie := G.kie
  gf := G.gf
  room := fun _ => hr
  fns := by rw [G.bare]; exact G.fns
  lams := by rw [G.bare]; exact G.lams
  pins := by rw [G.pins]; intro p hp; cases hp
  th := fun _ e => nomatch e
  erc := fun _ => rfl
  ar := G.ar
  lv := fun _ => Nat.le_refl _
  tab := fun e => by
    obtain ⟨c, Pt, h1, h2, h3, h4⟩ := ht e
    exact ⟨c, Pt, h1, h2, h3, h4⟩
  er := fun _ _ _ e => nomatch e
  fn := fun _ => rfl
  po := passes_of (X := cxOf (L2.CX P w) P w K mg base N qual scope f cdv A0 outer s H E) (K := fun e s'' => L2.CX P w outer H s E e s'') (E₁ := fun e' s'' => L2.CX P w outer H s E e' s'') rfl
  hs := rfl
  hf := rfl
theorem envR_start {m : List Addr} {args : List PV} {vs : List V} (hp : A.pins = []) (r : RVs K A H m args vs) : EnvR K A H m (args.map some ++ List.replicate (N.length - args.length) none) (L2.start N vs) := by
  refine ⟨by simp [L2.start, r.len], fun i v e => ?_, by rw [hp]; intro p hp; cases hp⟩
  by_cases hi : i < args.length
  · rw [List.getElem?_append_left (by simpa using hi), List.getElem?_map] at e
    cases q : args[i]? with
    | none => rw [q] at e; cases e
    | some u =>
      rw [q] at e
      cases e
      obtain ⟨x, h1, h2⟩ := r.get q
      refine ⟨x, ?_, h2⟩
      unfold L2.start
      rw [List.getElem?_append_left (by rw [List.length_map, r.len]; exact hi), List.getElem?_map, h1]
      rfl
  · exfalso
    rw [List.getElem?_append_right (by simpa using hi)] at e
    by_cases h2 : i - (args.map some).length < N.length - args.length
    · rw [List.getElem?_replicate_of_lt h2] at e; cases e
    · rw [List.getElem?_eq_none (by simpa using h2)] at e; cases e
/-- a def's promise -/
theorem fnG_of {name : Str} {params : Arguments} {body : List Stmt} {dV kV doc pm ct oc : Value} {an od : Option Addr} {osl : Array (Option Value)} {body' : List MP.St} (G : Glob P w K mg base B A S)
    (lk : K.lookup f = some ⟨oc, od, .func (PySem.W.fnOf name qual params body scope dV kV doc pm an cdv ct), osl⟩) (hcd : PySem.W.codeIn K cdv qual = true) (Sc : FnScope N ps scope) (ht : tb = true → TabOk base mg A qual cdv)
    (hb : SSs B true scope N body body') :
    FnG P w K mg base (B.lv + 1) f (PySem.W.fnOf name qual params body scope dV kV doc pm an cdv ct) ps (spFn K A ps.length (fun vs st => runBody ⟨S, none, none, [], tb, B.lv⟩ N.length body' vs st)) where
  len := fun vs H Q E h => h.1
  run := by
    intro A0 outer s H args us vs Q E hr hg e0 hbt r ⟨hl, m, st, pargs, Sm, ra, h⟩
    refine run_ofS lk hcd Sc hr e0 hbt r hl fun hr' => ⟨_, hb _ A _ _ (G.sok (tb := tb) Sc hr' hg ht) rfl rfl, ?_⟩
    refine ⟨m, st, _, Sm, envR_start (N := N) G.pins ra, ?_⟩
    have h : Fin K A (rV K A) E m H Q (runBody ⟨S, none, none, [], tb, B.lv⟩ N.length body' pargs st) := h
    unfold runBody at h
    revert h
    cases exs ⟨S, none, none, [], tb, B.lv⟩ body' (pargs.map some ++ List.replicate (N.length - pargs.length) none) st with
    | nx ρ st1 => exact fun h m' H' σ' l S' _ => h m' H' .non l S' (by simp only [RV])
    | rt v st1 => exact fun h m' H' x l S' r => h m' H' x l S' r
    | exc c fs ρ st1 => exact fun h m' H' σ' cls d l S' _ e => h m' H' cls d l S' e
    | bk ρ st1 => exact fun h => h.elim
    | ct ρ st1 => exact fun h => h.elim
    | bad => exact fun h => h
/-- a helper's promise -/
theorem helpG_of {g : Addr} {x : Str} {pg : Arguments} {bg : List Stmt} {sg : Scope} {dV kV doc pm ct oc : Value} {an od : Option Addr} {osl : Array (Option Value)} {Ng : List Str} {a : Str} {bg' : List MP.St} (G : Glob P w K mg base B A S)
    (hm : mg x = some (.ref g)) (hk : PySem.W.keepIn K (.ref g) = true) (lk : K.lookup g = some ⟨oc, od, .func (PySem.W.fnOf x x pg bg sg dV kV doc pm an cdv ct), osl⟩) (hcd : PySem.W.codeIn K cdv x = true)
    (hb : L2.Binds K (PySem.W.fnOf x x pg bg sg dV kV doc pm an cdv ct) [a] []) (Sc : FnScope Ng [a] sg) (h0 : Ng[0]? = some a) (hv : Vis sg a) (hd : (a == ("__debug__" : Str)) = false) (hcdd : (a == ("__classdict__" : Str)) = false)
    (hbody : SSs B true sg Ng bg bg') : HelpG P w K mg base (B.lv + 1) A x (fun r st => runThunk S B.lv Ng.length bg' r st) := by
  refine ⟨g, pg, bg, sg, dV, kV, doc, pm, cdv, ct, oc, an, od, osl, Ng, a, hm, hk, lk, hcd, hb, Sc, h0, hv, hd, hcdd, ?_⟩
  intro X e1 e2 e3 e4 e5 hgd hr q f c' s H Q tl hr0 act hc ⟨m, st, r, Sm, htl, h⟩
  subst e1 e2 e3 e4 e5
  let A' : Ad := { A with pins := [(0, f)], kp := [(c', q)], sn := some (m, H) }
  let Z : Cx := (cxOf C8.CX0 X.prog X.w X.K X.mg X.base Ng x sg g cdv X.A X.stack s H C8.E0).nox
  have hbase : A'.base = A := by rw [← G.bare]; rfl
  have O : SOk B A' ⟨S, some r, none, [0], false, B.lv⟩ Z (fun _ _ _ _ => False) true := {
    calm := fun _ => rfl
    tk := L2.takes0
    nd := Sc.nd
    hu := by
      have h2 := hr0.un
      have h3 : (X.A.deeper (envOfC x sg s.heap.objs.size g cdv)).units + 70 < cLine := by omega
      exact h3
    hg := hgd
    kit := ⟨G.kit.own, G.kit.tc, G.kit.ct, G.kit.cc⟩
    kie := ⟨G.kie.ex, G.kie.kit, G.kie.val, G.kie.exm, G.kie.rs, G.kie.made⟩
    gf := ⟨G.gf.fr, G.gf.co, G.gf.fn, G.gf.cl⟩
    room := fun _ => hr.deeper _
    fns := by rw [hbase]; exact G.fns
    lams := by rw [hbase]; exact G.lams
    pins := fun p hp => by
      have hp : p ∈ [(0, f)] := hp
      rw [List.mem_singleton.mp hp]
      exact List.mem_cons_self
    th := fun r' hr' W' pn xe tk a' p1 p2 ha => by
      cases hr'
      have ha : Ng[0]? = some a' := ha
      rw [h0] at ha
      cases ha
      refine PE.imp (act W' pn xe p1 p2 tk) fun σ HZ Q' ⟨m2, st2, ρ, S2, R, hF⟩ => ?_
      have hpin := R.2.2 (0, f) (List.mem_cons_self ..)
      have hkp := S2.tb.2 (c', q) (List.mem_cons_self ..)
      have hl := S2.sn (m, H) rfl
      refine ⟨hpin, hkp, htl _ m2 HZ st2 Q' hl (Sim.ad (A := A') (A' := A) rfl rfl S2 ⟨S2.tb.1, fun p hp => by rw [show A.kp = [] by rw [← G.bare]; rfl] at hp; cases hp⟩ (fun q hq => by rw [show A.sn = none by rw [← G.bare]; rfl] at hq; cases hq)) ?_⟩
      have hF : Fin X.K A' (rV X.K A') (fun c d H' => W' c d σ H') m2 HZ Q' (r st2) := hF
      revert hF
      cases r st2 with
      | ok v st3 => exact fun hF m3 H3 x3 l3 S3 r3 => hF m3 H3 x3 l3 (Sim.ad (A := A) (A' := A') rfl rfl S3 ⟨S3.tb.1, fun p hp => l3.fr _ _ (S2.tb.2 p hp) (S2.noCode (S2.tb.2 p hp)) (fun ps e => by unfold LamX.CodeO at e; cases e)⟩ (fun q hq => by cases hq; exact hl.trans l3)) (RV.ad (A := A) (A' := A') rfl rfl r3)
      | exc c fs st3 => exact fun hF m3 H3 cls d l3 S3 r3 => hF m3 H3 cls d l3 (Sim.ad (A := A) (A' := A') rfl rfl S3 ⟨S3.tb.1, fun p hp => l3.fr _ _ (S2.tb.2 p hp) (S2.noCode (S2.tb.2 p hp)) (fun ps e => by unfold LamX.CodeO at e; cases e)⟩ (fun q hq => by cases hq; exact hl.trans l3)) (ExcR.ad (A := A) (A' := A') rfl rfl r3)
      | bad => exact fun hF => hF
    erc := fun _ => rfl
    ar := G.ar
    lv := fun _ => Nat.le_refl _
    tab := fun e => nomatch e
    er := fun _ _ _ e => nomatch e
    fn := fun _ => rfl
    po := PassesOwn.never
    hs := rfl
    hf := rfl }
  refine ⟨_, hbody Z A' _ _ O rfl rfl, m, st, List.replicate Ng.length none, Sim.ad (A := A) (A' := A') rfl rfl Sm ⟨Sm.tb.1, fun p hp => ?_⟩ (fun q hq => by cases hq; exact Later.refl _ _), ?_, ?_⟩
  · have hp : p ∈ [(c', q)] := hp
    rw [List.mem_singleton.mp hp]
    exact hc
  · have hN : 1 ≤ Ng.length := by
      cases Ng with
      | nil => simp at h0
      | cons _ _ => simp
    refine ⟨by simp [L2.start]; omega, fun i v e => ?_, fun p hp => ?_⟩
    · by_cases hi : i < Ng.length
      · rw [List.getElem?_replicate_of_lt hi] at e; cases e
      · rw [List.getElem?_eq_none (by simpa using hi)] at e; cases e
    · have hp : p ∈ [(0, f)] := hp
      rw [List.mem_singleton.mp hp]
      rfl
  · have h : Fin X.K A (rV X.K A) (fun _ _ _ => False) m H Q (runThunk S B.lv Ng.length bg' r st) := h
    unfold runThunk at h
    revert h
    have back : ∀ {m' st1 H'}, Sim X.K A' m' st1 H' → Sim X.K A m' st1 H' := fun S' => Sim.ad (A := A') (A' := A) rfl rfl S' ⟨S'.tb.1, fun p hp => by rw [show A.kp = [] by rw [← G.bare]; rfl] at hp; cases hp⟩ (fun q hq => by rw [show A.sn = none by rw [← G.bare]; rfl] at hq; cases hq)
    cases exs ⟨S, some r, none, [0], false, B.lv⟩ bg' (List.replicate Ng.length none) st with
    | nx ρ st1 => exact fun h m' H' σ' l S' _ => h m' H' .non l (back S') (by simp only [RV])
    | rt v st1 => exact fun h m' H' x l S' r => h m' H' x l (back S') (RV.ad (A := A') (A' := A) rfl rfl r)
    | exc c fs ρ st1 => exact fun h => h.elim
    | bk ρ st1 => exact fun h => h.elim
    | ct ρ st1 => exact fun h => h.elim
    | bad => exact fun h => h
end
/-- a stronger promise -/
theorem FnG.imp {P : Program} {w : World} {K : PySem.W.Frag} {mg : Str → Option Value} {base : Heap} {k : Nat} {f : Addr} {fd : FuncData} {ps : List Str} {sp sp' : Sp} (F : FnG P w K mg base k f fd ps sp) (h : ∀ vs H Q E, sp' vs H Q E → sp vs H Q E) : FnG P w K mg base k f fd ps sp' where
  len := fun vs H Q E hh => F.len vs H Q E (h _ _ _ _ hh)
  run := fun A outer s H args us vs Q E hr hg e0 hb r hh => F.run A outer s H args us vs Q E hr hg e0 hb r (h _ _ _ _ hh)
/-- at a higher level -/
theorem FnG.up {P : Program} {w : World} {K : PySem.W.Frag} {mg : Str → Option Value} {base : Heap} {k l : Nat} {f : Addr} {fd : FuncData} {ps : List Str} {sp : Sp} (F : FnG P w K mg base k f fd ps sp) (h : k ≤ l) : FnG P w K mg base l f fd ps sp where
  len := F.len
  run := fun A outer s H args us vs Q E hr hg e0 hb r hh => F.run A outer s H args us vs Q E (hr.mono h) hg e0 hb r hh

mutual
def PV.bel (n : Nat) : PV → Bool
  | .tup xs => PV.bels n xs
  | .ref i => decide (i < n)
  | _ => true
def PV.bels (n : Nat) : List PV → Bool
  | [] => true
  | x :: xs => PV.bel n x && PV.bels n xs
end
def SO.bel (n : Nat) : SO → Bool
  | .lst xs | .frz xs => PV.bels n xs
  | .ins _ fs => fs.all fun p => PV.bel n p.2
  | _ => true
section
variable {K : PySem.W.Frag} {A : Ad} {m m1 more : List Addr} {st st' : Store} {H H1 : Hp}
mutual
theorem RV.below : ∀ {v : PV} {x : V}, RV K A H m v x → PV.bel m.length v = true
  | .non, _, _ => rfl
  | .bl b, _, _ => rfl
  | .int i, _, _ => rfl
  | .str x, _, _ => rfl
  | .tup xs, _, h => by
    simp only [RV] at h
    obtain ⟨a, ys, e, hs, hl, hr⟩ := h
    simp only [PV.bel]
    exact RVs.below hr
  | .ref i, _, h => by
    simp only [RV] at h
    obtain ⟨a, e, _⟩ := h
    simp only [PV.bel, decide_eq_true_eq]
    by_cases hi : i < m.length
    · exact hi
    · rw [List.getElem?_eq_none (by omega)] at e; cases e
  | .fn k, _, _ => rfl
  | .cls k, _, _ => rfl
  | .ty n, _, _ => rfl
theorem RVs.below : ∀ {vs : List PV} {xs : List V}, RVs K A H m vs xs → PV.bels m.length vs = true
  | [], _, _ => rfl
  | v :: vs, _, h => by
    simp only [RVs] at h
    obtain ⟨y, r, e, h1, h2⟩ := h
    simp only [PV.bels, RV.below h1, RVs.below h2, Bool.and_self]
end
mutual
/-- fewer addresses, when no reference goes to what is dropped -/
theorem RV.narrow : ∀ {v : PV} {x : V}, RV K A H (m ++ more) v x → PV.bel m.length v = true → RV K A H m v x
  | .non, _, h, _ => by simp only [RV] at h ⊢; exact h
  | .bl b, _, h, _ => by simp only [RV] at h ⊢; exact h
  | .int i, _, h, _ => by simp only [RV] at h ⊢; exact h
  | .str x, _, h, _ => by simp only [RV] at h ⊢; exact h
  | .tup xs, _, h, b => by
    simp only [RV] at h ⊢
    simp only [PV.bel] at b
    obtain ⟨a, ys, e, hs, hl, hr⟩ := h
    exact ⟨a, ys, e, hs, hl, RVs.narrow hr b⟩
  | .ref i, _, h, b => by
    simp only [RV] at h ⊢
    simp only [PV.bel, decide_eq_true_eq] at b
    obtain ⟨a, e, h⟩ := h
    rw [List.getElem?_append_left b] at e
    exact ⟨a, e, h⟩
  | .fn k, _, h, _ => by simp only [RV] at h ⊢; exact h
  | .cls k, _, h, _ => by simp only [RV] at h ⊢; exact h
  | .ty n, _, h, _ => by simp only [RV] at h ⊢; exact h
theorem RVs.narrow : ∀ {vs : List PV} {xs : List V}, RVs K A H (m ++ more) vs xs → PV.bels m.length vs = true → RVs K A H m vs xs
  | [], _, h, _ => by simp only [RVs] at h ⊢; exact h
  | v :: vs, _, h, b => by
    simp only [RVs] at h ⊢
    simp only [PV.bels, Bool.and_eq_true] at b
    obtain ⟨y, r, e, h1, h2⟩ := h
    exact ⟨y, r, e, RV.narrow h1 b.1, RVs.narrow h2 b.2⟩
end
theorem FR.narrow : ∀ {fs : List (Str × PV)} {gs : List (Str × V)}, FR K A H (m ++ more) fs gs → (fs.all fun p => PV.bel m.length p.2) = true → FR K A H m fs gs
  | [], _, h, _ => by simp only [FR] at h ⊢; exact h
  | (f, v) :: vs, _, h, b => by
    simp only [FR] at h ⊢
    simp only [List.all_cons, Bool.and_eq_true] at b
    obtain ⟨y, r, e, h1, h2⟩ := h
    exact ⟨y, r, e, RV.narrow h1 b.1, FR.narrow h2 b.2⟩
theorem FR.below : ∀ {fs : List (Str × PV)} {gs : List (Str × V)}, FR K A H m fs gs → (fs.all fun p => PV.bel m.length p.2) = true
  | [], _, _ => rfl
  | (f, v) :: vs, _, h => by
    simp only [FR] at h
    obtain ⟨y, r, e, h1, h2⟩ := h
    simp only [List.all_cons, RV.below h1, FR.below h2, Bool.and_self]
theorem OR.narrow {o : SO} {a : Addr} (h : OR K A H (m ++ more) o a) (b : SO.bel m.length o = true) : OR K A H m o a := by
  cases o with
  | lst xs => obtain ⟨ys, h1, h2, h3⟩ := h; exact ⟨ys, h1, h2, h3.narrow b⟩
  | frz xs => obtain ⟨ob, ys, h1, h2, h3⟩ := h; exact ⟨ob, ys, h1, h2, h3.narrow b⟩
  | dic kvs => exact h
  | ins c fs => obtain ⟨dx, gs, h1, h2⟩ := h; exact ⟨dx, gs, h1, h2.narrow b⟩
  | gone => exact h
theorem OR.below {o : SO} {a : Addr} (h : OR K A H m o a) : SO.bel m.length o = true := by
  cases o with
  | lst xs => obtain ⟨ys, h1, h2, h3⟩ := h; exact h3.below
  | frz xs => obtain ⟨ob, ys, h1, h2, h3⟩ := h; exact h3.below
  | dic kvs => rfl
  | ins c fs => obtain ⟨dx, gs, h1, h2⟩ := h; exact h2.below
  | gone => rfl
/-- a store's references stay within it -/
def Store.wf (st : Store) : Prop := ∀ o ∈ st, SO.bel st.length o = true
theorem Sim.wf (S : Sim K A m st H) : Store.wf st := fun o ho => by
  obtain ⟨i, hi, e⟩ := List.mem_iff_getElem.mp ho
  have h2 : i < m.length := by rw [S.len]; exact hi
  have := (S.at_ i o m[i] (by rw [List.getElem?_eq_getElem hi, e]) (List.getElem?_eq_getElem h2)).below
  rw [S.len] at this
  exact this
/-- the store's end forgotten -/
theorem Sim.narrow {g : Store} (S : Sim K A m (st ++ g) H) (hsn : A.sn = none) (hw : Store.wf st) : ∃ m0 more, m = m0 ++ more ∧ m0.length = st.length ∧ Sim K A m0 st H := by
  have hl : st.length ≤ m.length := by have := S.len; rw [List.length_append] at this; omega
  have hm : m = m.take st.length ++ m.drop st.length := (List.take_append_drop _ _).symm
  have h0 : (m.take st.length).length = st.length := by rw [List.length_take]; omega
  refine ⟨m.take st.length, m.drop st.length, hm, h0, h0, ?_, fun i o a h1 h2 => ?_, S.tb, fun q hq => by rw [hsn] at hq; cases hq⟩
  · have := S.nd
    rw [hm] at this
    exact (List.nodup_append.mp this).1
  · have hi : i < st.length := by
      by_cases hi : i < st.length
      · exact hi
      · rw [List.getElem?_eq_none (by omega)] at h1; cases h1
    have e1 : (st ++ g)[i]? = some o := by rw [List.getElem?_append_left hi]; exact h1
    have e2 : m[i]? = some a := by rw [hm, List.getElem?_append_left (by rw [h0]; exact hi)]; exact h2
    have := S.at_ i o a e1 e2
    rw [hm] at this
    refine OR.narrow this ?_
    rw [h0]
    exact hw o (List.mem_of_getElem? h1)
theorem Later.narrow {m0 more : List Addr} (l : Later m H (m0 ++ more) H1) (hl : m.length ≤ m0.length) : Later m H m0 H1 := by
  obtain ⟨⟨ex, e, f⟩, g, a⟩ := l
  refine ⟨⟨ex.take (m0.length - m.length), ?_, fun x hx => f x (List.mem_of_mem_take hx)⟩, g, a⟩
  have h := congrArg (List.take m0.length) e
  rw [List.take_left, List.take_append] at h
  exact h.trans (congrArg (· ++ _) (List.take_of_length_le hl))
/-- f' tells f's end, but for what f leaves behind in the store -/
def GC (n : Nat) (f f' : Res PV) : Prop := match f' with
  | .bad => True
  | .ok v st' => n ≤ st'.length ∧ Store.wf st' ∧ PV.bel st'.length v = true ∧ ∃ g, f = .ok v (st' ++ g)
  | .exc c fs st' => n ≤ st'.length ∧ Store.wf st' ∧ (fs.all fun p => PV.bel st'.length p.2) = true ∧ ∃ g, f = .exc c fs (st' ++ g)
theorem GC.fin {W : Value → Option Addr → Hp → Prop} {Q : VK} {f f' : Res PV} (hsn : A.sn = none) (S : Sim K A m st H) (g : GC st.length f f') (h : Fin K A (rV K A) W m H Q f') : Fin K A (rV K A) W m H Q f := by
  cases f' with
  | bad => exact h.elim
  | ok v st' =>
    obtain ⟨h1, h2, h3, g, rfl⟩ := g
    intro m' H' x l S' r
    obtain ⟨m0, more, rfl, e, S0⟩ := S'.narrow hsn h2
    exact h m0 H' x (l.narrow (by rw [S.len, e]; exact h1)) S0 (RV.narrow r (by rw [e]; exact h3))
  | exc c fs st' =>
    obtain ⟨h1, h2, h3, g, rfl⟩ := g
    intro m' H' cls d l S' r
    obtain ⟨m0, more, rfl, e, S0⟩ := S'.narrow hsn h2
    refine h m0 H' cls d (l.narrow (by rw [S.len, e]; exact h1)) S0 ⟨r.1, r.2.imp id fun ⟨q1, dd, gs, q2, q3, q4⟩ => ⟨q1, dd, gs, q2, q3, FR.narrow q4 (by rw [e]; exact h3)⟩⟩
end
/-- the promise told by a function of one's own -/
theorem FnG.spec {P : Program} {w : World} {K : PySem.W.Frag} {mg : Str → Option Value} {base : Heap} {A : Ad} {k n : Nat} {f : Addr} {fd : FuncData} {ps : List Str} {f1 f2 : List PV → Store → Res PV} (hsn : A.sn = none) (F : FnG P w K mg base k f fd ps (spFn K A n f1))
    (h : ∀ args st, args.length = n → Store.wf st → PV.bels st.length args = true → GC st.length (f1 args st) (f2 args st)) : FnG P w K mg base k f fd ps (spFn K A n f2) :=
  F.imp fun vs H Q E ⟨hl, m, st, args, S, r, hf⟩ => ⟨hl, m, st, args, S, r, GC.fin hsn S (h args st (by rw [← r.len]; exact hl) S.wf (by rw [← S.len]; exact r.below)) hf⟩
end MP
set_option linter.all false
set_option Elab.async false
set_option maxRecDepth 100000
set_option maxHeartbeats 2000000
namespace MP
open PySem PySem.Spec PyProof.Rows L2 LamX
theorem law_callG {P : Program} {w : World} {K : PySem.W.Frag} {mg mb : Str → Option Value} {k : Nat} {fa a : Addr} {cs : List (Addr × Addr)} {fd : FuncData} {x : Str} {sp : Sp} {s₁ : Shared} {vs : List Value} {ns : List Int}
    (KX : K.In s₁.heap) (hns : s₁.heap.Ns mainGlobals mg) (hb : s₁.heap.Ns builtinsNs mb) (hbb : ∀ x : Str, x ≠ "__name__" → mb x = bootBuiltins x) (hlim : s₁.heap.NoLimit) (hg : s₁.gens = #[])
    (hT : ∀ p ∈ cs, s₁.heap.get? p.2 = some { cls := .none, data := .fields #[] }) (nT : ∀ p ∈ cs, K.lookup p.2 = none) (C : ∀ p ∈ cs, PySem.W.CodeHd s₁.heap p.1 p.2)
    (hbm : ∃ (bm : Addr) (ob : Obj), mg "__builtins__" = some (.ref bm) ∧ bm ≠ builtinsNs ∧ s₁.heap.get? bm = some ob ∧ ob.cls = .type "module" ∧ ob.dict = some builtinsNs ∧ ob.data = .plain)
    (ha : s₁.heap.get? a = some { cls := .type "list", data := .seq vs.toArray }) (hi : IntsAre vs ns) (hl : ns.length ≤ sizeLine) (hr : Room k callerA)
    (F : ∀ base : Heap, K.In base → base.Ns mainGlobals mg → (∀ p ∈ cs, TabB base mg p.1 p.2) → FnG P w K mg base k fa fd [x] sp) (hKa : K.lookup a = none) (hbind : ∀ (s : Shared) (u : Value), BindsTo s fd ⟨[u], []⟩ [(x, u)])
    (hsp : ∀ H : Hp, (∀ p ∈ cs, H p.2 = some (.tbl #[])) → (∃ o, H a = some (.frz o (.lst (ns.map V.int)))) → sp [.ref a] H (fun v _ => v = .bl true) fun _ _ _ => False) :
    codeAny (model P w) callerA (.call (.ref fa) ⟨[.ref a], []⟩) (fun r s' => r = .ok (.ret (.bool true)) ∧ OldK s₁.heap s'.heap ∧ s'.os = s₁.os ∧ AllBare s'.gens) s₁ := by
  have rv := vals_ints hi
  have lenV := hi.length
  have isT : ∀ b : Addr, b ∈ cs.map (·.2) → s₁.heap.get? b = some { cls := .none, data := .fields #[] } := fun b hb => by
    obtain ⟨p, hp, e⟩ := List.mem_map.mp hb
    rw [← e]
    exact hT p hp
  have aT : a ∉ cs.map (·.2) := fun z => by
    have q := isT a z
    rw [ha] at q
    have z' : Data.seq vs.toArray _ = Data.fields #[] := congrArg Obj.data (Option.some.inj q)
    cases z'
  have memT : ∀ p ∈ cs, p.2 ∈ cs.map (·.2) := fun p hp => List.mem_map.mpr ⟨p, hp, rfl⟩
  -- from an abstract heap in which nothing but the script and the tables may be tracked
  have core : ∀ H : Hp, (∀ p ∈ cs, H p.2 = some (.tbl #[])) → (∀ b, H b = none ∨ b ∈ cs.map (·.2) ∨ ∃ o xs, H b = some (.frz o (.lst xs))) → (∃ o, H a = some (.frz o (.lst (ns.map V.int)))) → HOk P w H s₁.heap → (∀ b, H b ≠ none → b = a ∨ b ∈ cs.map (·.2)) → (H a ≠ none → K.lookup a = none) →
      codeAny (model P w) callerA (.call (.ref fa) ⟨[.ref a], []⟩) (fun r s' => r = .ok (.ret (.bool true)) ∧ OldK s₁.heap s'.heap ∧ s'.os = s₁.os ∧ AllBare s'.gens) s₁ := by
    intro H hH hO hS hok hA hK
    have base_of : ∀ {b : Addr} {o : Obj}, s₁.heap.get? b = some o → H b = none → (hidT s₁.heap H).get? b = some o := fun e n => hidT_get e n
    have noD : ∀ {b : Addr} {o : Obj}, s₁.heap.get? b = some o → (∀ vs n, o.data ≠ .seq vs n) → o.data ≠ .fields #[] → H b = none := fun {b o} e h1 h2 => by
      cases q : H b with
      | none => rfl
      | some u =>
        rcases hA b (by rw [q]; simp) with e' | e'
        · rw [e', ha] at e
          cases e
          exact (h1 _ _ rfl).elim
        · rw [isT b e'] at e
          cases e
          exact (h2 rfl).elim
    have noA : ∀ {b : Addr} {o : Obj} {es : Array DictEntry} {ep : Nat}, s₁.heap.get? b = some o → o.data = .dict es ep → H b = none := fun {b o es ep} e d => by
      refine noD e (fun vs n z => ?_) fun z => ?_
      · rw [d] at z
        cases z
      · rw [d] at z
        cases z
    have nsK : ∀ {b : Addr} {m : Str → Option Value}, s₁.heap.Ns b m → (hidT s₁.heap H).Ns b m := fun {b m} ⟨o, es, ep, e, d, r⟩ => ⟨o, es, ep, base_of e (noA e d), d, r⟩
    have hKb : K.In (hidT s₁.heap H) := fun b o e => base_of (KX b o e) (by
      cases q : H b with
      | none => rfl
      | some u =>
        rcases hA b (by rw [q]; simp) with e' | e'
        · rw [e'] at e q
          rw [hK (by rw [q]; simp)] at e
          cases e
        · obtain ⟨p, hp, ep⟩ := List.mem_map.mp e'
          rw [← ep, nT p hp] at e
          cases e)
    have hM : L2.Mod K mg (hidT s₁.heap H) := ⟨hKb, nsK hns, ⟨mb, nsK hb, hbb⟩, let ⟨mc, h1, h2⟩ := hlim; ⟨mc, nsK h1, h2⟩⟩
    have TB : ∀ p ∈ cs, TabB (hidT s₁.heap H) mg p.1 p.2 := fun p hp => by
      have hTp := hT p hp
      refine ⟨?_, ?_, fun z => ?_⟩
      · obtain ⟨o, us, file, tf, flags, tg, inF, text, tt, e1, r1, r2, r3, r4, r5, r6, r7, r8, hne⟩ := C p hp
        refine ⟨o, us, file, tf, flags, tg, inF, text, tt, base_of e1 (noD e1 (fun vs n z => ?_) fun z => ?_), r1, r2, r3, r4, r5, r6, r7, r8, hne⟩
        · rw [r2] at z
          cases z
        · rw [r2] at z
          cases z
          simp at r3
      · obtain ⟨bm, ob, b1, b2, b3, b4, b5, b6⟩ := hbm
        have nG : bm ≠ mainGlobals := fun q => by
          obtain ⟨o, es, ep, e, hd, _⟩ := hns
          rw [q, e] at b3
          cases b3
          rw [hd] at b6
          cases b6
        have nP : bm ≠ p.2 := fun q => by
          rw [q, hTp] at b3
          cases b3
          cases b6
        refine ⟨bm, ob, b1, b2, nG, nP, base_of b3 (noD b3 (fun vs n z => ?_) fun z => ?_), b4, b5, b6⟩
        · rw [b6] at z
          cases z
        · rw [b6] at z
          cases z
      · obtain ⟨o, es, ep, e, hd, _⟩ := hns
        rw [z, hTp] at e
        cases e
        cases hd
    have e0 : Env0 P w K mg (hidT s₁.heap H) callerA [] s₁ H := ⟨rfl, hM, fun b o e => of_hidT e, Nat.le_of_eq (hidT_size _ _), trivial, fun b hb => absurd (show b ∈ ([] : List Addr) from hb) (by simp), hok, .of_eq hg⟩
    refine codeAny_mono ((F _ hKb (nsK hns) TB).run callerA [] s₁ H ⟨[.ref a], []⟩ [.ref a] [.ref a] _ _ hr rfl e0 (hbind s₁ (.ref a)) (.cons rfl .nil) (hsp H hH hS)) fun r s' h => ?_
    cases r with
    | error e => obtain ⟨_, _, _, _, _, _, _, _, _, _, _, _, z⟩ := h; exact z.elim
    | ok fl =>
      cases fl with
      | next => exact False.elim h
      | brk => exact False.elim h
      | cont => exact False.elim h
      | ret u =>
        obtain ⟨v, H', os, bare, un, hok', r', q⟩ := h
        have q' : v = .bl true := q
        subst q'
        obtain rfl : u = Value.bool true := r'
        have key : ∀ b o, b ∉ cs.map (·.2) → s₁.heap.get? b = some o → s'.heap.get? b = some o := fun b o nb e => by
          cases q : H b with
          | none => exact un.keep b o e q (by intro z; exact absurd (show b ∈ ([] : List Addr) from z) (by simp)) (by simp)
          | some u =>
            rcases hO b with z | z | ⟨ob, xs, z⟩
            · rw [q] at z; cases z
            · exact absurd z nb
            · have z2 := un.frzs b ob _ z
              obtain ⟨e1, _⟩ := hok b _ z
              obtain ⟨e2, _⟩ := hok' b _ z2
              rw [e] at e1; cases e1
              exact e2
        have grown : ∀ p ∈ cs, ∃ more : Array Value, s'.heap.get? p.2 = some { cls := .none, data := .fields more } := fun p hp => by
          obtain ⟨more, z⟩ := un.tbls p.2 #[] (hH p hp)
          exact ⟨_, hok' p.2 _ z⟩
        refine ⟨rfl, ⟨fun b o e => ?_, fun b o e => ?_⟩, os, bare⟩
        · by_cases hb : b ∈ cs.map (·.2)
          · obtain ⟨p, hp, ep⟩ := List.mem_map.mp hb
            obtain ⟨more, hm⟩ := grown p hp
            rw [← ep] at e ⊢
            rw [hT p hp] at e
            cases e
            exact .inr (.inl ⟨((C p hp).tab (hT p hp)).isCodeTable, rfl, #[], more, rfl, by rw [Array.empty_append]; exact hm⟩)
          · exact .inl (key b o hb e)
        · by_cases hb : b ∈ cs.map (·.2)
          · obtain ⟨p, hp, ep⟩ := List.mem_map.mp hb
            obtain ⟨more, hm⟩ := grown p hp
            rw [← ep]
            exact ⟨_, hm⟩
          · exact ⟨o, key b o hb e⟩
  refine core (fun b => if b = a then some (.frz { cls := .type "list", data := .seq vs.toArray } (.lst (ns.map V.int))) else if b ∈ cs.map (·.2) then some (.tbl #[]) else none) (fun p hp => (if_neg (show ¬ p.2 = a from fun z => aT (by rw [← z]; exact memT p hp))).trans (if_pos (memT p hp))) (fun b => ?_)
    ⟨{ cls := .type "list", data := .seq vs.toArray }, if_pos rfl⟩ (fun b u z => ?_) (fun b z => ?_) fun _ => hKa
  · by_cases hb : b = a
    · exact .inr (.inr ⟨_, _, if_pos hb⟩)
    · by_cases hb2 : b ∈ cs.map (·.2)
      · exact .inr (.inl hb2)
      · exact .inl ((if_neg hb).trans (if_neg hb2))
  · by_cases hb : b = a
    · have z' := (if_pos hb).symm.trans z
      cases z'
      rw [hb]
      exact ⟨ha, by rw [List.length_map]; exact hl, vs, _, rv, ha⟩
    · have z1 := (if_neg hb).symm.trans z
      by_cases hb2 : b ∈ cs.map (·.2)
      · have z' := (if_pos hb2).symm.trans z1
        cases z'
        exact isT b hb2
      · have z' := (if_neg hb2).symm.trans z1
        cases z'
  · by_cases hb : b = a
    · exact .inl hb
    · by_cases hb2 : b ∈ cs.map (·.2)
      · exact .inr hb2
      · exact absurd ((if_neg hb).trans (if_neg hb2)) z

/-- what is known of the law's promise at the head's heap h -/
def LawAtG (P : Program) (w : World) (K : PySem.W.Frag) (k n : Nat) (x : Str) (mg : Str → Option Value) (fa : Addr) (h : Heap) : Prop :=
  ∃ (fd : FuncData) (cs : List (Addr × Addr)) (sp : Sp), (∀ p ∈ cs, h.get? p.2 = some { cls := .none, data := .fields #[] }) ∧ (∀ p ∈ cs, K.lookup p.2 = none) ∧ (∀ p ∈ cs, PySem.W.CodeHd h p.1 p.2) ∧ (∀ (s : Shared) (u : Value), BindsTo s fd ⟨[u], []⟩ [(x, u)]) ∧
    (∀ (H : Hp) (a : Addr) (ns : List Int), ns.length ≤ n → (∀ z ∈ ns, Builtin.Int.intBits z ≤ 1048576) → (∀ p ∈ cs, H p.2 = some (.tbl #[])) → (∃ o, H a = some (.frz o (.lst (ns.map V.int)))) → sp [.ref a] H (fun v _ => v = .bl true) fun _ _ _ => False) ∧
    ∀ base : Heap, K.In base → base.Ns mainGlobals mg → (∀ p ∈ cs, TabB base mg p.1 p.2) → FnG P w K mg base k fa fd [x] sp
/-- no list stands in K -/
def noLists (K : PySem.W.Frag) : Bool := K.all fun p => p.2.cls != .type "list"
theorem noLists_ok {K : PySem.W.Frag} (h : noLists K = true) {a : Addr} {o : Obj} (e : K.lookup a = some o) : o.cls ≠ .type "list" := by
  induction K with
  | nil => cases e
  | cons p r ih =>
    obtain ⟨b, o'⟩ := p
    unfold noLists at h
    rw [List.all_cons, Bool.and_eq_true] at h
    rw [List.lookup_cons] at e
    cases q : a == b with
    | true =>
      rw [q] at e
      cases e
      exact fun z => by
        have := h.1
        simp [z] at this
    | false =>
      rw [q] at e
      exact ih h.2 e
theorem walk_ofG {l : PySem.W.OpenLaw} {n k : Nat} {q : Program} {loose : List Str} {XP : (Str → Option Value) → Heap → Prop} {YP : World → Heap → Prop} {d : DefRec} {x : Str}
    (hn : l.most = some n) (hn2 : n ≤ sizeLine) (hdf : d.params.defaults = []) (hr : Room k callerA)
    (F : ∀ (w : World) (mg : Str → Option Value) (fa : Addr) (h : Heap), YP w h → h.Ns mainGlobals mg → mg d.name = some (.ref fa) → ∃ K : PySem.W.Frag, K.In h ∧ noLists K = true ∧ LawAtG l.prog w K k n x mg fa h) :
    PySem.W.WalkO q loose XP YP l.row.toRowW d [] (fun f vs => PySem.call f vs) := by
  refine Att.attach_callB hn hdf fun w s₀ s₁ mg mb fa o pm cd doc a vs ns G Y ho hd hcd hmg hobj hints hlen hbits hg => ?_
  obtain ⟨K, KX, nl, fd, cs, sp, hT, nT, C, hb, hsp, hF⟩ := F w mg fa _ Y G.T.g hmg
  have hKa : K.lookup a = none := by
    cases e : K.lookup a with
    | none => rfl
    | some o =>
      have e2 := KX a o e
      rw [hobj] at e2
      cases e2
      exact absurd rfl (noLists_ok nl e)
  exact law_callG KX G.T.g G.T.b G.T.builtins G.T.nolimit hg hT nT C G.T.bmain hobj hints (Nat.le_trans hlen hn2) hr hF hKa hb (fun H hH hS => hsp H a ns hlen hbits hH hS)
theorem rvs_ints {K : PySem.W.Frag} {A : Ad} {H : Hp} {m : List Addr} : ∀ ns : List Int, RVs K A H m (ns.map PV.int) (ns.map V.int)
  | [] => RVs.nil
  | n :: ns => RVs.cons (by simp only [RV]) (rvs_ints ns)
/-- the law's promise from its function's answers -/
theorem law_sp {K : PySem.W.Frag} {A : Ad} {n : Nat} {cs : List (Addr × Addr)} {f : List PV → Store → Res PV} (hb : A.base = A) (ht : ∀ p ∈ A.tabs, ∃ c, (c, p.1) ∈ cs) (hn : n ≤ szl)
    (hf : ∀ ns : List Int, ns.length ≤ n → (∀ z ∈ ns, Builtin.Int.intBits z ≤ 1048576) → ∃ st, f [.ref 0] [.frz (ns.map PV.int)] = .ok (.bl true) st) :
    ∀ (H : Hp) (a : Addr) (ns : List Int), ns.length ≤ n → (∀ z ∈ ns, Builtin.Int.intBits z ≤ 1048576) → (∀ p ∈ cs, H p.2 = some (.tbl #[])) → (∃ o, H a = some (.frz o (.lst (ns.map V.int)))) → spFn K A 1 f [.ref a] H (fun v _ => v = .bl true) fun _ _ _ => False := by
  intro H a ns h1 h2 h3 ⟨o, h4⟩
  obtain ⟨st, hf⟩ := hf ns h1 h2
  have tb : TabK A H := ⟨fun p hp => by
    obtain ⟨c, hc⟩ := ht p hp
    exact TabS.nil (h3 _ hc), fun p hp => by rw [← hb] at hp; cases hp⟩
  refine ⟨rfl, [a], [.frz (ns.map PV.int)], [.ref 0], ⟨rfl, by simp, fun i so b e1 e2 => ?_, tb, fun q hq => by rw [← hb] at hq; cases hq⟩, ?_, ?_⟩
  · cases i with
    | zero =>
      cases e1; cases e2
      exact ⟨o, _, h4, by rw [List.length_map]; exact Nat.le_trans h1 hn, rvs_ints ns⟩
    | succ i => cases e1
  · exact RVs.cons (by simp only [RV]; exact ⟨a, rfl, rfl⟩) RVs.nil
  · rw [hf]
    intro m' H' x l S r
    simp only [RV] at r
    exact r
end MP
set_option linter.all false
set_option Elab.async false
set_option maxRecDepth 100000
set_option maxHeartbeats 4000000
namespace MP
open PySem PySem.Spec PyProof.Rows L2 LamX

def notStar : Expr → Bool
  | .Starred _ _ => false
  | _ => true
theorem star_of {e : Expr} (h : notStar e = true) (es : List Expr) (env : PySem.Env) : starEach (e :: es) env = (false, eval e env) :: starEach es env := by
  cases e <;> first | rfl | cases h
theorem stars_of {pos : Pos} {env : PySem.Env} : ∀ {es : List Expr}, es.all notStar = true → (backTo pos (starEach es env)).any (·.1) = false
  | [], _ => rfl
  | e :: es, h => by
    rw [List.all_cons, Bool.and_eq_true] at h
    rw [star_of h.1]
    show (false || (backTo pos (starEach es env)).any (·.1)) = false
    rw [stars_of h.2]
    rfl
theorem few_all {pos : Pos} {env : PySem.Env} : ∀ {es : List Expr}, es.all notStar = true → ((backTo pos (starEach es env)).all fun x => !x.1) = true
  | [], _ => rfl
  | e :: es, h => by
    rw [List.all_cons, Bool.and_eq_true] at h
    rw [star_of h.1]
    show (true && (backTo pos (starEach es env)).all fun x => !x.1) = true
    rw [few_all h.2]
    rfl
theorem few_of {pos : Pos} {es : List Expr} (h : es.all notStar = true) (hl : es.length < 30) (env : PySem.Env) :
    ((backTo pos (starEach es env)).all (fun x => !x.1) && (backToKw pos (keywordEach [] env)).all (fun x => x.1.isSome) && decide (es.length + ([] : List Keyword).length + (if ([] : List Keyword).isEmpty then 0 else 1) < 30)) = true := by
  rw [few_all h]
  show (true && true && decide (es.length + 0 + 0 < 30)) = true
  simp [hl]
theorem asgn_of {e : Expr} (h : notStar e = true) (es : List Expr) (env : PySem.Env) : assignEach (e :: es) env = (false, assign e env) :: assignEach es env := by
  cases e <;> first | rfl | cases h
theorem asgn1 {e : Expr} (h : notStar e = true) (es : List Expr) (env : PySem.Env) : (assignEach (e :: es) env).map (·.2) = assign e env :: (assignEach es env).map (·.2) := by
  rw [asgn_of h]; rfl
theorem asgn_len {env : PySem.Env} : ∀ {es : List Expr}, es.all notStar = true → (assignEach es env).length = es.length
  | [], _ => rfl
  | e :: es, h => by
    rw [List.all_cons, Bool.and_eq_true] at h
    rw [asgn_of h.1, List.length_cons, List.length_cons, asgn_len h.2]
theorem asgn_st {env : PySem.Env} : ∀ {es : List Expr}, es.all notStar = true → (assignEach es env).findIdx? (·.1) = none
  | [], _ => rfl
  | e :: es, h => by
    rw [List.all_cons, Bool.and_eq_true] at h
    rw [asgn_of h.1, List.findIdx?_cons]
    simp [asgn_st h.2]
def notSuper : Expr → Bool
  | .Call (.Name _ _) [] [] _ => false
  | _ => true
theorem base_of {o : Expr} (h : notSuper o = true) (attr : Str) (env : PySem.Env) (w : Sem Value) : attributeBase o attr env w = w := by
  unfold attributeBase
  split
  · cases h
  · rfl
def plainTest : Expr → Bool
  | .UnaryOp .Not _ _ | .BoolOp _ _ _ | .IfExp _ _ _ _ | .Compare _ _ _ _ => false
  | _ => true
theorem test_of {e : Expr} (h : plainTest e = true) (env : PySem.Env) (whole : Sem Value) : isTrue e env whole = (do let v ← whole; standAt e.pos; holding [v] (truthy v)) := by
  cases e <;> first | rfl | (cases h; done) | (rename_i op _ _; cases op <;> first | rfl | cases h)
def plainIxB : Expr → Bool
  | .Slice _ _ _ _ => false
  | _ => true
theorem ix_of {e : Expr} (h : plainIxB e = true) : PlainIx e := by
  intro o i
  cases e <;> first | rfl | cases h
def notSet : Expr → Bool
  | .Set _ _ _ => false
  | _ => true
theorem set_of {e : Expr} (h : notSet e = true) (env : PySem.Env) (x : Value) : foldedSetIterable e env x = pure x := by
  cases e <;> first | rfl | cases h
def notComp : Expr → Bool
  | .ListComp _ _ _ _ | .SetComp _ _ _ _ | .DictComp _ _ _ _ _ => false
  | _ => true
theorem sw_of {e : Expr} (h : notComp e = true) (t : Option Expr) (l : Nat) (env : PySem.Env) : swapsWith e t l env = pure false := by
  cases e <;> first | rfl | cases h
theorem sws_of {e t : Expr} (h : notComp e = true) (l : Nat) (env : PySem.Env) : swapsWithSole [t] e l env = pure false := sw_of h _ _ _
/-- a place with this scope -/
def envS (sc : Scope) : PySem.Env := { scope := sc, locals := 0, globals := 0, cells := [] }
def semVal {α : Type} : Sem α → Option α
  | .pure a => some a
  | _ => none
theorem semVal_ok {α : Type} {t : Sem α} {a : α} (h : semVal t = some a) : t = pure a := by
  cases t <;> first | (cases h; rfl) | cases h
theorem stores_scope {ts : List Expr} {v : Expr} {env env' : PySem.Env} (h : env.scope = env'.scope) : swappedStores ts v env = swappedStores ts v env' := by
  unfold swappedStores PySem.Env.blockKind PySem.Env.kindOf
  rw [h]
theorem stores_of {ts : List Expr} {v : Expr} {sc : Scope} {r : Option (List Str)} (h : semVal (swappedStores ts v (envS sc)) = some r) (env : PySem.Env) (he : env.scope = sc) : swappedStores ts v env = pure r :=
  (stores_scope (env' := envS sc) he).trans (semVal_ok h)
theorem sw_scope {e : Expr} {t : Option Expr} {l : Nat} {env env' : PySem.Env} (h : env.scope = env'.scope) : swapsWith e t l env = swapsWith e t l env' := by
  unfold swapsWith PySem.Env.blockKind PySem.Env.kindOf
  rw [h]
theorem swap_of {e : Expr} {t : Option Expr} {l : Nat} {sc : Scope} {r : Bool} (h : semVal (swapsWith e t l (envS sc)) = some r) (env : PySem.Env) (he : env.scope = sc) : swapsWith e t l env = pure r :=
  (sw_scope (env' := envS sc) he).trans (semVal_ok h)

def findIx (x : Str) : (N : List Str) → Option {i : Nat // N[i]? = some x}
  | [] => none
  | y :: r => if h : y = x then some ⟨0, by rw [h]; rfl⟩ else match findIx x r with
    | some ⟨i, hi⟩ => some ⟨i + 1, hi⟩
    | none => none
def findFn (x : Str) : (l : List (Str × Nat × Nat)) → Option {q : Nat × Nat × Nat // l[q.1]? = some (x, q.2.1, q.2.2)}
  | [] => none
  | (y, n, l) :: r => if h : y = x then some ⟨(0, n, l), by rw [h]; rfl⟩ else match findFn x r with
    | some ⟨(i, n, l), hi⟩ => some ⟨(i + 1, n, l), hi⟩
    | none => none
def findLam (x : Str) : (l : List (Str × Nat)) → Option {q : Nat × Nat // l[q.1]? = some (x, q.2)}
  | [] => none
  | (y, l) :: r => if h : y = x then some ⟨(0, l), by rw [h]; rfl⟩ else match findLam x r with
    | some ⟨(i, l), hi⟩ => some ⟨(i + 1, l), hi⟩
    | none => none
/-- a built-in type's name -/
def findTy (x : Str) : Option {n : String // bootBuiltins x = some (.type n) ∧ x ≠ "__name__"} :=
  if h : x = "int" then some ⟨"int", by rw [h]; exact ⟨PyProof.Rows.boot_int, by decide⟩⟩
  else if h : x = "bool" then some ⟨"bool", by rw [h]; exact ⟨by decide +kernel, by decide⟩⟩
  else if h : x = "str" then some ⟨"str", by rw [h]; exact ⟨by decide +kernel, by decide⟩⟩
  else if h : x = "tuple" then some ⟨"tuple", by rw [h]; exact ⟨PyProof.Rows.boot_tuple, by decide⟩⟩
  else if h : x = "list" then some ⟨"list", by rw [h]; exact ⟨PyProof.Rows.boot_list, by decide⟩⟩
  else if h : x = "dict" then some ⟨"dict", by rw [h]; exact ⟨by decide +kernel, by decide⟩⟩
  else none
/-- a built-in function's name -/
def findBlt (x : Str) : Option {k : Blt // bootBuiltins x = some (bltV k) ∧ x ≠ "__name__"} :=
  if h : x = "len" then some ⟨.len, by rw [h]; exact ⟨boot_len, by decide⟩⟩
  else if h : x = "isinstance" then some ⟨.isinst, by rw [h]; exact ⟨PyProof.Rows.boot_isinstance, by decide⟩⟩
  else if h : x = "all" then some ⟨.all, by rw [h]; exact ⟨PyProof.Rows.boot_all, by decide⟩⟩
  else if h : x = "any" then some ⟨.any, by rw [h]; exact ⟨PyProof.Rows.boot_any, by decide⟩⟩
  else if h : x = "tuple" then some ⟨.tuple, by rw [h]; exact ⟨PyProof.Rows.boot_tuple, by decide⟩⟩
  else if h : x = "list" then some ⟨.list, by rw [h]; exact ⟨PyProof.Rows.boot_list, by decide⟩⟩
  else if h : x = "int" then some ⟨.int, by rw [h]; exact ⟨PyProof.Rows.boot_int, by decide⟩⟩
  else if h : x = "sorted" then some ⟨.sorted, by rw [h]; exact ⟨PyProof.Rows.boot_sorted, by decide⟩⟩
  else if h : x = "repr" then some ⟨.repr, by rw [h]; exact ⟨PyProof.Rows.boot_repr, by decide⟩⟩
  else if h : x = "sum" then some ⟨.sum, by rw [h]; exact ⟨PyProof.Rows.boot_sum, by decide⟩⟩
  else if h : x = "min" then some ⟨.min, by rw [h]; exact ⟨PyProof.Rows.boot_min, by decide⟩⟩
  else if h : x = "max" then some ⟨.max, by rw [h]; exact ⟨PyProof.Rows.boot_max, by decide⟩⟩
  else if h : x = "abs" then some ⟨.abs, by rw [h]; exact ⟨PyProof.Rows.boot_abs, by decide⟩⟩
  else none
def findMth (x : Str) : Option {k : Mth // Slot "list" x (mthId k) ∧ typeOf (.builtin (mthId k)) = pure (.type "method_descriptor")} :=
  if h : x = "append" then some ⟨.append, by rw [h]; exact ⟨PySem.F.slot_list_append, PySem.F.type_list_append⟩⟩
  else if h : x = "count" then some ⟨.count, by rw [h]; exact ⟨PySem.F.slot_list_count, PySem.F.type_list_count⟩⟩
  else if h : x = "index" then some ⟨.index, by rw [h]; exact ⟨PySem.F.slot_list_index, PySem.F.type_list_index⟩⟩
  else if h : x = "extend" then some ⟨.extend, by rw [h]; exact ⟨PySem.F.slot_list_extend, PySem.F.type_list_extend⟩⟩
  else if h : x = "pop" then some ⟨.pop, by rw [h]; exact ⟨PySem.F.slot_list_pop, PySem.F.type_list_pop⟩⟩
  else none
def readsOnly : Blt → Bool
  | .len | .all | .any | .tuple | .list | .sum | .sorted => true
  | _ => false
/-- made here -/
def freshForm : Nat → Expr → Bool
  | 0, _ => false
  | n + 1, e => match e with
    | .ListComp _ _ _ _ | .List _ _ => true
    | .Call (.Name x _) [_] [] _ => x == ("sorted" : Str)
    | .BinOp a .Add _ _ => freshForm n a
    | _ => false
end MP
set_option linter.all false
set_option Elab.async false
set_option maxRecDepth 100000
set_option maxHeartbeats 4000000
namespace MP
open PySem PySem.Spec PyProof.Rows L2 LamX

def cName (B : Tb) (cm : Bool) (sc : Scope) (N : List Str) (x : Str) (pos : Pos) : Option {e' : Ex // SE B cm sc N (.Name x pos) e'} :=
  if hd : (x == ("__debug__" : Str)) = false then
    if hcd : (x == ("__classdict__" : Str)) = false then
      match hk : sc.names.lookup x with
      | some .local => match findIx x N with
        | some ⟨i, hi⟩ => some ⟨.var i, SE.var hi (.inl hk) hd hcd⟩
        | none => none
      | some .cell => match findIx x N with
        | some ⟨i, hi⟩ => some ⟨.var i, SE.var hi (.inr (.inl hk)) hd hcd⟩
        | none => none
      | some .free => match findIx x N with
        | some ⟨i, hi⟩ => some ⟨.var i, SE.var hi (.inr (.inr hk)) hd hcd⟩
        | none => none
      | some .globalImplicit => match hc : B.cons.lookup x with
        | some v => some ⟨.lit v, SE.glob hk hc hd⟩
        | none => match findFn x B.fns with
          | some ⟨(k, n, l), h⟩ => some ⟨.lit (.fn k), SE.gfn hk h hd⟩
          | none => match findIx x B.clss with
            | some ⟨k, h⟩ => some ⟨.lit (.cls k), SE.gcl hk h hd⟩
            | none => match findTy x with
              | some ⟨n, h⟩ => if hf : x ∈ B.frees then some ⟨.lit (.ty n), SE.gty hk hf h.1 h.2 hd⟩ else none
              | none => none
      | _ => none
    else none
  else none
/-- a target -/
def cG (F : List Str) (sc : Scope) (N : List Str) : Nat → (e : Expr) → Option {t : Tg // SG F sc N e t}
  | 0, _ => none
  | n + 1, e => match e with
    | .Name x pos => match findIx x N with
      | some ⟨i, hi⟩ => if hl : sc.names.lookup x = some .local then some ⟨.nm i, SG.name hi (.inl hl) (.inr hl)⟩
        else if hc : sc.names.lookup x = some .cell then (if hf : x ∈ F then some ⟨.nm i, SG.name hi (.inr hc) (.inl hf)⟩ else none)
        else none
      | none => none
    | .Tuple es k pos => match go n es with
      | some ⟨ts, h⟩ => if hs : es.all notStar = true ∧ es.length = ts.length then some ⟨.tup ts, SG.tup h (fun env => by rw [asgn_len hs.1, hs.2]) (fun env => asgn_st hs.1)⟩ else none
      | none => none
    | _ => none
where go : Nat → (es : List Expr) → Option {ts : List Tg // SGs F sc N es ts}
  | 0, _ => none
  | n + 1, es => match es with
    | [] => some ⟨[], SGs.nil⟩
    | e :: es => match cG F sc N n e, go n es with
      | some ⟨t, h1⟩, some ⟨ts, h2⟩ => if hs : notStar e = true then some ⟨t :: ts, SGs.cons h1 h2 (fun env => asgn1 hs es env)⟩ else none
      | _, _ => none
/-- the block's own names with their slots -/
def ownOf (N : List Str) (names : List (Str × NameKind)) : List (Str × Nat) := names.filterMap fun p => match p.2 with
  | .local | .cell => (findIx p.1 N).map fun q => (p.1, q.1)
  | _ => none
def cellsOf (names : List (Str × NameKind)) : List Str := names.filterMap fun p => match p.2 with
  | .cell => some p.1
  | _ => none

mutual
/-- an expression -/
def cE (B : Tb) (cm : Bool) (er : Option Str) (sc : Scope) (N : List Str) : Nat → (e : Expr) → Option {e' : Ex // SE B cm sc N e e'}
  | 0, _ => none
  | n + 1, e => match e with
    | .Constant (.int i) j pos => some ⟨.lit (.int i), SE.int⟩
    | .Constant (.bool i) j pos => some ⟨.lit (.bl i), SE.bl⟩
    | .Constant .none j pos => some ⟨.lit .non, SE.non⟩
    | .Constant (.str i) j pos => some ⟨.lit (.str i), SE.str⟩
    | .Dict [] [] pos => some ⟨.emp, SE.emp⟩
    | .Name x pos => cName B cm sc N x pos
    | .Tuple es k pos => match cEs B cm er sc N n es with
      | some ⟨es', h⟩ => if hl : es'.length ≤ szl then some ⟨.tup es', SE.tup h hl⟩ else none
      | none => none
    | .BinOp a op b pos => match freshForm n (.BinOp a op b pos) with
      | true => match cF B cm er sc N n (.BinOp a op b pos) with
        | some ⟨l, h⟩ => some ⟨.lx l, SE.lx h⟩
        | none => none
      | false => match cE B cm er sc N n a, cE B cm er sc N n b with
        | some ⟨a', ha⟩, some ⟨b', hb⟩ => some ⟨.bin op a' b', SE.bin ha hb⟩
        | _, _ => none
    | .UnaryOp .USub a pos => match cE B cm er sc N n a with
      | some ⟨a', ha⟩ => some ⟨.neg a', SE.neg ha⟩
      | none => none
    | .UnaryOp .Not a pos => match cE B cm er sc N n a with
      | some ⟨a', ha⟩ => some ⟨.not a', SE.not ha⟩
      | none => none
    | .BoolOp op [a] pos => match cE B cm er sc N n a with
      | some ⟨a', ha⟩ => some ⟨a', SE.one ha⟩
      | none => none
    | .BoolOp .And (a :: b :: es) pos => match cE B cm er sc N n a, cE B cm er sc N n (.BoolOp .And (b :: es) pos) with
      | some ⟨a', ha⟩, some ⟨b', hb⟩ => some ⟨.and a' b', SE.and ha hb⟩
      | _, _ => none
    | .BoolOp .Or (a :: b :: es) pos => match cE B cm er sc N n a, cE B cm er sc N n (.BoolOp .Or (b :: es) pos) with
      | some ⟨a', ha⟩, some ⟨b', hb⟩ => some ⟨.or a' b', SE.or ha hb⟩
      | _, _ => none
    | .Compare a [op] [b] pos => match cE B cm er sc N n a, cE B cm er sc N n b with
      | some ⟨a', ha⟩, some ⟨b', hb⟩ => if hm : behindInMarks op b = false then some ⟨.cmp op a' b', SE.cmp ha hb hm⟩ else none
      | _, _ => none
    | .Compare a [op, op'] [b, c] pos => match cE B cm er sc N n a, cE B cm er sc N n b, cE B cm er sc N n c with
      | some ⟨a', ha⟩, some ⟨b', hb⟩, some ⟨c', hc⟩ => if hm : lastMarks [op, op'] [b, c] = false then some ⟨.chain op op' a' b' c', SE.chain ha hb hc hm⟩ else none
      | _, _, _ => none
    | .IfExp t a b pos => match cT B cm er sc N n t, cE B cm er sc N n a, cE B cm er sc N n b with
      | some ⟨t', ht⟩, some ⟨a', ha⟩, some ⟨b', hb⟩ => some ⟨.ife t' a' b', SE.ife ht ha hb⟩
      | _, _, _ => none
    | .Subscript a (.Slice lo hi none p2) pos => match cE B cm er sc N n a, cO B cm er sc N n lo, cO B cm er sc N n hi with
      | some ⟨a', ha⟩, some ⟨l', hl⟩, some ⟨h', hh⟩ => some ⟨.slice a' l' h', SE.slice ha hl hh⟩
      | _, _, _ => none
    | .Subscript a b pos => match cE B cm er sc N n a, cE B cm er sc N n b with
      | some ⟨a', ha⟩, some ⟨b', hb⟩ => if hp : plainIxB b = true then some ⟨.idx a' b', SE.idx ha hb (ix_of hp)⟩ else none
      | _, _ => none
    | .List es pos => match cF B cm er sc N n (.List es pos) with
      | some ⟨l, h⟩ => some ⟨.lx l, SE.lx h⟩
      | none => none
    | .ListComp elt gs scope pos => match cF B cm er sc N n (.ListComp elt gs scope pos) with
      | some ⟨l, h⟩ => some ⟨.lx l, SE.lx h⟩
      | none => none
    | .Call (.Attribute o name apos) [] [] pos => match cE B cm er sc N n o, findMth name with
      | some ⟨o', ho⟩, some ⟨k, hk⟩ => if hs : notSuper o = true ∧ (apos.endLine == pos.line) = true then some ⟨.meth k o' [], SE.meth0 ho hk.1 hk.2 (fun env => base_of hs.1 _ _ _) hs.2⟩ else none
      | _, _ => none
    | .Call (.Attribute o name apos) (e :: es) [] pos => match cE B cm er sc N n o, cEs B cm er sc N n (e :: es), findMth name with
      | some ⟨o', ho⟩, some ⟨es', hes⟩, some ⟨k, hk⟩ => if hs : notSuper o = true ∧ (apos.endLine == pos.line) = true ∧ (e :: es).all notStar = true ∧ (e :: es).length < 30 ∧ notStar e = true ∧ es.all notStar = true then
          some ⟨.meth k o' es', SE.meth ho hes hk.1 hk.2 (fun env => base_of hs.1 _ _ _) (fun env => few_of hs.2.2.1 hs.2.2.2.1 env) hs.2.1 (fun env => star_of hs.2.2.2.2.1 es env) (fun env => stars_of hs.2.2.2.2.2)⟩ else none
      | _, _, _ => none
    | .Call (.Name x p) [] [] pos => if h : N[0]? = some x then some ⟨.thunk, SE.thunk h⟩ else none
    | .Call (.Name x p) [.Lambda params body scope lpos] [] pos => if hc : cm = true then
        (if hx : sc.names.lookup x = some .globalImplicit ∧ (x == ("__debug__" : Str)) = false then
          match findLam x B.lams, params with
          | some ⟨(k, l), hk⟩, ⟨[], [], none, [], [], none, []⟩ => if hl : l ≤ B.lv ∧ 2 ≤ B.lv ∧ lamSB sc scope = true then
              match cE B.low true none scope N n body with
              | some ⟨b', hb⟩ => some ⟨.lam k b', by subst hc; exact SE.lam hk hl.1 hl.2.1 hx.1 hx.2 (lamS_by hl.2.2) (fun env => rfl) (fun q cl pm cv ctv => rfl) hb⟩
              | none => none
            else none
          | _, _ => none
        else none)
      else none
    | .Call (.Name x p) (e :: es) [] pos =>
      if hs : notStar e = true ∧ es.all notStar = true then
        if hd : (x == ("__debug__" : Str)) = false ∧ (x == ("__classdict__" : Str)) = false then
          match hk : sc.names.lookup x with
          | some .globalImplicit => match cErr B cm er sc N (.Call (.Name x p) (e :: es) [] pos) with
            | some r => some r
            | none => if hc : cm = true then
                match findFn x B.fns with
                | some ⟨(k, m, l), hf⟩ => match cEs B true er sc N n (e :: es) with
                  | some ⟨es', hes⟩ => if hq : l ≤ B.lv ∧ es'.length = m then some ⟨.call k es', by subst hc; exact SE.call hk hf hq.1 hes hq.2 hd.1 (fun env => star_of hs.1 es env) (fun env => stars_of hs.2)⟩ else none
                  | none => none
                | none => if hf : x ∈ B.frees then
                    match findBlt x with
                    | some ⟨k, hb⟩ => match cB1 B er sc N n k e es with
                      | some ⟨l', hl⟩ => some ⟨.blt1 k l', by subst hc; obtain ⟨rfl, hl⟩ := hl; exact SE.blt1 hk hf hb.1 hl hb.2 hd.1 (fun env => star_of hs.1 [] env) (fun env => rfl)⟩
                      | none => match cEs B true er sc N n (e :: es) with
                        | some ⟨es', hes⟩ => some ⟨.blt k es', by subst hc; exact SE.blt hk hf hb.1 hes hb.2 hd.1 (fun env => star_of hs.1 es env) (fun env => stars_of hs.2)⟩
                        | none => none
                    | none => none
                  else none
              else none
          | some .local => match findIx x N, cEs B true er sc N n (e :: es) with
            | some ⟨i, hi⟩, some ⟨es', hes⟩ => if hc : cm = true then some ⟨.callV i es', by subst hc; exact SE.callV hi (.inl hk) hd.1 hd.2 hes (fun env => star_of hs.1 es env) (fun env => stars_of hs.2)⟩ else none
            | _, _ => none
          | some .cell => match findIx x N, cEs B true er sc N n (e :: es) with
            | some ⟨i, hi⟩, some ⟨es', hes⟩ => if hc : cm = true then some ⟨.callV i es', by subst hc; exact SE.callV hi (.inr (.inl hk)) hd.1 hd.2 hes (fun env => star_of hs.1 es env) (fun env => stars_of hs.2)⟩ else none
            | _, _ => none
          | some .free => match findIx x N, cEs B true er sc N n (e :: es) with
            | some ⟨i, hi⟩, some ⟨es', hes⟩ => if hc : cm = true then some ⟨.callV i es', by subst hc; exact SE.callV hi (.inr (.inr hk)) hd.1 hd.2 hes (fun env => star_of hs.1 es env) (fun env => stars_of hs.2)⟩ else none
            | _, _ => none
          | _ => none
        else none
      else none
    | _ => none
/-- isinstance of the error at hand -/
def cErr (B : Tb) (cm : Bool) (er : Option Str) (sc : Scope) (N : List Str) : (e : Expr) → Option {e' : Ex // SE B cm sc N e e'}
  | .Call (.Name x p) [.Name en p1, .Name t p2] [] pos => if he : er = some en ∧ x = "isinstance" then
      match findIx en N with
      | some ⟨i, hi⟩ => if hs : sc.names.lookup en = some .local ∧ sc.names.lookup ("isinstance" : Str) = some .globalImplicit ∧ ("isinstance" : Str) ∈ B.frees ∧ (en == ("__debug__" : Str)) = false ∧ (en == ("__classdict__" : Str)) = false ∧ sc.names.lookup t = some .globalImplicit ∧ (t == ("__debug__" : Str)) = false then
          match findIx t B.clss with
          | some ⟨k, hk⟩ => some ⟨.isErr i (.cls k), by rw [he.2]; exact SE.isErrC hs.2.1 hs.2.2.1 hi (.inl hs.1) hs.2.2.2.1 hs.2.2.2.2.1 hs.2.2.2.2.2.1 hk hs.2.2.2.2.2.2⟩
          | none => if hv : t = "ValueError" ∧ ("ValueError" : Str) ∈ B.frees then some ⟨.isErr i (.ty "ValueError"), by rw [he.2]; obtain ⟨rfl, hv⟩ := hv; exact SE.isErrV hs.2.1 hs.2.2.1 hi (.inl hs.1) hs.2.2.2.1 hs.2.2.2.2.1 hs.2.2.2.2.2.1 hv⟩ else none
        else none
      | none => none
    else none
  | _ => none
/-- a built-in's one argument, a list made here -/
def cB1 (B : Tb) (er : Option Str) (sc : Scope) (N : List Str) : Nat → (k : Blt) → (e : Expr) → (es : List Expr) → Option {l : Lx // es = [] ∧ SL B true sc N e l}
  | 0, _, _, _ => none
  | n + 1, k, e, es => match es with
    | [] => match readsOnly k && freshForm 40 e with
      | true => match cF B true er sc N n e with
        | some ⟨l, h⟩ => some ⟨l, rfl, SL.fresh h⟩
        | none => none
      | false => none
    | _ :: _ => none
/-- expressions -/
def cEs (B : Tb) (cm : Bool) (er : Option Str) (sc : Scope) (N : List Str) : Nat → (es : List Expr) → Option {es' : List Ex // SEs B cm sc N es es'}
  | 0, _ => none
  | n + 1, es => match es with
    | [] => some ⟨[], SEs.nil⟩
    | e :: es => match cE B cm er sc N n e, cEs B cm er sc N n es with
      | some ⟨e', h1⟩, some ⟨es', h2⟩ => if hs : notStar e = true then some ⟨e' :: es', SEs.cons h1 h2 (fun env => star_of hs es env)⟩ else none
      | _, _ => none
/-- a slice's ends -/
def cO (B : Tb) (cm : Bool) (er : Option Str) (sc : Scope) (N : List Str) : Nat → (e : Option Expr) → Option {e' : Option Ex // SO_ B cm sc N e e'}
  | 0, _ => none
  | n + 1, e => match e with
    | none => some ⟨none, SO_.none⟩
    | some e => match cE B cm er sc N n e with
      | some ⟨e', h⟩ => some ⟨some e', SO_.some h⟩
      | none => none
/-- a test -/
def cT (B : Tb) (cm : Bool) (er : Option Str) (sc : Scope) (N : List Str) : Nat → (e : Expr) → Option {e' : Ex // ST B cm sc N e e'}
  | 0, _ => none
  | n + 1, e => match e with
    | .UnaryOp .Not a pos => match cT B cm er sc N n a with
      | some ⟨a', ha⟩ => some ⟨.not a', ST.not ha⟩
      | none => none
    | .BoolOp op es pos => match cW B cm er sc N n op es pos with
      | some ⟨e', h⟩ => some ⟨e', STw.st h⟩
      | none => none
    | .Compare a [op] [b] pos => match cE B cm er sc N n a, cE B cm er sc N n b with
      | some ⟨a', ha⟩, some ⟨b', hb⟩ => if hm : behindInMarks op b = false then some ⟨.cmp op a' b', ST.cmp ha hb hm⟩ else none
      | _, _ => none
    | .Compare a [op, op'] [b, c] pos => match cE B cm er sc N n a, cE B cm er sc N n b, cE B cm er sc N n c with
      | some ⟨a', ha⟩, some ⟨b', hb⟩, some ⟨c', hc⟩ => if hm : lastMarks [op, op'] [b, c] = false then some ⟨.chain op op' a' b' c', ST.chain ha hb hc hm⟩ else none
      | _, _, _ => none
    | e => match cE B cm er sc N n e with
      | some ⟨e', h⟩ => if hp : plainTest e = true then some ⟨e', ST.val h (fun env whole => test_of hp env whole)⟩ else none
      | none => none
/-- a test's and, or -/
def cW (B : Tb) (cm : Bool) (er : Option Str) (sc : Scope) (N : List Str) : Nat → (op : BoolOp) → (es : List Expr) → (pos : Pos) → Option {e' : Ex // STw B cm sc N (.BoolOp op es pos) e'}
  | 0, _, _, _ => none
  | n + 1, op, es, pos => match op, es with
    | .And, [a] => match cT B cm er sc N n a with
      | some ⟨a', ha⟩ => some ⟨a', STw.and1 ha⟩
      | none => none
    | .Or, [a] => match cT B cm er sc N n a with
      | some ⟨a', ha⟩ => some ⟨a', STw.or1 ha⟩
      | none => none
    | .And, a :: b :: es => match cT B cm er sc N n a, cW B cm er sc N n .And (b :: es) pos with
      | some ⟨a', ha⟩, some ⟨b', hb⟩ => some ⟨.and a' b', STw.and ha hb⟩
      | _, _ => none
    | .Or, a :: b :: es => match cT B cm er sc N n a, cW B cm er sc N n .Or (b :: es) pos with
      | some ⟨a', ha⟩, some ⟨b', hb⟩ => some ⟨.or a' b', STw.or ha hb⟩
      | _, _ => none
    | _, [] => none
/-- a list made here -/
def cF (B : Tb) (cm : Bool) (er : Option Str) (sc : Scope) (N : List Str) : Nat → (e : Expr) → Option {l : Lx // SF B cm sc N e l}
  | 0, _ => none
  | n + 1, e => match e with
    | .List es pos => match cEs B cm er sc N n es with
      | some ⟨es', h⟩ => if hl : es'.length ≤ szl then some ⟨.lst es', SF.lst h hl⟩ else none
      | none => none
    | .ListComp elt [⟨tg, iter, ifs, 0⟩] scope pos => if hc : cm = true then
        match cG (cellsOf scope.names) (relS scope sc) N n tg, cI B er sc N n tg iter, cE B true none (relS scope sc) N n elt, cIfs B (relS scope sc) N n ifs with
        | some ⟨t, ht⟩, some ⟨it, hi⟩, some ⟨elt', he⟩, some ⟨ifs', hf⟩ =>
          if hb : blkC N sc scope (ownOf N scope.names) = true ∧ ((cellsOf scope.names).all fun x => decide (scope.names.lookup x = some .cell)) = true ∧ (t.vars.all fun i => ((ownOf N scope.names).map (·.2)).contains i) = true ∧ notSet iter = true then
            some ⟨.lc ((ownOf N scope.names).map (·.2)) elt' t it ifs', by
              subst hc
              exact SF.lc hb.1 (fun x hx => by have := List.all_eq_true.mp hb.2.1 x hx; simpa using this) (fun i hi => by have := List.all_eq_true.mp hb.2.2.1 i hi; simpa using this) hi ht hf he (fun env x => set_of hb.2.2.2 env x)⟩
          else none
        | _, _, _, _ => none
      else none
    | .Call (.Name x p) [a] [] pos => if hc : cm = true then
        (if hx : x = "sorted" ∧ sc.names.lookup x = some .globalImplicit ∧ x ∈ B.frees ∧ notStar a = true then
          match cL B er sc N n a with
          | some ⟨l, h⟩ => some ⟨.sorted l, by
              subst hc
              exact SF.sorted hx.2.1 hx.2.2.1 (by rw [hx.1]; exact PyProof.Rows.boot_sorted) h (by rw [hx.1]; decide) (by rw [hx.1]; decide) (fun env => star_of hx.2.2.2 [] env) (fun env => rfl)⟩
          | none => none
        else none)
      else none
    | .BinOp a .Add b pos => match cF B cm er sc N n a with
      | some ⟨a', ha⟩ => match freshForm n b with
        | true => match cF B cm er sc N n b with
          | some ⟨b', hb⟩ => some ⟨.cat a' b', SF.cat ha (SL.fresh hb)⟩
          | none => none
        | false => match cE B cm er sc N n b with
          | some ⟨b', hb⟩ => some ⟨.cat a' (.of b'), SF.cat ha (SL.of hb)⟩
          | none => none
      | none => none
    | _ => none
/-- a list that is read -/
def cL (B : Tb) (er : Option Str) (sc : Scope) (N : List Str) : Nat → (e : Expr) → Option {l : Lx // SL B true sc N e l}
  | 0, _ => none
  | n + 1, e => match freshForm 40 e with
    | true => match cF B true er sc N n e with
      | some ⟨l, h⟩ => some ⟨l, SL.fresh h⟩
      | none => none
    | false => match cE B true er sc N n e with
      | some ⟨e', h⟩ => some ⟨.of e', SL.of h⟩
      | none => none
/-- a clause's tests -/
def cIfs (B : Tb) (sc : Scope) (N : List Str) : Nat → (es : List Expr) → Option {es' : List Ex // SPTs B true sc N es es'}
  | 0, _ => none
  | n + 1, es => match es with
    | [] => some ⟨[], SPTs.nil⟩
    | [c] => match cT B true none sc N n c with
      | some ⟨c', h⟩ => some ⟨[c'], SPTs.one h⟩
      | none => none
    | _ => none
/-- what is walked -/
def cI (B : Tb) (er : Option Str) (sc : Scope) (N : List Str) : Nat → (tg e : Expr) → Option {it : MP.It // SI B true sc N tg e it}
  | 0, _, _ => none
  | n + 1, tg, e => match cIc B er sc N n tg e with
    | some r => some r
    | none => match freshForm 40 e with
      | true => match cF B true er sc N n e with
        | some ⟨l, h⟩ => some ⟨.lx l, SI.lx h⟩
        | none => none
      | false => match cE B true er sc N n e with
        | some ⟨e', h⟩ => some ⟨.ex e', SI.ex h⟩
        | none => none
/-- range, enumerate, zip, reversed -/
def cIc (B : Tb) (er : Option Str) (sc : Scope) (N : List Str) : Nat → (tg e : Expr) → Option {it : MP.It // SI B true sc N tg e it}
  | 0, _, _ => none
  | n + 1, tg, e => match tg, e with
    | tg, .Call (.Name x p) [a] [] pos =>
      if hx : sc.names.lookup x = some .globalImplicit ∧ x ∈ B.frees ∧ notStar a = true then
        if hr : x = "range" then match cEs B true er sc N n [a] with
          | some ⟨[a'], h⟩ => some ⟨.range1 a', by obtain ⟨h1, h2, h3⟩ := hx; rw [hr] at h1 h2 ⊢; exact SI.range1 h1 h2 h (fun env => star_of h3 [] env)⟩
          | _ => none
        else if hr : x = "reversed" then match a with
          | .Call (.Name y p0) [b] [] pos0 => if hy : y = "range" ∧ sc.names.lookup y = some .globalImplicit ∧ y ∈ B.frees ∧ notStar b = true then
              match cE B true er sc N n b with
              | some ⟨b', h⟩ => some ⟨.rrange1 b', by obtain ⟨h1, h2, h3⟩ := hx; obtain ⟨h4, h5, h6, h7⟩ := hy; rw [hr] at h1 h2 ⊢; rw [h4] at h5 h6 ⊢; exact SI.rrange1 h1 h2 h5 h6 h (fun env => star_of h7 [] env) (fun env => rfl)⟩
              | none => none
            else none
          | a => match cE B true er sc N n a with
            | some ⟨a', h⟩ => if h3 : notStar a = true then some ⟨.rev a', by obtain ⟨h1, h2, _⟩ := hx; rw [hr] at h1 h2 ⊢; exact SI.rev h1 h2 h (fun env => star_of h3 [] env)⟩ else none
            | none => none
        else if hr : x = "enumerate" then match tg with
          | .Tuple elts kk tpos => match a with
            | .Call (.Name y p0) [b, c] [] pos0 => if hy : y = "zip" ∧ sc.names.lookup y = some .globalImplicit ∧ y ∈ B.frees ∧ notStar b = true ∧ notStar c = true then
                match cEs B true er sc N n [b, c] with
                | some ⟨[b', c'], h⟩ => some ⟨.enumz b' c', by obtain ⟨h1, h2, h3⟩ := hx; obtain ⟨h4, h5, h6, h7, h8⟩ := hy; rw [hr] at h1 h2 ⊢; rw [h4] at h5 h6 ⊢; exact SI.enumz h1 h2 h5 h6 h (fun env => star_of h7 [c] env) (fun env => stars_of (by simp [h8])) (fun env => rfl)⟩
                | _ => none
              else none
            | a => match cEs B true er sc N n [a] with
              | some ⟨[a'], h⟩ => if h3 : notStar a = true then some ⟨.enum a', by obtain ⟨h1, h2, _⟩ := hx; rw [hr] at h1 h2 ⊢; exact SI.enum h1 h2 h (fun env => star_of h3 [] env)⟩ else none
              | _ => none
          | _ => none
        else none
      else none
    | tg, .Call (.Name x p) [a, b] [] pos =>
      if hx : sc.names.lookup x = some .globalImplicit ∧ x ∈ B.frees ∧ notStar a = true ∧ notStar b = true then
        if hr : x = "range" then match cEs B true er sc N n [a, b] with
          | some ⟨[a', b'], h⟩ => some ⟨.range2 a' b', by obtain ⟨h1, h2, h3, h4⟩ := hx; rw [hr] at h1 h2 ⊢; exact SI.range2 h1 h2 h (fun env => by rw [star_of h3, star_of h4]; rfl) (fun env => star_of h4 [] env)⟩
          | _ => none
        else if hr : x = "zip" then match tg with
          | .Tuple elts kk tpos => match cEs B true er sc N n [a, b] with
            | some ⟨[a', b'], h⟩ => some ⟨.zip a' b', by obtain ⟨h1, h2, h3, h4⟩ := hx; rw [hr] at h1 h2 ⊢; exact SI.zip h1 h2 h (fun env => star_of h3 [b] env) (fun env => stars_of (by simp [h4]))⟩
            | _ => none
          | _ => none
        else none
      else none
    | _, _ => none
end
end MP
set_option linter.all false
set_option Elab.async false
set_option maxRecDepth 100000
set_option maxHeartbeats 4000000
namespace MP
open PySem PySem.Spec PyProof.Rows L2 LamX

mutual
def cS (B : Tb) (cm : Bool) (er : Option Str) (sc : Scope) (N : List Str) : Nat → (s : Stmt) → Option {s' : MP.St // SS B cm sc N s s'}
  | 0, _ => none
  | n + 1, s => match s with
    | .Pass pos => some ⟨.pass, SS.pass⟩
    | .Break pos => some ⟨.brk, SS.brk⟩
    | .Continue pos => some ⟨.cont, SS.cont⟩
    | .Expr (.Constant (.str x) j pos) pos' => some ⟨.pass, SS.doc⟩
    | .Expr e pos => match cE B cm er sc N 60 e with
      | some ⟨e', h⟩ => if hc : notComp e = true then some ⟨.expr e', SS.expr h (fun env => sw_of hc _ _ env)⟩ else none
      | none => none
    | .Return (some e) pos => match cE B cm er sc N 60 e with
      | some ⟨e', h⟩ => some ⟨.ret e', SS.ret h⟩
      | none => none
    | .Return none pos => some ⟨.retN, SS.retN⟩
    | .If c a b pos => match cT B cm er sc N 60 c, cSs B cm er sc N n a, cSs B cm er sc N n b with
      | some ⟨c', hc⟩, some ⟨a', ha⟩, some ⟨b', hb⟩ => some ⟨.ife c' a' b', SS.ife hc ha hb⟩
      | _, _, _ => none
    | .While c body [] pos => match cT B cm er sc N 60 c, cSs B cm er sc N n body with
      | some ⟨c', hc⟩, some ⟨b', hb⟩ => some ⟨.while_ c' b', SS.while_ hc hb⟩
      | _, _ => none
    | .For tg iter body [] pos => if hc : cm = true then
        match cG (cellsOf sc.names) sc N 60 tg, cI B er sc N 60 tg iter, cSs B true er sc N n body with
        | some ⟨t, ht⟩, some ⟨it, hi⟩, some ⟨b', hb⟩ => if hs : notSet iter = true then some ⟨.for_ t it b', by subst hc; exact SS.for_ ht hi hb (fun env x => set_of hs env x)⟩ else none
        | _, _, _ => none
      else none
    | .AugAssign (.Name x pos') op e pos => match findIx x N, cE B cm er sc N 60 e with
      | some ⟨i, hi⟩, some ⟨e', he⟩ =>
        if hop : op = .Add ∨ op = .Sub then
          if hl : sc.names.lookup x = some .local then some ⟨.aug i op e', SS.augI op hop hi (.inl hl) he⟩
          else if hl : sc.names.lookup x = some .cell then some ⟨.aug i op e', SS.augI op hop hi (.inr hl) he⟩
          else none
        else none
      | _, _ => none
    | .Raise (some (.Call (.Name x p) [] [] pos)) none pos' => match findIx x B.clss with
      | some ⟨k, hk⟩ => if hc : cm = true ∧ sc.names.lookup x = some .globalImplicit ∧ (x == ("__debug__" : Str)) = false then some ⟨.raise k [], by obtain ⟨rfl, h1, h2⟩ := hc; exact SS.raise0 h1 hk h2⟩ else none
      | none => none
    | .Try body [.ExceptHandler (some (.Name x np)) nm (b₀ :: suite) pos'] [] [] pos => if hc : cm = true then
        match findIx x B.clss, cSs B true er sc N n body with
        | some ⟨k, hk⟩, some ⟨body', hb⟩ => if hx : sc.names.lookup x = some .globalImplicit ∧ (x == ("__debug__" : Str)) = false then
            match nm with
            | some en => match findIx en N, cSs B false (some en) sc N n (b₀ :: suite) with
              | some ⟨i, hi⟩, some ⟨suite', hs⟩ => if hl : sc.names.lookup en = some .local then some ⟨.try_ body' (.cls k) (some i) suite', by subst hc; exact SS.tryAs hb hs hx.1 hk hx.2 hi hl⟩ else none
              | _, _ => none
            | none => match cSs B false none sc N n (b₀ :: suite) with
              | some ⟨suite', hs⟩ => some ⟨.try_ body' (.cls k) none suite', by subst hc; exact SS.tryOnly hb hs hx.1 hk hx.2⟩
              | none => none
          else none
        | _, _ => none
      else none
    | .Assign [.Subscript o i p2] e pos => match cE B cm er sc N 60 o, cE B cm er sc N 60 i, cE B cm er sc N 60 e with
      | some ⟨o', ho⟩, some ⟨i', hi⟩, some ⟨e', he⟩ => if hs : notComp e = true ∧ plainIxB i = true then
          some ⟨.set o' i' e', SS.set ho hi he (fun env => sws_of hs.1 _ env) (fun env => rfl) (fun env v => by cases i <;> first | rfl | exact absurd hs.2 (by simp [plainIxB]))⟩
        else none
      | _, _, _ => none
    | .Assign [.Name x pos'] (.ListComp elt [⟨tg, iter, ifs, 0⟩] scope cpos) pos =>
      match hsw : semVal (swapsWith (.ListComp elt [⟨tg, iter, ifs, 0⟩] scope cpos) (some (.Name x pos')) pos.line (envS sc)) with
      | some true => if hc : cm = true then
          match findIx x N, cG (cellsOf scope.names) (relS scope sc) N 60 tg, cI B er sc N 60 tg iter, cE B true none (relS scope sc) N 60 elt, cIfs B (relS scope sc) N 60 ifs with
          | some ⟨j, hj⟩, some ⟨t, ht⟩, some ⟨it, hi⟩, some ⟨elt', he⟩, some ⟨ifs', hf⟩ =>
            if hb : blkC N sc scope (ownOf N scope.names) = true ∧ ((cellsOf scope.names).all fun x => decide (scope.names.lookup x = some .cell)) = true ∧ (t.vars.all fun i => ((ownOf N scope.names).map (·.2)).contains i) = true ∧ notSet iter = true ∧ sc.names.lookup x = some .local then
              some ⟨.asg (.nm j) (.lx (.lc ((ownOf N scope.names).map (·.2)) elt' t it ifs')), by
                subst hc
                exact SS.setLc hj hb.2.2.2.2 (fun env he => swap_of hsw env he) hb.1 (fun x hx => by have := List.all_eq_true.mp hb.2.1 x hx; simpa using this) (fun i hi => by have := List.all_eq_true.mp hb.2.2.1 i hi; simpa using this) hi ht hf he (fun env x => set_of hb.2.2.2.1 env x)⟩
            else none
          | _, _, _, _, _ => none
        else none
      | some false => match findIx x N, cE B cm er sc N 60 (.ListComp elt [⟨tg, iter, ifs, 0⟩] scope cpos) with
        | some ⟨j, hj⟩, some ⟨e', he⟩ => if hl : sc.names.lookup x = some .local then some ⟨.asg (.nm j) e', SS.setN hj (.inl hl) he (fun env h => swap_of hsw env h)⟩
          else if hl : sc.names.lookup x = some .cell then some ⟨.asg (.nm j) e', SS.setN hj (.inr hl) he (fun env h => swap_of hsw env h)⟩
          else none
        | _, _ => none
      | none => none
    | .Assign [.Name x pos'] e pos => match findIx x N, cE B cm er sc N 60 e with
      | some ⟨j, hj⟩, some ⟨e', he⟩ => if hn : notComp e = true then
          if hl : sc.names.lookup x = some .local then some ⟨.asg (.nm j) e', SS.setN hj (.inl hl) he (fun env h => sw_of hn _ _ env)⟩
          else if hl : sc.names.lookup x = some .cell then some ⟨.asg (.nm j) e', SS.setN hj (.inr hl) he (fun env h => sw_of hn _ _ env)⟩
          else none
        else none
      | _, _ => none
    | .Assign [tg] e pos => if hc : cm = true ∧ notComp e = true ∧ notStar tg = true then
        match hw : semVal (swappedStores [tg] e (envS sc)) with
        | some none => match cG (cellsOf sc.names) sc N 60 tg, cE B true er sc N 60 e with
          | some ⟨t, ht⟩, some ⟨e', he⟩ => some ⟨.asg t e', by obtain ⟨rfl, h2, h3⟩ := hc; exact SS.asg ht he (fun env _ => sws_of h2 _ env) (fun env h => stores_of hw env h) (fun env => asgn1 h3 [] env)⟩
          | _, _ => none
        | some (some names) => cPar B cm er sc N tg e pos
        | none => none
      else none
    | _ => none
/-- several plain local names at once -/
def cPar (B : Tb) (cm : Bool) (er : Option Str) (sc : Scope) (N : List Str) : (tg e : Expr) → (pos : Pos) → Option {s' : MP.St // SS B cm sc N (.Assign [tg] e pos) s'}
  | .Tuple [.Name x px, .Name y py] kt pt, .Tuple [a, b] k2 pt2, pos => if hc : cm = true then
      match findIx x N, findIx y N, cEs B true er sc N 60 [a, b] with
      | some ⟨i, hi⟩, some ⟨j, hj⟩, some ⟨[a', b'], h⟩ => if hs : i ≠ j ∧ sc.names.lookup x = some .local ∧ sc.names.lookup y = some .local ∧ semVal (swappedStores [.Tuple [.Name x px, .Name y py] kt pt] (.Tuple [a, b] k2 pt2) (envS sc)) = some (some [x, y]) then
          some ⟨.asg (.tup [.nm i, .nm j]) (.tup [a', b']), by subst hc; exact SS.par hi hj hs.1 hs.2.1 hs.2.2.1 h (fun env he => stores_of hs.2.2.2 env he)⟩
        else none
      | _, _, _ => none
    else none
  | .Tuple [.Name x px, .Name y py, .Name z pz] kt pt, .Tuple [a, b, c] k2 pt2, pos => if hc : cm = true then
      match findIx x N, findIx y N, findIx z N, cEs B true er sc N 60 [a, b, c] with
      | some ⟨i, hi⟩, some ⟨j, hj⟩, some ⟨k, hk⟩, some ⟨[a', b', c'], h⟩ => if hs : i ≠ j ∧ i ≠ k ∧ j ≠ k ∧ sc.names.lookup x = some .local ∧ sc.names.lookup y = some .local ∧ sc.names.lookup z = some .local ∧ semVal (swappedStores [.Tuple [.Name x px, .Name y py, .Name z pz] kt pt] (.Tuple [a, b, c] k2 pt2) (envS sc)) = some (some [x, y, z]) then
          some ⟨.asg (.tup [.nm i, .nm j, .nm k]) (.tup [a', b', c']), by subst hc; exact SS.par3 hi hj hk hs.1 hs.2.1 hs.2.2.1 hs.2.2.2.1 hs.2.2.2.2.1 hs.2.2.2.2.2.1 h (fun env he => stores_of hs.2.2.2.2.2.2 env he)⟩
        else none
      | _, _, _, _ => none
    else none
  | _, _, _ => none
def cSs (B : Tb) (cm : Bool) (er : Option Str) (sc : Scope) (N : List Str) : Nat → (s : List Stmt) → Option {s' : List MP.St // SSs B cm sc N s s'}
  | 0, _ => none
  | n + 1, ss => match ss with
    | [] => some ⟨[], SSs.nil⟩
    | s :: ss => match cS B cm er sc N n s, cSs B cm er sc N n ss with
      | some ⟨s', h1⟩, some ⟨ss', h2⟩ => some ⟨s' :: ss', SSs.cons h1 h2⟩
      | _, _ => none
end
/-- the compiled text, and that it is the text's doing -/
theorem cSs_ok {B : Tb} {cm : Bool} {er : Option Str} {sc : Scope} {N : List Str} {n : Nat} {ss : List Stmt} {ss' : List MP.St} (h : (cSs B cm er sc N n ss).map (·.1) = some ss') : SSs B cm sc N ss ss' := by
  cases q : cSs B cm er sc N n ss with
  | none => rw [q] at h; cases h
  | some r => rw [q] at h; cases h; exact r.2
/-- all names bound in a body, the parameters first -/
def namesOf (ps : List Str) (sc : Scope) : List Str := ps ++ (sc.names.filterMap fun p => match p.2 with
  | .local | .cell => if ps.contains p.1 then none else some p.1
  | _ => none)
end MP
set_option linter.all false
set_option Elab.async false
set_option maxRecDepth 100000
set_option maxHeartbeats 2000000
namespace MP
open PySem PySem.Spec PyProof.Rows L2 LamX

/-- a law's text -/
structure Txt where
  fns : List (Str × Nat × Nat)
  lams : List (Str × Nat)
  excs : List Str
  sub : Nat → Nat → Bool
  kints : List (Str × Int)
  frees : List Str
  tabs : List Str
def Txt.tb (T : Txt) (l : Nat) : Tb := { fns := T.fns, lv := l, lams := T.lams, clss := T.excs, cons := T.kints.map fun p => (p.1, .int p.2), frees := T.frees }
def Txt.ad (T : Txt) (K : PySem.W.Frag) : Ad := { fa := fun k => He.ga K ((T.fns[k]?.map (·.1)).getD Str.empty), ca := fun c => He.ga K (T.excs.getD c Str.empty), tabs := T.tabs.map fun x => ((He.cT K (x, none)).2, (x ++ ".<locals>.") ++ "<lambda>") }
def Txt.fa (T : Txt) : List He.Fa := T.fns.map (fun p => .glo p.1) ++ (T.lams.map (fun p => .glo p.1) ++ (T.excs.map (fun x => .glo x) ++ (T.kints.map (fun p => .int p.1 p.2) ++ (T.frees.map (fun x => .free x) ++ (T.excs.map (fun x => .exc x) ++ (T.fns.map fun p => .keep p.1))))))
/-- what isinstance asks of the own exceptions -/
def excOk (K : PySem.W.Frag) (D : Addr) : Bool :=
  He.eqO (PySem.W.findIn K (.ref D) "__getattribute__") (some (some (.builtin "BaseException.__getattribute__"))) && (He.eqO (PySem.W.findIn K (.ref D) "__getattr__") (some none) && (decide (PySem.W.subIn K (.ref D) (.type "BaseException") = some true) && (PySem.W.hasDictIn K D &&
    (He.eqO (PySem.W.findIn K (.ref D) "__class__") (some (some (.builtin "object.__class__"))) && (He.eqO (PySem.W.specialIn K (.builtin "object.__class__") "__get__") (some (some (.builtin "getset_descriptor.__get__"))) && (decide (PySem.W.takesIn K (.builtin "object.__class__") = some true) &&
      (decide (PySem.W.mroIn K D (.type "object") = some true) && decide (PySem.W.kitOne K (.ref D) (.type "ValueError") = some true))))))))
def Txt.ex (T : Txt) (K : PySem.W.Frag) : Bool :=
  noLists K && ((T.excs.all fun x => excOk K (He.ga K x)) && ((List.range T.excs.length).all fun c => (List.range T.excs.length).all fun k =>
    decide (PySem.W.kitOne K (.ref ((T.ad K).ca c)) (.ref ((T.ad K).ca k)) = some (T.sub c k)) && decide (PySem.W.exmOne K (.ref ((T.ad K).ca c)) (.ref ((T.ad K).ca k)) = some (T.sub c k))))
/-- the signature's own-class side -/
structure SigOk (T : Txt) (S : Sig) : Prop where
  ise : ∀ c, S.ise c = true → c < T.excs.length
  isc : ∀ c, S.isc c = false
  sub : ∀ c k, S.sub c k = T.sub c k
  ar : ∀ k n l, S.ar k = some (n, l) → ∃ x, T.fns[k]? = some (x, n, l)
section
variable {T : Txt} {K : PySem.W.Frag} {S : Sig} {h : Heap} {mg : Str → Option Value} {fn : List He.DefD} {tf : List He.Defn} {w : World}
theorem txt_facts (c : He.SaysX T.fa fn [] tf T.ex w h K) {f : He.Fa} (hf : f ∈ T.fa) : f.ok K = true := c.t.d.facts hf
theorem txt_gf (X : K.In h) (G : h.Ns mainGlobals mg) (c : He.SaysX T.fa fn [] tf T.ex w h K) (l : Nat) : GF (T.tb l) (T.ad K) K mg where
  fr := fun x hx => He.free_ok X G (txt_facts c (by
    have : x ∈ T.frees := hx
    simp only [Txt.fa, List.mem_append, List.mem_map]
    exact .inr (.inr (.inr (.inr (.inl ⟨x, this, rfl⟩))))))
  co := fun x v hv => by
    have hm := lookup_mem' hv
    obtain ⟨p, hp, e⟩ := List.mem_map.mp hm
    cases e
    obtain ⟨t, ht⟩ := He.int_ok X G (txt_facts c (f := .int p.1 p.2) (by
      simp only [Txt.fa, List.mem_append, List.mem_map]
      exact .inr (.inr (.inr (.inl ⟨p, hp, rfl⟩)))))
    exact ⟨_, .int p.2, ht, ⟨t, rfl⟩, fun A H m => by simp only [RV]⟩
  fn := fun k x n l' hk => by
    have hk : T.fns[k]? = some (x, n, l') := hk
    have hm := List.mem_of_getElem? hk
    have e : (T.ad K).fa k = He.ga K x := by
      show He.ga K ((T.fns[k]?.map (·.1)).getD Str.empty) = _
      rw [hk]; rfl
    rw [e]
    exact ⟨He.glo_ok X G (txt_facts c (by
      simp only [Txt.fa, List.mem_append, List.mem_map]
      exact .inl ⟨_, hm, rfl⟩)), He.keep_ok (txt_facts c (f := .keep x) (by
      simp only [Txt.fa, List.mem_append, List.mem_map]
      exact .inr (.inr (.inr (.inr (.inr (.inr ⟨_, hm, rfl⟩)))))))⟩
  cl := fun k x hk => by
    have hk : T.excs[k]? = some x := hk
    have hm := List.mem_of_getElem? hk
    have e : (T.ad K).ca k = He.ga K x := by
      show He.ga K (T.excs.getD k Str.empty) = _
      rw [List.getD_eq_getElem?_getD, hk]; rfl
    rw [e]
    exact He.glo_ok X G (txt_facts c (by
      simp only [Txt.fa, List.mem_append, List.mem_map]
      exact .inr (.inr (.inl ⟨_, hm, rfl⟩))))
where
  lookup_mem' {α : Type} {x : Str} {v : α} : ∀ {l : List (Str × α)}, l.lookup x = some v → (x, v) ∈ l
  | [], e => nomatch e
  | (y, u) :: r, e => by
    rw [List.lookup_cons] at e
    cases q : x == y with
    | true => rw [q] at e; cases e; rw [eq_of_beq q]; exact List.mem_cons_self
    | false => rw [q] at e; exact List.mem_cons_of_mem _ (lookup_mem' e)
theorem txt_ca {k : Nat} (hk : k < T.excs.length) : (T.ad K).ca k = He.ga K T.excs[k] := by
  show He.ga K (T.excs.getD k Str.empty) = _
  rw [List.getD_eq_getElem?_getD, List.getElem?_eq_getElem hk]; rfl
theorem txt_kie (c : He.SaysX T.fa fn [] tf T.ex w h K) (hS : SigOk T S) : KitE K (T.ad K) S := by
  have hex := c.more
  unfold Txt.ex at hex
  obtain ⟨_, hex⟩ := He.ba hex
  obtain ⟨h1, h2⟩ := He.ba hex
  have key : ∀ c, S.ise c = true → excOk K ((T.ad K).ca c) = true := fun c hc => by
    have hl := hS.ise c hc
    rw [txt_ca hl]
    exact List.all_eq_true.mp h1 _ (List.getElem_mem hl)
  have pair : ∀ c k, S.ise c = true → S.ise k = true → PySem.W.kitOne K (.ref ((T.ad K).ca c)) (.ref ((T.ad K).ca k)) = some (T.sub c k) ∧ PySem.W.exmOne K (.ref ((T.ad K).ca c)) (.ref ((T.ad K).ca k)) = some (T.sub c k) := fun c k hc hk => by
    have q := List.all_eq_true.mp (List.all_eq_true.mp h2 c (List.mem_range.mpr (hS.ise c hc))) k (List.mem_range.mpr (hS.ise k hk))
    obtain ⟨q1, q2⟩ := He.ba q
    exact ⟨of_decide_eq_true q1, of_decide_eq_true q2⟩
  have exc : ∀ k, S.ise k = true → (He.Fa.exc T.excs[k]!).ok K = true ∧ (T.ad K).ca k = He.ga K T.excs[k]! := fun k hk => by
    have hl := hS.ise k hk
    have e : T.excs[k]! = T.excs[k] := by simp [hl]
    rw [e]
    exact ⟨txt_facts c (by
      simp only [Txt.fa, List.mem_append, List.mem_map]
      exact .inr (.inr (.inr (.inr (.inr (.inl ⟨_, List.getElem_mem hl, rfl⟩)))))), txt_ca hl⟩
  refine ⟨fun c hc => ?_, fun c k hc hk => ?_, fun c hc => ?_, fun c k hc hk => ?_, fun c hc => ?_, fun c hc => ?_⟩
  · have q := key c hc
    unfold excOk at q
    obtain ⟨q1, q⟩ := He.ba q
    obtain ⟨q2, q⟩ := He.ba q
    obtain ⟨q3, q⟩ := He.ba q
    obtain ⟨q4, q⟩ := He.ba q
    obtain ⟨q5, q⟩ := He.ba q
    obtain ⟨q6, q⟩ := He.ba q
    obtain ⟨q7, q⟩ := He.ba q
    obtain ⟨q8, q9⟩ := He.ba q
    exact ⟨He.eqO_ok q1, He.eqO_ok q2, of_decide_eq_true q3, q4, He.eqO_ok q5, He.eqO_ok q6, of_decide_eq_true q7, of_decide_eq_true q8⟩
  · rw [hS.sub]; exact (pair c k hc hk).1
  · have q := key c hc
    unfold excOk at q
    obtain ⟨q1, q⟩ := He.ba q
    obtain ⟨q2, q⟩ := He.ba q
    obtain ⟨q3, q⟩ := He.ba q
    obtain ⟨q4, q⟩ := He.ba q
    obtain ⟨q5, q⟩ := He.ba q
    obtain ⟨q6, q⟩ := He.ba q
    obtain ⟨q7, q⟩ := He.ba q
    obtain ⟨q8, q9⟩ := He.ba q
    exact of_decide_eq_true q9
  · rw [hS.sub]; exact (pair c k hc hk).2
  · obtain ⟨e1, e2⟩ := exc c hc
    obtain ⟨_, _, r3, r4⟩ := He.exc_ok e1
    rw [e2]
    exact ⟨r3, r4⟩
  · obtain ⟨e1, e2⟩ := exc c hc
    obtain ⟨r1, r2, _, _⟩ := He.exc_ok e1
    rw [e2]
    exact ⟨r2, r1⟩
theorem txt_kit (hS : SigOk T S) : KitF K (T.ad K) S := ⟨fun c h => absurd h (by rw [hS.isc]; simp), fun c h => absurd h (by rw [hS.isc]; simp), fun c h => absurd h (by rw [hS.isc]; simp), fun c k h => absurd h (by rw [hS.isc]; simp)⟩
/-- the text up to a level, when its defs and helpers keep their promises -/
theorem txt_glob {P : Program} {base : Heap} {l : Nat} (X : K.In h) (G : h.Ns mainGlobals mg) (c : He.SaysX T.fa fn [] tf T.ex w h K) (hS : SigOk T S)
    (fns : ∀ (k : Nat) x n l', T.fns[k]? = some (x, n, l') → l' ≤ l → ∃ fd ps, ps.length = n ∧ FnG P w K mg base l' ((T.ad K).fa k) fd ps (spFn K (T.ad K) n (S.fn k)) ∧ L2.Binds K fd ps [])
    (lams : ∀ (k : Nat) x l', T.lams[k]? = some (x, l') → l' ≤ l → HelpG P w K mg base l' (T.ad K) x (S.lam k)) : Glob P w K mg base (T.tb l) (T.ad K) S where
  kit := txt_kit hS
  kie := txt_kie c hS
  gf := txt_gf X G c l
  bare := rfl
  ar := hS.ar
  fns := fns
  lams := lams
/-- a def that makes lambdas -/
theorem txt_tab {base : Heap} (c : He.SaysX T.fa fn [] tf T.ex w h K) (hcs : ∀ p ∈ tf.map (He.cT K), LamX.TabB base mg p.1 p.2) {x : Str} (hx : x ∈ T.tabs) (htf : (x, none) ∈ tf) (hq : ∀ y ∈ T.tabs, (He.cT K (y, none)).2 = (He.cT K (x, none)).2 → y = x)
    {oc dV kV doc pm cdv ct : Value} {od an : Option Addr} {osl : Array (Option Value)} {params : Arguments} {body : List Stmt} {scope : Scope} (lk : K.lookup (He.ga K x) = some ⟨oc, od, .func (PySem.W.fnOf x x params body scope dV kV doc pm an cdv ct), osl⟩) (hcd : PySem.W.codeIn K cdv x = true) :
    TabOk base mg (T.ad K) x cdv := by
  obtain ⟨cc, rfl⟩ := He.codeIn_ref hcd
  have e : He.codeOf K (x, none) = cc := He.codeOf_eq (p := (x, none)) lk rfl
  have hTB := hcs (He.cT K (x, none)) (List.mem_map.mpr ⟨_, htf, rfl⟩)
  have e1 : (He.cT K (x, none)).1 = cc := e
  rw [e1] at hTB
  refine ⟨cc, (He.cT K (x, none)).2, rfl, hTB, List.mem_map.mpr ⟨x, hx, rfl⟩, fun p hp hP => ?_⟩
  obtain ⟨y, hy, rfl⟩ := List.mem_map.mp hp
  rw [hq y hy hP]
end
end MP
set_option linter.all false
set_option Elab.async false
set_option maxRecDepth 100000
set_option maxHeartbeats 2000000
namespace MP
open PySem PySem.Spec PyProof.Rows L2 LamX

/-- a def keeps its promise -/
def FnOkAt (P : Program) (w : World) (K : PySem.W.Frag) (mg : Str → Option Value) (base : Heap) (T : Txt) (S : Sig) (k n l : Nat) : Prop :=
  ∃ fd ps, ps.length = n ∧ FnG P w K mg base l ((T.ad K).fa k) fd ps (spFn K (T.ad K) n (S.fn k)) ∧ L2.Binds K fd ps []
/-- what is known at a law's entry -/
structure At (T : Txt) (S : Sig) (fn : List He.DefD) (tf : List He.Defn) (w : World) (h : Heap) (K : PySem.W.Frag) (mg : Str → Option Value) (base : Heap) : Prop where
  X : K.In h
  G : h.Ns mainGlobals mg
  c : He.SaysX T.fa fn [] tf T.ex w h K
  hS : SigOk T S
  tb : ∀ p ∈ tf.map (He.cT K), LamX.TabB base mg p.1 p.2
  tq : ∀ x ∈ T.tabs, ∀ y ∈ T.tabs, (He.cT K (y, none)).2 = (He.cT K (x, none)).2 → y = x
section
variable {P : Program} {T : Txt} {S : Sig} {fn : List He.DefD} {tf : List He.Defn} {w : World} {h : Heap} {K : PySem.W.Frag} {mg : Str → Option Value} {base : Heap}
theorem At.def_ (a : At T S fn tf w h K mg base) {l k : Nat} {x : Str} {params : Arguments} {body : List Stmt} {scope : Scope} {N ps : List Str} {body' : List MP.St} {tb : Bool} (G : Glob P w K mg base (T.tb l) (T.ad K) S)
    (hd : (⟨(x, none), x, x, params, body, scope, [], []⟩ : He.DefD) ∈ fn) (hk : T.fns[k]? = some (x, ps.length, l + 1)) (Sc : FnScope N ps scope) (ht : tb = true → x ∈ T.tabs ∧ (x, none) ∈ tf)
    (hc : (cSs (T.tb l) true none scope N 60 body).map (·.1) = some body')
    (hb : ∀ (kV doc pm : Value) (an : Option Addr) (cdv ct : Value) (us : List Value), us.length = ps.length → bindArgs (PySem.W.fnOf x x params body scope .none kV doc pm an cdv ct) ⟨us, []⟩ = pure (ps.zip us))
    (hs : ∀ args st, args.length = ps.length → Store.wf st → PV.bels st.length args = true → GC st.length (runBody ⟨S, none, none, [], tb, l⟩ N.length body' args st) (S.fn k args st)) : FnOkAt P w K mg base T S k ps.length (l + 1) := by
  obtain ⟨fd, F⟩ := a.c.t.d.defs hd
  have hfa : (T.ad K).fa k = He.ga K x := by
    show He.ga K ((T.fns[k]?.map (·.1)).getD Str.empty) = _
    rw [hk]; rfl
  have F : FunD K x x params body scope [] [] (He.ga K x) fd := F
  have B := FunD.bindsN (ps := ps) F hb
  obtain ⟨oc, od, dV, kV, doc, pm, an, cdv, ct, osl, rfl, lk, hcd, _, _⟩ := F.ex
  refine ⟨_, ps, rfl, ?_, B⟩
  rw [hfa]
  refine FnG.spec rfl (fnG_of (tb := tb) G lk hcd Sc (fun e => ?_) (cSs_ok hc)) hs
  exact txt_tab a.c a.tb (ht e).1 (ht e).2 (a.tq x (ht e).1) lk hcd
/-- the same, of the very function object -/
theorem At.defL (a : At T S fn tf w h K mg base) {l k : Nat} {x : Str} {params : Arguments} {body : List Stmt} {scope : Scope} {N ps : List Str} {body' : List MP.St} {tb : Bool} (G : Glob P w K mg base (T.tb l) (T.ad K) S)
    (hd : (⟨(x, none), x, x, params, body, scope, [], []⟩ : He.DefD) ∈ fn) (hk : T.fns[k]? = some (x, ps.length, l + 1)) (Sc : FnScope N ps scope) (ht : tb = true → x ∈ T.tabs ∧ (x, none) ∈ tf)
    (hc : (cSs (T.tb l) true none scope N 60 body).map (·.1) = some body')
    (hb : ∀ (kV doc pm : Value) (an : Option Addr) (cdv ct : Value) (us : List Value), us.length = ps.length → bindArgs (PySem.W.fnOf x x params body scope .none kV doc pm an cdv ct) ⟨us, []⟩ = pure (ps.zip us))
    (hs : ∀ args st, args.length = ps.length → Store.wf st → PV.bels st.length args = true → GC st.length (runBody ⟨S, none, none, [], tb, l⟩ N.length body' args st) (S.fn k args st)) : FnG P w K mg base (l + 1) ((T.ad K).fa k) (((K.lookup (He.ga K x)).bind fun o => match o.data with | .func fd => some fd | _ => none).getD default) ps (spFn K (T.ad K) ps.length (S.fn k)) := by
  obtain ⟨fd, F⟩ := a.c.t.d.defs hd
  have hfa : (T.ad K).fa k = He.ga K x := by
    show He.ga K ((T.fns[k]?.map (·.1)).getD Str.empty) = _
    rw [hk]; rfl
  have F : FunD K x x params body scope [] [] (He.ga K x) fd := F
  have B := FunD.bindsN (ps := ps) F hb
  obtain ⟨oc, od, dV, kV, doc, pm, an, cdv, ct, osl, rfl, lk, hcd, _, _⟩ := F.ex
  rw [hfa, lk]
  refine FnG.spec rfl (fnG_of (tb := tb) G lk hcd Sc (fun e => ?_) (cSs_ok hc)) hs
  exact txt_tab a.c a.tb (ht e).1 (ht e).2 (a.tq x (ht e).1) lk hcd
/-- a helper -/
theorem At.helper (a : At T S fn tf w h K mg base) {l k : Nat} {x y : Str} {params : Arguments} {body : List Stmt} {scope : Scope} {N : List Str} {body' : List MP.St} (G : Glob P w K mg base (T.tb l) (T.ad K) S)
    (hd : (⟨(x, none), x, x, params, body, scope, [], []⟩ : He.DefD) ∈ fn) (hk : T.lams[k]? = some (x, l + 1)) (Sc : FnScope N [y] scope) (h0 : N[0]? = some y) (hv : Vis scope y) (hy : (y == ("__debug__" : Str)) = false ∧ (y == ("__classdict__" : Str)) = false)
    (hc : (cSs (T.tb l) true none scope N 60 body).map (·.1) = some body')
    (hb : ∀ (kV doc pm : Value) (an : Option Addr) (cdv ct : Value) (us : List Value), us.length = 1 → bindArgs (PySem.W.fnOf x x params body scope .none kV doc pm an cdv ct) ⟨us, []⟩ = pure ([y].zip us))
    (hs : S.lam k = fun r st => runThunk S l N.length body' r st) : HelpG P w K mg base (l + 1) (T.ad K) x (S.lam k) := by
  obtain ⟨fd, F⟩ := a.c.t.d.defs hd
  have F : FunD K x x params body scope [] [] (He.ga K x) fd := F
  have B := FunD.bindsN (ps := [y]) F hb
  obtain ⟨oc, od, dV, kV, doc, pm, an, cdv, ct, osl, rfl, lk, hcd, _, _⟩ := F.ex
  have hm := He.glo_ok a.X a.G (txt_facts a.c (f := .glo x) (by
    simp only [Txt.fa, List.mem_append, List.mem_map]
    exact .inr (.inl ⟨_, List.mem_of_getElem? hk, rfl⟩)))
  rw [hs]
  exact helpG_of G hm F.kp lk hcd B Sc h0 hv hy.1 hy.2 (cSs_ok hc)
/-- all of them, level by level -/
theorem At.glob (a : At T S fn tf w h K mg base) (h0 : ∀ (k : Nat) x n l, T.fns[k]? = some (x, n, l) → 0 < l) (h1 : ∀ (k : Nat) x l, T.lams[k]? = some (x, l) → 0 < l)
    (step : ∀ l, Glob P w K mg base (T.tb l) (T.ad K) S → ∀ (k : Nat) x n, T.fns[k]? = some (x, n, l + 1) → FnOkAt P w K mg base T S k n (l + 1))
    (lstep : ∀ l, Glob P w K mg base (T.tb l) (T.ad K) S → ∀ (k : Nat) x, T.lams[k]? = some (x, l + 1) → HelpG P w K mg base (l + 1) (T.ad K) x (S.lam k)) : ∀ l, Glob P w K mg base (T.tb l) (T.ad K) S
  | 0 => txt_glob a.X a.G a.c a.hS (fun k x n l' hk hl => absurd (h0 k x n l' hk) (by omega)) (fun k x l' hk hl => absurd (h1 k x l' hk) (by omega))
  | l + 1 => by
    have G := At.glob a h0 h1 step lstep l
    refine txt_glob a.X a.G a.c a.hS (fun k x n l' hk hl => ?_) (fun k x l' hk hl => ?_)
    · by_cases e : l' = l + 1
      · subst e; exact step l G k x n hk
      · exact G.fns k x n l' hk (show l' ≤ l by omega)
    · by_cases e : l' = l + 1
      · subst e; exact lstep l G k x hk
      · exact G.lams k x l' hk (show l' ≤ l by omega)
end
/-- the law holds at the head's heap -/
theorem law_at {P : Program} {T : Txt} {S : Sig} {fn : List He.DefD} {tf : List He.Defn} {w : World} {h : Heap} {K : PySem.W.Frag} {mg : Str → Option Value} {fa : Addr} {n k l : Nat} {x y : Str} {params : Arguments} {body : List Stmt} {scope : Scope}
    (X : K.In h) (G : h.Ns mainGlobals mg) (c : He.SaysX T.fa fn [] tf T.ex w h K) (hS : SigOk T S) (hmg : mg x = some (.ref fa)) (hn : n ≤ szl)
    (tq : ∀ x ∈ T.tabs, ∀ y ∈ T.tabs, (He.cT K (y, none)).2 = (He.cT K (x, none)).2 → y = x) (ht : ∀ x ∈ T.tabs, (x, none) ∈ tf)
    (hd : (⟨(x, none), x, x, params, body, scope, [], []⟩ : He.DefD) ∈ fn) (hk : T.fns[k]? = some (x, 1, l))
    (hb : ∀ (kV doc pm : Value) (an : Option Addr) (cdv ct : Value) (us : List Value), us.length = 1 → bindArgs (PySem.W.fnOf x x params body scope .none kV doc pm an cdv ct) ⟨us, []⟩ = pure ([y].zip us))
    (all : ∀ base, At T S fn tf w h K mg base → FnG P w K mg base l ((T.ad K).fa k) (((K.lookup (He.ga K x)).bind fun o => match o.data with | .func fd => some fd | _ => none).getD default) [y] (spFn K (T.ad K) 1 (S.fn k)))
    (hf : ∀ ns : List Int, ns.length ≤ n → (∀ z ∈ ns, Builtin.Int.intBits z ≤ 1048576) → ∃ st, S.fn k [.ref 0] [.frz (ns.map PV.int)] = .ok (.bl true) st) :
    ∃ K : PySem.W.Frag, K.In h ∧ noLists K = true ∧ LawAtG P w K l n y mg fa h := by
  have hex := c.more
  unfold Txt.ex at hex
  obtain ⟨nl, _⟩ := He.ba hex
  obtain ⟨fd, F⟩ := c.t.d.defs hd
  have F : FunD K x x params body scope [] [] (He.ga K x) fd := F
  have hfa : (T.ad K).fa k = He.ga K x := by
    show He.ga K ((T.fns[k]?.map (·.1)).getD Str.empty) = _
    rw [hk]; rfl
  have e := (txt_gf X G c 0).fn k x 1 l hk
  rw [hmg, hfa] at e
  have efa : fa = He.ga K x := by have := e.1; cases this; rfl
  subst efa
  have bA : ∀ (s : Shared) (u : Value), BindsTo s fd ⟨[u], []⟩ [(y, u)] := fun s u => FunD.bindsA (ps := [y]) F hb s [u] rfl
  obtain ⟨oc, od, dV, kV, doc, pm, an, cdv, ct, osl, rfl, lk, hcd, _, _⟩ := F.ex
  refine ⟨K, X, nl, _, tf.map (He.cT K), spFn K (T.ad K) 1 (S.fn k), fun p hp => ?_, fun p hp => ?_, fun p hp => ?_, bA, ?_, fun base kb gb tb => ?_⟩
  · obtain ⟨q, hq, rfl⟩ := List.mem_map.mp hp; exact c.empty q hq
  · obtain ⟨q, hq, rfl⟩ := List.mem_map.mp hp; exact c.out q hq
  · obtain ⟨q, hq, rfl⟩ := List.mem_map.mp hp; exact PySem.W.codeHd_of_K X (c.hd q hq)
  · refine law_sp (A := T.ad K) rfl (fun p hp => ?_) hn hf
    obtain ⟨z, hz, rfl⟩ := List.mem_map.mp hp
    exact ⟨(He.cT K (z, none)).1, List.mem_map.mpr ⟨_, ht z hz, rfl⟩⟩
  · have F := all base ⟨X, G, c, hS, tb, tq⟩
    rw [hfa, lk] at F
    exact F
end MP
set_option linter.all false
set_option Elab.async false
set_option maxRecDepth 100000
set_option maxHeartbeats 2000000
namespace MP
open PySem

/-- a value that isinstance can be asked of -/
def kindOk (st : Store) : PV → Bool
  | .non | .bl _ | .int _ | .str _ | .tup _ => true
  | .ref i => match st[i]? with
    | some (.lst _) | some (.frz _) | some (.dic _) => true
    | _ => false
  | _ => false
/-- isinstance of a built-in type -/
def tyIs (st : Store) (t : String) : PV → Bool
  | .bl _ => t == "bool" || t == "int"
  | .int _ => t == "int"
  | .str _ => t == "str"
  | .tup _ => t == "tuple"
  | .ref i => match st[i]? with
    | some (.lst _) | some (.frz _) => t == "list"
    | some (.dic _) => t == "dict"
    | _ => false
  | _ => false
theorem tyB_kind {isc : Nat → Bool} {t : String} {v : PV} {st : Store} (h : kindOk st v = true) : tyB isc t v st = some (tyIs st t v) := by
  cases v with
  | ref i =>
    simp only [kindOk] at h
    simp only [tyB, tyIs]
    split at h <;> first | (rename_i e; simp only [e]) | cases h
  | fn k => cases h
  | cls k => cases h
  | ty n => cases h
  | _ => rfl
def isIntV : PV → Bool
  | .int _ => true
  | _ => false
theorem GC.of_ok {st st' : Store} {f : Res PV} {v : PV} {n : Nat} (hn : n ≤ st'.length) (hw : Store.wf st') (hb : PV.bel st'.length v = true) (g : Store) (h : f = .ok v (st' ++ g)) : GC n f (.ok v st') := ⟨hn, hw, hb, g, h⟩
theorem GC.same {st : Store} {f : Res PV} {v : PV} (hw : Store.wf st) (hb : PV.bel st.length v = true) (h : f = .ok v st) : GC st.length f (.ok v st) := ⟨Nat.le_refl _, hw, hb, [], by rw [List.append_nil]; exact h⟩
theorem GC.exc {st : Store} {f : Res PV} {c : Nat} (hw : Store.wf st) (h : f = .exc c [] st) : GC st.length f (.exc c [] st) := ⟨Nat.le_refl _, hw, rfl, [], by rw [List.append_nil]; exact h⟩
theorem GC.if_ {n : Nat} {f g : Res PV} {c : Prop} [Decidable c] (h : c → GC n f g) : GC n f (if c then g else .bad) := by
  by_cases hc : c
  · rw [if_pos hc]; exact h hc
  · rw [if_neg hc]; trivial
@[simp] theorem bel_bl {n : Nat} {b : Bool} : PV.bel n (.bl b) = true := rfl
@[simp] theorem bel_int {n : Nat} {b : Int} : PV.bel n (.int b) = true := rfl
@[simp] theorem bel_non {n : Nat} : PV.bel n .non = true := rfl
/-- a comprehension that leaves the store as it is -/
theorem lcLoop_pure {w : List (Nat × List PV)} {f : PV → Store → Res (Option PV)} {g : PV → Option PV} {st : Store} (hw : Src.ok w st = true) : ∀ (xs acc : List PV), (∀ x ∈ xs, f x st = .ok (g x) st) → lcLoop w f xs acc st = .ok (acc ++ xs.filterMap g) st
  | [], acc, _ => by simp [lcLoop, hw]
  | x :: xs, acc, h => by
    have hx := h x (List.mem_cons_self ..)
    have ih := fun acc => lcLoop_pure hw xs acc fun y hy => h y (List.mem_cons_of_mem _ hy)
    simp only [lcLoop, hw, if_true, hx, Res.bind_ok]
    cases q : g x with
    | none => simp only [ih, List.filterMap_cons, q]
    | some v => simp only [ih, List.filterMap_cons, q, List.append_assoc, List.singleton_append]
theorem allB_map {α : Type} (l : List α) (p : α → Bool) : allB (l.map fun x => .bl (p x)) = some (l.all p) := by
  induction l with
  | nil => rfl
  | cons x l ih => simp [allB, ih]
theorem anyB_map {α : Type} (l : List α) (p : α → Bool) : anyB (l.map fun x => .bl (p x)) = some (l.any p) := by
  induction l with
  | nil => rfl
  | cons x l ih => simp [anyB, ih]
theorem intsOf_map (l : List Int) : intsOf (l.map .int) = some l := by
  induction l with
  | nil => rfl
  | cons x l ih => simp [intsOf, ih]
theorem filterMap_some' {α β : Type} (f : α → β) (l : List α) : l.filterMap (fun x => some (f x)) = l.map f := by
  induction l with
  | nil => rfl
  | cons x l ih => simp [ih]

def Fl.seq (r : Fl) (k : Env → Store → Fl) : Fl := match r with
  | .nx ρ st => k ρ st
  | f => f
@[simp] theorem Fl.seq_nx (ρ : Env) (st : Store) (k : Env → Store → Fl) : (Fl.nx ρ st).seq k = k ρ st := rfl
@[simp] theorem Fl.seq_rt (v : PV) (st : Store) (k : Env → Store → Fl) : (Fl.rt v st).seq k = .rt v st := rfl
@[simp] theorem Fl.seq_exc (c : Nat) (fs : List (Str × PV)) (ρ : Env) (st : Store) (k : Env → Store → Fl) : (Fl.exc c fs ρ st).seq k = .exc c fs ρ st := rfl
@[simp] theorem Fl.seq_bad (k : Env → Store → Fl) : Fl.bad.seq k = .bad := rfl
theorem exs_cons (C : Cn) (s : St) (ss : List St) (ρ : Env) (st : Store) : exs C (s :: ss) ρ st = (exS C s ρ st).seq fun ρ st => exs C ss ρ st := by
  simp only [exs]
  cases exS C s ρ st <;> rfl
theorem exs_nil (C : Cn) (ρ : Env) (st : Store) : exs C [] ρ st = .nx ρ st := by simp only [exs]
/-- a body's end as a call's -/
def Fl.res : Fl → Res PV
  | .nx _ st => .ok .non st
  | .rt v st => .ok v st
  | .exc c fs _ st => .exc c fs st
  | _ => .bad
@[simp] theorem Fl.res_nx (ρ : Env) (st : Store) : (Fl.nx ρ st).res = .ok .non st := rfl
@[simp] theorem Fl.res_rt (v : PV) (st : Store) : (Fl.rt v st).res = .ok v st := rfl
@[simp] theorem Fl.res_exc (c : Nat) (fs : List (Str × PV)) (ρ : Env) (st : Store) : (Fl.exc c fs ρ st).res = .exc c fs st := rfl
@[simp] theorem Fl.res_bad : Fl.bad.res = .bad := rfl
theorem runBody_eq (C : Cn) (n : Nat) (body : List St) (vs : List PV) (st : Store) : runBody C n body vs st = (exs C body (vs.map some ++ List.replicate (n - vs.length) none) st).res := by
  unfold runBody
  cases exs C body (vs.map some ++ List.replicate (n - vs.length) none) st <;> rfl
@[simp] theorem ifB_bl {α : Type} (b : Bool) (f g : Res α) : ifB (.bl b) f g = if b = true then f else g := by cases b <;> rfl
@[simp] theorem ifF_bl (b : Bool) (f g : Fl) : ifF (.bl b) f g = if b = true then f else g := by cases b <;> rfl
@[simp] theorem bind_ite {α β : Type} (c : Prop) [Decidable c] (r s : Res α) (f : α → Store → Res β) : (if c then r else s).bind f = if c then r.bind f else s.bind f := by split <;> rfl
@[simp] theorem fl_ite {α : Type} (c : Prop) [Decidable c] (r s : Res α) (ρ : Env) (f : α → Store → Fl) : (if c then r else s).fl ρ f = if c then r.fl ρ f else s.fl ρ f := by split <;> rfl
@[simp] theorem seq_ite (c : Prop) [Decidable c] (r s : Fl) (k : Env → Store → Fl) : (if c then r else s).seq k = if c then r.seq k else s.seq k := by split <;> rfl
@[simp] theorem res_ite (c : Prop) [Decidable c] (r s : Fl) : (if c then r else s).res = if c then r.res else s.res := by split <;> rfl
@[simp] theorem calm_ite {α : Type} (c : Prop) [Decidable c] (r s : Res α) : (if c then r else s).calm = if c then r.calm else s.calm := by split <;> rfl
def isBlV : PV → Bool
  | .bl _ => true
  | _ => false
def isTupV : PV → Bool
  | .tup _ => true
  | _ => false
@[simp] theorem tyIs_int {st : Store} {v : PV} : tyIs st "int" v = (isIntV v || isBlV v) := by
  cases v <;> simp [tyIs, isIntV, isBlV]
  split <;> rfl
@[simp] theorem tyIs_bool {st : Store} {v : PV} : tyIs st "bool" v = isBlV v := by
  cases v <;> simp [tyIs, isBlV]
  split <;> rfl
@[simp] theorem tyIs_tuple {st : Store} {v : PV} : tyIs st "tuple" v = isTupV v := by
  cases v <;> simp [tyIs, isTupV]
  split <;> rfl
theorem inst_ty {S : Sig} {st : Store} {v : PV} {t : String} (h : kindOk st v = true) (ht : ["int", "bool", "str", "tuple", "list", "dict"].contains t = true) : isInst S v (.ty t) st = some (tyIs st t v) := by
  simp only [isInst, ht, if_true]
  exact tyB_kind h

@[simp] theorem bin_add (a b : Int) (st : Store) : binOp .Add (.int a) (.int b) st = .ok (.int (a + b)) st := rfl
@[simp] theorem bin_sub (a b : Int) (st : Store) : binOp .Sub (.int a) (.int b) st = .ok (.int (a - b)) st := rfl
theorem bin_mul (a b : Int) (st : Store) (h : a.natAbs.log2 + b.natAbs.log2 < 100000000) : binOp .Mult (.int a) (.int b) st = .ok (.int (a * b)) st := by simp only [binOp, if_pos h]
theorem bin_mod (a b : Int) (st : Store) (h : 0 < b) : binOp .Mod (.int a) (.int b) st = .ok (.int (a % b)) st := by simp only [binOp, if_pos h]
theorem bin_div (a b : Int) (st : Store) (h : 0 < b ∧ b.natAbs.log2 < 9000) : binOp .FloorDiv (.int a) (.int b) st = .ok (.int (a / b)) st := by simp only [binOp, if_pos h]
@[simp] theorem cmp_lt (a b : Int) (st : Store) : cmpOp .Lt (.int a) (.int b) st = .ok (.bl (decide (a < b))) st := rfl
@[simp] theorem cmp_le (a b : Int) (st : Store) : cmpOp .LtE (.int a) (.int b) st = .ok (.bl (decide (a ≤ b))) st := rfl
@[simp] theorem cmp_gt (a b : Int) (st : Store) : cmpOp .Gt (.int a) (.int b) st = .ok (.bl (decide (b < a))) st := rfl
@[simp] theorem cmp_ge (a b : Int) (st : Store) : cmpOp .GtE (.int a) (.int b) st = .ok (.bl (decide (b ≤ a))) st := rfl
@[simp] theorem cmp_eqI (a b : Int) (st : Store) : cmpOp .Eq (.int a) (.int b) st = .ok (.bl (decide (a = b))) st := rfl
@[simp] theorem cmp_neI (a b : Int) (st : Store) : cmpOp .NotEq (.int a) (.int b) st = .ok (.bl (!decide (a = b))) st := rfl
@[simp] theorem cmp_eqS (a b : Str) (st : Store) : cmpOp .Eq (.str a) (.str b) st = .ok (.bl (decide (a = b))) st := rfl
@[simp] theorem cmp_neS (a b : Str) (st : Store) : cmpOp .NotEq (.str a) (.str b) st = .ok (.bl (!decide (a = b))) st := rfl
@[simp] theorem neg_int (a : Int) (st : Store) : negOp (.int a) st = .ok (.int (-a)) st := rfl
theorem idx_tup {xs : List PV} {i : Int} {j : Nat} {v : PV} {st : Store} (h : ixOf xs.length i = some j) (e : xs[j]? = some v) : idxOp (.tup xs) (.int i) st = .ok v st := by
  simp only [idxOp, seqOf, h, e, ofOpt_some]
theorem idx_lst {xs : List PV} {a : Nat} {i : Int} {j : Nat} {v : PV} {st : Store} (hs : st[a]? = some (.lst xs)) (h : ixOf xs.length i = some j) (e : xs[j]? = some v) : idxOp (.ref a) (.int i) st = .ok v st := by
  simp only [idxOp, seqOf, listAt, hs, h, e, ofOpt_some]
theorem ixOf_nat {n i : Nat} (h : i < n) : ixOf n (i : Int) = some i := by
  simp [ixOf]; omega
theorem set_lst {xs : List PV} {a : Nat} {i : Int} {j : Nat} {v : PV} {st : Store} (hs : st[a]? = some (.lst xs)) (h : ixOf xs.length i = some j) : setOp (.ref a) (.int i) v st = .ok .non (st.set a (.lst (xs.set j v))) := by
  simp only [setOp, hs, h]
theorem datas_map {g : Nat → Option PyData} {α : Type} (f : α → PV) (d : α → PyData) (h : ∀ x, PV.data g (f x) = some (d x)) : ∀ l : List α, PV.datas g (l.map f) = some (l.map d)
  | [] => rfl
  | x :: l => by simp only [List.map_cons, PV.datas, h, datas_map f d h l, Option.map_some]
end MP
set_option linter.all false
set_option Elab.async false
set_option maxRecDepth 100000
set_option maxHeartbeats 2000000
namespace MP
open PySem

/-- a tuple of ints -/
abbrev tI (ns : List Int) : PV := .tup (ns.map .int)
theorem datas_ints {g : Nat → Option PyData} (ns : List Int) : PV.datas g (ns.map .int) = some (ns.map .int) := datas_map (f := PV.int) (d := PyData.int) (fun x => by simp only [PV.data]) ns
@[simp] theorem data_tI {st : Store} (ns : List Int) : dataIn st (tI ns) = some (.tuple (ns.map .int)) := by
  simp only [dataIn, PV.data, datas_ints, Option.map_some]
@[simp] theorem data_int {st : Store} (i : Int) : dataIn st (.int i) = some (.int i) := by simp only [dataIn, PV.data]
theorem eqv_ints : ∀ (a b : List Int), PyData.eqvAll (a.map .int) (b.map .int) = decide (a = b)
  | [], [] => rfl
  | [], _ :: _ => rfl
  | _ :: _, [] => rfl
  | x :: xs, y :: ys => by
    simp only [List.map_cons, PyData.eqvAll, PyData.eqv, eqv_ints xs ys]
    by_cases h : x = y <;> simp [h]
theorem lay_ints : ∀ (a : List Int), PyData.canLayAll0 (a.map .int) = true
  | [] => rfl
  | x :: xs => by simp only [List.map_cons, PyData.canLayAll0, PyData.canLay0, lay_ints xs, Bool.and_self]
theorem depth_ints : ∀ (a : List Int), PyData.depthAll (a.map .int) = 0
  | [] => rfl
  | x :: xs => by simp only [List.map_cons, PyData.depthAll, PyData.depth, depth_ints xs]; rfl
@[simp] theorem shaped_int (i : Int) : SeqAt.shaped (.int i) = true := by simp [SeqAt.shaped, PyData.canLay0, PyData.depth]
@[simp] theorem shaped_ints (a : List Int) : SeqAt.shaped (.tuple (a.map .int)) = true := by simp [SeqAt.shaped, PyData.canLay0, PyData.depth, lay_ints, depth_ints]
@[simp] theorem eq_tI {st : Store} (a b : List Int) : eqPV st (tI a) (tI b) = some (decide (a = b)) := by
  have e : eqPV st (tI a) (tI b) = (match dataIn st (tI a), dataIn st (tI b) with
    | some d, some e => if SeqAt.shaped d && SeqAt.shaped e then some (PyData.eqv d e) else none
    | _, _ => none) := rfl
  rw [e, data_tI, data_tI]
  simp [PyData.eqv, eqv_ints]
theorem any_ints (i : Int) : ∀ ns : List Int, ((ns.map PyData.int).any fun z => PyData.eqv z (.int i)) = decide (i ∈ ns)
  | [] => by simp
  | x :: xs => by
    simp only [List.map_cons, List.any_cons, any_ints i xs, PyData.eqv]
    by_cases h : x = i
    · subst h; simp
    · have : ¬ i = x := fun e => h e.symm
      simp [h, this]
@[simp] theorem mem_ints {st : Store} (i : Int) (ns : List Int) : memPV st (.int i) (ns.map .int) = some (decide (i ∈ ns)) := by
  unfold memPV
  rw [data_int, datas_ints]
  show (if (SeqAt.shaped (.int i) && PyData.canLayAll0 (ns.map .int)) = true then some ((ns.map PyData.int).any fun z => PyData.eqv z (.int i)) else none) = _
  rw [if_pos (by simp [lay_ints]), any_ints]
/-- the ints of a tuple -/
theorem ints_of_all : ∀ {xs : List PV}, (∀ x ∈ xs, isIntV x = true) → ∃ ns : List Int, xs = ns.map .int
  | [], _ => ⟨[], rfl⟩
  | x :: xs, h => by
    obtain ⟨ns, hn⟩ := ints_of_all fun y hy => h y (List.mem_cons_of_mem _ hy)
    have := h x (List.mem_cons_self ..)
    cases x <;> first | (simp [isIntV] at this; done) | skip
    rename_i i
    exact ⟨i :: ns, by rw [hn]; rfl⟩
def smallI (n : Int) : Prop := n.natAbs < 2 ^ 64
theorem showable_ints : ∀ {a : List Int}, (∀ n ∈ a, smallI n) → PyData.showableAll (a.map .int) = true
  | [], _ => rfl
  | x :: xs, h => by
    simp only [List.map_cons, PyData.showableAll, PyData.showable, showable_ints fun y hy => h y (List.mem_cons_of_mem _ hy), Bool.and_true, decide_eq_true_eq]
    have := h x (List.mem_cons_self ..)
    unfold smallI at this
    by_cases hx : x.natAbs = 0
    · rw [hx]; decide
    · exact Nat.lt_trans ((Nat.log2_lt hx).mpr this) (by decide)
theorem rws_ints : ∀ {a : List Int}, (∀ n ∈ a, smallI n) → rws (a.map .int) ≤ 70 * a.length
  | [], _ => by simp [rws]
  | x :: xs, h => by
    have ih := rws_ints (a := xs) fun y hy => h y (List.mem_cons_of_mem _ hy)
    have := h x (List.mem_cons_self ..)
    unfold smallI at this
    have hl : x.natAbs.log2 < 64 := by
      by_cases hx : x.natAbs = 0
      · rw [hx]; decide
      · exact (Nat.log2_lt hx).mpr this
    simp only [List.map_cons, rws, rw_, List.length_cons]
    omega
theorem reprOk_ints {a : List Int} (h : ∀ n ∈ a, smallI n) (hl : a.length ≤ 1000) : reprOk (.tuple (a.map .int)) = true := by
  have h2 := rws_ints h
  simp only [reprOk, PyData.showable, showable_ints h, PyData.canLay0, lay_ints, PyData.depth, depth_ints, rw_, Bool.and_eq_true, decide_eq_true_eq, true_and]
  have h3 : rws (a.map PyData.int) + 3 ≤ 70003 := by omega
  have h4 : rws (a.map PyData.int) + 3 ≤ szl := Nat.le_trans h3 (by show (70003 : Nat) ≤ 16777216; decide)
  exact ⟨by decide, decide_eq_true h4⟩
end MP
set_option linter.all false
set_option Elab.async false
set_option maxRecDepth 100000
set_option maxHeartbeats 2000000
namespace MP
open PySem Classical
/-- the answer, where its store is sound -/
noncomputable def chk (n : Nat) (r : Res PV) : Res PV := match r with
  | .ok v st => if n ≤ st.length ∧ Store.wf st ∧ PV.bel st.length v = true then .ok v st else .bad
  | .exc c fs st => if n ≤ st.length ∧ Store.wf st ∧ (fs.all fun p => PV.bel st.length p.2) = true then .exc c fs st else .bad
  | .bad => .bad
theorem GC_chk (n : Nat) (r : Res PV) : GC n r (chk n r) := by
  cases r with
  | bad => trivial
  | ok v st =>
    simp only [chk]
    split
    · rename_i h; exact ⟨h.1, h.2.1, h.2.2, [], by rw [List.append_nil]⟩
    · trivial
  | exc c fs st =>
    simp only [chk]
    split
    · rename_i h; exact ⟨h.1, h.2.1, h.2.2, [], by rw [List.append_nil]⟩
    · trivial
theorem chk_ok {n : Nat} {v : PV} {st : Store} (h1 : n ≤ st.length) (h2 : Store.wf st) (h3 : PV.bel st.length v = true) : chk n (.ok v st) = .ok v st := by
  simp only [chk, if_pos (And.intro h1 (And.intro h2 h3))]
theorem chk_exc {n : Nat} {c : Nat} {st : Store} (h1 : n ≤ st.length) (h2 : Store.wf st) : chk n (.exc c [] st) = .exc c [] st := by
  simp only [chk, if_pos (And.intro h1 (And.intro h2 (show (([] : List (Str × PV)).all fun p => PV.bel st.length p.2) = true from rfl)))]
/-- a function that answers as its body does -/
def Self (S : Sig) (k n : Nat) (tb : Bool) (lv : Nat) (b : List St) : Prop := ∀ args st, S.fn k args st = chk st.length (runBody ⟨S, none, none, [], tb, lv⟩ n b args st)
theorem Self.ok {S : Sig} {k n lv : Nat} {tb : Bool} {b : List St} {args : List PV} {st st' : Store} {v : PV} (h : Self S k n tb lv b) (e : runBody ⟨S, none, none, [], tb, lv⟩ n b args st = .ok v st') (h1 : st.length ≤ st'.length) (h2 : Store.wf st') (h3 : PV.bel st'.length v = true) : S.fn k args st = .ok v st' := by
  rw [h, e, chk_ok h1 h2 h3]
theorem Self.exc {S : Sig} {k n lv : Nat} {tb : Bool} {b : List St} {args : List PV} {st st' : Store} {c : Nat} (h : Self S k n tb lv b) (e : runBody ⟨S, none, none, [], tb, lv⟩ n b args st = .exc c [] st') (h1 : st.length ≤ st'.length) (h2 : Store.wf st') : S.fn k args st = .exc c [] st' := by
  rw [h, e, chk_exc h1 h2]
theorem bels_map {α : Type} {n : Nat} (f : α → PV) (h : ∀ x, PV.bel n (f x) = true) : ∀ l : List α, PV.bels n (l.map f) = true
  | [] => rfl
  | x :: l => by simp only [List.map_cons, PV.bels, h, bels_map f h l, Bool.and_self]
@[simp] theorem bel_tI {n : Nat} (ns : List Int) : PV.bel n (tI ns) = true := by
  show PV.bels n (ns.map .int) = true
  exact bels_map _ (fun _ => rfl) ns
@[simp] theorem bel_str {n : Nat} {b : Str} : PV.bel n (.str b) = true := rfl
end MP
set_option linter.all false
set_option Elab.async false
set_option maxRecDepth 100000
set_option maxHeartbeats 2000000
namespace MP
open PySem
theorem lcLoop_map {α : Type} {w : List (Nat × List PV)} {f : PV → Store → Res (Option PV)} {h : α → PV} {g : α → Option PV} {st : Store} (hw : Src.ok w st = true) (l : List α) (acc : List PV) (hf : ∀ x ∈ l, f (h x) st = .ok (g x) st) : lcLoop w f (l.map h) acc st = .ok (acc ++ l.filterMap g) st := by
  induction l generalizing acc with
  | nil => simp [lcLoop, hw]
  | cons x l ih =>
    have hx := hf x (List.mem_cons_self ..)
    have ih := fun acc => ih acc fun y hy => hf y (List.mem_cons_of_mem _ hy)
    simp only [List.map_cons, lcLoop, hw, if_true, hx, Res.bind_ok]
    cases q : g x with
    | none => simp only [ih, List.filterMap_cons, q]
    | some v => simp only [ih, List.filterMap_cons, q, List.append_assoc, List.singleton_append]
theorem zipP_map {α β : Type} (f : α → PV) (g : β → PV) : ∀ (a : List α) (b : List β), zipP (a.map f) (b.map g) = (a.zip b).map fun p => .tup [f p.1, g p.2]
  | [], _ => rfl
  | _ :: _, [] => rfl
  | x :: xs, y :: ys => by simp only [List.map_cons, zipP, zipP_map f g xs ys, List.zip_cons_cons]
theorem enumFrom_map {α : Type} (f : α → PV) : ∀ (n : Nat) (a : List α), enumFrom n (a.map f) = (a.zipIdx n).map fun p => .tup [.int (p.2 : Nat), f p.1]
  | _, [] => rfl
  | n, x :: xs => by simp only [List.map_cons, enumFrom, enumFrom_map f (n + 1) xs, List.zipIdx_cons]
theorem filterMap_if {α : Type} (p : α → Bool) (e : α → Int) (l : List α) : l.filterMap (fun x => if p x = true then some (PV.int (e x)) else none) = ((l.filter p).map e).map .int := by
  induction l with
  | nil => rfl
  | cons x l ih =>
    by_cases h : p x = true
    · simp [h, ih]
    · simp [h, ih]
theorem filterMap_int {α : Type} (e : α → Int) (l : List α) : l.filterMap (fun x => some (PV.int (e x))) = (l.map e).map .int := by
  rw [filterMap_some', List.map_map]; rfl
@[simp] theorem srcOf_tup (st : Store) (xs : List PV) : srcOf st (.tup xs) = some ⟨xs, []⟩ := rfl
@[simp] theorem src_ok_nil (st : Store) : Src.ok [] st = true := rfl
@[simp] theorem put_nm (i : Nat) (v : PV) (ρ : Env) : (Tg.nm i).put v ρ = if i < ρ.length then some (ρ.set i (some v)) else none := by rw [Tg.put]
@[simp] theorem put_tup (ts : List Tg) (vs : List PV) (ρ : Env) : (Tg.tup ts).put (.tup vs) ρ = Tg.puts ts vs ρ := by rw [Tg.put]
@[simp] theorem puts_nil (ρ : Env) : Tg.puts [] [] ρ = some ρ := by rw [Tg.puts]
@[simp] theorem puts_cons (t : Tg) (ts : List Tg) (v : PV) (vs : List PV) (ρ : Env) : Tg.puts (t :: ts) (v :: vs) ρ = (t.put v ρ).bind fun ρ => Tg.puts ts vs ρ := by
  rw [Tg.puts]
  cases t.put v ρ <;> rfl
@[simp] theorem bels_ints {n : Nat} (ns : List Int) : PV.bels n (ns.map .int) = true := bels_map _ (fun _ => rfl) ns
theorem small_log {x : Int} (h : smallI x) : x.natAbs.log2 < 64 := by
  unfold smallI at h
  by_cases hx : x.natAbs = 0
  · rw [hx]; decide
  · exact (Nat.log2_lt hx).mpr h
theorem mul_small {x y : Int} (hx : smallI x) (hy : smallI y) (st : Store) : binOp .Mult (.int x) (.int y) st = .ok (.int (x * y)) st :=
  bin_mul x y st (by have := small_log hx; have := small_log hy; omega)
end MP
set_option linter.all false
set_option Elab.async false
set_option exponentiation.threshold 2000
set_option maxRecDepth 100000
set_option maxHeartbeats 4000000
namespace MP
open PySem
def hdO (q : Nat) (p : Nat) (b s c : Int) : SO := .lst [.ref q, .int p, .int b, .int s, .int c]
structure HS (st : Store) (h q p : Nat) (b s c : Int) (cells : List Int) : Prop where
  at_ : st[h]? = some (hdO q p b s c)
  cl : st[q]? = some (.lst (cells.map .int))
  ne : q ≠ h
  b0 : 0 ≤ b
  s0 : 0 ≤ s
  s1 : s < 2147483648
  c0 : 0 ≤ c
  cs : ∀ x ∈ cells, 0 ≤ x ∧ x.natAbs.log2 ≤ 2000000
theorem lt_of_getElem? {α : Type} {l : List α} {i : Nat} {x : α} (h : l[i]? = some x) : i < l.length := by
  by_cases hi : i < l.length
  · exact hi
  · rw [List.getElem?_eq_none (by omega)] at h; cases h
theorem HS.put {st : Store} {h q p p' : Nat} {b s c b' s' c' : Int} {cells : List Int} (H : HS st h q p b s c cells) (hb : 0 ≤ b') (hs : 0 ≤ s') (hs1 : s' < 2147483648) (hc : 0 ≤ c') : HS (st.set h (hdO q p' b' s' c')) h q p' b' s' c' cells where
  at_ := by rw [List.getElem?_set_self (lt_of_getElem? H.at_)]
  cl := by rw [List.getElem?_set_ne (Ne.symm H.ne)]; exact H.cl
  ne := H.ne
  b0 := hb
  s0 := hs
  s1 := hs1
  c0 := hc
  cs := H.cs
theorem HS.idx {st : Store} {h q p : Nat} {b s c : Int} {cells : List Int} (H : HS st h q p b s c cells) : idxOp (.ref h) (.int 0) st = .ok (.ref q) st ∧ idxOp (.ref h) (.int 1) st = .ok (.int p) st ∧ idxOp (.ref h) (.int 2) st = .ok (.int b) st ∧ idxOp (.ref h) (.int 3) st = .ok (.int s) st ∧ idxOp (.ref h) (.int 4) st = .ok (.int c) st :=
  ⟨idx_lst H.at_ (j := 0) rfl rfl, idx_lst H.at_ (j := 1) rfl rfl, idx_lst H.at_ (j := 2) rfl rfl, idx_lst H.at_ (j := 3) rfl rfl, idx_lst H.at_ (j := 4) rfl rfl⟩
theorem HS.set {st : Store} {h q p : Nat} {b s c : Int} {cells : List Int} (H : HS st h q p b s c cells) : (∀ n : Nat, setOp (.ref h) (.int 1) (.int n) st = .ok .non (st.set h (hdO q n b s c))) ∧ (∀ n, setOp (.ref h) (.int 2) (.int n) st = .ok .non (st.set h (hdO q p n s c))) ∧ (∀ n, setOp (.ref h) (.int 3) (.int n) st = .ok .non (st.set h (hdO q p b n c))) ∧ (∀ n, setOp (.ref h) (.int 4) (.int n) st = .ok .non (st.set h (hdO q p b s n))) :=
  ⟨fun n => set_lst H.at_ (j := 1) rfl, fun n => set_lst H.at_ (j := 2) rfl, fun n => set_lst H.at_ (j := 3) rfl, fun n => set_lst H.at_ (j := 4) rfl⟩
theorem log_le {n k : Nat} (h : n < 2 ^ k) (hk : 0 < k) : n.log2 < k := by
  by_cases hn : n = 0
  · rw [hn]; exact hk
  · exact (Nat.log2_lt hn).mpr h
/-- a product of small ones -/
theorem mul_le {a b : Int} (ha : a.natAbs < 2 ^ 1000) (hb : b.natAbs < 2 ^ 1000) (st : Store) : binOp .Mult (.int a) (.int b) st = .ok (.int (a * b)) st :=
  bin_mul a b st (by have := log_le ha (by decide); have := log_le hb (by decide); omega)
@[simp] theorem blt_int (S : Sig) (i : Int) (st : Store) : bltOp S .int [.int i] st = .ok (.int i) st := rfl
def iV (i : Nat) (j : Int) : Ex := .idx (.var i) (.lit (.int j))
def drawA (ce : Ex) (k1 k3 m3 : Int) : St := .ife (.and (.cmp .Eq (iV 0 2) (.lit (.int 0))) (.cmp .Lt (iV 0 1) (.blt .len [(iV 0 0)])))
  [.asg (.nm 2) (.idx (iV 0 0) (iV 0 1)), .set (.var 0) (.lit (.int 1)) (.bin .Add (iV 0 1) (.lit (.int 1))),
   .set (.var 0) (.lit (.int 3)) (.bin .Mod (.blt .int [(.bin .Add (.bin .Add (.bin .Mult (iV 0 3) (.lit (.int k1))) ce) (.lit (.int k3)))]) (.lit (.int m3))),
   .ife (.cmp .GtE (.var 2) (.bin .Pow (.lit (.int 10)) (.lit (.int 18)))) [.set (.var 0) (.lit (.int 2)) (.var 2)] []] []
def drawB : St := .ife (.cmp .Gt (iV 0 2) (.lit (.int 0))) [.asg (.nm 3) (.bin .Mod (.blt .int [(iV 0 2)]) (.var 1)), .set (.var 0) (.lit (.int 2)) (.bin .FloorDiv (iV 0 2) (.var 1)), .ret (.var 3)] []
def drawC (ka kb m1 d1 k5 m2 d2 k6 m4 d3 : Int) : List St := [.set (.var 0) (.lit (.int 4)) (.bin .Add (iV 0 4) (.lit (.int 1))),
   .asg (.nm 4) (.bin .Mod (.blt .int [(.bin .Mult (.blt .int [(.bin .Add (iV 0 3) (.bin .Mult (.lit (.int ka)) (iV 0 4)))]) (.lit (.int kb)))]) (.lit (.int m1))),
   .asg (.nm 4) (.bin .Mod (.blt .int [(.bin .Mult (.var 4) (.bin .Add (.bin .FloorDiv (.var 4) (.lit (.int d1))) (.lit (.int k5))))]) (.lit (.int m2))),
   .asg (.nm 4) (.bin .Mod (.blt .int [(.bin .Mult (.var 4) (.bin .Add (.bin .FloorDiv (.var 4) (.lit (.int d2))) (.lit (.int k6))))]) (.lit (.int m4))),
   .ret (.bin .Mod (.blt .int [(.bin .FloorDiv (.var 4) (.lit (.int d3)))]) (.var 1))]
def env5 (h : Nat) (L : Int) (a b c : Option PV) : Env := [some (.ref h), some (.int L), a, b, c]
/-- what the cell adds -/
def CeOk (ce : Ex) : Prop := ∀ (C : Cn) (h : Nat) (L x : Int) (st : Store), 0 ≤ x → x.natAbs.log2 ≤ 2000000 → ∃ y, ev C ce (env5 h L (some (.int x)) none none) st = .ok (.int y) st
theorem CeOk.var : CeOk (.var 2) := fun C h L x st _ _ => ⟨x, by simp [ev, env5]⟩
theorem CeOk.mul {k : Int} (hk : k.natAbs.log2 < 1000) : CeOk (.bin .Mult (.var 2) (.lit (.int k))) := fun C h L x st _ hx => ⟨x * k, by
  simp [ev, env5]
  exact bin_mul x k st (by omega)⟩
theorem drawA_ok {ce : Ex} {k1 k3 m3 : Int} (hce : CeOk ce) (hk1 : k1.natAbs < 2 ^ 1000) (hm0 : 0 < m3) (hm1 : m3 ≤ 2147483648) {C : Cn} {st : Store} {h q p : Nat} {b s c L : Int} {cells : List Int} (hp : C.pins = []) (H : HS st h q p b s c cells) :
    ∃ a p' b' s' st', exS C (drawA ce k1 k3 m3) (env5 h L none none none) st = .nx (env5 h L a none none) st' ∧ HS st' h q p' b' s' c cells ∧ (st' = st ∨ st' = st.set h (hdO q p' b' s' c)) := by
  obtain ⟨i0, i1, i2, i3, i4⟩ := H.idx
  have hlen : bltOp C.S .len [.ref q] st = .ok (.int cells.length) st := by
    simp only [bltOp, H.cl, List.length_map]
  by_cases hc : b = 0 ∧ p < cells.length
  · obtain ⟨rfl, hpl⟩ := hc
    have hcell : idxOp (.ref q) (.int p) st = .ok (.int cells[p]) st := idx_lst H.cl (j := p) (by rw [List.length_map]; exact ixOf_nat hpl) (by rw [List.getElem?_map, List.getElem?_eq_getElem hpl]; rfl)
    have hx := H.cs _ (List.getElem_mem hpl)
    generalize cells[p] = x at hcell hx
    have H1 := H.put (p' := p + 1) H.b0 H.s0 H.s1 H.c0
    obtain ⟨y, hy⟩ := hce C h L x (st.set h (hdO q (p + 1) 0 s c)) hx.1 hx.2
    generalize hs2 : (s * k1 + y + k3) % m3 = s2
    have hs20 : 0 ≤ s2 := hs2 ▸ Int.emod_nonneg _ (by omega)
    have hs21 : s2 < 2147483648 := by have := Int.emod_lt_of_pos (s * k1 + y + k3) hm0; omega
    have H2 := H1.put (p' := p + 1) H.b0 hs20 hs21 H.c0
    have hsmall : s.natAbs < 2 ^ 1000 := by have := H.s0; have := H.s1; exact Nat.lt_trans (show s.natAbs < 2 ^ 31 by omega) (by decide)
    have hpow : binOp .Pow (.int 10) (.int 18) (st.set h (hdO q (p + 1) 0 s2 c)) = .ok (.int (10 ^ 18)) (st.set h (hdO q (p + 1) 0 s2 c)) := rfl
    have hset2 := H1.set.2.2.1 s2
    have hset1 : setOp (.ref h) (.int 1) (.int ((p : Int) + 1)) st = .ok .non (st.set h (hdO q (p + 1) 0 s c)) := H.set.1 (p + 1)
    rw [List.set_set] at hset2
    have j3 := H1.idx.2.2.2.1
    have hmul := mul_le hsmall hk1 (st.set h (hdO q (p + 1) 0 s c))
    have hmod := bin_mod (s * k1 + y + k3) m3 (st.set h (hdO q (p + 1) 0 s c)) hm0
    rw [hs2] at hmod
    simp only [env5] at hy
    have hset3 := H2.set.2.1 x
    rw [List.set_set, List.set_set] at hset3
    by_cases hbig : (1000000000000000000 : Int) ≤ x
    · refine ⟨some (.int x), p + 1, x, s2, st.set h (hdO q (p + 1) x s2 c), ?_, ?_, .inr rfl⟩
      · simp [drawA, exS, exs_cons, exs_nil, ev, evs, env5, iV, i0, i1, i2, hlen, hpl, hp, hcell, hset1, j3, hmul, hy, hmod, hset2, hpow, hbig, hset3]
      · have := H2.put (p' := p + 1) hx.1 hs20 hs21 H.c0
        rw [List.set_set, List.set_set] at this
        exact this
    · refine ⟨some (.int x), p + 1, 0, s2, st.set h (hdO q (p + 1) 0 s2 c), ?_, ?_, .inr rfl⟩
      · simp [drawA, exS, exs_cons, exs_nil, ev, evs, env5, iV, i0, i1, i2, hlen, hpl, hp, hcell, hset1, j3, hmul, hy, hmod, hset2, hpow, hbig]
      · have := H2
        rw [List.set_set] at this
        exact this
  · refine ⟨none, p, b, s, st, ?_, H, .inl rfl⟩
    rw [not_and] at hc
    simp [drawA, exS, exs_cons, exs_nil, ev, evs, env5, iV, i0, i1, i2, hlen]
    intro hb hl
    exact absurd hl (hc hb)
theorem drawB_yes {C : Cn} {st : Store} {h q p : Nat} {b s c L : Int} {cells : List Int} (hp : C.pins = []) (H : HS st h q p b s c cells) (hL : 0 < L) (hL1 : L < 2 ^ 1000) (a : Option PV) (hb : 0 < b) :
    exS C drawB (env5 h L a none none) st = .rt (.int (b % L)) (st.set h (hdO q p (b / L) s c)) := by
  obtain ⟨i0, i1, i2, i3, i4⟩ := H.idx
  have h1 := bin_mod b L st hL
  have h2 := bin_div b L st ⟨hL, Nat.lt_trans (log_le (show L.natAbs < 2 ^ 1000 by omega) (by decide)) (by decide)⟩
  have h3 := H.set.2.1 (b / L)
  simp [drawB, exS, exs_cons, exs_nil, ev, evs, env5, iV, i2, hb, hp, h1, h2, h3]
theorem drawB_no {C : Cn} {st : Store} {h q p : Nat} {b s c L : Int} {cells : List Int} (H : HS st h q p b s c cells) (a : Option PV) (hb : ¬ 0 < b) :
    exS C drawB (env5 h L a none none) st = .nx (env5 h L a none none) st := by
  obtain ⟨i0, i1, i2, i3, i4⟩ := H.idx
  simp [drawB, exS, exs_cons, exs_nil, ev, evs, env5, iV, i2, hb]
structure CK (k : Int) : Prop where
  pos : 0 < k
  le : k ≤ 2147483648
theorem CK.abs {k : Int} (h : CK k) : k.natAbs < 2 ^ 32 := by have := h.pos; have := h.le; omega
theorem CK.log {k : Int} (h : CK k) : k.natAbs.log2 < 9000 := Nat.lt_trans (log_le h.abs (by decide)) (by decide)
theorem drawC_ok {ka kb m1 d1 k5 m2 d2 k6 m4 d3 : Int} (hka : CK ka) (hkb : CK kb) (hm1 : CK m1) (hd1 : CK d1) (hk5 : CK k5) (hm2 : CK m2) (hd2 : CK d2) (hk6 : CK k6) (hm4 : CK m4) (hd3 : CK d3) {C : Cn} {st : Store} {h q p : Nat} {b s c L : Int} {cells : List Int} (hp : C.pins = []) (H : HS st h q p b s c cells) (hc : c < 2 ^ 60) (hL : 0 < L) (a : Option PV) :
    ∃ d, exs C (drawC ka kb m1 d1 k5 m2 d2 k6 m4 d3) (env5 h L a none none) st = .rt (.int d) (st.set h (hdO q p b s (c + 1))) ∧ 0 ≤ d ∧ d < L := by
  obtain ⟨i0, i1, i2, i3, i4⟩ := H.idx
  have h4 := H.set.2.2.2 (c + 1)
  have hc0 := H.c0
  have hs0 := H.s0
  have hs1 := H.s1
  have H1 := H.put (p' := p) H.b0 H.s0 H.s1 (show 0 ≤ c + 1 by omega)
  obtain ⟨j0, j1, j2, j3, j4⟩ := H1.idx
  generalize hst1 : st.set h (hdO q p b s (c + 1)) = st1 at H1 j0 j1 j2 j3 j4 h4
  have lt3 : ∀ {x : Int}, x.natAbs < 2 ^ 100 → x.natAbs < 2 ^ 1000 := fun h => Nat.lt_trans h (by decide)
  have p1 := mul_le (lt3 (Nat.lt_trans hka.abs (by decide))) (lt3 (show (c + 1).natAbs < 2 ^ 100 by omega)) st1
  have q1 : 0 ≤ ka * (c + 1) := Int.mul_nonneg (by have := hka.pos; omega) (by omega)
  have q2 : ka * (c + 1) ≤ 2147483648 * (c + 1) := Int.mul_le_mul_of_nonneg_right hka.le (by omega)
  generalize ka * (c + 1) = x1 at p1 q1 q2
  have p2 := mul_le (lt3 (show (s + x1).natAbs < 2 ^ 100 by omega)) (lt3 (Nat.lt_trans hkb.abs (by decide))) st1
  have p3 := bin_mod ((s + x1) * kb) m1 st1 hm1.pos
  have r0 := Int.emod_nonneg ((s + x1) * kb) (show m1 ≠ 0 by have := hm1.pos; omega)
  have r1 := Int.emod_lt_of_pos ((s + x1) * kb) hm1.pos
  generalize (s + x1) * kb % m1 = n1 at p3 r0 r1
  have hn1 : n1 < 2147483648 := by have := hm1.le; omega
  have p4 := bin_div n1 d1 st1 ⟨hd1.pos, hd1.log⟩
  have t0 : 0 ≤ n1 / d1 := Int.ediv_nonneg r0 (by have := hd1.pos; omega)
  have t1 : n1 / d1 ≤ n1 := Int.ediv_le_self _ r0
  generalize n1 / d1 = y1 at p4 t0 t1
  have hk5a := hk5.abs
  have p5 := mul_le (lt3 (show n1.natAbs < 2 ^ 100 by omega)) (lt3 (show (y1 + k5).natAbs < 2 ^ 100 by omega)) st1
  have p6 := bin_mod (n1 * (y1 + k5)) m2 st1 hm2.pos
  have r2 := Int.emod_nonneg (n1 * (y1 + k5)) (show m2 ≠ 0 by have := hm2.pos; omega)
  have r3 := Int.emod_lt_of_pos (n1 * (y1 + k5)) hm2.pos
  generalize n1 * (y1 + k5) % m2 = n2 at p6 r2 r3
  have hn2 : n2 < 2147483648 := by have := hm2.le; omega
  have p7 := bin_div n2 d2 st1 ⟨hd2.pos, hd2.log⟩
  have t2 : 0 ≤ n2 / d2 := Int.ediv_nonneg r2 (by have := hd2.pos; omega)
  have t3 : n2 / d2 ≤ n2 := Int.ediv_le_self _ r2
  generalize n2 / d2 = y2 at p7 t2 t3
  have hk6a := hk6.abs
  have p8 := mul_le (lt3 (show n2.natAbs < 2 ^ 100 by omega)) (lt3 (show (y2 + k6).natAbs < 2 ^ 100 by omega)) st1
  have p9 := bin_mod (n2 * (y2 + k6)) m4 st1 hm4.pos
  generalize n2 * (y2 + k6) % m4 = n3 at p9
  have p10 := bin_div n3 d3 st1 ⟨hd3.pos, hd3.log⟩
  have p11 := bin_mod (n3 / d3) L st1 hL
  refine ⟨n3 / d3 % L, ?_, Int.emod_nonneg _ (by omega), Int.emod_lt_of_pos _ hL⟩
  simp [drawC, exS, exs_cons, exs_nil, ev, evs, env5, iV, i4, hp, h4, j3, j4, p1, p2, p3, p4, p5, p6, p7, p8, p9, p10, p11]
/-- a hand that has drawn at most n times -/
def Hand (st : Store) (h n : Nat) : Prop := ∃ q p b s c cells, HS st h q p b s c cells ∧ c ≤ n
theorem Hand.mono {st : Store} {h n n' : Nat} (H : Hand st h n) (hn : n ≤ n') : Hand st h n' := by
  obtain ⟨q, p, b, s, c, cells, H, hc⟩ := H
  exact ⟨q, p, b, s, c, cells, H, by omega⟩
/-- all but the hand stays -/
structure Fr (h : Nat) (st st' : Store) : Prop where
  len : st.length ≤ st'.length
  at_ : ∀ i, i < st.length → i ≠ h → st'[i]? = st[i]?
theorem Fr.refl (h : Nat) (st : Store) : Fr h st st := ⟨Nat.le_refl _, fun _ _ _ => rfl⟩
theorem Fr.trans {h : Nat} {a b c : Store} (x : Fr h a b) (y : Fr h b c) : Fr h a c := ⟨Nat.le_trans x.len y.len, fun i hi hn => by rw [y.at_ i (Nat.lt_of_lt_of_le hi x.len) hn, x.at_ i hi hn]⟩
theorem wf_set {st : Store} {h : Nat} {o : SO} (hw : Store.wf st) (ho : SO.bel st.length o = true) : Store.wf (st.set h o) := by
  intro x hx
  rw [List.length_set]
  rcases List.mem_or_eq_of_mem_set hx with hx | rfl
  · exact hw x hx
  · exact ho
theorem HS.bel {st : Store} {h q p : Nat} {b s c : Int} {cells : List Int} (H : HS st h q p b s c cells) (p' : Nat) (b' s' c' : Int) : SO.bel st.length (hdO q p' b' s' c') = true := by
  have := lt_of_getElem? H.cl
  simp [hdO, SO.bel, PV.bels, PV.bel, this]
def drawBody (ce : Ex) (k1 k3 m3 ka kb m1 d1 k5 m2 d2 k6 m4 d3 : Int) : List St := drawA ce k1 k3 m3 :: drawB :: drawC ka kb m1 d1 k5 m2 d2 k6 m4 d3
structure DrawK (ce : Ex) (k1 k3 m3 ka kb m1 d1 k5 m2 d2 k6 m4 d3 : Int) : Prop where
  ce : CeOk ce
  k1 : CK k1
  m3 : CK m3
  ka : CK ka
  kb : CK kb
  m1 : CK m1
  d1 : CK d1
  k5 : CK k5
  m2 : CK m2
  d2 : CK d2
  k6 : CK k6
  m4 : CK m4
  d3 : CK d3
theorem draw_ok {S : Sig} {k lv : Nat} {ce : Ex} {k1 k3 m3 ka kb m1 d1 k5 m2 d2 k6 m4 d3 : Int} (K : DrawK ce k1 k3 m3 ka kb m1 d1 k5 m2 d2 k6 m4 d3) (hS : Self S k 5 false lv (drawBody ce k1 k3 m3 ka kb m1 d1 k5 m2 d2 k6 m4 d3)) {st : Store} {h n : Nat} {L : Int} (hw : Store.wf st) (H : Hand st h n) (hn : n < 2 ^ 59) (hL : 0 < L) (hL1 : L < 2 ^ 1000) :
    ∃ d st', S.fn k [.ref h, .int L] st = .ok (.int d) st' ∧ 0 ≤ d ∧ d < L ∧ Hand st' h (n + 1) ∧ Store.wf st' ∧ Fr h st st' ∧ st'.length = st.length := by
  obtain ⟨q, p, b, s, c, cells, H, hc⟩ := H
  have hn' : (n : Int) < 2 ^ 59 := by exact_mod_cast hn
  obtain ⟨a, p1, b1, s1, st1, e1, H1, r1⟩ := drawA_ok (L := L) (C := ⟨S, none, none, [], false, lv⟩) K.ce (Nat.lt_trans K.k1.abs (by decide)) K.m3.pos K.m3.le rfl H
  have hst : ∀ o, st1.set h o = st.set h o := by
    intro o
    rcases r1 with rfl | rfl
    · rfl
    · rw [List.set_set]
  have fin : ∀ o, SO.bel st.length o = true → Store.wf (st.set h o) ∧ Fr h st (st.set h o) ∧ (st.set h o).length = st.length := fun o ho => ⟨wf_set hw ho, ⟨by rw [List.length_set]; exact Nat.le_refl _, fun i hi hne => List.getElem?_set_ne (Ne.symm hne)⟩, List.length_set ..⟩
  by_cases hb : 0 < b1
  · have e2 := drawB_yes (C := ⟨S, none, none, [], false, lv⟩) rfl H1 hL hL1 a hb
    have H2 := H1.put (p' := p1) (Int.ediv_nonneg H1.b0 (show 0 ≤ L by omega)) H1.s0 H1.s1 H1.c0
    rw [hst] at e2 H2
    obtain ⟨f1, f2, f3⟩ := fin _ (H.bel p1 (b1 / L) s1 c)
    refine ⟨b1 % L, _, hS.ok ?_ (by rw [f3]; exact Nat.le_refl _) f1 rfl, Int.emod_nonneg _ (by omega), Int.emod_lt_of_pos _ hL, ⟨q, p1, b1 / L, s1, c, cells, H2, by omega⟩, f1, f2, f3⟩
    rw [runBody_eq]
    simp only [drawBody, exs_cons]
    have e0 : ([.ref h, .int L] : List PV).map some ++ List.replicate (5 - ([.ref h, .int L] : List PV).length) none = env5 h L none none none := rfl
    rw [e0, e1]
    simp only [Fl.seq_nx, e2, Fl.seq_rt, Fl.res_rt]
  · have e2 := drawB_no (C := ⟨S, none, none, [], false, lv⟩) H1 (L := L) a hb
    obtain ⟨d, e3, d0, dL⟩ := drawC_ok K.ka K.kb K.m1 K.d1 K.k5 K.m2 K.d2 K.k6 K.m4 K.d3 (C := ⟨S, none, none, [], false, lv⟩) rfl H1 (by omega) hL a
    have H2 := H1.put (p' := p1) H1.b0 H1.s0 H1.s1 (show 0 ≤ c + 1 by have := H.c0; omega)
    rw [hst] at e3 H2
    obtain ⟨f1, f2, f3⟩ := fin _ (H.bel p1 b1 s1 (c + 1))
    refine ⟨d, _, hS.ok ?_ (by rw [f3]; exact Nat.le_refl _) f1 rfl, d0, dL, ⟨q, p1, b1, s1, c + 1, cells, H2, by omega⟩, f1, f2, f3⟩
    rw [runBody_eq]
    simp only [drawBody, exs_cons]
    have e0 : ([.ref h, .int L] : List PV).map some ++ List.replicate (5 - ([.ref h, .int L] : List PV).length) none = env5 h L none none none := rfl
    rw [e0, e1]
    simp only [Fl.seq_nx, e2, e3, Fl.res_rt]
end MP
set_option linter.all false
set_option Elab.async false
set_option exponentiation.threshold 2000
set_option maxRecDepth 100000
set_option maxHeartbeats 4000000
namespace MP
open PySem
/-- the hand, a sound store, all else as at first -/
structure HW (h : Nat) (st0 st : Store) (n : Nat) : Prop where
  hand : Hand st h n
  wf : Store.wf st
  fr : Fr h st0 st
theorem HW.lt {h : Nat} {st0 st : Store} {n : Nat} (H : HW h st0 st n) : h < st.length := by
  obtain ⟨q, p, b, s, c, cells, H, _⟩ := H.hand
  exact lt_of_getElem? H.at_
theorem HW.mono {h n n' : Nat} {st0 st : Store} (H : HW h st0 st n) (hn : n ≤ n') : HW h st0 st n' := ⟨H.hand.mono hn, H.wf, H.fr⟩
theorem HW.refl {h n : Nat} {st0 st : Store} (H : HW h st0 st n) : HW h st st n := ⟨H.hand, H.wf, Fr.refl _ _⟩
theorem HW.trans {h n m : Nat} {a b c : Store} (H : HW h a b n) (K : HW h b c m) : HW h a c m := ⟨K.hand, K.wf, H.fr.trans K.fr⟩
theorem draw_hw {S : Sig} {k lv : Nat} {ce : Ex} {k1 k3 m3 ka kb m1 d1 k5 m2 d2 k6 m4 d3 : Int} (K : DrawK ce k1 k3 m3 ka kb m1 d1 k5 m2 d2 k6 m4 d3) (hS : Self S k 5 false lv (drawBody ce k1 k3 m3 ka kb m1 d1 k5 m2 d2 k6 m4 d3)) {st0 st : Store} {h n : Nat} {L : Int} (H : HW h st0 st n) (hn : n < 2 ^ 59) (hL : 0 < L) (hL1 : L < 2 ^ 1000) :
    ∃ d st', S.fn k [.ref h, .int L] st = .ok (.int d) st' ∧ 0 ≤ d ∧ d < L ∧ HW h st0 st' (n + 1) := by
  obtain ⟨d, st', e, d0, d1, Hd, w, f, l⟩ := draw_ok K hS H.wf H.hand hn hL hL1
  exact ⟨d, st', e, d0, d1, Hd, w, H.fr.trans f⟩
/-- what a law's draw does -/
def Draws (S : Sig) (k : Nat) : Prop := ∀ {st0 st : Store} {h n : Nat} {L : Int}, HW h st0 st n → n < 2 ^ 59 → 0 < L → L < 2 ^ 1000 → ∃ d st', S.fn k [.ref h, .int L] st = .ok (.int d) st' ∧ 0 ≤ d ∧ d < L ∧ HW h st0 st' (n + 1)
theorem lcLoop_draw {I : Nat → Store → Prop} {Q : Int → Prop} {f : PV → Store → Res (Option PV)} {N : Nat} : ∀ (xs : List PV), (∀ x ∈ xs, ∀ n st, n < N → I n st → ∃ (d : Int) (st' : Store), f x st = .ok (some (.int d)) st' ∧ Q d ∧ I (n + 1) st') → ∀ n st acc, n + xs.length ≤ N → I n st → ∃ (ds : List Int) (st' : Store), lcLoop [] f xs acc st = .ok (acc ++ ds.map .int) st' ∧ ds.length = xs.length ∧ (∀ d ∈ ds, Q d) ∧ I (n + xs.length) st'
  | [], _, n, st, acc, _, hI => ⟨[], st, by simp [lcLoop], rfl, (fun d hd => (List.not_mem_nil hd).elim), hI⟩
  | x :: xs, hf, n, st, acc, hN, hI => by
    simp only [List.length_cons] at hN
    obtain ⟨d, st1, e, q, I1⟩ := hf x (List.mem_cons_self ..) n st (by omega) hI
    obtain ⟨ds, st2, e2, l, qs, I2⟩ := lcLoop_draw xs (fun y hy => hf y (List.mem_cons_of_mem _ hy)) (n + 1) st1 (acc ++ [.int d]) (by omega) I1
    refine ⟨d :: ds, st2, ?_, by simp [l], ?_, ?_⟩
    · simp [lcLoop, e, e2]
    · intro y hy
      rcases List.mem_cons.mp hy with rfl | hy
      · exact q
      · exact qs y hy
    · have : n + (xs.length + 1) = n + 1 + xs.length := by omega
      rw [List.length_cons, this]; exact I2
mutual
theorem bel_le {n m : Nat} (h : n ≤ m) : ∀ v : PV, PV.bel n v = true → PV.bel m v = true
  | .tup xs, hv => bels_le h xs hv
  | .ref i, hv => by simp only [PV.bel, decide_eq_true_eq] at hv ⊢; omega
  | .non, _ | .bl _, _ | .int _, _ | .str _, _ | .fn _, _ | .cls _, _ | .ty _, _ => rfl
theorem bels_le {n m : Nat} (h : n ≤ m) : ∀ v : List PV, PV.bels n v = true → PV.bels m v = true
  | [], _ => rfl
  | x :: xs, hv => by
    simp only [PV.bels, Bool.and_eq_true] at hv ⊢
    exact ⟨bel_le h x hv.1, bels_le h xs hv.2⟩
end
theorem so_le {n m : Nat} (h : n ≤ m) (o : SO) (ho : SO.bel n o = true) : SO.bel m o = true := by
  cases o <;> first | exact bels_le h _ ho | rfl | skip
  simp only [SO.bel, List.all_eq_true] at ho ⊢
  exact fun p hp => bel_le h _ (ho p hp)
theorem bels_mem {n : Nat} : ∀ {xs : List PV} {v : PV}, PV.bels n xs = true → v ∈ xs → PV.bel n v = true
  | x :: xs, v, h, hv => by
    simp only [PV.bels, Bool.and_eq_true] at h
    rcases List.mem_cons.mp hv with rfl | hv
    · exact h.1
    · exact bels_mem h.2 hv
theorem wf_lst {st : Store} {i : Nat} {xs : List PV} (hw : Store.wf st) (hx : st[i]? = some (.lst xs)) : PV.bels st.length xs = true := hw (.lst xs) (List.mem_of_getElem? hx)
/-- one more object in the store -/
theorem HW.push {h n : Nat} {st0 st : Store} (H : HW h st0 st n) {o : SO} (ho : SO.bel (st.length + 1) o = true)   : HW h st0 (st ++ [o]) n where
  hand := by
    obtain ⟨q, p, b, s, c, cells, K, hc⟩ := H.hand
    have h1 := lt_of_getElem? K.at_
    have h2 := lt_of_getElem? K.cl
    exact ⟨q, p, b, s, c, cells, ⟨by rw [List.getElem?_append_left h1]; exact K.at_, by rw [List.getElem?_append_left h2]; exact K.cl, K.ne, K.b0, K.s0, K.s1, K.c0, K.cs⟩, hc⟩
  wf := by
    intro x hx
    rw [List.length_append]
    rcases List.mem_append.mp hx with hx | hx
    · exact so_le (Nat.le_add_right _ _) x (H.wf x hx)
    · cases List.mem_singleton.mp hx; exact ho
  fr := H.fr.trans ⟨by rw [List.length_append]; exact Nat.le_add_right _ _, fun i hi _ => List.getElem?_append_left hi⟩
end MP
set_option linter.all false
set_option Elab.async false
set_option maxRecDepth 100000
set_option maxHeartbeats 2000000
set_option autoImplicit true
namespace MP
open PySem
def lcF (C : Cn) (own : List Nat) (elt : Ex) (tg : Tg) (ifs : List Ex) (ρ : Env) (x : PV) (st : Store) : Res (Option PV) := match tg.put x (wipe ρ own) with
  | some ρ' => ((evT C.bare ifs ρ' st).bind fun k st => match k with
    | true => (ev C.bare elt ρ' st).bind fun v st => .ok (some v) st
    | false => .ok none st).calm
  | none => .bad
def putF (t : Tg) (x : PV) (ρ : Env) : Option Env := t.put x ρ
def forF (C : Cn) (body : List St) (ρ : Env) (st : Store) : Fl := exs C body ρ st
@[simp] theorem R.ev_lit : ev C (.lit v) ρ st = (.ok v st) := by first | (rw [ev]; done) | (rw [ev]; rfl) | (unfold ev; rfl)
@[simp] theorem R.ev_var : ev C (.var i) ρ st = (match ρ[i]? with
    | some (some v) => .ok v st
    | _ => .bad) := by first | (rw [ev]; done) | (rw [ev]; rfl) | (unfold ev; rfl)
@[simp] theorem R.ev_tup : ev C (.tup es) ρ st = ((evs C es ρ st).bind fun vs st => .ok (.tup vs) st) := by first | (rw [ev]; done) | (rw [ev]; rfl) | (unfold ev; rfl)
@[simp] theorem R.ev_lx : ev C (.lx a) ρ st = ((evL C a ρ st).bind fun vs st => newL vs st) := by first | (rw [ev]; done) | (rw [ev]; rfl) | (unfold ev; rfl)
@[simp] theorem R.ev_bin : ev C (.bin op a b) ρ st = ((ev C a ρ st).bind fun v st => (ev C b ρ st).bind fun w st => binOp op v w st) := by first | (rw [ev]; done) | (rw [ev]; rfl) | (unfold ev; rfl)
@[simp] theorem R.ev_neg : ev C (.neg a) ρ st = ((ev C a ρ st).bind fun v st => negOp v st) := by first | (rw [ev]; done) | (rw [ev]; rfl) | (unfold ev; rfl)
@[simp] theorem R.ev_not : ev C (.not a) ρ st = ((ev C a ρ st).bind fun v st => match v with
    | .bl b => .ok (.bl (!b)) st
    | _ => .bad) := by first | (rw [ev]; done) | (rw [ev]; rfl) | (unfold ev; rfl)
@[simp] theorem R.ev_and : ev C (.and a b) ρ st = ((ev C a ρ st).bind fun v st => ifB v (ev C b ρ st) (.ok (.bl false) st)) := by first | (rw [ev]; done) | (rw [ev]; rfl) | (unfold ev; rfl)
@[simp] theorem R.ev_or : ev C (.or a b) ρ st = ((ev C a ρ st).bind fun v st => ifB v (.ok (.bl true) st) (ev C b ρ st)) := by first | (rw [ev]; done) | (rw [ev]; rfl) | (unfold ev; rfl)
@[simp] theorem R.ev_cmp : ev C (.cmp op a b) ρ st = ((ev C a ρ st).bind fun v st => (ev C b ρ st).bind fun w st => cmpOp op v w st) := by first | (rw [ev]; done) | (rw [ev]; rfl) | (unfold ev; rfl)
@[simp] theorem R.ev_chain : ev C (.chain op op' a b c) ρ st = ((ev C a ρ st).bind fun v st => (ev C b ρ st).bind fun w st => (cmpOp op v w st).bind fun r st => ifB r ((ev C c ρ st).bind fun z st => cmpOp op' w z st) (.ok (.bl false) st)) := by first | (rw [ev]; done) | (rw [ev]; rfl) | (unfold ev; rfl)
@[simp] theorem R.ev_ife : ev C (.ife t a b) ρ st = ((ev C t ρ st).bind fun v st => ifB v (ev C a ρ st) (ev C b ρ st)) := by first | (rw [ev]; done) | (rw [ev]; rfl) | (unfold ev; rfl)
@[simp] theorem R.ev_call : ev C (.call k args) ρ st = ((evs C args ρ st).bind fun vs st => C.S.fn k vs st) := by first | (rw [ev]; done) | (rw [ev]; rfl) | (unfold ev; rfl)
@[simp] theorem R.ev_new : ev C (.new k args) ρ st = ((evs C args ρ st).bind fun vs st => C.S.nw k vs st) := by first | (rw [ev]; done) | (rw [ev]; rfl) | (unfold ev; rfl)
@[simp] theorem R.ev_callV : ev C (.callV i args) ρ st = (match ρ[i]? with
    | some (some (.fn k)) => match C.S.ar k with
      | some (n, l) => if args.length = n ∧ l ≤ C.lv then (evs C args ρ st).bind fun vs st => C.S.fn k vs st else .bad
      | none => .bad
    | _ => .bad) := by first | (rw [ev]; done) | (rw [ev]; rfl) | (unfold ev; rfl)
@[simp] theorem R.ev_thunk : ev C (.thunk) ρ st = (match C.th with
    | some t => t st
    | none => .bad) := by first | (rw [ev]; done) | (rw [ev]; rfl) | (unfold ev; rfl)
@[simp] theorem R.ev_emp : ev C (.emp) ρ st = (.ok (.ref st.length) (st ++ [.dic []])) := by first | (rw [ev]; done) | (rw [ev]; rfl) | (unfold ev; rfl)
@[simp] theorem R.ev_lam : ev C (.lam k body) ρ st = (if C.tab then (C.S.lam k (fun st' => ev C.inLam body ρ st') st).calm else .bad) := by first | (rw [ev]; done) | (rw [ev]; rfl) | (unfold ev; rfl)
@[simp] theorem R.ev_blt : ev C (.blt b args) ρ st = ((evs C args ρ st).bind fun vs st => bltOp C.S b vs st) := by first | (rw [ev]; done) | (rw [ev]; rfl) | (unfold ev; rfl)
@[simp] theorem R.ev_blt1 : ev C (.blt1 b a) ρ st = ((evL C a ρ st).bind fun xs st => blt1 C.S b xs st) := by first | (rw [ev]; done) | (rw [ev]; rfl) | (unfold ev; rfl)
@[simp] theorem R.ev_meth : ev C (.meth m o args) ρ st = ((ev C o ρ st).bind fun v st => match lstAt st v with
    | some _ => (evs C args ρ st).bind fun vs st => mthOp m v vs st
    | none => .bad) := by first | (rw [ev]; done) | (rw [ev]; rfl) | (unfold ev; rfl)
@[simp] theorem R.ev_isErr : ev C (.isErr i t) ρ st = (match C.er, t with
    | some (j, c, []), .cls k => if i = j ∧ C.S.ise c = true ∧ C.S.ise k = true then .ok (.bl (C.S.sub c k)) st else .bad
    | some (j, c, []), .ty n => if i = j ∧ C.S.ise c = true ∧ n = "ValueError" then .ok (.bl true) st else .bad
    | _, _ => .bad) := by first | (rw [ev]; done) | (rw [ev]; rfl) | (unfold ev; rfl)
@[simp] theorem R.ev_idx : ev C (.idx o i) ρ st = ((ev C o ρ st).bind fun v st => (ev C i ρ st).bind fun w st => idxOp v w st) := by first | (rw [ev]; done) | (rw [ev]; rfl) | (unfold ev; rfl)
@[simp] theorem R.ev_slice : ev C (.slice o lo hi) ρ st = ((ev C o ρ st).bind fun v st => (evO C lo ρ st).bind fun l st => (evO C hi ρ st).bind fun h st => sliceOp v l h st) := by first | (rw [ev]; done) | (rw [ev]; rfl) | (unfold ev; rfl)
@[simp] theorem R.ev_attr : ev C (.attr o f) ρ st = ((ev C o ρ st).bind fun v st => attrOp v f st) := by first | (rw [ev]; done) | (rw [ev]; rfl) | (unfold ev; rfl)
@[simp] theorem R.evL_of : evL C (.of e) ρ st = ((ev C e ρ st).bind fun v st => ofOpt (lstAt st v) st) := by first | (rw [evL]; done) | (rw [evL]; rfl) | (unfold evL; rfl)
@[simp] theorem R.evL_lst : evL C (.lst es) ρ st = (evs C es ρ st) := by first | (rw [evL]; done) | (rw [evL]; rfl) | (unfold evL; rfl)
@[simp] theorem R.evL_lc : evL C (.lc own elt tg it ifs) ρ st = (if C.pins.any own.contains then .bad else (evI C it ρ st).bind fun s st => lcLoop s.watch (lcF C own elt tg ifs ρ) s.items [] st) := by first | (rw [evL]; done) | (rw [evL]; rfl) | (unfold evL; rfl)
@[simp] theorem R.evL_sorted : evL C (.sorted a) ρ st = ((evL C a ρ st).bind fun xs st => ofOpt (sortP xs) st) := by first | (rw [evL]; done) | (rw [evL]; rfl) | (unfold evL; rfl)
@[simp] theorem R.evL_cat : evL C (.cat a b) ρ st = ((evL C a ρ st).bind fun xs st => (evL C b ρ st).bind fun ys st => if xs.length + ys.length ≤ szl then .ok (xs ++ ys) st else .bad) := by first | (rw [evL]; done) | (rw [evL]; rfl) | (unfold evL; rfl)
@[simp] theorem R.evs_0 : evs C [] ρ st = (.ok [] st) := by first | (rw [evs]; done) | (rw [evs]; rfl) | (unfold evs; rfl)
@[simp] theorem R.evs_1 : evs C (e :: es) ρ st = ((ev C e ρ st).bind fun v st => (evs C es ρ st).bind fun vs st => .ok (v :: vs) st) := by first | (rw [evs]; done) | (rw [evs]; rfl) | (unfold evs; rfl)
@[simp] theorem R.evO_0 : evO C (none) ρ st = (.ok none st) := by first | (rw [evO]; done) | (rw [evO]; rfl) | (unfold evO; rfl)
@[simp] theorem R.evO_1 : evO C (some e) ρ st = ((ev C e ρ st).bind fun v st => match v with
    | .int i => .ok (some i) st
    | _ => .bad) := by first | (rw [evO]; done) | (rw [evO]; rfl) | (unfold evO; rfl)
@[simp] theorem R.evT_0 : evT C [] ρ st = (.ok true st) := by first | (rw [evT]; done) | (rw [evT]; rfl) | (unfold evT; rfl)
@[simp] theorem R.evT_1 : evT C (e :: es) ρ st = ((ev C e ρ st).bind fun v st => ifB v (evT C es ρ st) (.ok false st)) := by first | (rw [evT]; done) | (rw [evT]; rfl) | (unfold evT; rfl)
@[simp] theorem R.evI_ex : evI C (.ex e) ρ st = ((ev C e ρ st).bind fun v st => ofOpt (srcOf st v) st) := by first | (rw [evI]; done) | (rw [evI]; rfl) | (unfold evI; rfl)
@[simp] theorem R.evI_lx : evI C (.lx a) ρ st = ((evL C a ρ st).bind fun xs st => .ok ⟨xs, []⟩ st) := by first | (rw [evI]; done) | (rw [evI]; rfl) | (unfold evI; rfl)
@[simp] theorem R.evI_range1 : evI C (.range1 a) ρ st = ((ev C a ρ st).bind fun v st => match v with
    | .int j => if -(2 ^ 62) ≤ j ∧ j ≤ szl then .ok ⟨rangeP 0 j.toNat, []⟩ st else .bad
    | _ => .bad) := by first | (rw [evI]; done) | (rw [evI]; rfl) | (unfold evI; rfl)
@[simp] theorem R.evI_range2 : evI C (.range2 a b) ρ st = ((ev C a ρ st).bind fun v st => (ev C b ρ st).bind fun w st => match v, w with
    | .int i, .int j => if -(2 ^ 61) ≤ i ∧ i < 2 ^ 61 ∧ -(2 ^ 61) ≤ j ∧ j < 2 ^ 61 ∧ j - i ≤ szl then .ok ⟨rangeP i (j - i).toNat, []⟩ st else .bad
    | _, _ => .bad) := by first | (rw [evI]; done) | (rw [evI]; rfl) | (unfold evI; rfl)
@[simp] theorem R.evI_enum : evI C (.enum a) ρ st = ((ev C a ρ st).bind fun v st => match srcOf st v with
    | some s => .ok ⟨enumFrom 0 s.items, s.watch⟩ st
    | none => .bad) := by first | (rw [evI]; done) | (rw [evI]; rfl) | (unfold evI; rfl)
@[simp] theorem R.evI_zip : evI C (.zip a b) ρ st = ((ev C a ρ st).bind fun v st => (ev C b ρ st).bind fun w st => match srcOf st v, srcOf st w with
    | some s, some t => .ok ⟨zipP s.items t.items, s.watch ++ t.watch⟩ st
    | _, _ => .bad) := by first | (rw [evI]; done) | (rw [evI]; rfl) | (unfold evI; rfl)
@[simp] theorem R.evI_enumz : evI C (.enumz a b) ρ st = ((ev C a ρ st).bind fun v st => (ev C b ρ st).bind fun w st => match srcOf st v, srcOf st w with
    | some s, some t => .ok ⟨enumFrom 0 (zipP s.items t.items), s.watch ++ t.watch⟩ st
    | _, _ => .bad) := by first | (rw [evI]; done) | (rw [evI]; rfl) | (unfold evI; rfl)
@[simp] theorem R.evI_rev : evI C (.rev a) ρ st = ((ev C a ρ st).bind fun v st => match srcOf st v with
    | some s => .ok ⟨s.items.reverse, s.watch⟩ st
    | none => .bad) := by first | (rw [evI]; done) | (rw [evI]; rfl) | (unfold evI; rfl)
@[simp] theorem R.evI_rrange1 : evI C (.rrange1 a) ρ st = ((ev C a ρ st).bind fun v st => match v with
    | .int j => if -(2 ^ 61) ≤ j ∧ j ≤ szl then .ok ⟨(rangeP 0 j.toNat).reverse, []⟩ st else .bad
    | _ => .bad) := by first | (rw [evI]; done) | (rw [evI]; rfl) | (unfold evI; rfl)
@[simp] theorem R.exS_asg : exS C (.asg t e) ρ st = (if C.pins.any t.vars.contains then .bad else (ev C e ρ st).fl ρ fun v st => match t.put v ρ with
    | some ρ' => .nx ρ' st
    | none => .bad) := by first | (rw [exS]; done) | (rw [exS]; rfl) | (unfold exS; rfl)
@[simp] theorem R.exS_set : exS C (.set o i e) ρ st = ((ev C e ρ st).fl ρ fun v st => (ev C o ρ st).fl ρ fun a st => (ev C i ρ st).fl ρ fun k st => (setOp a k v st).fl ρ fun _ st => .nx ρ st) := by first | (rw [exS]; done) | (rw [exS]; rfl) | (unfold exS; rfl)
@[simp] theorem R.exS_expr : exS C (.expr e) ρ st = ((ev C e ρ st).fl ρ fun _ st => .nx ρ st) := by first | (rw [exS]; done) | (rw [exS]; rfl) | (unfold exS; rfl)
@[simp] theorem R.exS_ret : exS C (.ret e) ρ st = ((ev C e ρ st).fl ρ fun v st => .rt v st) := by first | (rw [exS]; done) | (rw [exS]; rfl) | (unfold exS; rfl)
@[simp] theorem R.exS_retN : exS C (.retN) ρ st = (.rt .non st) := by first | (rw [exS]; done) | (rw [exS]; rfl) | (unfold exS; rfl)
@[simp] theorem R.exS_ife : exS C (.ife c a b) ρ st = ((ev C c ρ st).fl ρ fun v st => ifF v (exs C a ρ st) (exs C b ρ st)) := by first | (rw [exS]; done) | (rw [exS]; rfl) | (unfold exS; rfl)
@[simp] theorem R.exS_for_ : exS C (.for_ t it body) ρ st = (if C.pins.any t.vars.contains then .bad else (evI C it ρ st).fl ρ fun s st => forLoop s.watch (putF t) (forF C body) s.items ρ st) := by rw [exS]; rfl
@[simp] theorem R.exS_while_ : exS C (.while_ c body) ρ st = (whileLoop (fun ρ st => ev C c ρ st) (fun ρ st => exs C body ρ st) wfuel ρ st) := by first | (rw [exS]; done) | (rw [exS]; rfl) | (unfold exS; rfl)
@[simp] theorem R.exS_raise : exS C (.raise k args) ρ st = ((evs C args ρ st).fl ρ fun vs st => match vs with
    | [] => if C.S.ise k then .exc k [] ρ st else .bad
    | _ => .bad) := by first | (rw [exS]; done) | (rw [exS]; rfl) | (unfold exS; rfl)
@[simp] theorem R.exS_try_ : exS C (.try_ body t nm suite) ρ st = (match exs C body ρ st with
    | .exc c fs ρ2 st2 => match errOk C.S c t with
      | some true => match fs, nm with
        | [], some i => if C.pins.contains i ∨ ρ2.length ≤ i then .bad else match exs ⟨C.S, none, some (i, c, []), i :: C.pins, false, 0⟩ suite (ρ2.set i none) st2 with
          | .nx ρ3 st3 => .nx (ρ3.set i none) st3
          | .rt v st3 => .rt v st3
          | _ => .bad
        | _, none => match exs ⟨C.S, none, none, C.pins, false, 0⟩ suite ρ2 st2 with
          | .nx ρ3 st3 => .nx ρ3 st3
          | .rt v st3 => .rt v st3
          | _ => .bad
        | _, _ => .bad
      | some false => .exc c fs ρ2 st2
      | none => .bad
    | f => f) := by first | (rw [exS]; done) | (rw [exS]; rfl) | (unfold exS; rfl)
@[simp] theorem R.exS_aug : exS C (.aug i op e) ρ st = (if C.pins.contains i then .bad else match ρ[i]? with
    | some (some v) => (ev C e ρ st).fl ρ fun w st => match op, v, w with
      | .Add, .int a, .int b => .nx (ρ.set i (some (.int (a + b)))) st
      | .Sub, .int a, .int b => .nx (ρ.set i (some (.int (a - b)))) st
      | _, _, _ => .bad
    | _ => .bad) := by first | (rw [exS]; done) | (rw [exS]; rfl) | (unfold exS; rfl)
@[simp] theorem R.exS_pass : exS C (.pass) ρ st = (.nx ρ st) := by first | (rw [exS]; done) | (rw [exS]; rfl) | (unfold exS; rfl)
@[simp] theorem R.exS_brk : exS C (.brk) ρ st = (.bk ρ st) := by first | (rw [exS]; done) | (rw [exS]; rfl) | (unfold exS; rfl)
@[simp] theorem R.exS_cont : exS C (.cont) ρ st = (.ct ρ st) := by first | (rw [exS]; done) | (rw [exS]; rfl) | (unfold exS; rfl)
@[simp] theorem R.exs_0 : exs C [] ρ st = (.nx ρ st) := by first | (rw [exs]; done) | (rw [exs]; rfl) | (unfold exs; rfl)
theorem R.exs_1 : exs C (s :: ss) ρ st = (match exS C s ρ st with
    | .nx ρ' st' => exs C ss ρ' st'
    | f => f) := by first | (rw [exs]; done) | (rw [exs]; rfl) | (unfold exs; rfl)
@[simp] theorem exs_consS (C : Cn) (s : St) (ss : List St) (ρ : Env) (st : Store) : exs C (s :: ss) ρ st = (exS C s ρ st).seq fun ρ st => exs C ss ρ st := exs_cons C s ss ρ st
theorem forLoop_inv {I : Nat → Env → Store → Prop} {put : PV → Env → Option Env} {body : Env → Store → Fl} {N : Nat} : ∀ (xs : List PV), (∀ x ∈ xs, ∀ n ρ st, n < N → I n ρ st → ∃ ρ1 ρ2 st2, put x ρ = some ρ1 ∧ body ρ1 st = .nx ρ2 st2 ∧ I (n + 1) ρ2 st2) → ∀ n ρ st, n + xs.length ≤ N → I n ρ st → ∃ ρ' st', forLoop [] put body xs ρ st = .nx ρ' st' ∧ I (n + xs.length) ρ' st'
  | [], _, n, ρ, st, _, hI => ⟨ρ, st, by simp [forLoop], hI⟩
  | x :: xs, hf, n, ρ, st, hN, hI => by
    simp only [List.length_cons] at hN
    obtain ⟨ρ1, ρ2, st2, e1, e2, I2⟩ := hf x (List.mem_cons_self ..) n ρ st (by omega) hI
    obtain ⟨ρ3, st3, e3, I3⟩ := forLoop_inv xs (fun y hy => hf y (List.mem_cons_of_mem _ hy)) (n + 1) ρ2 st2 (by omega) I2
    refine ⟨ρ3, st3, by simp [forLoop, e1, e2, e3], ?_⟩
    have : n + (xs.length + 1) = n + 1 + xs.length := by omega
    rw [List.length_cons, this]; exact I3
theorem kind_hw {h n : Nat} {st st' : Store} (H : HW h st st' n) {v : PV} (hk : kindOk st v = true) (hb : PV.bel st.length v = true) : kindOk st' v = true := by
  cases v <;> try exact hk
  rename_i i
  have hi : i < st.length := by simpa [PV.bel] using hb
  by_cases e : i = h
  · subst e
    obtain ⟨q, p, b, s, c, cells, K, _⟩ := H.hand
    simp only [kindOk, K.at_, hdO]
  · simp only [kindOk, H.fr.at_ i hi e]
    exact hk
theorem kind_push {st : Store} {v : PV} {o : SO} (hk : kindOk st v = true) (hb : PV.bel st.length v = true) : kindOk (st ++ [o]) v = true := by
  cases v <;> try exact hk
  rename_i i
  have hi : i < st.length := by simpa [PV.bel] using hb
  simp only [kindOk, List.getElem?_append_left hi]
  exact hk
theorem kind_new {st : Store} {xs : List PV} : kindOk (st ++ [.lst xs]) (.ref st.length) = true := by
  simp [kindOk]
/-- no number, of a kind that can be asked for -/
structure D0 (st : Store) (v : PV) : Prop where
  kind : kindOk st v = true
  bel : PV.bel st.length v = true
  noI : isIntV v = false
structure D1 (st : Store) (v : PV) : Prop where
  d : D0 st v
  one : ∀ xs, v = .tup xs → ∃ w, xs = [w] ∧ D0 st w
structure D2 (st : Store) (v : PV) : Prop where
  d : D0 st v
  one : ∀ xs, v = .tup xs → ∃ w, xs = [w] ∧ D1 st w
theorem D2.d1 {st : Store} {v : PV} (h : D2 st v) : D1 st v := ⟨h.d, fun xs e => by obtain ⟨w, e, k⟩ := h.one xs e; exact ⟨w, e, k.d⟩⟩
theorem D2.tup {st : Store} {v : PV} (h : D2 st v) : D2 st (.tup [v]) := ⟨⟨rfl, by simp [PV.bel, PV.bels, h.d.bel], rfl⟩, fun xs e => by cases e; exact ⟨v, rfl, h.d1⟩⟩
theorem D2.non {st : Store} : D2 st .non := ⟨⟨rfl, rfl, rfl⟩, fun xs e => by cases e⟩
theorem D2.new {st : Store} {xs : List PV} : D2 (st ++ [.lst xs]) (.ref st.length) := ⟨⟨kind_new, by simp [PV.bel], rfl⟩, fun xs e => by cases e⟩
theorem D0.hw {h n : Nat} {st st' : Store} (H : HW h st st' n) {v : PV} (d : D0 st v) : D0 st' v := ⟨kind_hw H d.kind d.bel, bel_le H.fr.len v d.bel, d.noI⟩
theorem D1.hw {h n : Nat} {st st' : Store} (H : HW h st st' n) {v : PV} (d : D1 st v) : D1 st' v := ⟨d.d.hw H, fun xs e => by obtain ⟨w, e, k⟩ := d.one xs e; exact ⟨w, e, k.hw H⟩⟩
theorem D2.hw {h n : Nat} {st st' : Store} (H : HW h st st' n) {v : PV} (d : D2 st v) : D2 st' v := ⟨d.d.hw H, fun xs e => by obtain ⟨w, e, k⟩ := d.one xs e; exact ⟨w, e, k.hw H⟩⟩
theorem sortI_of : ∀ {l : List Int}, l.Pairwise (· ≤ ·) → sortI l = l
  | [], _ => rfl
  | x :: xs, h => by
    rw [List.pairwise_cons] at h
    simp only [sortI, sortI_of h.2]
    cases xs with
    | nil => rfl
    | cons y ys => simp only [insI, if_pos (h.1 y (List.mem_cons_self ..))]
theorem sortP_ints {l : List Int} (h : l.Pairwise (· ≤ ·)) : sortP (l.map .int) = some (l.map .int) := by
  simp only [sortP, intsOf_map, Option.map_some, sortI_of h]
theorem zipIdx_asc {α : Type} (p : α × Nat → Bool) : ∀ (l : List α) (n : Nat), (((l.zipIdx n).filter p).map fun x => (x.2 : Int)).Pairwise (· < ·) ∧ ∀ x ∈ (((l.zipIdx n).filter p).map fun x => (x.2 : Int)), (n : Int) ≤ x
  | [], n => ⟨List.Pairwise.nil, fun x h => by cases h⟩
  | a :: l, n => by
    obtain ⟨h1, h2⟩ := zipIdx_asc p l (n + 1)
    simp only [List.zipIdx_cons, List.filter_cons]
    split
    · simp only [List.map_cons, List.pairwise_cons]
      refine ⟨⟨fun x hx => ?_, h1⟩, fun x hx => ?_⟩
      · have := h2 x hx; omega
      · rcases List.mem_cons.mp hx with rfl | hx
        · exact Int.le_refl _
        · have := h2 x hx; omega
    · exact ⟨h1, fun x hx => by have := h2 x hx; omega⟩
end MP
set_option linter.all false
set_option Elab.async false
set_option maxRecDepth 100000
set_option maxHeartbeats 2000000
namespace MP
open PySem
def rowD (a : List Int) : PyData := .tuple (a.map .int)
def SmallRow (a : List Int) : Prop := (∀ n ∈ a, smallI n) ∧ a.length ≤ 1000
theorem showable_rows : ∀ {xs : List (List Int)}, (∀ a ∈ xs, SmallRow a) → PyData.showableAll (xs.map rowD) = true
  | [], _ => rfl
  | a :: xs, h => by
    simp only [List.map_cons, PyData.showableAll, rowD, PyData.showable, showable_ints (h a (List.mem_cons_self ..)).1, Bool.true_and]
    exact showable_rows fun b hb => h b (List.mem_cons_of_mem _ hb)
theorem lay_rows : ∀ {xs : List (List Int)}, PyData.canLayAll0 (xs.map rowD) = true
  | [] => rfl
  | a :: xs => by
    simp only [List.map_cons, PyData.canLayAll0, rowD, PyData.canLay0, lay_ints, Bool.true_and]
    exact lay_rows
theorem depth_rows : ∀ {xs : List (List Int)}, PyData.depthAll (xs.map rowD) ≤ 1
  | [] => by decide
  | a :: xs => by
    have := depth_rows (xs := xs)
    simp only [List.map_cons, PyData.depthAll, rowD, PyData.depth, depth_ints]
    have e : PyData.depthAll (List.map (fun a => PyData.tuple (List.map PyData.int a)) xs) ≤ 1 := this
    omega
theorem rws_rows : ∀ {xs : List (List Int)}, (∀ a ∈ xs, SmallRow a) → rws (xs.map rowD) ≤ 70010 * xs.length
  | [], _ => by simp [rws]
  | a :: xs, h => by
    have ih := rws_rows fun b hb => h b (List.mem_cons_of_mem _ hb)
    have ha := h a (List.mem_cons_self ..)
    have := rws_ints ha.1
    have := ha.2
    simp only [List.map_cons, rws, List.length_cons]
    have e : rw_ (rowD a) = rws (a.map .int) + 3 := by simp only [rowD, rw_]
    omega
theorem reprOk_rows {xs : List (List Int)} (h : ∀ a ∈ xs, SmallRow a) (hl : xs.length ≤ 100) : reprOk (.tuple (xs.map rowD)) = true ∧ reprOk (.list (xs.map rowD)) = true := by
  have h1 := showable_rows h
  have h2 := rws_rows h
  have h3 := depth_rows (xs := xs)
  have h4 : (8000000 : Nat) ≤ szl := by decide
  constructor <;>
  · simp only [reprOk, PyData.showable, PyData.canLay0, PyData.depth, rw_, h1, lay_rows, Bool.true_and, Bool.and_eq_true, decide_eq_true_eq]
    exact ⟨decide_eq_true (by omega), decide_eq_true (by omega)⟩
@[simp] theorem data_rows {g : Nat → Option PyData} (xs : List (List Int)) : PV.datas g (xs.map tI) = some (xs.map rowD) :=
  datas_map (f := tI) (d := rowD) (fun a => by simp only [tI, PV.data, datas_ints, Option.map_some, rowD]) xs
/-- a list of rows as data -/
theorem data_list {st : Store} {i : Nat} {xs : List (List Int)} (hi : st[i]? = some (.lst (xs.map tI))) : dataIn st (.ref i) = some (.list (xs.map rowD)) := by
  have e : dataIn st (.ref i) = rdL st 64 i := by simp only [dataIn, PV.data]
  rw [e]
  simp only [rdL, hi, data_rows, Option.map_some]
theorem repr_list {S : Sig} {st : Store} {i : Nat} {xs : List (List Int)} (hi : st[i]? = some (.lst (xs.map tI))) (h : ∀ a ∈ xs, SmallRow a) (hl : xs.length ≤ 100) : bltOp S .repr [.ref i] st = .ok (.str (PyData.shown (.list (xs.map rowD)))) st := by
  have e : bltOp S .repr [.ref i] st = reprOp (.ref i) st := rfl
  rw [e]
  simp only [reprOp, hi, data_list hi, (reprOk_rows h hl).2, if_true]
theorem eqv_rows : ∀ (xs ys : List (List Int)), PyData.eqvAll (xs.map rowD) (ys.map rowD) = decide (xs = ys)
  | [], [] => rfl
  | [], _ :: _ => rfl
  | _ :: _, [] => rfl
  | x :: xs, y :: ys => by
    have ih := eqv_rows xs ys
    simp only [List.map_cons, PyData.eqvAll, ih]
    have e : PyData.eqv (rowD x) (rowD y) = decide (x = y) := by simp only [rowD, PyData.eqv, eqv_ints]
    rw [e]
    by_cases h : x = y <;> simp [h]
theorem shaped_rows (xs : List (List Int)) : SeqAt.shaped (.list (xs.map rowD)) = true := by
  have h3 := depth_rows (xs := xs)
  simp only [SeqAt.shaped, PyData.canLay0, PyData.depth, lay_rows, Bool.true_and]
  exact decide_eq_true (by omega)
theorem eq_lists {st : Store} {i j : Nat} {xs ys : List (List Int)} (hi : st[i]? = some (.lst (xs.map tI))) (hj : st[j]? = some (.lst (ys.map tI))) : eqPV st (.ref i) (.ref j) = some (decide (xs = ys)) := by
  have e : eqPV st (.ref i) (.ref j) = (match dataIn st (.ref i), dataIn st (.ref j) with
    | some d, some e => if SeqAt.shaped d && SeqAt.shaped e then some (PyData.eqv d e) else none
    | _, _ => none) := rfl
  rw [e, data_list hi, data_list hj]
  simp only [shaped_rows, Bool.and_self, if_true, PyData.eqv, eqv_rows]
end MP
set_option linter.all false
set_option Elab.async false
set_option maxRecDepth 100000
set_option maxHeartbeats 2000000
namespace MP
open PySem
def Le {α : Type} (r r' : Res α) : Prop := r = .bad ∨ r = r'
def LeF (f f' : Fl) : Prop := f = .bad ∨ f = f'
theorem Le.refl {α : Type} (r : Res α) : Le r r := .inr rfl
theorem LeF.refl (r : Fl) : LeF r r := .inr rfl
theorem Le.bad {α : Type} (r : Res α) : Le .bad r := .inl rfl
theorem Le.bind {α β : Type} {r r' : Res α} {f f' : α → Store → Res β} (h : Le r r') (g : ∀ a st, Le (f a st) (f' a st)) : Le (r.bind f) (r'.bind f') := by
  rcases h with h | h
  · subst h; exact .inl rfl
  · subst h
    cases r with
    | ok a st => exact g a st
    | exc c fs st => exact .inr rfl
    | bad => exact .inl rfl
theorem Le.calm {α : Type} {r r' : Res α} (h : Le r r') : Le r.calm r'.calm := by
  rcases h with h | h
  · subst h; exact .inl rfl
  · subst h; exact .inr rfl
theorem Le.fl {α : Type} {r r' : Res α} {f f' : α → Store → Fl} {ρ : Env} (h : Le r r') (g : ∀ a st, LeF (f a st) (f' a st)) : LeF (r.fl ρ f) (r'.fl ρ f') := by
  rcases h with h | h
  · subst h; exact .inl rfl
  · subst h
    cases r with
    | ok a st => exact g a st
    | exc c fs st => exact .inr rfl
    | bad => exact .inl rfl
theorem Le.ifB {α : Type} {v : PV} {f f' g g' : Res α} (h : Le f f') (k : Le g g') : Le (MP.ifB v f g) (MP.ifB v f' g') := by
  cases v <;> try exact .inl rfl
  rename_i b
  cases b
  · exact k
  · exact h
theorem LeF.ifF {v : PV} {f f' g g' : Fl} (h : LeF f f') (k : LeF g g') : LeF (MP.ifF v f g) (MP.ifF v f' g') := by
  cases v <;> try exact .inl rfl
  rename_i b
  cases b
  · exact k
  · exact h
theorem LeF.seq {r r' : Fl} {f f' : Env → Store → Fl} (h : LeF r r') (g : ∀ ρ st, LeF (f ρ st) (f' ρ st)) : LeF (r.seq f) (r'.seq f') := by
  rcases h with h | h
  · subst h; exact .inl rfl
  · subst h
    cases r <;> first | exact g _ _ | exact .inr rfl
structure SLe (S S' : Sig) : Prop where
  fn : ∀ k a st, Le (S.fn k a st) (S'.fn k a st)
  lam : ∀ k (t t' : Store → Res PV) st, (∀ st, Le (t st) (t' st)) → Le (S.lam k t st) (S'.lam k t' st)
  nw : ∀ k a st, Le (S.nw k a st) (S'.nw k a st)
  sub : S'.sub = S.sub
  isc : S'.isc = S.isc
  ise : S'.ise = S.ise
  ar : S'.ar = S.ar
structure CLe (C C' : Cn) : Prop where
  S : SLe C.S C'.S
  th : (C.th = none ∧ C'.th = none) ∨ ∃ t t', C.th = some t ∧ C'.th = some t' ∧ ∀ st, Le (t st) (t' st)
  er : C'.er = C.er
  pins : C'.pins = C.pins
  tab : C'.tab = C.tab
  lv : C'.lv = C.lv
theorem CLe.bare {C C' : Cn} (h : CLe C C') : CLe C.bare C'.bare := ⟨h.S, .inl ⟨rfl, rfl⟩, rfl, h.pins, rfl, h.lv⟩
theorem CLe.inLam {C C' : Cn} (h : CLe C C') : CLe C.inLam C'.inLam := ⟨h.S, .inl ⟨rfl, rfl⟩, rfl, h.pins, rfl, congrArg (· - 2) h.lv⟩
theorem isInst_le {S S' : Sig} (h : SLe S S') (v t : PV) (st : Store) : isInst S' v t st = isInst S v t st := by
  unfold isInst clsB
  rw [h.isc, h.sub]
theorem isInsts_le {S S' : Sig} (h : SLe S S') (v : PV) (st : Store) : ∀ ts, isInsts S' v st ts = isInsts S v st ts
  | [] => rfl
  | t :: ts => by simp only [isInsts, isInst_le h, isInsts_le h v st ts]
theorem blt1_le (S S' : Sig) (b : Blt) (xs : List PV) (st : Store) : blt1 S' b xs st = blt1 S b xs st := rfl
theorem bltOp_le {S S' : Sig} (h : SLe S S') (b : Blt) (vs : List PV) (st : Store) : bltOp S' b vs st = bltOp S b vs st := by
  unfold bltOp
  simp only [isInst_le h, isInsts_le h, blt1_le S S']
theorem lcLoop_le {w : List (Nat × List PV)} {f f' : PV → Store → Res (Option PV)} (h : ∀ x st, Le (f x st) (f' x st)) : ∀ xs acc st, Le (lcLoop w f xs acc st) (lcLoop w f' xs acc st)
  | [], acc, st => .inr rfl
  | x :: xs, acc, st => by
    simp only [lcLoop]
    split
    · exact Le.bind (h x st) fun o st => by
        cases o
        · exact lcLoop_le h xs acc st
        · exact lcLoop_le h xs _ st
    · exact .inl rfl
theorem forLoop_le {w : List (Nat × List PV)} {put : PV → Env → Option Env} {f f' : Env → Store → Fl} (h : ∀ x st, LeF (f x st) (f' x st)) : ∀ xs ρ st, LeF (forLoop w put f xs ρ st) (forLoop w put f' xs ρ st)
  | [], ρ, st => .inr rfl
  | x :: xs, ρ, st => by
    simp only [forLoop]
    split
    · split
      · rename_i ρ' _
        rcases h ρ' st with e | e
        · rw [e]; exact .inl rfl
        · rw [← e]
          cases f ρ' st <;> first | exact forLoop_le h xs _ _ | exact .inr rfl
      · exact .inl rfl
    · exact .inl rfl
theorem whileLoop_le {t t' : Env → Store → Res PV} {f f' : Env → Store → Fl} (ht : ∀ x st, Le (t x st) (t' x st)) (h : ∀ x st, LeF (f x st) (f' x st)) : ∀ n ρ st, LeF (whileLoop t f n ρ st) (whileLoop t' f' n ρ st)
  | 0, ρ, st => .inl rfl
  | n + 1, ρ, st => by
    simp only [whileLoop]
    refine Le.fl (ht ρ st) fun v st1 => ?_
    cases v <;> try exact .inl rfl
    rename_i b
    cases b
    · exact .inr rfl
    · show LeF (match f ρ st1 with
        | .nx ρ2 st2 => whileLoop t f n ρ2 st2
        | .ct ρ2 st2 => whileLoop t f n ρ2 st2
        | .bk ρ2 st2 => .nx ρ2 st2
        | f => f) (match f' ρ st1 with
        | .nx ρ2 st2 => whileLoop t' f' n ρ2 st2
        | .ct ρ2 st2 => whileLoop t' f' n ρ2 st2
        | .bk ρ2 st2 => .nx ρ2 st2
        | f => f)
      rcases h ρ st1 with e | e
      · rw [e]; exact .inl rfl
      · rw [← e]
        cases f ρ st1 <;> first | exact whileLoop_le ht h n _ _ | exact .inr rfl
theorem lcF_eq (C : Cn) (own : List Nat) (elt : Ex) (tg : Tg) (ifs : List Ex) (ρ : Env) (x : PV) (st : Store) : lcF C own elt tg ifs ρ x st = match tg.put x (wipe ρ own) with
  | some ρ' => ((evT C.bare ifs ρ' st).bind fun k st => match k with
    | true => (ev C.bare elt ρ' st).bind fun v st => .ok (some v) st
    | false => .ok none st).calm
  | none => .bad := rfl
mutual
theorem ev_le {C C' : Cn} (h : CLe C C') : ∀ (e : Ex) (ρ : Env) (st : Store), Le (ev C e ρ st) (ev C' e ρ st)
  | .lit v, ρ, st => by rw [R.ev_lit, R.ev_lit]; exact .refl _
  | .var i, ρ, st => by rw [R.ev_var, R.ev_var]; exact .refl _
  | .tup es, ρ, st => by rw [R.ev_tup, R.ev_tup]; exact (evs_le h es ρ st).bind fun _ _ => .refl _
  | .lx a, ρ, st => by rw [R.ev_lx, R.ev_lx]; exact (evL_le h a ρ st).bind fun _ _ => .refl _
  | .bin op a b, ρ, st => by rw [R.ev_bin, R.ev_bin]; exact (ev_le h a ρ st).bind fun _ st => (ev_le h b ρ st).bind fun _ _ => .refl _
  | .neg a, ρ, st => by rw [R.ev_neg, R.ev_neg]; exact (ev_le h a ρ st).bind fun _ _ => .refl _
  | .not a, ρ, st => by rw [R.ev_not, R.ev_not]; exact (ev_le h a ρ st).bind fun _ _ => .refl _
  | .and a b, ρ, st => by rw [R.ev_and, R.ev_and]; exact (ev_le h a ρ st).bind fun _ st => .ifB (ev_le h b ρ st) (.refl _)
  | .or a b, ρ, st => by rw [R.ev_or, R.ev_or]; exact (ev_le h a ρ st).bind fun _ st => .ifB (.refl _) (ev_le h b ρ st)
  | .cmp op a b, ρ, st => by rw [R.ev_cmp, R.ev_cmp]; exact (ev_le h a ρ st).bind fun _ st => (ev_le h b ρ st).bind fun _ _ => .refl _
  | .chain op op' a b c, ρ, st => by
    rw [R.ev_chain, R.ev_chain]
    exact (ev_le h a ρ st).bind fun _ st => (ev_le h b ρ st).bind fun _ st => (Le.refl _).bind fun _ st => .ifB ((ev_le h c ρ st).bind fun _ _ => .refl _) (.refl _)
  | .ife t a b, ρ, st => by rw [R.ev_ife, R.ev_ife]; exact (ev_le h t ρ st).bind fun _ st => .ifB (ev_le h a ρ st) (ev_le h b ρ st)
  | .call k args, ρ, st => by rw [R.ev_call, R.ev_call]; exact (evs_le h args ρ st).bind fun vs st => h.S.fn k vs st
  | .new k args, ρ, st => by rw [R.ev_new, R.ev_new]; exact (evs_le h args ρ st).bind fun vs st => h.S.nw k vs st
  | .callV i args, ρ, st => by
    rw [R.ev_callV, R.ev_callV, h.S.ar, h.lv]
    split
    · split
      · split
        · exact (evs_le h args ρ st).bind fun vs st => h.S.fn _ vs st
        · exact .inl rfl
      · exact .inl rfl
    · exact .inl rfl
  | .thunk, ρ, st => by
    rw [R.ev_thunk, R.ev_thunk]
    rcases h.th with ⟨e, e'⟩ | ⟨t, t', e, e', ht⟩
    · rw [e, e']; exact .inl rfl
    · rw [e, e']; exact ht st
  | .emp, ρ, st => by rw [R.ev_emp, R.ev_emp]; exact .refl _
  | .lam k body, ρ, st => by
    rw [R.ev_lam, R.ev_lam, h.tab]
    split
    · exact (h.S.lam k _ _ st fun st' => ev_le h.inLam body ρ st').calm
    · exact .inl rfl
  | .blt b args, ρ, st => by rw [R.ev_blt, R.ev_blt]; exact (evs_le h args ρ st).bind fun vs st => by rw [bltOp_le h.S]; exact .refl _
  | .blt1 b a, ρ, st => by rw [R.ev_blt1, R.ev_blt1]; exact (evL_le h a ρ st).bind fun _ _ => .refl _
  | .meth m o args, ρ, st => by
    rw [R.ev_meth, R.ev_meth]
    refine (ev_le h o ρ st).bind fun v st => ?_
    split
    · exact (evs_le h args ρ st).bind fun _ _ => .refl _
    · exact .inl rfl
  | .isErr i t, ρ, st => by rw [R.ev_isErr, R.ev_isErr, h.er, h.S.ise, h.S.sub]; exact .refl _
  | .idx o i, ρ, st => by rw [R.ev_idx, R.ev_idx]; exact (ev_le h o ρ st).bind fun _ st => (ev_le h i ρ st).bind fun _ _ => .refl _
  | .slice o lo hi, ρ, st => by rw [R.ev_slice, R.ev_slice]; exact (ev_le h o ρ st).bind fun _ st => (evO_le h lo ρ st).bind fun _ st => (evO_le h hi ρ st).bind fun _ _ => .refl _
  | .attr o f, ρ, st => by rw [R.ev_attr, R.ev_attr]; exact (ev_le h o ρ st).bind fun _ _ => .refl _
theorem evL_le {C C' : Cn} (h : CLe C C') : ∀ (a : Lx) (ρ : Env) (st : Store), Le (evL C a ρ st) (evL C' a ρ st)
  | .of e, ρ, st => by rw [R.evL_of, R.evL_of]; exact (ev_le h e ρ st).bind fun _ _ => .refl _
  | .lst es, ρ, st => by rw [R.evL_lst, R.evL_lst]; exact evs_le h es ρ st
  | .lc own elt tg it ifs, ρ, st => by
    rw [R.evL_lc, R.evL_lc, h.pins]
    split
    · exact .inl rfl
    · refine (evI_le h it ρ st).bind fun s st => lcLoop_le (fun x st => ?_) _ _ _
      rw [lcF_eq, lcF_eq]
      split
      · rename_i ρ' _
        refine Le.calm ((evT_le h.bare ifs ρ' st).bind fun k st => ?_)
        cases k
        · exact .refl _
        · exact (ev_le h.bare elt ρ' st).bind fun _ _ => .refl _
      · exact .inl rfl
  | .sorted a, ρ, st => by rw [R.evL_sorted, R.evL_sorted]; exact (evL_le h a ρ st).bind fun _ _ => .refl _
  | .cat a b, ρ, st => by rw [R.evL_cat, R.evL_cat]; exact (evL_le h a ρ st).bind fun _ st => (evL_le h b ρ st).bind fun _ _ => .refl _
theorem evs_le {C C' : Cn} (h : CLe C C') : ∀ (es : List Ex) (ρ : Env) (st : Store), Le (evs C es ρ st) (evs C' es ρ st)
  | [], ρ, st => by rw [R.evs_0, R.evs_0]; exact .refl _
  | e :: es, ρ, st => by rw [R.evs_1, R.evs_1]; exact (ev_le h e ρ st).bind fun _ st => (evs_le h es ρ st).bind fun _ _ => .refl _
theorem evO_le {C C' : Cn} (h : CLe C C') : ∀ (e : Option Ex) (ρ : Env) (st : Store), Le (evO C e ρ st) (evO C' e ρ st)
  | none, ρ, st => by rw [R.evO_0, R.evO_0]; exact .refl _
  | some e, ρ, st => by rw [R.evO_1, R.evO_1]; exact (ev_le h e ρ st).bind fun _ _ => .refl _
theorem evT_le {C C' : Cn} (h : CLe C C') : ∀ (es : List Ex) (ρ : Env) (st : Store), Le (evT C es ρ st) (evT C' es ρ st)
  | [], ρ, st => by rw [R.evT_0, R.evT_0]; exact .refl _
  | e :: es, ρ, st => by rw [R.evT_1, R.evT_1]; exact (ev_le h e ρ st).bind fun _ st => .ifB (evT_le h es ρ st) (.refl _)
theorem evI_le {C C' : Cn} (h : CLe C C') : ∀ (a : It) (ρ : Env) (st : Store), Le (evI C a ρ st) (evI C' a ρ st)
  | .ex e, ρ, st => by rw [R.evI_ex, R.evI_ex]; exact (ev_le h e ρ st).bind fun _ _ => .refl _
  | .lx a, ρ, st => by rw [R.evI_lx, R.evI_lx]; exact (evL_le h a ρ st).bind fun _ _ => .refl _
  | .range1 a, ρ, st => by rw [R.evI_range1, R.evI_range1]; exact (ev_le h a ρ st).bind fun _ _ => .refl _
  | .range2 a b, ρ, st => by rw [R.evI_range2, R.evI_range2]; exact (ev_le h a ρ st).bind fun _ st => (ev_le h b ρ st).bind fun _ _ => .refl _
  | .enum a, ρ, st => by rw [R.evI_enum, R.evI_enum]; exact (ev_le h a ρ st).bind fun _ _ => .refl _
  | .zip a b, ρ, st => by rw [R.evI_zip, R.evI_zip]; exact (ev_le h a ρ st).bind fun _ st => (ev_le h b ρ st).bind fun _ _ => .refl _
  | .enumz a b, ρ, st => by rw [R.evI_enumz, R.evI_enumz]; exact (ev_le h a ρ st).bind fun _ st => (ev_le h b ρ st).bind fun _ _ => .refl _
  | .rev a, ρ, st => by rw [R.evI_rev, R.evI_rev]; exact (ev_le h a ρ st).bind fun _ _ => .refl _
  | .rrange1 a, ρ, st => by rw [R.evI_rrange1, R.evI_rrange1]; exact (ev_le h a ρ st).bind fun _ _ => .refl _
end
theorem errOk_le {S S' : Sig} (h : SLe S S') (c : Nat) (t : PV) : errOk S' c t = errOk S c t := by unfold errOk; rw [h.ise, h.sub]
mutual
theorem exS_le {C C' : Cn} (h : CLe C C') : ∀ (s : St) (ρ : Env) (st : Store), LeF (exS C s ρ st) (exS C' s ρ st)
  | .asg t e, ρ, st => by
    rw [R.exS_asg, R.exS_asg, h.pins]
    split
    · exact .inl rfl
    · exact (ev_le h e ρ st).fl fun _ _ => .refl _
  | .set o i e, ρ, st => by rw [R.exS_set, R.exS_set]; exact (ev_le h e ρ st).fl fun _ st => (ev_le h o ρ st).fl fun _ st => (ev_le h i ρ st).fl fun _ st => .refl _
  | .expr e, ρ, st => by rw [R.exS_expr, R.exS_expr]; exact (ev_le h e ρ st).fl fun _ _ => .refl _
  | .ret e, ρ, st => by rw [R.exS_ret, R.exS_ret]; exact (ev_le h e ρ st).fl fun _ _ => .refl _
  | .retN, ρ, st => by rw [R.exS_retN, R.exS_retN]; exact .refl _
  | .ife c a b, ρ, st => by rw [R.exS_ife, R.exS_ife]; exact (ev_le h c ρ st).fl fun _ st => .ifF (exs_le h a ρ st) (exs_le h b ρ st)
  | .for_ t it body, ρ, st => by
    rw [R.exS_for_, R.exS_for_, h.pins]
    split
    · exact .inl rfl
    · exact (evI_le h it ρ st).fl fun s st => forLoop_le (fun ρ st => exs_le h body ρ st) _ _ _
  | .while_ c body, ρ, st => by rw [R.exS_while_, R.exS_while_]; exact whileLoop_le (fun ρ st => ev_le h c ρ st) (fun ρ st => exs_le h body ρ st) _ _ _
  | .raise k args, ρ, st => by rw [R.exS_raise, R.exS_raise, h.S.ise]; exact (evs_le h args ρ st).fl fun _ _ => .refl _
  | .try_ body t nm suite, ρ, st => by
    rw [R.exS_try_, R.exS_try_, h.pins]
    rcases exs_le h body ρ st with e | e
    · rw [e]; exact .inl rfl
    · rw [← e]
      cases exs C body ρ st <;> try exact .inr rfl
      rename_i c fs ρ2 st2
      simp only [errOk_le h.S]
      split
      · split
        · rename_i i
          split
          · exact .inl rfl
          · have k : CLe ⟨C.S, none, some (i, c, []), i :: C.pins, false, 0⟩ ⟨C'.S, none, some (i, c, []), i :: C.pins, false, 0⟩ := ⟨h.S, .inl ⟨rfl, rfl⟩, rfl, rfl, rfl, rfl⟩
            rcases exs_le k suite (ρ2.set i none) st2 with e | e
            · rw [e]; exact .inl rfl
            · rw [← e]; exact .inr rfl
        · have k : CLe ⟨C.S, none, none, C.pins, false, 0⟩ ⟨C'.S, none, none, C.pins, false, 0⟩ := ⟨h.S, .inl ⟨rfl, rfl⟩, rfl, rfl, rfl, rfl⟩
          rcases exs_le k suite ρ2 st2 with e | e
          · rw [e]; exact .inl rfl
          · rw [← e]; exact .inr rfl
        · exact .inl rfl
      · exact .inr rfl
      · exact .inl rfl
  | .aug i op e, ρ, st => by
    rw [R.exS_aug, R.exS_aug, h.pins]
    split
    · exact .inl rfl
    · split
      · exact (ev_le h e ρ st).fl fun _ _ => .refl _
      · exact .inl rfl
  | .pass, ρ, st => by rw [R.exS_pass, R.exS_pass]; exact .refl _
  | .brk, ρ, st => by rw [R.exS_brk, R.exS_brk]; exact .refl _
  | .cont, ρ, st => by rw [R.exS_cont, R.exS_cont]; exact .refl _
theorem exs_le {C C' : Cn} (h : CLe C C') : ∀ (ss : List St) (ρ : Env) (st : Store), LeF (exs C ss ρ st) (exs C' ss ρ st)
  | [], ρ, st => by rw [R.exs_0, R.exs_0]; exact .refl _
  | s :: ss, ρ, st => by rw [exs_cons, exs_cons]; exact (exS_le h s ρ st).seq fun ρ st => exs_le h ss ρ st
end
theorem runBody_le {C C' : Cn} (h : CLe C C') (n : Nat) (b : List St) (vs : List PV) (st : Store) : Le (runBody C n b vs st) (runBody C' n b vs st) := by
  unfold runBody
  rcases exs_le h b (vs.map some ++ List.replicate (n - vs.length) none) st with e | e
  · rw [e]; exact .inl rfl
  · rw [← e]; exact .inr rfl
theorem runThunk_le {S S' : Sig} (h : SLe S S') (lv n : Nat) (b : List St) (t t' : Store → Res PV) (ht : ∀ st, Le (t st) (t' st)) (st : Store) : Le (runThunk S lv n b t st) (runThunk S' lv n b t' st) := by
  unfold runThunk
  have k : CLe ⟨S, some t, none, [0], false, lv⟩ ⟨S', some t', none, [0], false, lv⟩ := ⟨h, .inr ⟨t, t', rfl, rfl, ht⟩, rfl, rfl, rfl, rfl⟩
  rcases exs_le k b (List.replicate n none) st with e | e
  · rw [e]; exact .inl rfl
  · rw [← e]; exact .inr rfl

/-- a def's body: how many names, whether it makes lambdas, its level -/
structure DefB where
  n : Nat
  tb : Bool
  lv : Nat
  body : List St
structure DefH where
  n : Nat
  lv : Nat
  body : List St
structure Txb where
  ds : List DefB
  hs : List DefH
  sub : Nat → Nat → Bool
  isc : Nat → Bool
  ise : Nat → Bool
  ar : Nat → Option (Nat × Nat)
  ov : Nat → Option (List PV → Store → Res PV)
noncomputable def sigL (B : Txb) : Nat → Sig
  | 0 => ⟨fun k args st => match B.ov k with
      | some f => f args st
      | none => .bad, fun _ _ _ => .bad, fun _ _ _ => .bad, B.sub, B.isc, B.ise, B.ar⟩
  | l + 1 => ⟨fun k args st => match B.ov k with
      | some f => f args st
      | none => match B.ds[k]? with
        | some d => chk st.length (runBody ⟨sigL B l, none, none, [], d.tb, d.lv⟩ d.n d.body args st)
        | none => .bad, fun k r st => match B.hs[k]? with
      | some d => runThunk (sigL B l) d.lv d.n d.body r st
      | none => .bad, fun _ _ _ => .bad, B.sub, B.isc, B.ise, B.ar⟩
theorem Le.chk {r r' : Res PV} {n : Nat} (h : Le r r') : Le (MP.chk n r) (MP.chk n r') := by
  rcases h with h | h
  · subst h; exact .inl rfl
  · subst h; exact .inr rfl
theorem sigL_fields (B : Txb) : ∀ l, (sigL B l).sub = B.sub ∧ (sigL B l).isc = B.isc ∧ (sigL B l).ise = B.ise ∧ (sigL B l).ar = B.ar
  | 0 => ⟨rfl, rfl, rfl, rfl⟩
  | l + 1 => ⟨rfl, rfl, rfl, rfl⟩
theorem sigL_le (B : Txb) : ∀ l, SLe (sigL B l) (sigL B (l + 1))
  | 0 => ⟨fun k a st => by
      show Le (match B.ov k with
        | some f => f a st
        | none => .bad) (match B.ov k with
        | some f => f a st
        | none => match B.ds[k]? with
          | some d => chk st.length (runBody ⟨sigL B 0, none, none, [], d.tb, d.lv⟩ d.n d.body a st)
          | none => .bad)
      cases B.ov k with
      | some f => exact .refl _
      | none => exact .inl rfl, fun _ _ _ _ _ => .inl rfl, fun _ _ _ => .inl rfl, rfl, rfl, rfl, rfl⟩
  | l + 1 => by
    have ih := sigL_le B l
    refine ⟨fun k a st => ?_, fun k t t' st ht => ?_, fun _ _ _ => .inl rfl, rfl, rfl, rfl, rfl⟩
    · show Le (match B.ov k with
        | some f => f a st
        | none => match B.ds[k]? with
          | some d => chk st.length (runBody ⟨sigL B l, none, none, [], d.tb, d.lv⟩ d.n d.body a st)
          | none => .bad) (match B.ov k with
        | some f => f a st
        | none => match B.ds[k]? with
          | some d => chk st.length (runBody ⟨sigL B (l + 1), none, none, [], d.tb, d.lv⟩ d.n d.body a st)
          | none => .bad)
      cases B.ov k with
      | some f => exact .refl _
      | none =>
      show Le (match B.ds[k]? with
          | some d => chk st.length (runBody ⟨sigL B l, none, none, [], d.tb, d.lv⟩ d.n d.body a st)
          | none => .bad) (match B.ds[k]? with
          | some d => chk st.length (runBody ⟨sigL B (l + 1), none, none, [], d.tb, d.lv⟩ d.n d.body a st)
          | none => .bad)
      cases B.ds[k]? with
      | none => exact .inl rfl
      | some d =>
        have k : CLe ⟨sigL B l, none, none, [], d.tb, d.lv⟩ ⟨sigL B (l + 1), none, none, [], d.tb, d.lv⟩ := ⟨ih, .inl ⟨rfl, rfl⟩, rfl, rfl, rfl, rfl⟩
        exact (runBody_le k d.n d.body a st).chk
    · show Le (match B.hs[k]? with
        | some d => runThunk (sigL B l) d.lv d.n d.body t st
        | none => .bad) (match B.hs[k]? with
        | some d => runThunk (sigL B (l + 1)) d.lv d.n d.body t' st
        | none => .bad)
      cases B.hs[k]? with
      | none => exact .inl rfl
      | some d => exact runThunk_le ih d.lv d.n d.body t t' ht st
/-- its answers are the bodies' -/
theorem sigL_gc (B : Txb) (l : Nat) {k : Nat} {d : DefB} (h : B.ds[k]? = some d) (ho : B.ov k = none) (args : List PV) (st : Store) : GC st.length (runBody ⟨sigL B (l + 1), none, none, [], d.tb, d.lv⟩ d.n d.body args st) ((sigL B (l + 1)).fn k args st) := by
  have e : (sigL B (l + 1)).fn k args st = chk st.length (runBody ⟨sigL B l, none, none, [], d.tb, d.lv⟩ d.n d.body args st) := by
    show (match B.ov k with
      | some f => f args st
      | none => match B.ds[k]? with
        | some d => chk st.length (runBody ⟨sigL B l, none, none, [], d.tb, d.lv⟩ d.n d.body args st)
        | none => .bad) = _
    rw [ho, h]
  rw [e]
  rcases runBody_le (C := ⟨sigL B l, none, none, [], d.tb, d.lv⟩) (C' := ⟨sigL B (l + 1), none, none, [], d.tb, d.lv⟩) ⟨sigL_le B l, .inl ⟨rfl, rfl⟩, rfl, rfl, rfl, rfl⟩ d.n d.body args st with q | q
  · rw [q]; trivial
  · rw [← q]; exact GC_chk _ _

open PySem.Spec PyProof.Rows L2 LamX
theorem HelpG.le {P : Program} {w : World} {K : PySem.W.Frag} {mg : Str → Option Value} {base : Heap} {l : Nat} {A : Ad} {x : Str} {f f' : (Store → Res PV) → Store → Res PV} (h : HelpG P w K mg base l A x f') (hl : ∀ r st, Le (f r st) (f' r st)) : HelpG P w K mg base l A x f := by
  obtain ⟨g, pg, bg, sg, dV, kV, doc, pm, cdv, ct, oc, an, od, osl, Ng, a, h1, h2, h3, h4, h5, h6, h7, h8, h9, h10, hh⟩ := h.ex
  refine ⟨g, pg, bg, sg, dV, kV, doc, pm, cdv, ct, oc, an, od, osl, Ng, a, h1, h2, h3, h4, h5, h6, h7, h8, h9, h10, fun X e1 e2 e3 e4 e5 hg hr q f0 c' s H Q tl r0 act hc tt => hh X e1 e2 e3 e4 e5 hg hr q f0 c' s H Q tl r0 act hc ?_⟩
  obtain ⟨m, st, r, S, htl, hF⟩ := tt
  refine ⟨m, st, r, S, htl, ?_⟩
  rcases hl r st with e | e
  · rw [e] at hF; exact hF.elim
  · rw [← e]; exact hF
/-- a helper, its answers of a stage before -/
theorem At.helper' {P : Program} {T : Txt} {S : Sig} {fn : List He.DefD} {tf : List He.Defn} {w : World} {h : Heap} {K : PySem.W.Frag} {mg : Str → Option Value} {base : Heap} (a : At T S fn tf w h K mg base) {l k : Nat} {x y : Str} {params : Arguments} {body : List Stmt} {scope : Scope} {N : List Str} {body' : List MP.St} (G : Glob P w K mg base (T.tb l) (T.ad K) S)
    (hd : (⟨(x, none), x, x, params, body, scope, [], []⟩ : He.DefD) ∈ fn) (hk : T.lams[k]? = some (x, l + 1)) (Sc : FnScope N [y] scope) (h0 : N[0]? = some y) (hv : Vis scope y) (hy : (y == ("__debug__" : Str)) = false ∧ (y == ("__classdict__" : Str)) = false)
    (hc : (cSs (T.tb l) true none scope N 60 body).map (·.1) = some body')
    (hb : ∀ (kV doc pm : Value) (an : Option Addr) (cdv ct : Value) (us : List Value), us.length = 1 → bindArgs (PySem.W.fnOf x x params body scope .none kV doc pm an cdv ct) ⟨us, []⟩ = pure ([y].zip us))
    (hs : ∀ r st, Le (S.lam k r st) (runThunk S l N.length body' r st)) : HelpG P w K mg base (l + 1) (T.ad K) x (S.lam k) := by
  obtain ⟨fd, F⟩ := a.c.t.d.defs hd
  have F : FunD K x x params body scope [] [] (He.ga K x) fd := F
  have B := FunD.bindsN (ps := [y]) F hb
  obtain ⟨oc, od, dV, kV, doc, pm, an, cdv, ct, osl, rfl, lk, hcd, _, _⟩ := F.ex
  have hm := He.glo_ok a.X a.G (txt_facts a.c (f := .glo x) (by
    simp only [Txt.fa, List.mem_append, List.mem_map]
    exact .inr (.inl ⟨_, List.mem_of_getElem? hk, rfl⟩)))
  exact (helpG_of G hm F.kp lk hcd B Sc h0 hv hy.1 hy.2 (cSs_ok hc)).le hs
theorem sigL_lam (B : Txb) (l : Nat) {k : Nat} {d : DefH} (h : B.hs[k]? = some d) (r : Store → Res PV) (st : Store) : Le ((sigL B (l + 1)).lam k r st) (runThunk (sigL B (l + 1)) d.lv d.n d.body r st) := by
  have e : (sigL B (l + 1)).lam k r st = runThunk (sigL B l) d.lv d.n d.body r st := by
    show (match B.hs[k]? with
        | some d => runThunk (sigL B l) d.lv d.n d.body r st
        | none => .bad) = _
    rw [h]
  rw [e]
  exact runThunk_le (sigL_le B l) d.lv d.n d.body r r (fun _ => .refl _) st
end MP
set_option linter.all false
set_option Elab.async false
set_option maxRecDepth 100000
set_option maxHeartbeats 2000000
namespace MP
open PySem PySem.Spec PyProof.Rows L2 LamX
/-- a def: its text, its compiled body, its level -/
structure DC where
  x : Str
  ps : List Str
  N : List Str
  params : Arguments
  body : List Stmt
  scope : Scope
  tb : Bool
  lv : Nat
  body' : List MP.St
structure DC.Ok (T : Txt) (fn : List He.DefD) (tf : List He.Defn) (d : DC) : Prop where
  mem : (⟨(d.x, none), d.x, d.x, d.params, d.body, d.scope, [], []⟩ : He.DefD) ∈ fn
  sc : FnScope d.N d.ps d.scope
  tab : d.tb = true → d.x ∈ T.tabs ∧ (d.x, none) ∈ tf
  c : (cSs (T.tb d.lv) true none d.scope d.N 60 d.body).map (·.1) = some d.body'
  bd : ∀ (kV doc pm : Value) (an : Option Addr) (cdv ct : Value) (us : List Value), us.length = d.ps.length → bindArgs (PySem.W.fnOf d.x d.x d.params d.body d.scope .none kV doc pm an cdv ct) ⟨us, []⟩ = pure (d.ps.zip us)
/-- a helper -/
structure HC where
  x : Str
  y : Str
  N : List Str
  params : Arguments
  body : List Stmt
  scope : Scope
  lv : Nat
  body' : List MP.St
structure HC.Ok (T : Txt) (fn : List He.DefD) (d : HC) : Prop where
  mem : (⟨(d.x, none), d.x, d.x, d.params, d.body, d.scope, [], []⟩ : He.DefD) ∈ fn
  sc : FnScope d.N [d.y] d.scope
  n0 : d.N[0]? = some d.y
  vis : Vis d.scope d.y
  ny : (d.y == ("__debug__" : Str)) = false ∧ (d.y == ("__classdict__" : Str)) = false
  c : (cSs (T.tb d.lv) true none d.scope d.N 60 d.body).map (·.1) = some d.body'
  bd : ∀ (kV doc pm : Value) (an : Option Addr) (cdv ct : Value) (us : List Value), us.length = 1 → bindArgs (PySem.W.fnOf d.x d.x d.params d.body d.scope .none kV doc pm an cdv ct) ⟨us, []⟩ = pure (([d.y] : List Str).zip us)
def DC.toB (d : DC) : DefB := ⟨d.N.length, d.tb, d.lv, d.body'⟩
def HC.toB (d : HC) : DefH := ⟨d.N.length, d.lv, d.body'⟩
/-- the text's bodies -/
def txb (T : Txt) (ds : List DC) (hs : List HC) (ov : Nat → Option (List PV → Store → Res PV) := fun _ => none) : Txb := ⟨ds.map DC.toB, hs.map HC.toB, T.sub, fun _ => false, fun c => decide (c < T.excs.length), fun k => T.fns[k]?.map fun p => (p.2.1, p.2.2), ov⟩
theorem txb_ok (T : Txt) (ds : List DC) (hs : List HC) (ov : Nat → Option (List PV → Store → Res PV)) (l : Nat) : SigOk T (sigL (txb T ds hs ov) l) := by
  obtain ⟨e1, e2, e3, e4⟩ := sigL_fields (txb T ds hs ov) l
  refine ⟨fun c h => ?_, fun c => ?_, fun c k => ?_, fun k n l h => ?_⟩
  · rw [e3] at h; exact of_decide_eq_true h
  · rw [e2]; rfl
  · rw [e1]; rfl
  · rw [e4] at h
    show ∃ x, T.fns[k]? = _
    have h : T.fns[k]?.map (fun p => (p.2.1, p.2.2)) = some (n, l) := h
    cases q : T.fns[k]? with
    | none => rw [q] at h; cases h
    | some p => rw [q] at h; cases h; exact ⟨p.1, rfl⟩
/-- what is told of a def otherwise than by its body: sound -/
def OvOk (T : Txt) (ds : List DC) (hs : List HC) (ov : Nat → Option (List PV → Store → Res PV)) (l : Nat) : Prop := ∀ k d f, ds[k]? = some d → ov k = some f → ∀ args st, args.length = d.ps.length → Store.wf st → PV.bels st.length args = true → GC st.length (runBody ⟨sigL (txb T ds hs ov) l, none, none, [], d.tb, d.lv⟩ d.N.length d.body' args st) (f args st)
theorem sigL_ov (B : Txb) {k : Nat} {f : List PV → Store → Res PV} (h : B.ov k = some f) : ∀ l, (sigL B l).fn k = f
  | 0 => by
    funext args st
    show (match B.ov k with
      | some f => f args st
      | none => .bad) = _
    rw [h]
  | l + 1 => by
    funext args st
    show (match B.ov k with
      | some f => f args st
      | none => match B.ds[k]? with
        | some d => chk st.length (runBody ⟨sigL B l, none, none, [], d.tb, d.lv⟩ d.n d.body args st)
        | none => .bad) = _
    rw [h]
theorem sig_gc {T : Txt} {ds : List DC} {hs : List HC} {ov : Nat → Option (List PV → Store → Res PV)} {L k : Nat} {d : DC} (okO : OvOk T ds hs ov (L + 1)) (hd : ds[k]? = some d) (args : List PV) (st : Store) (h1 : args.length = d.ps.length) (h2 : Store.wf st) (h3 : PV.bels st.length args = true) :
    GC st.length (runBody ⟨sigL (txb T ds hs ov) (L + 1), none, none, [], d.tb, d.lv⟩ d.N.length d.body' args st) ((sigL (txb T ds hs ov) (L + 1)).fn k args st) := by
  have hb : (txb T ds hs ov).ds[k]? = some d.toB := by show (ds.map DC.toB)[k]? = _; rw [List.getElem?_map, hd]; rfl
  cases e : ov k with
  | none => exact sigL_gc (txb T ds hs ov) L hb e args st
  | some f =>
    rw [sigL_ov (txb T ds hs ov) (k := k) (f := f) e]
    exact okO k d f hd e args st h1 h2 h3
section
variable {P : Program} {T : Txt} {fn : List He.DefD} {tf : List He.Defn} {w : World} {h : Heap} {K : PySem.W.Frag} {mg : Str → Option Value} {base : Heap} {ds : List DC} {hs : List HC} {ov : Nat → Option (List PV → Store → Res PV)} {L : Nat}
theorem asm (hT : T.fns = ds.map fun d => (d.x, d.ps.length, d.lv + 1)) (hH : T.lams = hs.map fun d => (d.x, d.lv + 1)) (okD : ∀ d ∈ ds, d.Ok T fn tf) (okH : ∀ d ∈ hs, d.Ok T fn)
    (okO : OvOk T ds hs ov (L + 1)) (a : At T (sigL (txb T ds hs ov) (L + 1)) fn tf w h K mg base) : ∀ l, Glob P w K mg base (T.tb l) (T.ad K) (sigL (txb T ds hs ov) (L + 1)) := by
  refine At.glob a (fun k x n l e => ?_) (fun k x l e => ?_) (fun l G k x n e => ?_) (fun l G k x e => ?_)
  · rw [hT, List.getElem?_map] at e
    cases q : ds[k]? with
    | none => rw [q] at e; cases e
    | some d => rw [q] at e; cases e; exact Nat.succ_pos _
  · rw [hH, List.getElem?_map] at e
    cases q : hs[k]? with
    | none => rw [q] at e; cases e
    | some d => rw [q] at e; cases e; exact Nat.succ_pos _
  · have e' := e
    rw [hT, List.getElem?_map] at e
    cases q : ds[k]? with
    | none => rw [q] at e; cases e
    | some d =>
      rw [q] at e
      cases e
      have D := okD d (List.mem_of_getElem? q)
      exact a.def_ G D.mem e' D.sc D.tab D.c D.bd fun args st h1 h2 h3 => sig_gc okO q args st h1 h2 h3
  · have e' := e
    rw [hH, List.getElem?_map] at e
    cases q : hs[k]? with
    | none => rw [q] at e; cases e
    | some d =>
      rw [q] at e
      cases e
      have D := okH d (List.mem_of_getElem? q)
      have hb : (txb T ds hs ov).hs[k]? = some d.toB := by show (hs.map HC.toB)[k]? = _; rw [List.getElem?_map, q]; rfl
      exact At.helper' a G D.mem e' D.sc D.n0 D.vis D.ny D.c D.bd fun r st => sigL_lam (txb T ds hs ov) L hb r st
end
theorem okD_nil {T : Txt} {fn : List He.DefD} {tf : List He.Defn} : ∀ d ∈ ([] : List DC), d.Ok T fn tf := fun _ h => nomatch h
theorem okD_cons {T : Txt} {fn : List He.DefD} {tf : List He.Defn} {d : DC} {ds : List DC} (h : d.Ok T fn tf) (k : ∀ d ∈ ds, d.Ok T fn tf) : ∀ x ∈ d :: ds, x.Ok T fn tf := fun x hx => by
  rcases List.mem_cons.mp hx with rfl | hx
  · exact h
  · exact k x hx
theorem okH_nil {T : Txt} {fn : List He.DefD} : ∀ d ∈ ([] : List HC), d.Ok T fn := fun _ h => nomatch h
theorem okH_cons {T : Txt} {fn : List He.DefD} {d : HC} {ds : List HC} (h : d.Ok T fn) (k : ∀ d ∈ ds, d.Ok T fn) : ∀ x ∈ d :: ds, x.Ok T fn := fun x hx => by
  rcases List.mem_cons.mp hx with rfl | hx
  · exact h
  · exact k x hx
theorem law_all {P : Program} {T : Txt} {fn : List He.DefD} {tf : List He.Defn} {w : World} {h : Heap} {K : PySem.W.Frag} {mg : Str → Option Value} {fa : Addr} {n k L : Nat} {ds : List DC} {hs : List HC} {ov : Nat → Option (List PV → Store → Res PV)} {d : DC} {y : Str}
    (X : K.In h) (G : h.Ns mainGlobals mg) (c : He.SaysX T.fa fn [] tf T.ex w h K) (hmg : mg d.x = some (.ref fa)) (hn : n ≤ szl)
    (tq : ∀ x ∈ T.tabs, ∀ y ∈ T.tabs, (He.cT K (y, none)).2 = (He.cT K (x, none)).2 → y = x) (ht : ∀ x ∈ T.tabs, (x, none) ∈ tf)
    (hT : T.fns = ds.map fun d => (d.x, d.ps.length, d.lv + 1)) (hH : T.lams = hs.map fun d => (d.x, d.lv + 1)) (okD : ∀ d ∈ ds, d.Ok T fn tf) (okH : ∀ d ∈ hs, d.Ok T fn)
    (okO : OvOk T ds hs ov (L + 1)) (hk : ds[k]? = some d) (hy : d.ps = [y])
    (hf : ∀ ns : List Int, ns.length ≤ n → (∀ z ∈ ns, Builtin.Int.intBits z ≤ 1048576) → ∃ st, (sigL (txb T ds hs ov) (L + 1)).fn k [.ref 0] [.frz (ns.map PV.int)] = .ok (.bl true) st) :
    ∃ K : PySem.W.Frag, K.In h ∧ noLists K = true ∧ LawAtG P w K (d.lv + 1) n y mg fa h := by
  have D := okD d (List.mem_of_getElem? hk)
  have e : T.fns[k]? = some (d.x, d.ps.length, d.lv + 1) := by rw [hT, List.getElem?_map, hk]; rfl
  have e1 : T.fns[k]? = some (d.x, 1, d.lv + 1) := by rw [e, hy]; rfl
  have bd := D.bd
  rw [hy] at bd
  refine law_at (S := sigL (txb T ds hs ov) (L + 1)) X G c (txb_ok T ds hs ov (L + 1)) hmg hn tq ht D.mem e1 bd (fun base a => ?_) hf
  have F := At.defL a (asm (P := P) hT hH okD okH okO a d.lv) D.mem e D.sc D.tab D.c D.bd fun args st h1 h2 h3 => sig_gc okO hk args st h1 h2 h3
  rw [hy] at F
  exact F
/-- the ints' bounds -/
theorem bits_log {z : Int} (h : Builtin.Int.intBits z ≤ 1048576) : z.natAbs.log2 ≤ 2000000 := by
  unfold Builtin.Int.intBits at h
  by_cases h0 : z = 0
  · subst h0; decide
  · have e : (z == 0) = false := by simpa using h0
    rw [e] at h
    have h : z.natAbs.log2 + 1 ≤ 1048576 := h
    omega
end MP
set_option linter.all false
set_option Elab.async false
set_option maxRecDepth 100000
set_option maxHeartbeats 2000000
namespace MP
open PySem
theorem lcLoop_inv {I : Nat → Store → Prop} {Q : PV → Prop} {f : PV → Store → Res (Option PV)} {N : Nat} : ∀ (xs : List PV), (∀ x ∈ xs, ∀ n st, n < N → I n st → ∃ (d : PV) (st' : Store), f x st = .ok (some d) st' ∧ Q d ∧ I (n + 1) st') → ∀ n st acc, n + xs.length ≤ N → I n st → ∃ (ds : List PV) (st' : Store), lcLoop [] f xs acc st = .ok (acc ++ ds) st' ∧ ds.length = xs.length ∧ (∀ d ∈ ds, Q d) ∧ I (n + xs.length) st'
  | [], _, n, st, acc, _, hI => ⟨[], st, by simp [lcLoop], rfl, (fun d hd => (List.not_mem_nil hd).elim), hI⟩
  | x :: xs, hf, n, st, acc, hN, hI => by
    simp only [List.length_cons] at hN
    obtain ⟨d, st1, e, q, I1⟩ := hf x (List.mem_cons_self ..) n st (by omega) hI
    obtain ⟨ds, st2, e2, l, qs, I2⟩ := lcLoop_inv xs (fun y hy => hf y (List.mem_cons_of_mem _ hy)) (n + 1) st1 (acc ++ [d]) (by omega) I1
    refine ⟨d :: ds, st2, ?_, by simp [l], ?_, ?_⟩
    · simp [lcLoop, e, e2]
    · intro y hy
      rcases List.mem_cons.mp hy with rfl | hy
      · exact q
      · exact qs y hy
    · have : n + (xs.length + 1) = n + 1 + xs.length := by omega
      rw [List.length_cons, this]; exact I2
theorem allB_true : ∀ {ds : List PV}, (∀ d ∈ ds, d = .bl true) → allB ds = some true
  | [], _ => rfl
  | d :: ds, h => by
    rw [h d (List.mem_cons_self ..)]
    simp only [allB, allB_true fun y hy => h y (List.mem_cons_of_mem _ hy)]
    rfl
end MP
set_option linter.all false
set_option Elab.async false
set_option maxRecDepth 100000
set_option maxHeartbeats 2000000
namespace MP
open PySem
theorem Res.bindC {α β : Type} {r r' : Res α} {f f' : α → Store → Res β} (h : r' = r) (g : ∀ a st, f' a st = f a st) : r'.bind f' = r.bind f := by
  subst h
  cases r' with
  | ok a st => exact g a st
  | exc c fs st => rfl
  | bad => rfl
theorem Res.flC {α : Type} {r r' : Res α} {f f' : α → Store → Fl} {ρ : Env} (h : r' = r) (g : ∀ a st, f' a st = f a st) : r'.fl ρ f' = r.fl ρ f := by
  subst h
  cases r' with
  | ok a st => exact g a st
  | exc c fs st => rfl
  | bad => rfl
theorem ifBC {α : Type} {v : PV} {f f' g g' : Res α} (h : f' = f) (k : g' = g) : MP.ifB v f' g' = MP.ifB v f g := by rw [h, k]
theorem ifFC {v : PV} {f f' g g' : Fl} (h : f' = f) (k : g' = g) : MP.ifF v f' g' = MP.ifF v f g := by rw [h, k]
theorem Fl.seqC {r r' : Fl} {f f' : Env → Store → Fl} (h : r' = r) (g : ∀ ρ st, f' ρ st = f ρ st) : r'.seq f' = r.seq f := by
  subst h
  cases r' <;> first | exact g _ _ | rfl
mutual
def Ex.lo (p q : Nat → Bool) : Ex → Bool
  | .lit _ | .var _ | .thunk | .emp | .isErr _ _ => true
  | .tup es => Ex.los p q es
  | .lx a => Lx.lo p q a
  | .bin _ a b | .and a b | .or a b | .cmp _ a b | .idx a b => Ex.lo p q a && Ex.lo p q b
  | .neg a | .not a | .attr a _ => Ex.lo p q a
  | .chain _ _ a b c | .ife a b c => Ex.lo p q a && (Ex.lo p q b && Ex.lo p q c)
  | .call k es => p k && Ex.los p q es
  | .new _ es | .callV _ es | .blt _ es => Ex.los p q es
  | .lam k a => q k && Ex.lo p q a
  | .blt1 _ a => Lx.lo p q a
  | .meth _ o es => Ex.lo p q o && Ex.los p q es
  | .slice o lo hi => Ex.lo p q o && (Ex.loo p q lo && Ex.loo p q hi)
def Lx.lo (p q : Nat → Bool) : Lx → Bool
  | .of e => Ex.lo p q e
  | .lst es => Ex.los p q es
  | .lc _ elt _ it ifs => It.lo p q it && (Ex.los p q ifs && Ex.lo p q elt)
  | .sorted a => Lx.lo p q a
  | .cat a b => Lx.lo p q a && Lx.lo p q b
def It.lo (p q : Nat → Bool) : It → Bool
  | .ex e | .range1 e | .enum e | .rev e | .rrange1 e => Ex.lo p q e
  | .lx a => Lx.lo p q a
  | .range2 a b | .zip a b | .enumz a b => Ex.lo p q a && Ex.lo p q b
def Ex.los (p q : Nat → Bool) : List Ex → Bool
  | [] => true
  | e :: es => Ex.lo p q e && Ex.los p q es
def Ex.loo (p q : Nat → Bool) : Option Ex → Bool
  | none => true
  | some e => Ex.lo p q e
end
mutual
def St.lo (p q : Nat → Bool) : St → Bool
  | .asg _ e | .expr e | .ret e | .aug _ _ e => Ex.lo p q e
  | .set o i e => Ex.lo p q o && (Ex.lo p q i && Ex.lo p q e)
  | .retN | .pass | .brk | .cont => true
  | .ife c a b => Ex.lo p q c && (St.los p q a && St.los p q b)
  | .for_ _ it b => It.lo p q it && St.los p q b
  | .while_ c b => Ex.lo p q c && St.los p q b
  | .raise _ es => Ex.los p q es
  | .try_ b _ _ s => St.los p q b && St.los p q s
def St.los (p q : Nat → Bool) : List St → Bool
  | [] => true
  | s :: ss => St.lo p q s && St.los p q ss
end
/-- the callees' level -/
def lvOk (ar : Nat → Option (Nat × Nat)) (L k : Nat) : Bool := match ar k with
  | some (_, l) => decide (l ≤ L)
  | none => false
structure SEq (L : Nat) (q : Nat → Bool) (S S' : Sig) : Prop where
  fn : ∀ k, lvOk S.ar L k = true → S'.fn k = S.fn k
  lam : ∀ k, q k = true → S'.lam k = S.lam k
  nw : S'.nw = S.nw
  sub : S'.sub = S.sub
  isc : S'.isc = S.isc
  ise : S'.ise = S.ise
  ar : S'.ar = S.ar
structure CEq (L : Nat) (q : Nat → Bool) (C C' : Cn) : Prop where
  S : SEq L q C.S C'.S
  th : C'.th = C.th
  er : C'.er = C.er
  pins : C'.pins = C.pins
  tab : C'.tab = C.tab
  lv : C'.lv = C.lv
  lo : C.lv ≤ L
section
variable {L : Nat} {q : Nat → Bool}
theorem CEq.bare {C C' : Cn} (h : CEq L q C C') : CEq L q C.bare C'.bare := ⟨h.S, rfl, rfl, h.pins, rfl, h.lv, h.lo⟩
theorem CEq.inLam {C C' : Cn} (h : CEq L q C C') : CEq L q C.inLam C'.inLam := ⟨h.S, rfl, rfl, h.pins, rfl, congrArg (· - 2) h.lv, Nat.le_trans (Nat.sub_le _ _) h.lo⟩
theorem isInst_eq {S S' : Sig} (h : SEq L q S S') (v t : PV) (st : Store) : isInst S' v t st = isInst S v t st := by
  unfold isInst clsB
  rw [h.isc, h.sub]
theorem isInsts_eq {S S' : Sig} (h : SEq L q S S') (v : PV) (st : Store) : ∀ ts, isInsts S' v st ts = isInsts S v st ts
  | [] => rfl
  | t :: ts => by simp only [isInsts, isInst_eq h, isInsts_eq h v st ts]
theorem bltOp_eq {S S' : Sig} (h : SEq L q S S') (b : Blt) (vs : List PV) (st : Store) : bltOp S' b vs st = bltOp S b vs st := by
  unfold bltOp
  simp only [isInst_eq h, isInsts_eq h, blt1_le S S']
theorem lcLoop_eq {w : List (Nat × List PV)} {f f' : PV → Store → Res (Option PV)} (h : ∀ x st, f' x st = f x st) : ∀ xs acc st, lcLoop w f' xs acc st = lcLoop w f xs acc st := by
  have : f' = f := funext fun x => funext fun st => h x st
  intro xs acc st; rw [this]
theorem forLoop_eq {w : List (Nat × List PV)} {put : PV → Env → Option Env} {f f' : Env → Store → Fl} (h : ∀ x st, f' x st = f x st) : ∀ xs ρ st, forLoop w put f' xs ρ st = forLoop w put f xs ρ st := by
  have : f' = f := funext fun x => funext fun st => h x st
  intro xs acc st; rw [this]
theorem whileLoop_eq {t t' : Env → Store → Res PV} {f f' : Env → Store → Fl} (ht : ∀ x st, t' x st = t x st) (h : ∀ x st, f' x st = f x st) : ∀ n ρ st, whileLoop t' f' n ρ st = whileLoop t f n ρ st := by
  have e : f' = f := funext fun x => funext fun st => h x st
  have e2 : t' = t := funext fun x => funext fun st => ht x st
  intro xs acc st; rw [e, e2]

mutual
theorem ev_eq {C C' : Cn} (h : CEq L q C C') : ∀ e : Ex, Ex.lo (lvOk C.S.ar L) q e = true → ev C' e = ev C e
  | .lit v, hl => by
    funext ρ st
    rw [R.ev_lit, R.ev_lit]
  | .var i, hl => by
    funext ρ st
    rw [R.ev_var, R.ev_var]
  | .emp, hl => by
    funext ρ st
    rw [R.ev_emp, R.ev_emp]
  | .tup es, hl => by
    funext ρ st
    simp only [Ex.lo, Bool.and_eq_true] at hl
    rw [R.ev_tup, R.ev_tup, evs_eq h es hl]
  | .lx a, hl => by
    funext ρ st
    simp only [Ex.lo, Bool.and_eq_true] at hl
    rw [R.ev_lx, R.ev_lx, evL_eq h a hl]
  | .bin op a b, hl => by
    funext ρ st
    simp only [Ex.lo, Bool.and_eq_true] at hl
    rw [R.ev_bin, R.ev_bin, ev_eq h a hl.1, ev_eq h b hl.2]
  | .cmp op a b, hl => by
    funext ρ st
    simp only [Ex.lo, Bool.and_eq_true] at hl
    rw [R.ev_cmp, R.ev_cmp, ev_eq h a hl.1, ev_eq h b hl.2]
  | .and a b, hl => by
    funext ρ st
    simp only [Ex.lo, Bool.and_eq_true] at hl
    rw [R.ev_and, R.ev_and, ev_eq h a hl.1, ev_eq h b hl.2]
  | .or a b, hl => by
    funext ρ st
    simp only [Ex.lo, Bool.and_eq_true] at hl
    rw [R.ev_or, R.ev_or, ev_eq h a hl.1, ev_eq h b hl.2]
  | .idx a b, hl => by
    funext ρ st
    simp only [Ex.lo, Bool.and_eq_true] at hl
    rw [R.ev_idx, R.ev_idx, ev_eq h a hl.1, ev_eq h b hl.2]
  | .neg a, hl => by
    funext ρ st
    simp only [Ex.lo, Bool.and_eq_true] at hl
    rw [R.ev_neg, R.ev_neg, ev_eq h a hl]
  | .not a, hl => by
    funext ρ st
    simp only [Ex.lo, Bool.and_eq_true] at hl
    rw [R.ev_not, R.ev_not, ev_eq h a hl]
  | .attr a f, hl => by
    funext ρ st
    simp only [Ex.lo, Bool.and_eq_true] at hl
    rw [R.ev_attr, R.ev_attr, ev_eq h a hl]
  | .chain op op' a b c, hl => by
    funext ρ st
    simp only [Ex.lo, Bool.and_eq_true] at hl
    rw [R.ev_chain, R.ev_chain, ev_eq h a hl.1, ev_eq h b hl.2.1, ev_eq h c hl.2.2]
  | .ife a b c, hl => by
    funext ρ st
    simp only [Ex.lo, Bool.and_eq_true] at hl
    rw [R.ev_ife, R.ev_ife, ev_eq h a hl.1, ev_eq h b hl.2.1, ev_eq h c hl.2.2]
  | .call k es, hl => by
    funext ρ st
    simp only [Ex.lo, Bool.and_eq_true] at hl
    rw [R.ev_call, R.ev_call, evs_eq h es hl.2, h.S.fn k hl.1]
  | .new k es, hl => by
    funext ρ st
    simp only [Ex.lo] at hl
    rw [R.ev_new, R.ev_new, evs_eq h es hl, h.S.nw]
  | .callV i es, hl => by
    funext ρ st
    simp only [Ex.lo] at hl
    rw [R.ev_callV, R.ev_callV, evs_eq h es hl, h.S.ar, h.lv]
    split
    · rename_i k _
      split
      · rename_i n l e
        split
        · rename_i hh
          rw [h.S.fn k (by unfold lvOk; rw [e]; exact decide_eq_true (Nat.le_trans hh.2 h.lo))]
        · rfl
      · rfl
    · rfl
  | .thunk, hl => by
    funext ρ st
    rw [R.ev_thunk, R.ev_thunk, h.th]
  | .lam k a, hl => by
    funext ρ st
    simp only [Ex.lo, Bool.and_eq_true] at hl
    have e := ev_eq h.inLam a hl.2
    rw [R.ev_lam, R.ev_lam, e, h.S.lam k hl.1, h.tab]
  | .blt b es, hl => by
    funext ρ st
    simp only [Ex.lo] at hl
    rw [R.ev_blt, R.ev_blt, evs_eq h es hl]
    exact Res.bindC rfl fun vs st => bltOp_eq h.S b vs st
  | .blt1 b a, hl => by
    funext ρ st
    simp only [Ex.lo] at hl
    rw [R.ev_blt1, R.ev_blt1, evL_eq h a hl]
    rfl
  | .meth m o es, hl => by
    funext ρ st
    simp only [Ex.lo, Bool.and_eq_true] at hl
    rw [R.ev_meth, R.ev_meth, ev_eq h o hl.1, evs_eq h es hl.2]
  | .isErr i t, hl => by
    funext ρ st
    rw [R.ev_isErr, R.ev_isErr, h.er, h.S.ise, h.S.sub]
  | .slice o lo hi, hl => by
    funext ρ st
    simp only [Ex.lo, Bool.and_eq_true] at hl
    rw [R.ev_slice, R.ev_slice, ev_eq h o hl.1, evO_eq h lo hl.2.1, evO_eq h hi hl.2.2]
theorem evL_eq {C C' : Cn} (h : CEq L q C C') : ∀ a : Lx, Lx.lo (lvOk C.S.ar L) q a = true → evL C' a = evL C a
  | .of e, hl => by
    funext ρ st
    simp only [Lx.lo, Bool.and_eq_true] at hl
    rw [R.evL_of, R.evL_of, ev_eq h e hl]
  | .lst es, hl => by
    funext ρ st
    simp only [Lx.lo, Bool.and_eq_true] at hl
    rw [R.evL_lst, R.evL_lst, evs_eq h es hl]
  | .lc own elt tg it ifs, hl => by
    funext ρ st
    simp only [Lx.lo, Bool.and_eq_true] at hl
    rw [R.evL_lc, R.evL_lc, evI_eq h it hl.1, h.pins]
    have e : lcF C' own elt tg ifs = lcF C own elt tg ifs := by
      funext ρ x st
      rw [lcF_eq, lcF_eq, evT_eq h.bare ifs hl.2.1, ev_eq h.bare elt hl.2.2]
    rw [e]
  | .sorted a, hl => by
    funext ρ st
    simp only [Lx.lo, Bool.and_eq_true] at hl
    rw [R.evL_sorted, R.evL_sorted, evL_eq h a hl]
  | .cat a b, hl => by
    funext ρ st
    simp only [Lx.lo, Bool.and_eq_true] at hl
    rw [R.evL_cat, R.evL_cat, evL_eq h a hl.1, evL_eq h b hl.2]
theorem evs_eq {C C' : Cn} (h : CEq L q C C') : ∀ es : List Ex, Ex.los (lvOk C.S.ar L) q es = true → evs C' es = evs C es
  | [], hl => by
    funext ρ st
    rw [R.evs_0, R.evs_0]
  | e :: es, hl => by
    funext ρ st
    simp only [Ex.los, Bool.and_eq_true] at hl
    rw [R.evs_1, R.evs_1, ev_eq h e hl.1, evs_eq h es hl.2]
theorem evO_eq {C C' : Cn} (h : CEq L q C C') : ∀ e : Option Ex, Ex.loo (lvOk C.S.ar L) q e = true → evO C' e = evO C e
  | none, hl => by
    funext ρ st
    rw [R.evO_0, R.evO_0]
  | some e, hl => by
    funext ρ st
    simp only [Ex.loo, Bool.and_eq_true] at hl
    rw [R.evO_1, R.evO_1, ev_eq h e hl]
theorem evT_eq {C C' : Cn} (h : CEq L q C C') : ∀ es : List Ex, Ex.los (lvOk C.S.ar L) q es = true → evT C' es = evT C es
  | [], hl => by
    funext ρ st
    rw [R.evT_0, R.evT_0]
  | e :: es, hl => by
    funext ρ st
    simp only [Ex.los, Bool.and_eq_true] at hl
    rw [R.evT_1, R.evT_1, ev_eq h e hl.1, evT_eq h es hl.2]
theorem evI_eq {C C' : Cn} (h : CEq L q C C') : ∀ a : It, It.lo (lvOk C.S.ar L) q a = true → evI C' a = evI C a
  | .ex e, hl => by
    funext ρ st
    simp only [It.lo, Bool.and_eq_true] at hl
    rw [R.evI_ex, R.evI_ex, ev_eq h e hl]
  | .lx a, hl => by
    funext ρ st
    simp only [It.lo, Bool.and_eq_true] at hl
    rw [R.evI_lx, R.evI_lx, evL_eq h a hl]
  | .range1 a, hl => by
    funext ρ st
    simp only [It.lo, Bool.and_eq_true] at hl
    rw [R.evI_range1, R.evI_range1, ev_eq h a hl]
  | .enum a, hl => by
    funext ρ st
    simp only [It.lo, Bool.and_eq_true] at hl
    rw [R.evI_enum, R.evI_enum, ev_eq h a hl]
  | .rev a, hl => by
    funext ρ st
    simp only [It.lo, Bool.and_eq_true] at hl
    rw [R.evI_rev, R.evI_rev, ev_eq h a hl]
  | .rrange1 a, hl => by
    funext ρ st
    simp only [It.lo, Bool.and_eq_true] at hl
    rw [R.evI_rrange1, R.evI_rrange1, ev_eq h a hl]
  | .range2 a b, hl => by
    funext ρ st
    simp only [It.lo, Bool.and_eq_true] at hl
    rw [R.evI_range2, R.evI_range2, ev_eq h a hl.1, ev_eq h b hl.2]
  | .zip a b, hl => by
    funext ρ st
    simp only [It.lo, Bool.and_eq_true] at hl
    rw [R.evI_zip, R.evI_zip, ev_eq h a hl.1, ev_eq h b hl.2]
  | .enumz a b, hl => by
    funext ρ st
    simp only [It.lo, Bool.and_eq_true] at hl
    rw [R.evI_enumz, R.evI_enumz, ev_eq h a hl.1, ev_eq h b hl.2]
end
theorem errOk_eq {S S' : Sig} (h : SEq L q S S') (c : Nat) (t : PV) : errOk S' c t = errOk S c t := by unfold errOk; rw [h.ise, h.sub]
mutual
theorem exS_eq {C C' : Cn} (h : CEq L q C C') : ∀ s : St, St.lo (lvOk C.S.ar L) q s = true → exS C' s = exS C s
  | .asg t e, hl => by
    funext ρ st
    simp only [St.lo, Bool.and_eq_true] at hl
    rw [R.exS_asg, R.exS_asg, ev_eq h e hl, h.pins]
  | .set o i e, hl => by
    funext ρ st
    simp only [St.lo, Bool.and_eq_true] at hl
    rw [R.exS_set, R.exS_set, ev_eq h o hl.1, ev_eq h i hl.2.1, ev_eq h e hl.2.2]
  | .expr e, hl => by
    funext ρ st
    simp only [St.lo, Bool.and_eq_true] at hl
    rw [R.exS_expr, R.exS_expr, ev_eq h e hl]
  | .ret e, hl => by
    funext ρ st
    simp only [St.lo, Bool.and_eq_true] at hl
    rw [R.exS_ret, R.exS_ret, ev_eq h e hl]
  | .retN, hl => by
    funext ρ st
    rw [R.exS_retN, R.exS_retN]
  | .pass, hl => by
    funext ρ st
    rw [R.exS_pass, R.exS_pass]
  | .brk, hl => by
    funext ρ st
    rw [R.exS_brk, R.exS_brk]
  | .cont, hl => by
    funext ρ st
    rw [R.exS_cont, R.exS_cont]
  | .ife c a b, hl => by
    funext ρ st
    simp only [St.lo, Bool.and_eq_true] at hl
    rw [R.exS_ife, R.exS_ife, ev_eq h c hl.1, exs_eq h a hl.2.1, exs_eq h b hl.2.2]
  | .for_ t it b, hl => by
    funext ρ st
    simp only [St.lo, Bool.and_eq_true] at hl
    have e : forF C' b = forF C b := by unfold forF; rw [exs_eq h b hl.2]
    rw [R.exS_for_, R.exS_for_, evI_eq h it hl.1, h.pins, e]
  | .while_ c b, hl => by
    funext ρ st
    simp only [St.lo, Bool.and_eq_true] at hl
    rw [R.exS_while_, R.exS_while_, ev_eq h c hl.1, exs_eq h b hl.2]
  | .raise k es, hl => by
    funext ρ st
    simp only [St.lo] at hl
    rw [R.exS_raise, R.exS_raise, evs_eq h es hl, h.S.ise]
  | .try_ b t nm s, hl => by
    funext ρ st
    simp only [St.lo, Bool.and_eq_true] at hl
    rw [R.exS_try_, R.exS_try_, exs_eq h b hl.1, h.pins]
    have e : errOk C'.S = errOk C.S := by funext c t; exact errOk_eq h.S c t
    have k1 : ∀ i c, exs ⟨C'.S, none, some (i, c, []), i :: C.pins, false, 0⟩ s = exs ⟨C.S, none, some (i, c, []), i :: C.pins, false, 0⟩ s := fun i c => exs_eq (C := ⟨C.S, none, some (i, c, []), i :: C.pins, false, 0⟩) (C' := ⟨C'.S, none, some (i, c, []), i :: C.pins, false, 0⟩) ⟨h.S, rfl, rfl, rfl, rfl, rfl, Nat.zero_le _⟩ s hl.2
    have k2 : exs ⟨C'.S, none, none, C.pins, false, 0⟩ s = exs ⟨C.S, none, none, C.pins, false, 0⟩ s := exs_eq (C := ⟨C.S, none, none, C.pins, false, 0⟩) (C' := ⟨C'.S, none, none, C.pins, false, 0⟩) ⟨h.S, rfl, rfl, rfl, rfl, rfl, Nat.zero_le _⟩ s hl.2
    rw [e, k2]
    simp only [k1]
  | .aug i op e, hl => by
    funext ρ st
    simp only [St.lo, Bool.and_eq_true] at hl
    rw [R.exS_aug, R.exS_aug, ev_eq h e hl, h.pins]
theorem exs_eq {C C' : Cn} (h : CEq L q C C') : ∀ ss : List St, St.los (lvOk C.S.ar L) q ss = true → exs C' ss = exs C ss
  | [], hl => by
    funext ρ st
    rw [R.exs_0, R.exs_0]
  | s :: ss, hl => by
    funext ρ st
    simp only [St.los, Bool.and_eq_true] at hl
    rw [exs_cons, exs_cons, exS_eq h s hl.1, exs_eq h ss hl.2]
end
theorem runBody_eq' {C C' : Cn} (h : CEq L q C C') (n : Nat) (b : List St) (hb : St.los (lvOk C.S.ar L) q b = true) : runBody C' n b = runBody C n b := by
  funext vs st
  unfold runBody
  rw [exs_eq h b hb]
theorem runThunk_eq {S S' : Sig} (h : SEq L q S S') (lv n : Nat) (hlv : lv ≤ L) (b : List St) (hb : St.los (lvOk S.ar L) q b = true) : runThunk S' lv n b = runThunk S lv n b := by
  funext t st
  unfold runThunk
  rw [exs_eq (C := ⟨S, some t, none, [0], false, lv⟩) (C' := ⟨S', some t, none, [0], false, lv⟩) ⟨h, rfl, rfl, rfl, rfl, rfl, hlv⟩ b hb]
end
def Txb.lamOk (B : Txb) (L k : Nat) : Bool := match B.hs[k]? with
  | some d => decide (d.lv < L)
  | none => false
theorem lvOk_le {ar : Nat → Option (Nat × Nat)} {j l k : Nat} (h : lvOk ar j k = true) (hj : j ≤ l) : lvOk ar l k = true := by
  unfold lvOk at h ⊢
  cases e : ar k with
  | none => rw [e] at h; cases h
  | some p => rw [e] at h; exact decide_eq_true (Nat.le_trans (of_decide_eq_true h) hj)
theorem lamOk_le {B : Txb} {j l k : Nat} (h : B.lamOk j k = true) (hj : j ≤ l) : B.lamOk l k = true := by
  unfold Txb.lamOk at h ⊢
  cases e : B.hs[k]? with
  | none => rw [e] at h; cases h
  | some p => rw [e] at h; exact decide_eq_true (Nat.lt_of_lt_of_le (of_decide_eq_true h) hj)
/-- all calls go to a lower level -/
def Txb.ok (B : Txb) : Bool := (B.ds.all fun d => St.los (lvOk B.ar d.lv) (B.lamOk d.lv) d.body) && (B.hs.all fun d => St.los (lvOk B.ar d.lv) (B.lamOk d.lv) d.body)
structure Txb.Ar (B : Txb) : Prop where
  ar : ∀ k n l, B.ar k = some (n, l) → ∃ d, B.ds[k]? = some d ∧ l = d.lv + 1
theorem sigL_stab (B : Txb) (hB : B.ok = true) (hA : B.Ar) : ∀ l, (∀ k, lvOk B.ar l k = true → (sigL B (l + 1)).fn k = (sigL B l).fn k) ∧ ∀ k, B.lamOk l k = true → (sigL B (l + 1)).lam k = (sigL B l).lam k
  | 0 => by
    refine ⟨fun k h => ?_, fun k h => ?_⟩
    · unfold lvOk at h
      split at h
      · rename_i n l e
        obtain ⟨d, _, rfl⟩ := hA.ar k n l e
        have := of_decide_eq_true h
        omega
      · cases h
    · unfold Txb.lamOk at h
      split at h
      · have := of_decide_eq_true h; omega
      · cases h
  | l + 1 => by
    obtain ⟨ih1, ih2⟩ := sigL_stab B hB hA l
    unfold Txb.ok at hB
    rw [Bool.and_eq_true, List.all_eq_true, List.all_eq_true] at hB
    -- lower levels agree as well
    have all : ∀ j, j ≤ l → SEq j (B.lamOk j) (sigL B l) (sigL B (l + 1)) := fun j hj => by
      refine ⟨fun k hk => ih1 k (lvOk_le ((sigL_fields B l).2.2.2 ▸ hk) hj), fun k hk => ih2 k (lamOk_le hk hj), ?_, ?_, ?_, ?_, ?_⟩
      · cases l <;> rfl
      · rw [(sigL_fields B (l + 1)).1, (sigL_fields B l).1]
      · rw [(sigL_fields B (l + 1)).2.1, (sigL_fields B l).2.1]
      · rw [(sigL_fields B (l + 1)).2.2.1, (sigL_fields B l).2.2.1]
      · rw [(sigL_fields B (l + 1)).2.2.2, (sigL_fields B l).2.2.2]
    refine ⟨fun k h => ?_, fun k h => ?_⟩
    · unfold lvOk at h
      split at h
      · rename_i n l' e
        obtain ⟨d, hd, rfl⟩ := hA.ar k n l' e
        have hl : d.lv ≤ l := by have := of_decide_eq_true h; omega
        cases ho : B.ov k with
        | some f => rw [sigL_ov B ho, sigL_ov B ho]
        | none =>
        funext args st
        show (match B.ov k with
          | some f => f args st
          | none => match B.ds[k]? with
            | some d => chk st.length (runBody ⟨sigL B (l + 1), none, none, [], d.tb, d.lv⟩ d.n d.body args st)
            | none => .bad) = (match B.ov k with
          | some f => f args st
          | none => match B.ds[k]? with
            | some d => chk st.length (runBody ⟨sigL B l, none, none, [], d.tb, d.lv⟩ d.n d.body args st)
            | none => .bad)
        rw [ho, hd]
        have hb := hB.1 d (List.mem_of_getElem? hd)
        have := runBody_eq' (C := ⟨sigL B l, none, none, [], d.tb, d.lv⟩) (C' := ⟨sigL B (l + 1), none, none, [], d.tb, d.lv⟩) ⟨all d.lv hl, rfl, rfl, rfl, rfl, rfl, Nat.le_refl _⟩ d.n d.body (by rw [(sigL_fields B l).2.2.2]; exact hb)
        simp only [this]
      · cases h
    · unfold Txb.lamOk at h
      split at h
      · rename_i d hd
        have hl : d.lv ≤ l := by have := of_decide_eq_true h; omega
        funext r st
        show (match B.hs[k]? with
          | some d => runThunk (sigL B (l + 1)) d.lv d.n d.body r st
          | none => .bad) = (match B.hs[k]? with
          | some d => runThunk (sigL B l) d.lv d.n d.body r st
          | none => .bad)
        rw [hd]
        have hb := hB.2 d (List.mem_of_getElem? hd)
        have := runThunk_eq (all d.lv hl) d.lv d.n (Nat.le_refl _) d.body (by rw [(sigL_fields B l).2.2.2]; exact hb)
        simp only [this]
      · cases h
/-- a def of a low level answers as its body does -/
theorem sigL_self (B : Txb) (hB : B.ok = true) (hA : B.Ar) {l k : Nat} {d : DefB} (hd : B.ds[k]? = some d) (ho : B.ov k = none) (hl : d.lv ≤ l) : Self (sigL B (l + 1)) k d.n d.tb d.lv d.body := by
  intro args st
  have e : (sigL B (l + 1)).fn k args st = chk st.length (runBody ⟨sigL B l, none, none, [], d.tb, d.lv⟩ d.n d.body args st) := by
    show (match B.ov k with
      | some f => f args st
      | none => match B.ds[k]? with
        | some d => chk st.length (runBody ⟨sigL B l, none, none, [], d.tb, d.lv⟩ d.n d.body args st)
        | none => .bad) = _
    rw [ho, hd]
  rw [e]
  obtain ⟨ih1, ih2⟩ := sigL_stab B hB hA l
  unfold Txb.ok at hB
  rw [Bool.and_eq_true, List.all_eq_true, List.all_eq_true] at hB
  have hb := hB.1 d (List.mem_of_getElem? hd)
  have S : SEq d.lv (B.lamOk d.lv) (sigL B l) (sigL B (l + 1)) := by
    refine ⟨fun k hk => ih1 k (lvOk_le ((sigL_fields B l).2.2.2 ▸ hk) hl), fun k hk => ih2 k (lamOk_le hk hl), ?_, ?_, ?_, ?_, ?_⟩
    · cases l <;> rfl
    · rw [(sigL_fields B (l + 1)).1, (sigL_fields B l).1]
    · rw [(sigL_fields B (l + 1)).2.1, (sigL_fields B l).2.1]
    · rw [(sigL_fields B (l + 1)).2.2.1, (sigL_fields B l).2.2.1]
    · rw [(sigL_fields B (l + 1)).2.2.2, (sigL_fields B l).2.2.2]
  have := runBody_eq' (C := ⟨sigL B l, none, none, [], d.tb, d.lv⟩) (C' := ⟨sigL B (l + 1), none, none, [], d.tb, d.lv⟩) ⟨S, rfl, rfl, rfl, rfl, rfl, Nat.le_refl _⟩ d.n d.body (by rw [(sigL_fields B l).2.2.2]; exact hb)
  rw [this]
/-- a helper's answers, of a stage -/
theorem sigL_lamE (B : Txb) {l k : Nat} {d : DefH} (hd : B.hs[k]? = some d) (r : Store → Res PV) (st : Store) : (sigL B (l + 1)).lam k r st = runThunk (sigL B l) d.lv d.n d.body r st := by
  show (match B.hs[k]? with
    | some d => runThunk (sigL B l) d.lv d.n d.body r st
    | none => .bad) = _
  rw [hd]
theorem txb_ar {T : Txt} {ds : List DC} {hs : List HC} {ov : Nat → Option (List PV → Store → Res PV)} (hT : T.fns = ds.map fun d => (d.x, d.ps.length, d.lv + 1)) : (txb T ds hs ov).Ar := by
  refine ⟨fun k n l e => ?_⟩
  have e : T.fns[k]?.map (fun p => (p.2.1, p.2.2)) = some (n, l) := e
  rw [hT, List.getElem?_map] at e
  cases q : ds[k]? with
  | none => rw [q] at e; cases e
  | some d =>
    rw [q] at e
    cases e
    refine ⟨d.toB, ?_, rfl⟩
    show (ds.map DC.toB)[k]? = _
    rw [List.getElem?_map, q]; rfl
end MP
set_option Elab.async false
set_option linter.all false
set_option maxRecDepth 100000
set_option maxHeartbeats 0
namespace L_k11
open PySem PySem.Spec PyProof.Rows L2 LamX MP
def top (i : Nat) : Stmt := PySem.Challenge.pw_signlots_k11_whole_rows_of_signs.main.body.getD i (.Pass ⟨0, 0, 0, 0⟩)
abbrev R : PySem.W.OpenRow := PySem.W.OpenLaw.row PySem.Challenge.rw_signlots_k11_whole_rows_of_signs
def mkD (x : Str) (i : Nat) : He.DefD := ⟨(x, none), x, x, defArgs (top i), defBody (top i), defScope (top i), [], []⟩
def fn : List He.DefD := [mkD "is_integer" 8, mkD "is_between" 9, mkD "is_lot" 10, mkD "are_signs" 11, mkD "is_signed" 13, mkD "row_by" 15, mkD "row_of" 16, mkD "is_row" 17, mkD "check_row" 18, mkD "lot_of" 19, mkD "check_rows" 20, mkD "laid_on" 21, mkD "put_on" 22, mkD "parting" 23, mkD "parted" 24, mkD "alike_in" 25, mkD "alike" 26, mkD "_law_hand" 28, mkD "_law_draw" 29, mkD "_law_any" 30, mkD "_law_signed" 31, mkD "_law_deep" 32, mkD "_law_word" 33, mkD "_law_row" 34, mkD "_law_is_right" 35, mkD "_law_are_refused" 36, mkD "law" 37]
def subB : List (List Bool) := [[true, false, false, false, false], [true, true, false, false, false], [true, false, true, false, false], [true, false, false, true, false], [true, false, false, false, true]]
def T : Txt := { fns := [("is_integer", 1, 1), ("is_between", 3, 2), ("is_lot", 2, 3), ("are_signs", 2, 3), ("is_signed", 2, 4), ("row_by", 2, 1), ("row_of", 2, 5), ("is_row", 1, 4), ("check_row", 1, 5), ("lot_of", 1, 6), ("check_rows", 2, 6), ("laid_on", 2, 1), ("put_on", 2, 7), ("parting", 2, 1), ("parted", 2, 7), ("alike_in", 2, 1), ("alike", 2, 7), ("_law_hand", 1, 1), ("_law_draw", 2, 1), ("_law_any", 2, 2), ("_law_signed", 1, 1), ("_law_deep", 1, 2), ("_law_row", 2, 2), ("_law_is_right", 1, 8), ("_law_are_refused", 1, 10), ("law", 1, 11)], lams := [("_law_word", 1)], excs := ["SideError", "NoNumber", "NoSignedLot", "NoRow", "Unlike"], sub := fun c k => (subB.getD c []).getD k false, kints := [("MOST_THINGS", 8)], frees := ["len", "isinstance", "all", "any", "tuple", "list", "int", "sorted", "repr", "abs", "range", "enumerate", "zip", "bool", "ValueError"], tabs := ["_law_are_refused"] }
def tf : List He.Defn := [("_law_are_refused", none)]

abbrev hk : PySem.W.Hook := He.hookX 5 T.fa fn [] tf T.ex
def ob (s : PySem.W.SharedT) : He.AlX := He.obsX 5 T.fa fn [] tf T.ex (HandSHeadRun.getT s)
theorem ob_eq (s : PySem.W.SharedT) : ob s = hk.obs s.abs := He.obsX_eq (HandSHeadRun.getT_eq s)
def names : List Str := ["SideError", "NoNumber", "NoSignedLot", "NoRow", "Unlike", "MOST_THINGS", "is_integer", "is_between", "is_lot", "are_signs", "is_signed", "row_by", "row_of", "is_row", "check_row", "lot_of", "check_rows", "laid_on", "put_on", "parting", "parted", "alike_in", "alike", "_law_hand", "_law_draw", "_law_any", "_law_signed", "_law_deep", "_law_word", "_law_row", "_law_is_right", "_law_are_refused"]
theorem run (w : World) : HandSHeadRun.RunEq R (PySem.W.view R.prog [37]) hk ob 3000 names w := by
  intro os
  kernel_rfl
end L_k11
set_option Elab.async false
set_option linter.all false
set_option maxRecDepth 100000
set_option maxHeartbeats 0
namespace L_k11
open PySem PySem.Spec PyProof.Rows L2 LamX MP
def b_is_integer : List MP.St := [(.ret (.and (.blt .isinst [(.var 0), (.lit (.ty "int"))]) (.not (.blt .isinst [(.var 0), (.lit (.ty "bool"))]))))]
theorem c_is_integer : (cSs (T.tb 0) true none (defScope (top 8)) ["thing"] 60 (defBody (top 8))).map (·.1) = some b_is_integer := by kernel_rfl
theorem s_is_integer : FnScope ["thing"] ["thing"] (defScope (top 8)) := ⟨rfl, rfl, rfl, by decide +kernel, rfl, by decide +kernel, by decide +kernel⟩
theorem bd_is_integer (kV doc pm : Value) (an : Option Addr) (cdv ct : Value) (us : List Value) (hl : us.length = 1) : bindArgs (PySem.W.fnOf "is_integer" "is_integer" (defArgs (top 8)) (defBody (top 8)) (defScope (top 8)) .none kV doc pm an cdv ct) ⟨us, []⟩ = pure ((["thing"] : List Str).zip us) := match us, hl with | [_], _ => rfl
def b_is_between : List MP.St := [(.ret (.and (.call 0 [(.var 0)]) (.chain .LtE .LtE (.var 1) (.var 0) (.var 2))))]
theorem c_is_between : (cSs (T.tb 1) true none (defScope (top 9)) ["thing", "low", "high"] 60 (defBody (top 9))).map (·.1) = some b_is_between := by kernel_rfl
theorem s_is_between : FnScope ["thing", "low", "high"] ["thing", "low", "high"] (defScope (top 9)) := ⟨rfl, rfl, rfl, by decide +kernel, rfl, by decide +kernel, by decide +kernel⟩
theorem bd_is_between (kV doc pm : Value) (an : Option Addr) (cdv ct : Value) (us : List Value) (hl : us.length = 3) : bindArgs (PySem.W.fnOf "is_between" "is_between" (defArgs (top 9)) (defBody (top 9)) (defScope (top 9)) .none kV doc pm an cdv ct) ⟨us, []⟩ = pure ((["thing", "low", "high"] : List Str).zip us) := match us, hl with | [_, _, _], _ => rfl
def b_is_lot : List MP.St := [(.ife (.or (.not (.blt .isinst [(.var 1), (.lit (.ty "tuple"))])) (.not (.blt1 .all (.lc [2] (.call 1 [(.var 2), (.lit (.int 0)), (.bin .Sub (.var 0) (.lit (.int 1)))]) (.nm 2) (.ex (.var 1)) [])))) [(.ret (.lit (.bl false)))] []), (.ret (.blt1 .all (.lc [3] (.cmp .Lt (.idx (.var 1) (.var 3)) (.idx (.var 1) (.bin .Add (.var 3) (.lit (.int 1))))) (.nm 3) (.range1 (.bin .Sub (.blt .len [(.var 1)]) (.lit (.int 1)))) [])))]
theorem c_is_lot : (cSs (T.tb 2) true none (defScope (top 10)) ["limit", "thing", "one", "at"] 60 (defBody (top 10))).map (·.1) = some b_is_lot := by kernel_rfl
theorem s_is_lot : FnScope ["limit", "thing", "one", "at"] ["limit", "thing"] (defScope (top 10)) := ⟨rfl, rfl, rfl, by decide +kernel, rfl, by decide +kernel, by decide +kernel⟩
theorem bd_is_lot (kV doc pm : Value) (an : Option Addr) (cdv ct : Value) (us : List Value) (hl : us.length = 2) : bindArgs (PySem.W.fnOf "is_lot" "is_lot" (defArgs (top 10)) (defBody (top 10)) (defScope (top 10)) .none kV doc pm an cdv ct) ⟨us, []⟩ = pure ((["limit", "thing"] : List Str).zip us) := match us, hl with | [_, _], _ => rfl
def b_are_signs : List MP.St := [(.ret (.and (.blt .isinst [(.var 1), (.lit (.ty "tuple"))]) (.and (.cmp .Eq (.blt .len [(.var 1)]) (.var 0)) (.blt1 .all (.lc [2] (.call 1 [(.var 2), (.neg (.lit (.int 1))), (.lit (.int 1))]) (.nm 2) (.ex (.var 1)) [])))))]
theorem c_are_signs : (cSs (T.tb 2) true none (defScope (top 11)) ["many", "thing", "one"] 60 (defBody (top 11))).map (·.1) = some b_are_signs := by kernel_rfl
theorem s_are_signs : FnScope ["many", "thing", "one"] ["many", "thing"] (defScope (top 11)) := ⟨rfl, rfl, rfl, by decide +kernel, rfl, by decide +kernel, by decide +kernel⟩
theorem bd_are_signs (kV doc pm : Value) (an : Option Addr) (cdv ct : Value) (us : List Value) (hl : us.length = 2) : bindArgs (PySem.W.fnOf "are_signs" "are_signs" (defArgs (top 11)) (defBody (top 11)) (defScope (top 11)) .none kV doc pm an cdv ct) ⟨us, []⟩ = pure ((["many", "thing"] : List Str).zip us) := match us, hl with | [_, _], _ => rfl
def b_is_signed : List MP.St := [(.ife (.or (.not (.blt .isinst [(.var 1), (.lit (.ty "tuple"))])) (.or (.cmp .NotEq (.blt .len [(.var 1)]) (.lit (.int 2))) (.not (.blt1 .all (.lc [2] (.call 2 [(.var 0), (.var 2)]) (.nm 2) (.ex (.var 1)) []))))) [(.ret (.lit (.bl false)))] []), (.ret (.and (.cmp .Gt (.bin .Add (.blt .len [(.idx (.var 1) (.lit (.int 0)))]) (.blt .len [(.idx (.var 1) (.lit (.int 1)))])) (.lit (.int 0))) (.not (.blt1 .any (.lc [3] (.cmp .In (.var 3) (.idx (.var 1) (.lit (.int 1)))) (.nm 3) (.ex (.idx (.var 1) (.lit (.int 0)))) [])))))]
theorem c_is_signed : (cSs (T.tb 3) true none (defScope (top 13)) ["many", "thing", "lot", "one"] 60 (defBody (top 13))).map (·.1) = some b_is_signed := by kernel_rfl
theorem s_is_signed : FnScope ["many", "thing", "lot", "one"] ["many", "thing"] (defScope (top 13)) := ⟨rfl, rfl, rfl, by decide +kernel, rfl, by decide +kernel, by decide +kernel⟩
theorem bd_is_signed (kV doc pm : Value) (an : Option Addr) (cdv ct : Value) (us : List Value) (hl : us.length = 2) : bindArgs (PySem.W.fnOf "is_signed" "is_signed" (defArgs (top 13)) (defBody (top 13)) (defScope (top 13)) .none kV doc pm an cdv ct) ⟨us, []⟩ = pure ((["many", "thing"] : List Str).zip us) := match us, hl with | [_, _], _ => rfl
def b_row_by : List MP.St := [(.ret (.blt1 .tuple (.lc [2] (.bin .Sub (.blt .int [(.cmp .In (.var 2) (.idx (.var 1) (.lit (.int 0))))]) (.blt .int [(.cmp .In (.var 2) (.idx (.var 1) (.lit (.int 1))))])) (.nm 2) (.range1 (.var 0)) [])))]
theorem c_row_by : (cSs (T.tb 0) true none (defScope (top 15)) ["many", "lot", "thing"] 60 (defBody (top 15))).map (·.1) = some b_row_by := by kernel_rfl
theorem s_row_by : FnScope ["many", "lot", "thing"] ["many", "lot"] (defScope (top 15)) := ⟨rfl, rfl, rfl, by decide +kernel, rfl, by decide +kernel, by decide +kernel⟩
theorem bd_row_by (kV doc pm : Value) (an : Option Addr) (cdv ct : Value) (us : List Value) (hl : us.length = 2) : bindArgs (PySem.W.fnOf "row_by" "row_by" (defArgs (top 15)) (defBody (top 15)) (defScope (top 15)) .none kV doc pm an cdv ct) ⟨us, []⟩ = pure ((["many", "lot"] : List Str).zip us) := match us, hl with | [_, _], _ => rfl
def b_row_of : List MP.St := [(.ife (.not (.call 1 [(.var 0), (.lit (.int 1)), (.lit (.int 8))])) [(.raise 1 [])] []), (.ife (.not (.call 4 [(.var 0), (.var 1)])) [(.raise 2 [])] []), (.ret (.call 5 [(.var 0), (.var 1)]))]
theorem c_row_of : (cSs (T.tb 4) true none (defScope (top 16)) ["many", "lot"] 60 (defBody (top 16))).map (·.1) = some b_row_of := by kernel_rfl
theorem s_row_of : FnScope ["many", "lot"] ["many", "lot"] (defScope (top 16)) := ⟨rfl, rfl, rfl, by decide +kernel, rfl, by decide +kernel, by decide +kernel⟩
theorem bd_row_of (kV doc pm : Value) (an : Option Addr) (cdv ct : Value) (us : List Value) (hl : us.length = 2) : bindArgs (PySem.W.fnOf "row_of" "row_of" (defArgs (top 16)) (defBody (top 16)) (defScope (top 16)) .none kV doc pm an cdv ct) ⟨us, []⟩ = pure ((["many", "lot"] : List Str).zip us) := match us, hl with | [_, _], _ => rfl
def b_is_row : List MP.St := [(.ret (.and (.blt .isinst [(.var 0), (.lit (.ty "tuple"))]) (.and (.chain .LtE .LtE (.lit (.int 1)) (.blt .len [(.var 0)]) (.lit (.int 8))) (.call 3 [(.blt .len [(.var 0)]), (.var 0)]))))]
theorem c_is_row : (cSs (T.tb 3) true none (defScope (top 17)) ["thing"] 60 (defBody (top 17))).map (·.1) = some b_is_row := by kernel_rfl
theorem s_is_row : FnScope ["thing"] ["thing"] (defScope (top 17)) := ⟨rfl, rfl, rfl, by decide +kernel, rfl, by decide +kernel, by decide +kernel⟩
theorem bd_is_row (kV doc pm : Value) (an : Option Addr) (cdv ct : Value) (us : List Value) (hl : us.length = 1) : bindArgs (PySem.W.fnOf "is_row" "is_row" (defArgs (top 17)) (defBody (top 17)) (defScope (top 17)) .none kV doc pm an cdv ct) ⟨us, []⟩ = pure ((["thing"] : List Str).zip us) := match us, hl with | [_], _ => rfl
def b_check_row : List MP.St := [(.ife (.not (.call 7 [(.var 0)])) [(.raise 3 [])] [])]
theorem c_check_row : (cSs (T.tb 4) true none (defScope (top 18)) ["thing"] 60 (defBody (top 18))).map (·.1) = some b_check_row := by kernel_rfl
theorem s_check_row : FnScope ["thing"] ["thing"] (defScope (top 18)) := ⟨rfl, rfl, rfl, by decide +kernel, rfl, by decide +kernel, by decide +kernel⟩
theorem bd_check_row (kV doc pm : Value) (an : Option Addr) (cdv ct : Value) (us : List Value) (hl : us.length = 1) : bindArgs (PySem.W.fnOf "check_row" "check_row" (defArgs (top 18)) (defBody (top 18)) (defScope (top 18)) .none kV doc pm an cdv ct) ⟨us, []⟩ = pure ((["thing"] : List Str).zip us) := match us, hl with | [_], _ => rfl
def b_lot_of : List MP.St := [(.expr (.call 8 [(.var 0)])), (.asg (.nm 1) (.blt1 .tuple (.lc [2, 3] (.var 2) (.tup [(.nm 2), (.nm 3)]) (.enum (.var 0)) [(.cmp .Eq (.var 3) (.lit (.int 1)))]))), (.ret (.tup [(.var 1), (.blt1 .tuple (.lc [2, 3] (.var 2) (.tup [(.nm 2), (.nm 3)]) (.enum (.var 0)) [(.cmp .Eq (.var 3) (.neg (.lit (.int 1))))]))]))]
theorem c_lot_of : (cSs (T.tb 5) true none (defScope (top 19)) ["row", "plus", "thing", "sign"] 60 (defBody (top 19))).map (·.1) = some b_lot_of := by kernel_rfl
theorem s_lot_of : FnScope ["row", "plus", "thing", "sign"] ["row"] (defScope (top 19)) := ⟨rfl, rfl, rfl, by decide +kernel, rfl, by decide +kernel, by decide +kernel⟩
theorem bd_lot_of (kV doc pm : Value) (an : Option Addr) (cdv ct : Value) (us : List Value) (hl : us.length = 1) : bindArgs (PySem.W.fnOf "lot_of" "lot_of" (defArgs (top 19)) (defBody (top 19)) (defScope (top 19)) .none kV doc pm an cdv ct) ⟨us, []⟩ = pure ((["row"] : List Str).zip us) := match us, hl with | [_], _ => rfl
def b_check_rows : List MP.St := [(.expr (.call 8 [(.var 0)])), (.expr (.call 8 [(.var 1)])), (.ife (.cmp .NotEq (.blt .len [(.var 0)]) (.blt .len [(.var 1)])) [(.raise 4 [])] [])]
theorem c_check_rows : (cSs (T.tb 5) true none (defScope (top 20)) ["one", "other"] 60 (defBody (top 20))).map (·.1) = some b_check_rows := by kernel_rfl
theorem s_check_rows : FnScope ["one", "other"] ["one", "other"] (defScope (top 20)) := ⟨rfl, rfl, rfl, by decide +kernel, rfl, by decide +kernel, by decide +kernel⟩
theorem bd_check_rows (kV doc pm : Value) (an : Option Addr) (cdv ct : Value) (us : List Value) (hl : us.length = 2) : bindArgs (PySem.W.fnOf "check_rows" "check_rows" (defArgs (top 20)) (defBody (top 20)) (defScope (top 20)) .none kV doc pm an cdv ct) ⟨us, []⟩ = pure ((["one", "other"] : List Str).zip us) := match us, hl with | [_, _], _ => rfl
def b_laid_on : List MP.St := [(.ret (.blt1 .tuple (.lc [2, 3] (.ife (.cmp .NotEq (.var 2) (.lit (.int 0))) (.var 2) (.var 3)) (.tup [(.nm 2), (.nm 3)]) (.zip (.var 0) (.var 1)) [])))]
theorem c_laid_on : (cSs (T.tb 0) true none (defScope (top 21)) ["one", "other", "first", "last"] 60 (defBody (top 21))).map (·.1) = some b_laid_on := by kernel_rfl
theorem s_laid_on : FnScope ["one", "other", "first", "last"] ["one", "other"] (defScope (top 21)) := ⟨rfl, rfl, rfl, by decide +kernel, rfl, by decide +kernel, by decide +kernel⟩
theorem bd_laid_on (kV doc pm : Value) (an : Option Addr) (cdv ct : Value) (us : List Value) (hl : us.length = 2) : bindArgs (PySem.W.fnOf "laid_on" "laid_on" (defArgs (top 21)) (defBody (top 21)) (defScope (top 21)) .none kV doc pm an cdv ct) ⟨us, []⟩ = pure ((["one", "other"] : List Str).zip us) := match us, hl with | [_, _], _ => rfl
def b_put_on : List MP.St := [(.expr (.call 10 [(.var 0), (.var 1)])), (.ret (.call 11 [(.var 0), (.var 1)]))]
theorem c_put_on : (cSs (T.tb 6) true none (defScope (top 22)) ["one", "other"] 60 (defBody (top 22))).map (·.1) = some b_put_on := by kernel_rfl
theorem s_put_on : FnScope ["one", "other"] ["one", "other"] (defScope (top 22)) := ⟨rfl, rfl, rfl, by decide +kernel, rfl, by decide +kernel, by decide +kernel⟩
theorem bd_put_on (kV doc pm : Value) (an : Option Addr) (cdv ct : Value) (us : List Value) (hl : us.length = 2) : bindArgs (PySem.W.fnOf "put_on" "put_on" (defArgs (top 22)) (defBody (top 22)) (defScope (top 22)) .none kV doc pm an cdv ct) ⟨us, []⟩ = pure ((["one", "other"] : List Str).zip us) := match us, hl with | [_, _], _ => rfl
def b_parting : List MP.St := [(.ret (.blt1 .tuple (.lc [2, 3, 4] (.var 2) (.tup [(.nm 2), (.tup [(.nm 3), (.nm 4)])]) (.enumz (.var 0) (.var 1)) [(.cmp .Eq (.bin .Mult (.var 3) (.var 4)) (.neg (.lit (.int 1))))])))]
theorem c_parting : (cSs (T.tb 0) true none (defScope (top 23)) ["one", "other", "thing", "first", "last"] 60 (defBody (top 23))).map (·.1) = some b_parting := by kernel_rfl
theorem s_parting : FnScope ["one", "other", "thing", "first", "last"] ["one", "other"] (defScope (top 23)) := ⟨rfl, rfl, rfl, by decide +kernel, rfl, by decide +kernel, by decide +kernel⟩
theorem bd_parting (kV doc pm : Value) (an : Option Addr) (cdv ct : Value) (us : List Value) (hl : us.length = 2) : bindArgs (PySem.W.fnOf "parting" "parting" (defArgs (top 23)) (defBody (top 23)) (defScope (top 23)) .none kV doc pm an cdv ct) ⟨us, []⟩ = pure ((["one", "other"] : List Str).zip us) := match us, hl with | [_, _], _ => rfl
def b_parted : List MP.St := [(.expr (.call 10 [(.var 0), (.var 1)])), (.ret (.call 13 [(.var 0), (.var 1)]))]
theorem c_parted : (cSs (T.tb 6) true none (defScope (top 24)) ["one", "other"] 60 (defBody (top 24))).map (·.1) = some b_parted := by kernel_rfl
theorem s_parted : FnScope ["one", "other"] ["one", "other"] (defScope (top 24)) := ⟨rfl, rfl, rfl, by decide +kernel, rfl, by decide +kernel, by decide +kernel⟩
theorem bd_parted (kV doc pm : Value) (an : Option Addr) (cdv ct : Value) (us : List Value) (hl : us.length = 2) : bindArgs (PySem.W.fnOf "parted" "parted" (defArgs (top 24)) (defBody (top 24)) (defScope (top 24)) .none kV doc pm an cdv ct) ⟨us, []⟩ = pure ((["one", "other"] : List Str).zip us) := match us, hl with | [_, _], _ => rfl
def b_alike_in : List MP.St := [(.ret (.blt1 .tuple (.lc [2, 3, 4] (.var 2) (.tup [(.nm 2), (.tup [(.nm 3), (.nm 4)])]) (.enumz (.var 0) (.var 1)) [(.cmp .Eq (.bin .Mult (.var 3) (.var 4)) (.lit (.int 1)))])))]
theorem c_alike_in : (cSs (T.tb 0) true none (defScope (top 25)) ["one", "other", "thing", "first", "last"] 60 (defBody (top 25))).map (·.1) = some b_alike_in := by kernel_rfl
theorem s_alike_in : FnScope ["one", "other", "thing", "first", "last"] ["one", "other"] (defScope (top 25)) := ⟨rfl, rfl, rfl, by decide +kernel, rfl, by decide +kernel, by decide +kernel⟩
theorem bd_alike_in (kV doc pm : Value) (an : Option Addr) (cdv ct : Value) (us : List Value) (hl : us.length = 2) : bindArgs (PySem.W.fnOf "alike_in" "alike_in" (defArgs (top 25)) (defBody (top 25)) (defScope (top 25)) .none kV doc pm an cdv ct) ⟨us, []⟩ = pure ((["one", "other"] : List Str).zip us) := match us, hl with | [_, _], _ => rfl
def b_alike : List MP.St := [(.expr (.call 10 [(.var 0), (.var 1)])), (.ret (.call 15 [(.var 0), (.var 1)]))]
theorem c_alike : (cSs (T.tb 6) true none (defScope (top 26)) ["one", "other"] 60 (defBody (top 26))).map (·.1) = some b_alike := by kernel_rfl
theorem s_alike : FnScope ["one", "other"] ["one", "other"] (defScope (top 26)) := ⟨rfl, rfl, rfl, by decide +kernel, rfl, by decide +kernel, by decide +kernel⟩
theorem bd_alike (kV doc pm : Value) (an : Option Addr) (cdv ct : Value) (us : List Value) (hl : us.length = 2) : bindArgs (PySem.W.fnOf "alike" "alike" (defArgs (top 26)) (defBody (top 26)) (defScope (top 26)) .none kV doc pm an cdv ct) ⟨us, []⟩ = pure ((["one", "other"] : List Str).zip us) := match us, hl with | [_, _], _ => rfl
def b__law_hand : List MP.St := [(.asg (.nm 1) (.lx (.lc [2] (.blt .abs [(.blt .int [(.var 2)])]) (.nm 2) (.ex (.slice (.var 0) none (some (.lit (.int 63))))) []))), (.ret (.lx (.lst [(.var 1), (.lit (.int 0)), (.lit (.int 0)), (.bin .Add (.lit (.int 3911)) (.bin .Mult (.lit (.int 7)) (.blt .len [(.var 1)]))), (.lit (.int 0))])))]
theorem c__law_hand : (cSs (T.tb 0) true none (defScope (top 28)) ["script", "numbers_in", "cell"] 60 (defBody (top 28))).map (·.1) = some b__law_hand := by kernel_rfl
theorem s__law_hand : FnScope ["script", "numbers_in", "cell"] ["script"] (defScope (top 28)) := ⟨rfl, rfl, rfl, by decide +kernel, rfl, by decide +kernel, by decide +kernel⟩
theorem bd__law_hand (kV doc pm : Value) (an : Option Addr) (cdv ct : Value) (us : List Value) (hl : us.length = 1) : bindArgs (PySem.W.fnOf "_law_hand" "_law_hand" (defArgs (top 28)) (defBody (top 28)) (defScope (top 28)) .none kV doc pm an cdv ct) ⟨us, []⟩ = pure ((["script"] : List Str).zip us) := match us, hl with | [_], _ => rfl
def b__law_draw : List MP.St := [(.ife (.and (.cmp .Eq (.idx (.var 0) (.lit (.int 2))) (.lit (.int 0))) (.cmp .Lt (.idx (.var 0) (.lit (.int 1))) (.blt .len [(.idx (.var 0) (.lit (.int 0)))]))) [(.asg (.nm 2) (.idx (.idx (.var 0) (.lit (.int 0))) (.idx (.var 0) (.lit (.int 1))))), (.set (.var 0) (.lit (.int 1)) (.bin .Add (.idx (.var 0) (.lit (.int 1))) (.lit (.int 1)))), (.set (.var 0) (.lit (.int 3)) (.bin .Mod (.blt .int [(.bin .Add (.bin .Add (.bin .Mult (.idx (.var 0) (.lit (.int 3))) (.lit (.int 69621))) (.bin .Mult (.var 2) (.lit (.int 40692)))) (.lit (.int 31)))]) (.lit (.int 2147483629)))), (.ife (.cmp .GtE (.var 2) (.bin .Pow (.lit (.int 10)) (.lit (.int 18)))) [(.set (.var 0) (.lit (.int 2)) (.var 2))] [])] []), (.ife (.cmp .Gt (.idx (.var 0) (.lit (.int 2))) (.lit (.int 0))) [(.asg (.nm 3) (.bin .Mod (.blt .int [(.idx (.var 0) (.lit (.int 2)))]) (.var 1))), (.set (.var 0) (.lit (.int 2)) (.bin .FloorDiv (.idx (.var 0) (.lit (.int 2))) (.var 1))), (.ret (.var 3))] []), (.set (.var 0) (.lit (.int 4)) (.bin .Add (.idx (.var 0) (.lit (.int 4))) (.lit (.int 1)))), (.asg (.nm 4) (.bin .Mod (.blt .int [(.bin .Mult (.blt .int [(.bin .Add (.idx (.var 0) (.lit (.int 3))) (.bin .Mult (.lit (.int 7919)) (.idx (.var 0) (.lit (.int 4)))))]) (.lit (.int 48271)))]) (.lit (.int 2147483647)))), (.asg (.nm 4) (.bin .Mod (.blt .int [(.bin .Mult (.var 4) (.bin .Add (.bin .FloorDiv (.var 4) (.lit (.int 1009))) (.lit (.int 69621))))]) (.lit (.int 2147483647)))), (.asg (.nm 4) (.bin .Mod (.blt .int [(.bin .Mult (.var 4) (.bin .Add (.bin .FloorDiv (.var 4) (.lit (.int 2003))) (.lit (.int 40014))))]) (.lit (.int 2147483563)))), (.ret (.bin .Mod (.blt .int [(.bin .FloorDiv (.var 4) (.lit (.int 16)))]) (.var 1)))]
theorem c__law_draw : (cSs (T.tb 0) true none (defScope (top 29)) ["hand", "limit", "cell", "digit", "number"] 60 (defBody (top 29))).map (·.1) = some b__law_draw := by kernel_rfl
theorem s__law_draw : FnScope ["hand", "limit", "cell", "digit", "number"] ["hand", "limit"] (defScope (top 29)) := ⟨rfl, rfl, rfl, by decide +kernel, rfl, by decide +kernel, by decide +kernel⟩
theorem bd__law_draw (kV doc pm : Value) (an : Option Addr) (cdv ct : Value) (us : List Value) (hl : us.length = 2) : bindArgs (PySem.W.fnOf "_law_draw" "_law_draw" (defArgs (top 29)) (defBody (top 29)) (defScope (top 29)) .none kV doc pm an cdv ct) ⟨us, []⟩ = pure ((["hand", "limit"] : List Str).zip us) := match us, hl with | [_, _], _ => rfl
def b__law_any : List MP.St := [(.ret (.idx (.var 1) (.call 18 [(.var 0), (.blt .len [(.var 1)])])))]
theorem c__law_any : (cSs (T.tb 1) true none (defScope (top 30)) ["hand", "some"] 60 (defBody (top 30))).map (·.1) = some b__law_any := by kernel_rfl
theorem s__law_any : FnScope ["hand", "some"] ["hand", "some"] (defScope (top 30)) := ⟨rfl, rfl, rfl, by decide +kernel, rfl, by decide +kernel, by decide +kernel⟩
theorem bd__law_any (kV doc pm : Value) (an : Option Addr) (cdv ct : Value) (us : List Value) (hl : us.length = 2) : bindArgs (PySem.W.fnOf "_law_any" "_law_any" (defArgs (top 30)) (defBody (top 30)) (defScope (top 30)) .none kV doc pm an cdv ct) ⟨us, []⟩ = pure ((["hand", "some"] : List Str).zip us) := match us, hl with | [_, _], _ => rfl
def b__law_signed : List MP.St := [(.asg (.nm 1) (.blt1 .tuple (.sorted (.lc [2, 3] (.var 2) (.tup [(.nm 2), (.nm 3)]) (.ex (.var 0)) [(.cmp .Eq (.var 3) (.lit (.int 1)))])))), (.ret (.tup [(.var 1), (.blt1 .tuple (.sorted (.lc [2, 3] (.var 2) (.tup [(.nm 2), (.nm 3)]) (.ex (.var 0)) [(.cmp .Eq (.var 3) (.neg (.lit (.int 1))))])))]))]
theorem c__law_signed : (cSs (T.tb 0) true none (defScope (top 31)) ["pairs", "plus", "one", "sign"] 60 (defBody (top 31))).map (·.1) = some b__law_signed := by kernel_rfl
theorem s__law_signed : FnScope ["pairs", "plus", "one", "sign"] ["pairs"] (defScope (top 31)) := ⟨rfl, rfl, rfl, by decide +kernel, rfl, by decide +kernel, by decide +kernel⟩
theorem bd__law_signed (kV doc pm : Value) (an : Option Addr) (cdv ct : Value) (us : List Value) (hl : us.length = 1) : bindArgs (PySem.W.fnOf "_law_signed" "_law_signed" (defArgs (top 31)) (defBody (top 31)) (defScope (top 31)) .none kV doc pm an cdv ct) ⟨us, []⟩ = pure ((["pairs"] : List Str).zip us) := match us, hl with | [_], _ => rfl
def b__law_deep : List MP.St := [(.asg (.nm 1) (.lit .non)), (.for_ (.nm 2) (.range1 (.bin .Add (.lit (.int 1)) (.call 18 [(.var 0), (.lit (.int 40))]))) [(.asg (.nm 1) (.ife (.cmp .Eq (.call 18 [(.var 0), (.lit (.int 2))]) (.lit (.int 0))) (.tup [(.var 1)]) (.lx (.lst [(.var 1)]))))]), (.ret (.var 1))]
theorem c__law_deep : (cSs (T.tb 1) true none (defScope (top 32)) ["hand", "thing", "lap"] 60 (defBody (top 32))).map (·.1) = some b__law_deep := by kernel_rfl
theorem s__law_deep : FnScope ["hand", "thing", "lap"] ["hand"] (defScope (top 32)) := ⟨rfl, rfl, rfl, by decide +kernel, rfl, by decide +kernel, by decide +kernel⟩
theorem bd__law_deep (kV doc pm : Value) (an : Option Addr) (cdv ct : Value) (us : List Value) (hl : us.length = 1) : bindArgs (PySem.W.fnOf "_law_deep" "_law_deep" (defArgs (top 32)) (defBody (top 32)) (defScope (top 32)) .none kV doc pm an cdv ct) ⟨us, []⟩ = pure ((["hand"] : List Str).zip us) := match us, hl with | [_], _ => rfl
def b__law_word : List MP.St := [(.asg (.nm 1) (.lit (.str "let"))), (.try_ [(.expr .thunk)] (.cls 0) (some 2) [(.asg (.nm 3) (.lx (.lst [(.isErr 2 (.cls 1)), (.isErr 2 (.cls 3)), (.isErr 2 (.cls 2))]))), (.expr (.meth .append (.var 3) [(.isErr 2 (.cls 4))])), (.asg (.nm 1) (.ife (.cmp .Eq (.meth .count (.var 3) [(.lit (.bl true))]) (.lit (.int 1))) (.idx (.lx (.lst [(.lit (.str "number")), (.lit (.str "row")), (.lit (.str "lot")), (.lit (.str "unlike"))])) (.meth .index (.var 3) [(.lit (.bl true))])) (.lit (.str "other")))), (.asg (.nm 1) (.ife (.isErr 2 (.ty "ValueError")) (.var 1) (.lit (.str "other"))))]), (.ret (.var 1))]
theorem c__law_word : (cSs (T.tb 0) true none (defScope (top 33)) ["call", "word", "error", "flags"] 60 (defBody (top 33))).map (·.1) = some b__law_word := by kernel_rfl
theorem s__law_word : FnScope ["call", "word", "error", "flags"] ["call"] (defScope (top 33)) := ⟨rfl, rfl, rfl, by decide +kernel, rfl, by decide +kernel, by decide +kernel⟩
theorem bd__law_word (kV doc pm : Value) (an : Option Addr) (cdv ct : Value) (us : List Value) (hl : us.length = 1) : bindArgs (PySem.W.fnOf "_law_word" "_law_word" (defArgs (top 33)) (defBody (top 33)) (defScope (top 33)) .none kV doc pm an cdv ct) ⟨us, []⟩ = pure ((["call"] : List Str).zip us) := match us, hl with | [_], _ => rfl
def b__law_row : List MP.St := [(.ret (.blt1 .tuple (.lc [2] (.bin .Sub (.call 18 [(.var 0), (.lit (.int 3))]) (.lit (.int 1))) (.nm 2) (.range1 (.var 1)) [])))]
theorem c__law_row : (cSs (T.tb 1) true none (defScope (top 34)) ["hand", "many", "one"] 60 (defBody (top 34))).map (·.1) = some b__law_row := by kernel_rfl
theorem s__law_row : FnScope ["hand", "many", "one"] ["hand", "many"] (defScope (top 34)) := ⟨rfl, rfl, rfl, by decide +kernel, rfl, by decide +kernel, by decide +kernel⟩
theorem bd__law_row (kV doc pm : Value) (an : Option Addr) (cdv ct : Value) (us : List Value) (hl : us.length = 2) : bindArgs (PySem.W.fnOf "_law_row" "_law_row" (defArgs (top 34)) (defBody (top 34)) (defScope (top 34)) .none kV doc pm an cdv ct) ⟨us, []⟩ = pure ((["hand", "many"] : List Str).zip us) := match us, hl with | [_, _], _ => rfl
def b__law_is_right : List MP.St := [(.asg (.nm 1) (.bin .Add (.lit (.int 1)) (.call 18 [(.var 0), (.lit (.int 8))]))), (.asg (.tup [(.nm 2), (.nm 3), (.nm 4)]) (.tup [(.call 22 [(.var 0), (.var 1)]), (.call 22 [(.var 0), (.var 1)]), (.call 22 [(.var 0), (.var 1)])])), (.asg (.nm 5) (.call 20 [(.lx (.lc [6, 7] (.tup [(.var 6), (.var 7)]) (.tup [(.nm 6), (.nm 7)]) (.enum (.var 2)) []))])), (.ife (.or (.cmp .NotEq (.blt .repr [(.call 9 [(.var 2)])]) (.blt .repr [(.var 5)])) (.and (.blt1 .any (.lc [7] (.cmp .NotEq (.var 7) (.lit (.int 0))) (.nm 7) (.ex (.var 2)) [])) (.cmp .NotEq (.blt .repr [(.call 6 [(.var 1), (.var 5)])]) (.blt .repr [(.var 2)])))) [(.ret (.lit (.bl false)))] []), (.asg (.nm 8) (.lx (.lst [(.blt1 .tuple (.lc [9, 10] (.ife (.cmp .NotEq (.var 9) (.lit (.int 0))) (.var 9) (.var 10)) (.tup [(.nm 9), (.nm 10)]) (.zip (.var 2) (.var 3)) []))]))), (.expr (.meth .append (.var 8) [(.blt1 .tuple (.lc [6] (.var 6) (.nm 6) (.range1 (.var 1)) [(.cmp .Eq (.bin .Mult (.idx (.var 2) (.var 6)) (.idx (.var 3) (.var 6))) (.neg (.lit (.int 1))))]))])), (.expr (.meth .append (.var 8) [(.blt1 .tuple (.lc [6] (.var 6) (.nm 6) (.range1 (.var 1)) [(.cmp .Eq (.bin .Mult (.idx (.var 2) (.var 6)) (.idx (.var 3) (.var 6))) (.lit (.int 1)))]))])), (.ife (.cmp .NotEq (.blt .repr [(.lx (.lst [(.call 12 [(.var 2), (.var 3)]), (.call 14 [(.var 2), (.var 3)]), (.call 16 [(.var 2), (.var 3)])]))]) (.blt .repr [(.var 8)])) [(.ret (.lit (.bl false)))] []), (.ife (.or (.cmp .NotEq (.call 12 [(.call 12 [(.var 2), (.var 3)]), (.var 4)]) (.call 12 [(.var 2), (.call 12 [(.var 3), (.var 4)])])) (.cmp .NotEq (.call 12 [(.var 2), (.var 2)]) (.var 2))) [(.ret (.lit (.bl false)))] []), (.ret (.cmp .Eq (.lx (.lst [(.call 14 [(.var 3), (.var 2)]), (.call 16 [(.var 3), (.var 2)])])) (.slice (.var 8) (some (.lit (.int 1))) none)))]
theorem c__law_is_right : (cSs (T.tb 7) true none (defScope (top 35)) ["hand", "many", "one", "other", "third", "lot", "thing", "sign", "due", "mine", "its"] 60 (defBody (top 35))).map (·.1) = some b__law_is_right := by kernel_rfl
theorem s__law_is_right : FnScope ["hand", "many", "one", "other", "third", "lot", "thing", "sign", "due", "mine", "its"] ["hand"] (defScope (top 35)) := ⟨rfl, rfl, rfl, by decide +kernel, rfl, by decide +kernel, by decide +kernel⟩
theorem bd__law_is_right (kV doc pm : Value) (an : Option Addr) (cdv ct : Value) (us : List Value) (hl : us.length = 1) : bindArgs (PySem.W.fnOf "_law_is_right" "_law_is_right" (defArgs (top 35)) (defBody (top 35)) (defScope (top 35)) .none kV doc pm an cdv ct) ⟨us, []⟩ = pure ((["hand"] : List Str).zip us) := match us, hl with | [_], _ => rfl
def b__law_are_refused : List MP.St := [(.asg (.nm 1) (.bin .Add (.lit (.int 1)) (.call 18 [(.var 0), (.lit (.int 8))]))), (.asg (.nm 2) (.call 22 [(.var 0), (.var 1)])), (.asg (.nm 3) (.lx (.lst [(.lit .non), (.tup []), (.blt .list [(.var 2)]), (.bin .Add (.slice (.var 2) none (some (.neg (.lit (.int 1))))) (.tup [(.lit (.int 2))])), (.bin .Add (.slice (.var 2) none (some (.neg (.lit (.int 1))))) (.tup [(.lit (.bl true))])), (.bin .Add (.slice (.var 2) none (some (.neg (.lit (.int 1))))) (.tup [(.lit .non)])), (.bin .Mult (.tup [(.lit (.int 0))]) (.lit (.int 9))), (.lit (.int 0)), (.lit (.str "0")), .emp]))), (.asg (.nm 3) (.call 19 [(.var 0), (.bin .Add (.var 3) (.lx (.lst [(.call 21 [(.var 0)])])))])), (.asg (.nm 4) (.call 19 [(.var 0), (.lx (.lst [(.lit (.int 0)), (.lit (.int 9)), (.neg (.lit (.int 1))), (.lit .non), (.lit (.bl true)), (.lit (.str "1")), (.tup [(.lit (.int 1))]), (.call 21 [(.var 0)])]))])), (.asg (.nm 5) (.lx (.lst [(.lit .non), (.tup [(.tup []), (.tup [])]), (.tup [(.tup [(.lit (.int 0))]), (.tup [(.lit (.int 0))])]), (.tup [(.tup [(.var 1)]), (.tup [])]), (.lx (.lst [(.tup [(.lit (.int 0))]), (.tup [])])), (.tup [(.tup [(.lit (.int 0))])]), (.tup [(.tup [(.lit (.int 0)), (.lit (.int 0))]), (.tup [])]), (.tup [(.tup [(.lit (.bl true))]), (.tup [])]), (.lit (.int 0)), .emp]))), (.asg (.tup [(.nm 6), (.nm 7)]) (.tup [(.call 19 [(.var 0), (.bin .Add (.var 5) (.lx (.lst [(.call 21 [(.var 0)])])))]), (.ife (.cmp .Lt (.var 1) (.lit (.int 8))) (.bin .Add (.var 2) (.tup [(.lit (.int 0))])) (.slice (.var 2) none (some (.neg (.lit (.int 1))))))])), (.asg (.nm 8) (.lx (.lst [(.lam 0 (.call 6 [(.var 4), (.var 6)]))]))), (.expr (.meth .append (.var 8) [(.lam 0 (.call 6 [(.var 1), (.var 6)]))])), (.expr (.meth .append (.var 8) [(.lam 0 (.call 9 [(.var 3)]))])), (.for_ (.nm 9) (.ex (.tup [(.lit (.fn 12)), (.lit (.fn 14)), (.lit (.fn 16))])) [(.expr (.meth .append (.var 8) [(.lam 0 (.callV 9 [(.var 3), (.lit .non)]))])), (.expr (.meth .append (.var 8) [(.lam 0 (.callV 9 [(.var 2), (.var 3)]))])), (.expr (.meth .append (.var 8) [(.lam 0 (.callV 9 [(.var 2), (.var 7)]))]))]), (.ret (.cmp .Eq (.var 8) (.lx (.cat (.lst [(.lit (.str "number")), (.lit (.str "lot")), (.lit (.str "row"))]) (.of (.bin .Mult (.lx (.lst [(.lit (.str "row")), (.lit (.str "row")), (.lit (.str "unlike"))])) (.lit (.int 3))))))))]
theorem c__law_are_refused : (cSs (T.tb 9) true none (defScope (top 36)) ["hand", "many", "row", "bad", "none", "lots", "lot", "longer", "words", "ask"] 60 (defBody (top 36))).map (·.1) = some b__law_are_refused := by kernel_rfl
theorem s__law_are_refused : FnScope ["hand", "many", "row", "bad", "none", "lots", "lot", "longer", "words", "ask"] ["hand"] (defScope (top 36)) := ⟨rfl, rfl, rfl, by decide +kernel, rfl, by decide +kernel, by decide +kernel⟩
theorem bd__law_are_refused (kV doc pm : Value) (an : Option Addr) (cdv ct : Value) (us : List Value) (hl : us.length = 1) : bindArgs (PySem.W.fnOf "_law_are_refused" "_law_are_refused" (defArgs (top 36)) (defBody (top 36)) (defScope (top 36)) .none kV doc pm an cdv ct) ⟨us, []⟩ = pure ((["hand"] : List Str).zip us) := match us, hl with | [_], _ => rfl
def b_law : List MP.St := [(.asg (.nm 1) (.call 17 [(.var 0)])), (.ife (.or (.cmp .NotEq (.call 6 [(.lit (.int 3)), (.tup [(.tup [(.lit (.int 0))]), (.tup [(.lit (.int 2))])])]) (.tup [(.lit (.int 1)), (.lit (.int 0)), (.neg (.lit (.int 1)))])) (.cmp .NotEq (.call 9 [(.tup [(.lit (.int 0)), (.lit (.int 0))])]) (.tup [(.tup []), (.tup [])]))) [(.ret (.lit (.bl false)))] []), (.ife (.cmp .NotEq (.call 12 [(.tup [(.lit (.int 1)), (.lit (.int 0)), (.lit (.int 0))]), (.tup [(.neg (.lit (.int 1))), (.neg (.lit (.int 1))), (.lit (.int 0))])]) (.tup [(.lit (.int 1)), (.neg (.lit (.int 1))), (.lit (.int 0))])) [(.ret (.lit (.bl false)))] []), (.ife (.or (.cmp .NotEq (.call 14 [(.tup [(.lit (.int 1)), (.neg (.lit (.int 1))), (.lit (.int 0))]), (.tup [(.neg (.lit (.int 1))), (.neg (.lit (.int 1))), (.lit (.int 1))])]) (.tup [(.lit (.int 0))])) (.cmp .NotEq (.call 16 [(.tup [(.lit (.int 1)), (.neg (.lit (.int 1))), (.lit (.int 0))]), (.tup [(.neg (.lit (.int 1))), (.neg (.lit (.int 1))), (.lit (.int 1))])]) (.tup [(.lit (.int 1))]))) [(.ret (.lit (.bl false)))] []), (.ret (.blt1 .all (.lc [2] (.and (.call 23 [(.var 1)]) (.call 24 [(.var 1)])) (.nm 2) (.range1 (.lit (.int 6))) [])))]
theorem c_law : (cSs (T.tb 10) true none (defScope (top 37)) ["script", "hand", "lap"] 60 (defBody (top 37))).map (·.1) = some b_law := by kernel_rfl
theorem s_law : FnScope ["script", "hand", "lap"] ["script"] (defScope (top 37)) := ⟨rfl, rfl, rfl, by decide +kernel, rfl, by decide +kernel, by decide +kernel⟩
theorem bd_law (kV doc pm : Value) (an : Option Addr) (cdv ct : Value) (us : List Value) (hl : us.length = 1) : bindArgs (PySem.W.fnOf "law" "law" (defArgs (top 37)) (defBody (top 37)) (defScope (top 37)) .none kV doc pm an cdv ct) ⟨us, []⟩ = pure ((["script"] : List Str).zip us) := match us, hl with | [_], _ => rfl
end L_k11
set_option Elab.async false
set_option linter.all false
set_option maxRecDepth 100000
set_option maxHeartbeats 4000000
namespace L_k11
open PySem MP
def f0 (args : List PV) (st : Store) : Res PV := match args with
  | [v] => if kindOk st v = true then .ok (.bl (isIntV v)) st else .bad
  | _ => .bad
def btw (v : PV) (lo hi : Int) : Bool := match v with
  | .int i => decide (lo ≤ i) && decide (i ≤ hi)
  | _ => false
def f1 (args : List PV) (st : Store) : Res PV := match args with
  | [v, .int lo, .int hi] => if kindOk st v = true then .ok (.bl (btw v lo hi)) st else .bad
  | _ => .bad
def ltP : PV → PV → Bool
  | .int a, .int b => decide (a < b)
  | _, _ => false
def incr : List PV → Bool
  | [] => true
  | [_] => true
  | a :: b :: r => ltP a b && incr (b :: r)
def isLot (limit : Int) (v : PV) : Bool := match v with
  | .tup xs => xs.all (fun x => btw x 0 (limit - 1)) && incr xs
  | _ => false
def okAll (st : Store) (v : PV) : Bool := match v with
  | .tup xs => xs.all (kindOk st) && decide (xs.length ≤ szl)
  | v => kindOk st v
def f2 (args : List PV) (st : Store) : Res PV := match args with
  | [.int limit, v] => if okAll st v = true then .ok (.bl (isLot limit v)) st else .bad
  | _ => .bad
def areSigns (many : Int) (v : PV) : Bool := match v with
  | .tup xs => decide ((xs.length : Int) = many) && xs.all (fun x => btw x (-1) 1)
  | _ => false
def f3 (args : List PV) (st : Store) : Res PV := match args with
  | [.int many, v] => if okAll st v = true then .ok (.bl (areSigns many v)) st else .bad
  | _ => .bad
section
variable {S : Sig} {st : Store} {args : List PV}
theorem g0 (hl : args.length = 1) (hw : Store.wf st) (hb : PV.bels st.length args = true) : GC st.length (runBody ⟨S, none, none, [], false, 0⟩ 1 b_is_integer args st) (f0 args st) := by
  match args, hl with
  | [v], _ =>
    refine GC.if_ fun hk => GC.same hw rfl ?_
    simp [runBody_eq, b_is_integer, exs_cons, exs_nil, exS, ev, evs, bltOp, inst_ty hk]
    cases v <;> simp [isIntV, isBlV]
/-- the lambda's -/
theorem g1 (h0 : S.fn 0 = f0) (hl : args.length = 3) (hw : Store.wf st) (hb : PV.bels st.length args = true) : GC st.length (runBody ⟨S, none, none, [], false, 1⟩ 3 b_is_between args st) (f1 args st) := by
  match args, hl with
  | [v, lo, hi], _ =>
    cases lo <;> cases hi <;> try trivial
    rename_i lo hi
    refine GC.if_ fun hk => GC.same hw rfl ?_
    simp [runBody_eq, b_is_between, exs_cons, exs_nil, exS, ev, evs, h0, f0, hk, cmpOp]
    cases v <;> simp [isIntV, btw, cmpOp]
    split <;> simp_all
    omega
theorem okAll_kind {v : PV} (h : okAll st v = true) : kindOk st v = true := by
  cases v <;> first | exact h | rfl
/-- the pairs along a list -/
theorem incr_range : ∀ (xs : List PV), (∀ x ∈ xs, isIntV x = true) → incr xs = (List.range (xs.length - 1)).all fun i => ltP (xs.getD i .non) (xs.getD (i + 1) .non)
  | [], _ => rfl
  | [_], _ => rfl
  | a :: b :: r, h => by
    have ih := incr_range (b :: r) fun x hx => h x (List.mem_cons_of_mem _ hx)
    simp only [incr, ih, List.length_cons, Nat.add_sub_cancel, List.range_succ_eq_map, List.all_cons, List.all_map]
    rfl
theorem btw_int {v : PV} {lo hi : Int} (h : btw v lo hi = true) : ∃ i, v = .int i := by
  cases v <;> first | (simp [btw] at h; done) | exact ⟨_, rfl⟩
theorem g2 (h1 : S.fn 1 = f1) (hl : args.length = 2) (hw : Store.wf st) (hb : PV.bels st.length args = true) : GC st.length (runBody ⟨S, none, none, [], false, 2⟩ 4 b_is_lot args st) (f2 args st) := by
  match args, hl with
  | [lim, v], _ =>
    cases lim <;> try trivial
    rename_i lim _
    refine GC.if_ fun ho => GC.same hw rfl ?_
    have hk := okAll_kind ho
    simp [runBody_eq, b_is_lot, exs_cons, exs_nil, exS, ev, evs, bltOp, inst_ty hk, evL, evI]
    cases v <;> simp [isTupV, isLot]
    rename_i xs _
    simp only [okAll, Bool.and_eq_true, decide_eq_true_eq, List.all_eq_true] at ho
    try simp only [srcOf, ofOpt_some, Res.bind_ok]
    rw [lcLoop_pure (g := fun x => some (.bl (btw x 0 (lim - 1)))) rfl xs [] (fun x hx => by
      simp [Tg.put, wipe, evT, ev, evs, h1, f1, binOp, Cn.bare, ho.1 x hx])]
    simp only [Res.bind_ok, List.nil_append, filterMap_some', blt1, allB_map, ofOptB_some]
    by_cases ha : (xs.all fun x => btw x 0 (lim - 1)) = true
    · simp only [ha, if_true, Res.bind_ok, Bool.not_true, Bool.false_eq_true, if_false, Res.fl_ok, Fl.seq_nx]
      have hi : ∀ x ∈ xs, isIntV x = true := fun x hx => by
        obtain ⟨i, rfl⟩ := btw_int (List.all_eq_true.mp ha x hx)
        rfl
      simp [binOp, evT, Cn.bare]
      have e1 : ((xs.length : Int) - 1).toNat = xs.length - 1 := by omega
      have e2 : (szl : Int) = 16777216 := by decide
      have hz := ho.2
      rw [if_pos (by omega)]
      rw [lcLoop_pure (g := fun x => match x with | .int i => some (.bl (ltP (xs.getD i.toNat .non) (xs.getD (i.toNat + 1) .non))) | _ => none) rfl _ [] (fun x hx => by
        obtain ⟨i, hi', rfl⟩ := List.mem_map.mp hx
        have hlt : i < xs.length - 1 := List.mem_range.mp hi'
        have hA := hi xs[i] (List.getElem_mem (by omega))
        have hB := hi xs[i + 1] (List.getElem_mem (by omega))
        have q1 : ixOf xs.length ((i : Int)) = some i := ixOf_nat (by omega)
        have q2 : ixOf xs.length ((i : Int) + 1) = some (i + 1) := by have := ixOf_nat (n := xs.length) (i := i + 1) (by omega); simpa using this
        simp [Tg.put, wipe, ev, idxOp, seqOf, q1, q2, List.getElem?_eq_getElem (show i < xs.length by omega), List.getElem?_eq_getElem (show i + 1 < xs.length by omega), List.getD_eq_getElem?_getD, cmpOp]
        revert hA hB
        cases xs[i] <;> cases xs[i + 1] <;> simp [isIntV, ltP, cmpOp])]
      simp only [Res.bind_ok, List.nil_append]
      have e3 : (rangeP 0 (xs.length - 1)).filterMap (fun x => match x with | .int i => some (PV.bl (ltP (xs.getD i.toNat .non) (xs.getD (i.toNat + 1) .non))) | _ => none) = (List.range (xs.length - 1)).map fun i => PV.bl (ltP (xs.getD i .non) (xs.getD (i + 1) .non)) := by
        unfold rangeP
        rw [List.filterMap_map]
        rw [← filterMap_some']
        congr 1
        funext i
        simp
      rw [e3, allB_map]
      simp [incr_range xs hi]
    · simp [ha]
theorem g3 (h1 : S.fn 1 = f1) (hl : args.length = 2) (hw : Store.wf st) (hb : PV.bels st.length args = true) : GC st.length (runBody ⟨S, none, none, [], false, 2⟩ 3 b_are_signs args st) (f3 args st) := by
  match args, hl with
  | [many, v], _ =>
    cases many <;> try trivial
    rename_i many _
    refine GC.if_ fun ho => GC.same hw rfl ?_
    have hk := okAll_kind ho
    simp [runBody_eq, b_are_signs, exs_cons, exs_nil, exS, ev, evs, bltOp, inst_ty hk, evL, evI]
    cases v <;> simp [isTupV, areSigns]
    rename_i xs _
    simp only [okAll, Bool.and_eq_true, decide_eq_true_eq, List.all_eq_true] at ho
    try simp only [cmpOp, eqPV, ofOptB_some, Res.bind_ok, ifB_bl, srcOf, ofOpt_some]
    rw [lcLoop_pure (g := fun x => some (.bl (btw x (-1) 1))) rfl xs [] (fun x hx => by
      simp [Tg.put, wipe, evT, ev, evs, h1, f1, negOp, Cn.bare, ho.1 x hx])]
    simp only [Res.bind_ok, List.nil_append, filterMap_some', blt1, allB_map, ofOptB_some]
    split <;> simp_all
end
def okAll2 (st : Store) (v : PV) : Bool := match v with
  | .tup xs => xs.all (okAll st) && decide (xs.length ≤ szl)
  | v => kindOk st v
def elems : PV → List PV
  | .tup xs => xs
  | _ => []
def intOf : PV → Int
  | .int i => i
  | _ => 0
def isSigned (many : Int) (v : PV) : Bool := match v with
  | .tup [a, b] => isLot many a && isLot many b && decide (0 < ((elems a).length : Int) + (elems b).length) && !(((elems a).map intOf).any fun i => decide (i ∈ (elems b).map intOf))
  | _ => false
def f4 (args : List PV) (st : Store) : Res PV := match args with
  | [.int many, v] => if okAll2 st v = true then .ok (.bl (isSigned many v)) st else .bad
  | _ => .bad
section
variable {S : Sig} {st : Store} {args : List PV}
theorem isLot_ints {many : Int} {v : PV} (h : isLot many v = true) : ∃ ns, v = tI ns := by
  cases v <;> first | (simp [isLot] at h; done) | skip
  rename_i xs
  simp only [isLot, Bool.and_eq_true, List.all_eq_true] at h
  obtain ⟨ns, rfl⟩ := ints_of_all fun x hx => by obtain ⟨i, rfl⟩ := btw_int (h.1 x hx); rfl
  exact ⟨ns, rfl⟩
theorem okAll2_kind {v : PV} (h : okAll2 st v = true) : kindOk st v = true := by
  cases v <;> first | exact h | rfl
theorem map_intOf (ns : List Int) : (ns.map PV.int).map intOf = ns := by
  rw [List.map_map]; exact List.map_id'' (fun x => rfl) ns
theorem isSigned_pair {many : Int} {na nb : List Int} (h1 : isLot many (tI na) = true) (h2 : isLot many (tI nb) = true) : isSigned many (.tup [tI na, tI nb]) = (decide (0 < (na.length : Int) + nb.length) && !(na.any fun i => decide (i ∈ nb))) := by
  simp only [isSigned, h1, h2, elems, map_intOf, List.length_map, Bool.true_and]
theorem isSigned_len {many : Int} {xs : List PV} (h : ¬ (xs.length : Int) = 2) : isSigned many (.tup xs) = false := by
  unfold isSigned
  split
  · rename_i e; cases e; simp at h
  · rfl
theorem g4 (h2 : S.fn 2 = f2) (hl : args.length = 2) (hw : Store.wf st) (hb : PV.bels st.length args = true) : GC st.length (runBody ⟨S, none, none, [], false, 3⟩ 4 b_is_signed args st) (f4 args st) := by
  match args, hl with
  | [many, v], _ =>
    cases many <;> try trivial
    rename_i many _
    refine GC.if_ fun ho => GC.same hw rfl ?_
    have hk := okAll2_kind ho
    simp [runBody_eq, b_is_signed, exs_cons, exs_nil, exS, ev, evs, bltOp, inst_ty hk, evL, evI]
    cases v <;> simp [isTupV] <;> try (simp [isSigned]; done)
    rename_i xs _
    simp only [okAll2, Bool.and_eq_true, decide_eq_true_eq, List.all_eq_true] at ho
    try simp only [srcOf, ofOpt_some, Res.bind_ok]
    rw [lcLoop_pure (g := fun x => some (.bl (isLot many x))) rfl xs [] (fun x hx => by
      simp [Tg.put, wipe, evT, ev, evs, h2, f2, Cn.bare, ho.1 x hx])]
    simp only [Res.bind_ok, List.nil_append, filterMap_some', blt1, allB_map, ofOptB_some]
    by_cases hlen : (xs.length : Int) = 2
    · match xs, hlen with
      | [a, b], _ =>
        simp only [List.all_cons, List.all_nil, Bool.and_true]
        by_cases hab : (isLot many a && isLot many b) = true
        · rw [Bool.and_eq_true] at hab
          obtain ⟨na, rfl⟩ := isLot_ints hab.1
          obtain ⟨nb, rfl⟩ := isLot_ints hab.2
          have i0 : ixOf 2 0 = some 0 := rfl
          have i1 : ixOf 2 1 = some 1 := rfl
          rw [isSigned_pair hab.1 hab.2]
          simp [hab.1, hab.2, idxOp, seqOf, i0, i1]
          rw [lcLoop_pure (g := fun x => some (.bl (decide (intOf x ∈ nb)))) rfl (na.map PV.int) [] (fun x hx => by
            obtain ⟨i, _, rfl⟩ := List.mem_map.mp hx
            simp [Tg.put, wipe, evT, ev, evs, Cn.bare, idxOp, seqOf, i1, cmpOp]
            exact Iff.rfl)]
          simp only [Res.bind_ok, List.nil_append, filterMap_some', anyB_map, ofOptB_some, Res.fl_ok, Fl.res_rt]
          have e3 : (na.map PV.int).any (fun x => decide (intOf x ∈ nb)) = na.any fun i => decide (i ∈ nb) := by rw [List.any_map]; rfl
          rw [e3]
          by_cases hp : 0 < (na.length : Int) + nb.length
          · simp [hp]
          · simp [hp]
        · have e : (isLot many a && isLot many b) = false := by simpa using hab
          have e2 : isSigned many (.tup [a, b]) = false := by simp [isSigned, e]
          simp [e, e2]
    · simp [hlen, isSigned_len hlen]
end
end L_k11
set_option Elab.async false
set_option linter.all false
set_option maxRecDepth 100000
set_option maxHeartbeats 4000000
namespace L_k11
open PySem MP
/-- the ways of the package, at the evaluator -/
structure Good (S : Sig) : Prop where
  e0 : S.fn 0 = f0
  e1 : S.fn 1 = f1
  e2 : S.fn 2 = f2
  e3 : S.fn 3 = f3
  e4 : S.fn 4 = f4
  e5 : Self S 5 3 false 0 b_row_by
  e6 : Self S 6 2 false 4 b_row_of
  e7 : Self S 7 1 false 3 b_is_row
  e8 : Self S 8 1 false 4 b_check_row
  e9 : Self S 9 4 false 5 b_lot_of
  e10 : Self S 10 2 false 5 b_check_rows
  e11 : Self S 11 4 false 0 b_laid_on
  e12 : Self S 12 2 false 6 b_put_on
  e13 : Self S 13 5 false 0 b_parting
  e14 : Self S 14 2 false 6 b_parted
  e15 : Self S 15 5 false 0 b_alike_in
  e16 : Self S 16 2 false 6 b_alike
  i1 : S.ise 1 = true
  i2 : S.ise 2 = true
  i3 : S.ise 3 = true
  i4 : S.ise 4 = true
section
variable {S : Sig} {st : Store} (G : Good S)
include G
def rowBy (m : Int) (a b : List Int) : List Int := (List.range m.toNat).map fun (i : Nat) => (if (i : Int) ∈ a then 1 else 0) - (if (i : Int) ∈ b then 1 else 0)
theorem l5 (hw : Store.wf st) {m : Int} (h0 : 0 ≤ m) (h8 : m ≤ 8) (a b : List Int) : S.fn 5 [.int m, .tup [tI a, tI b]] st = .ok (tI (rowBy m a b)) st := by
  refine G.e5.ok ?_ (Nat.le_refl _) hw (bel_tI _)
  have i0 : ixOf 2 0 = some 0 := rfl
  have i1 : ixOf 2 1 = some 1 := rfl
  have e2 : (szl : Int) = 16777216 := by decide
  simp [runBody_eq, b_row_by, exs_cons, exs_nil, exS, ev, evs, evL, evI]
  rw [if_pos (by omega)]
  unfold rangeP
  rw [lcLoop_map (g := fun (i : Nat) => some (.int ((if (i : Int) ∈ a then 1 else 0) - (if (i : Int) ∈ b then 1 else 0)))) rfl _ [] (fun i hi => by
    simp [Tg.put, wipe, evT, ev, evs, Cn.bare, idxOp, seqOf, i0, i1, cmpOp, bltOp])]
  rw [filterMap_int]
  simp [rowBy, blt1]
def isRow : PV → Bool
  | .tup xs => decide (1 ≤ xs.length) && decide (xs.length ≤ 8) && xs.all fun x => btw x (-1) 1
  | _ => false
theorem l7 (hw : Store.wf st) {v : PV} (ho : okAll st v = true) : S.fn 7 [v] st = .ok (.bl (isRow v)) st := by
  refine G.e7.ok ?_ (Nat.le_refl _) hw rfl
  have hk := okAll_kind ho
  simp [runBody_eq, b_is_row, exs_cons, exs_nil, exS, ev, evs, bltOp, inst_ty hk, G.e3]
  cases v <;> simp [isTupV, isRow]
  rename_i xs
  simp [cmpOp, f3, ho, areSigns]
  by_cases h1 : 1 ≤ xs.length
  · by_cases h2 : xs.length ≤ 8
    · have : (1 : Int) ≤ xs.length := by omega
      have : (xs.length : Int) ≤ 8 := by omega
      simp [*]
    · have : (1 : Int) ≤ xs.length := by omega
      have : ¬ (xs.length : Int) ≤ 8 := by omega
      simp [*]
  · have : ¬ (1 : Int) ≤ xs.length := by omega
    simp [*]
theorem l8 (hw : Store.wf st) {v : PV} (ho : okAll st v = true) (h : isRow v = true) : S.fn 8 [v] st = .ok .non st := by
  refine G.e8.ok ?_ (Nat.le_refl _) hw rfl
  simp [runBody_eq, b_check_row, exs_cons, exs_nil, exS, ev, evs, l7 G hw ho, h]
theorem l8' (hw : Store.wf st) {v : PV} (ho : okAll st v = true) (h : isRow v = false) : S.fn 8 [v] st = .exc 3 [] st := by
  refine G.e8.exc ?_ (Nat.le_refl _) hw
  simp [runBody_eq, b_check_row, exs_cons, exs_nil, exS, ev, evs, l7 G hw ho, h, G.i3]
theorem l6n (hw : Store.wf st) {v w : PV} (hk : kindOk st v = true) (h : btw v 1 8 = false) : S.fn 6 [v, w] st = .exc 1 [] st := by
  refine G.e6.exc ?_ (Nat.le_refl _) hw
  simp [runBody_eq, b_row_of, exs_cons, exs_nil, exS, ev, evs, G.e1, f1, hk, h, G.i1]
theorem l6l (hw : Store.wf st) {m : Int} {w : PV} (hm : btw (.int m) 1 8 = true) (ho : okAll2 st w = true) (h : isSigned m w = false) : S.fn 6 [.int m, w] st = .exc 2 [] st := by
  refine G.e6.exc ?_ (Nat.le_refl _) hw
  have hk : kindOk st (.int m) = true := rfl
  simp [runBody_eq, b_row_of, exs_cons, exs_nil, exS, ev, evs, G.e1, f1, hk, hm, G.i2, G.e4, f4, ho, h]
theorem l6 (hw : Store.wf st) {m : Int} {a b : List Int} (hm : btw (.int m) 1 8 = true) (ho : okAll2 st (.tup [tI a, tI b]) = true) (h : isSigned m (.tup [tI a, tI b]) = true) : S.fn 6 [.int m, .tup [tI a, tI b]] st = .ok (tI (rowBy m a b)) st := by
  refine G.e6.ok ?_ (Nat.le_refl _) hw (bel_tI _)
  have hk : kindOk st (.int m) = true := rfl
  have hm' := hm
  simp only [btw, Bool.and_eq_true, decide_eq_true_eq] at hm'
  have e := l5 G hw (m := m) (by omega) hm'.2 a b
  simp [runBody_eq, b_row_of, exs_cons, exs_nil, exS, ev, evs, G.e1, f1, hk, hm, G.e4, f4, ho, h]
  exact congrArg (fun r => Fl.res (Fl.seq (Res.fl r _ _) _)) e
end
end L_k11
set_option Elab.async false
set_option linter.all false
set_option maxRecDepth 100000
set_option maxHeartbeats 4000000
namespace L_k11
open PySem MP
def at_ (s : Int) (r : List Int) : List Int := (r.zipIdx.filter fun p => decide (p.1 = s)).map fun p => (p.2 : Int)
def lotOf (r : List Int) : PV := .tup [tI (at_ 1 r), tI (at_ (-1) r)]
def laid (a b : List Int) : List Int := (a.zip b).map fun p => if p.1 = 0 then p.2 else p.1
def pars (s : Int) (a b : List Int) : List Int := ((a.zip b).zipIdx.filter fun p => decide (p.1.1 * p.1.2 = s)).map fun p => (p.2 : Int)
section
variable {S : Sig} {st : Store} (G : Good S)
include G
theorem l9' (hw : Store.wf st) {v : PV} (ho : okAll st v = true) (h : isRow v = false) : S.fn 9 [v] st = .exc 3 [] st := by
  refine G.e9.exc ?_ (Nat.le_refl _) hw
  simp [runBody_eq, b_lot_of, exs_cons, exs_nil, exS, ev, evs, l8' G hw ho h]
theorem l9 (hw : Store.wf st) {r : List Int} (ho : okAll st (tI r) = true) (h : isRow (tI r) = true) : S.fn 9 [tI r] st = .ok (lotOf r) st := by
  refine G.e9.ok ?_ (Nat.le_refl _) hw (by simp [lotOf, PV.bel, PV.bels])
  have e := l8 G hw ho h
  simp [runBody_eq, b_lot_of, exs_cons, exs_nil, exS, ev, evs, evL, evI, e, enumFrom_map]
  rw [lcLoop_map (g := fun (p : Int × Nat) => if (decide (p.1 = 1)) = true then some (.int (p.2 : Int)) else none) rfl _ [] (fun p hp => by
    simp [wipe, evT, ev, evs, Cn.bare]
    split <;> rfl)]
  simp only [filterMap_if, Res.bind_ok, List.nil_append, blt1]
  simp [exs_cons, exs_nil, exS, ev, evs, evL, evI, enumFrom_map]
  rw [lcLoop_map (g := fun (p : Int × Nat) => if (decide (p.1 = -1)) = true then some (.int (p.2 : Int)) else none) rfl _ [] (fun p hp => by
    simp [wipe, evT, ev, evs, Cn.bare]
    split <;> rfl)]
  simp only [filterMap_if, Res.bind_ok, List.nil_append, blt1]
  simp [lotOf, at_]
theorem l10a (hw : Store.wf st) {v w : PV} (ho : okAll st v = true) (h : isRow v = false) : S.fn 10 [v, w] st = .exc 3 [] st := by
  refine G.e10.exc ?_ (Nat.le_refl _) hw
  simp [runBody_eq, b_check_rows, exs_cons, exs_nil, exS, ev, evs, l8' G hw ho h]
theorem l10b (hw : Store.wf st) {v w : PV} (ho : okAll st v = true) (h : isRow v = true) (ho' : okAll st w = true) (h' : isRow w = false) : S.fn 10 [v, w] st = .exc 3 [] st := by
  refine G.e10.exc ?_ (Nat.le_refl _) hw
  simp [runBody_eq, b_check_rows, exs_cons, exs_nil, exS, ev, evs, l8 G hw ho h, l8' G hw ho' h']
theorem l10c (hw : Store.wf st) {a b : List PV} (ho : okAll st (.tup a) = true) (h : isRow (.tup a) = true) (ho' : okAll st (.tup b) = true) (h' : isRow (.tup b) = true) (hl : a.length ≠ b.length) : S.fn 10 [.tup a, .tup b] st = .exc 4 [] st := by
  refine G.e10.exc ?_ (Nat.le_refl _) hw
  have : ¬ (a.length : Int) = b.length := by omega
  simp [runBody_eq, b_check_rows, exs_cons, exs_nil, exS, ev, evs, l8 G hw ho h, l8 G hw ho' h', bltOp, this, G.i4]
theorem l10 (hw : Store.wf st) {a b : List PV} (ho : okAll st (.tup a) = true) (h : isRow (.tup a) = true) (ho' : okAll st (.tup b) = true) (h' : isRow (.tup b) = true) (hl : a.length = b.length) : S.fn 10 [.tup a, .tup b] st = .ok .non st := by
  refine G.e10.ok ?_ (Nat.le_refl _) hw rfl
  simp [runBody_eq, b_check_rows, exs_cons, exs_nil, exS, ev, evs, l8 G hw ho h, l8 G hw ho' h', bltOp, hl]
theorem l11 (hw : Store.wf st) (a b : List Int) : S.fn 11 [tI a, tI b] st = .ok (tI (laid a b)) st := by
  refine G.e11.ok ?_ (Nat.le_refl _) hw (bel_tI _)
  simp [runBody_eq, b_laid_on, exs_cons, exs_nil, exS, ev, evs, evL, evI, zipP_map]
  rw [lcLoop_map (g := fun (p : Int × Int) => some (.int (if p.1 = 0 then p.2 else p.1))) rfl _ [] (fun p hp => by
    simp [wipe, evT, ev, evs, Cn.bare]
    split <;> simp_all)]
  simp [filterMap_int, blt1, laid]
theorem l13 (hw : Store.wf st) {a b : List Int} (ha : ∀ x ∈ a, smallI x) (hb : ∀ x ∈ b, smallI x) : S.fn 13 [tI a, tI b] st = .ok (tI (pars (-1) a b)) st := by
  refine G.e13.ok ?_ (Nat.le_refl _) hw (bel_tI _)
  simp [runBody_eq, b_parting, exs_cons, exs_nil, exS, ev, evs, evL, evI, zipP_map, enumFrom_map]
  rw [lcLoop_map (g := fun (p : (Int × Int) × Nat) => if (decide (p.1.1 * p.1.2 = -1)) = true then some (.int (p.2 : Int)) else none) rfl _ [] (fun p hp => by
    have hm := List.of_mem_zip (List.fst_mem_of_mem_zipIdx hp)
    simp [wipe, evT, ev, evs, Cn.bare, mul_small (ha _ hm.1) (hb _ hm.2)]
    split <;> rfl)]
  simp only [filterMap_if, Res.bind_ok, List.nil_append, blt1]
  simp [pars]
theorem l15 (hw : Store.wf st) {a b : List Int} (ha : ∀ x ∈ a, smallI x) (hb : ∀ x ∈ b, smallI x) : S.fn 15 [tI a, tI b] st = .ok (tI (pars (1) a b)) st := by
  refine G.e15.ok ?_ (Nat.le_refl _) hw (bel_tI _)
  simp [runBody_eq, b_alike_in, exs_cons, exs_nil, exS, ev, evs, evL, evI, zipP_map, enumFrom_map]
  rw [lcLoop_map (g := fun (p : (Int × Int) × Nat) => if (decide (p.1.1 * p.1.2 = 1)) = true then some (.int (p.2 : Int)) else none) rfl _ [] (fun p hp => by
    have hm := List.of_mem_zip (List.fst_mem_of_mem_zipIdx hp)
    simp [wipe, evT, ev, evs, Cn.bare, mul_small (ha _ hm.1) (hb _ hm.2)]
    split <;> rfl)]
  simp only [filterMap_if, Res.bind_ok, List.nil_append, blt1]
  simp [pars]
theorem l12a (hw : Store.wf st) {v w : PV} (ho : okAll st v = true) (h : isRow v = false) : S.fn 12 [v, w] st = .exc 3 [] st := by
  refine G.e12.exc ?_ (Nat.le_refl _) hw
  simp [runBody_eq, b_put_on, exs_cons, exs_nil, exS, ev, evs, l10a G hw ho h]
theorem l12b (hw : Store.wf st) {v w : PV} (ho : okAll st v = true) (h : isRow v = true) (ho' : okAll st w = true) (h' : isRow w = false) : S.fn 12 [v, w] st = .exc 3 [] st := by
  refine G.e12.exc ?_ (Nat.le_refl _) hw
  simp [runBody_eq, b_put_on, exs_cons, exs_nil, exS, ev, evs, l10b G hw ho h ho' h']
theorem l12c (hw : Store.wf st) {a b : List PV} (ho : okAll st (.tup a) = true) (h : isRow (.tup a) = true) (ho' : okAll st (.tup b) = true) (h' : isRow (.tup b) = true) (hl : a.length ≠ b.length) : S.fn 12 [.tup a, .tup b] st = .exc 4 [] st := by
  refine G.e12.exc ?_ (Nat.le_refl _) hw
  simp [runBody_eq, b_put_on, exs_cons, exs_nil, exS, ev, evs, l10c G hw ho h ho' h' hl]
theorem l12 (hw : Store.wf st) {a b : List Int} (ha : ∀ x ∈ a, smallI x) (hb : ∀ x ∈ b, smallI x) (ho : okAll st (tI a) = true) (h : isRow (tI a) = true) (ho' : okAll st (tI b) = true) (h' : isRow (tI b) = true) (hl : a.length = b.length) : S.fn 12 [tI a, tI b] st = .ok (tI (laid a b)) st := by
  refine G.e12.ok ?_ (Nat.le_refl _) hw (bel_tI _)
  have e := l10 G hw ho h ho' h' (by simpa using hl)
  have e2 := l11 G hw a b
  simp [runBody_eq, b_put_on, exs_cons, exs_nil, exS, ev, evs, e, e2]
theorem l14a (hw : Store.wf st) {v w : PV} (ho : okAll st v = true) (h : isRow v = false) : S.fn 14 [v, w] st = .exc 3 [] st := by
  refine G.e14.exc ?_ (Nat.le_refl _) hw
  simp [runBody_eq, b_parted, exs_cons, exs_nil, exS, ev, evs, l10a G hw ho h]
theorem l14b (hw : Store.wf st) {v w : PV} (ho : okAll st v = true) (h : isRow v = true) (ho' : okAll st w = true) (h' : isRow w = false) : S.fn 14 [v, w] st = .exc 3 [] st := by
  refine G.e14.exc ?_ (Nat.le_refl _) hw
  simp [runBody_eq, b_parted, exs_cons, exs_nil, exS, ev, evs, l10b G hw ho h ho' h']
theorem l14c (hw : Store.wf st) {a b : List PV} (ho : okAll st (.tup a) = true) (h : isRow (.tup a) = true) (ho' : okAll st (.tup b) = true) (h' : isRow (.tup b) = true) (hl : a.length ≠ b.length) : S.fn 14 [.tup a, .tup b] st = .exc 4 [] st := by
  refine G.e14.exc ?_ (Nat.le_refl _) hw
  simp [runBody_eq, b_parted, exs_cons, exs_nil, exS, ev, evs, l10c G hw ho h ho' h' hl]
theorem l14 (hw : Store.wf st) {a b : List Int} (ha : ∀ x ∈ a, smallI x) (hb : ∀ x ∈ b, smallI x) (ho : okAll st (tI a) = true) (h : isRow (tI a) = true) (ho' : okAll st (tI b) = true) (h' : isRow (tI b) = true) (hl : a.length = b.length) : S.fn 14 [tI a, tI b] st = .ok (tI (pars (-1) a b)) st := by
  refine G.e14.ok ?_ (Nat.le_refl _) hw (bel_tI _)
  have e := l10 G hw ho h ho' h' (by simpa using hl)
  have e2 := l13 G hw ha hb
  simp [runBody_eq, b_parted, exs_cons, exs_nil, exS, ev, evs, e, e2]
theorem l16a (hw : Store.wf st) {v w : PV} (ho : okAll st v = true) (h : isRow v = false) : S.fn 16 [v, w] st = .exc 3 [] st := by
  refine G.e16.exc ?_ (Nat.le_refl _) hw
  simp [runBody_eq, b_alike, exs_cons, exs_nil, exS, ev, evs, l10a G hw ho h]
theorem l16b (hw : Store.wf st) {v w : PV} (ho : okAll st v = true) (h : isRow v = true) (ho' : okAll st w = true) (h' : isRow w = false) : S.fn 16 [v, w] st = .exc 3 [] st := by
  refine G.e16.exc ?_ (Nat.le_refl _) hw
  simp [runBody_eq, b_alike, exs_cons, exs_nil, exS, ev, evs, l10b G hw ho h ho' h']
theorem l16c (hw : Store.wf st) {a b : List PV} (ho : okAll st (.tup a) = true) (h : isRow (.tup a) = true) (ho' : okAll st (.tup b) = true) (h' : isRow (.tup b) = true) (hl : a.length ≠ b.length) : S.fn 16 [.tup a, .tup b] st = .exc 4 [] st := by
  refine G.e16.exc ?_ (Nat.le_refl _) hw
  simp [runBody_eq, b_alike, exs_cons, exs_nil, exS, ev, evs, l10c G hw ho h ho' h' hl]
theorem l16 (hw : Store.wf st) {a b : List Int} (ha : ∀ x ∈ a, smallI x) (hb : ∀ x ∈ b, smallI x) (ho : okAll st (tI a) = true) (h : isRow (tI a) = true) (ho' : okAll st (tI b) = true) (h' : isRow (tI b) = true) (hl : a.length = b.length) : S.fn 16 [tI a, tI b] st = .ok (tI (pars 1 a b)) st := by
  refine G.e16.ok ?_ (Nat.le_refl _) hw (bel_tI _)
  have e := l10 G hw ho h ho' h' (by simpa using hl)
  have e2 := l15 G hw ha hb
  simp [runBody_eq, b_alike, exs_cons, exs_nil, exS, ev, evs, e, e2]
end
end L_k11
set_option Elab.async false
set_option linter.all false
set_option exponentiation.threshold 2000
set_option maxRecDepth 100000
set_option maxHeartbeats 4000000
namespace L_k11
open PySem MP
structure GoodD (S : Sig) : Prop extends Good S where
  e17 : Self S 17 3 false 0 b__law_hand
  e18 : Self S 18 5 false 0 b__law_draw
  e19 : Self S 19 2 false 1 b__law_any
  e20 : Self S 20 4 false 0 b__law_signed
  e21 : Self S 21 3 false 1 b__law_deep
  e22 : Self S 22 3 false 1 b__law_row
section
variable {S : Sig} {st0 st : Store} {h n : Nat} (G : GoodD S)
include G
theorem drawK : DrawK (.bin .Mult (.var 2) (.lit (.int 40692))) 69621 31 2147483629 7919 48271 2147483647 1009 69621 2147483647 2003 40014 2147483563 16 where
  ce := CeOk.mul (by decide)
  k1 := ⟨by decide, by decide⟩
  m3 := ⟨by decide, by decide⟩
  ka := ⟨by decide, by decide⟩
  kb := ⟨by decide, by decide⟩
  m1 := ⟨by decide, by decide⟩
  d1 := ⟨by decide, by decide⟩
  k5 := ⟨by decide, by decide⟩
  m2 := ⟨by decide, by decide⟩
  d2 := ⟨by decide, by decide⟩
  k6 := ⟨by decide, by decide⟩
  m4 := ⟨by decide, by decide⟩
  d3 := ⟨by decide, by decide⟩
theorem l18 : Draws S 18 := fun H hn hL hL1 => draw_hw (drawK G) (k := 18) (lv := 0) G.e18 H hn hL hL1
/-- a row -/
def RowI (m : Int) (r : List Int) : Prop := (r.length : Int) = m ∧ ∀ x ∈ r, -1 ≤ x ∧ x ≤ 1
theorem l22 (H : HW h st0 st n) (hn : n < 2 ^ 58) {m : Int} (h0 : 0 ≤ m) (h8 : m ≤ 8) : ∃ r st', S.fn 22 [.ref h, .int m] st = .ok (tI r) st' ∧ RowI m r ∧ HW h st0 st' (n + 8) := by
  have e2 : (szl : Int) = 16777216 := by decide
  have hlt := H.fr.len
  obtain ⟨r, st', e, l, q, I⟩ := lcLoop_draw (f := lcF ⟨S, none, none, [], false, 1⟩ [2] (.bin .Sub (.call 18 [(.var 0), (.lit (.int 3))]) (.lit (.int 1))) (.nm 2) [] [some (.ref h), some (.int m), none])
    (I := fun k st' => HW h st st' (n + k)) (Q := fun d => -1 ≤ d ∧ d ≤ 1) (N := 100) (rangeP 0 m.toNat) (fun x _ k st1 hk H1 => by
      obtain ⟨d, st2, e, d0, d1, H2⟩ := l18 G H1 (by omega) (show (0 : Int) < 3 by decide) (by decide)
      refine ⟨d - 1, st2, ?_, ⟨by omega, by omega⟩, H2⟩
      simp [lcF, wipe, Cn.bare, e]) 0 st [] (by simp [rangeP]; omega) H.refl
  have hm : (rangeP 0 m.toNat).length = m.toNat := by simp [rangeP]
  rw [hm] at l I
  refine ⟨r, st', ?_, ⟨by omega, q⟩, H.trans (I.mono (by omega))⟩
  refine G.e22.ok ?_ I.fr.len I.wf (bel_tI _)
  have hm : m ≤ (szl : Int) := by omega
  simp [runBody_eq, b__law_row, hm, e, blt1]
  omega
/-- one of many -/
theorem l19 (H : HW h st0 st n) (hn : n < 2 ^ 58) {i : Nat} {xs : List PV} (hx : st[i]? = some (.lst xs)) (hi : i ≠ h) (h0 : 0 < xs.length) (h1 : xs.length < 1000) : ∃ v st', S.fn 19 [.ref h, .ref i] st = .ok v st' ∧ v ∈ xs ∧ HW h st0 st' (n + 1) := by
  obtain ⟨d, st', e, d0, d1, H2⟩ := l18 G H.refl (by omega) (show (0 : Int) < xs.length by omega) (Int.lt_trans (show (xs.length : Int) < 1000 by omega) (by decide))
  have hlt := lt_of_getElem? hx
  have hx' : st'[i]? = some (.lst xs) := by rw [H2.fr.at_ i hlt hi]; exact hx
  obtain ⟨k, rfl⟩ := Int.eq_ofNat_of_zero_le d0
  have hk : k < xs.length := by omega
  have hix := idx_lst (st := st') hx' (i := (k : Int)) (j := k) (ixOf_nat hk) (List.getElem?_eq_getElem hk)
  refine ⟨xs[k], st', ?_, List.getElem_mem hk, H.trans H2⟩
  have hb : PV.bel st'.length xs[k] = true := bels_mem (wf_lst H2.wf hx') (List.getElem_mem hk)
  refine G.e19.ok ?_ H2.fr.len H2.wf hb
  have hlen : bltOp S .len [.ref i] st = .ok (.int xs.length) st := by simp only [bltOp, hx]
  simp [runBody_eq, b__law_any, hlen, e, hix]
/-- a thing deep in brackets -/
theorem l21 (H : HW h st0 st n) (hn : n < 2 ^ 58) : ∃ v st', S.fn 21 [.ref h] st = .ok v st' ∧ D2 st' v ∧ HW h st0 st' (n + 41) := by
  obtain ⟨d, st1, e1, d0, d1, H1⟩ := l18 G H.refl (by omega) (show (0 : Int) < 40 by decide) (by decide)
  have hlen : (rangeP 0 (1 + d).toNat).length = (1 + d).toNat := by simp [rangeP]
  obtain ⟨ρ', st', e2, l, v, rfl, D, H2⟩ := forLoop_inv (put := putF (.nm 2)) (body := forF ⟨S, none, none, [], false, 1⟩ [(.asg (.nm 1) (.ife (.cmp .Eq (.call 18 [(.var 0), (.lit (.int 2))]) (.lit (.int 0))) (.tup [(.var 1)]) (.lx (.lst [(.var 1)]))))])
    (I := fun k ρ st' => ∃ l v, ρ = [some (.ref h), some v, l] ∧ D2 st' v ∧ HW h st st' (n + 1 + k)) (N := 40) (rangeP 0 (1 + d).toNat) (fun x _ k ρ st2 hk I => by
      obtain ⟨l, v, rfl, D, H2⟩ := I
      obtain ⟨b, st3, e3, b0, b1, H3⟩ := l18 G H2.refl (by omega) (show (0 : Int) < 2 by decide) (by decide)
      have D' := D.hw H3
      by_cases hb : b = 0
      · refine ⟨[some (.ref h), some v, some x], [some (.ref h), some (.tup [v]), some x], st3, by simp [putF], by simp [forF, e3, hb], some x, _, rfl, D'.tup, H2.trans (H3.mono (by omega))⟩
      · refine ⟨[some (.ref h), some v, some x], [some (.ref h), some (.ref st3.length), some x], st3 ++ [.lst [v]], by simp [putF], by simp [forF, e3, hb, newL], some x, _, rfl, D2.new, H2.trans ((H3.push ?_).mono (by omega))⟩
        simp [SO.bel, PV.bels, bel_le (Nat.le_add_right _ 1) v D'.d.bel]) 0 [some (.ref h), some .non, none] st1 (by omega) ⟨none, .non, rfl, D2.non, H1⟩
  refine ⟨v, st', ?_, D, H.trans (H2.mono (by omega))⟩
  refine G.e21.ok ?_ H2.fr.len H2.wf D.d.bel
  have hm : (1 + d) ≤ (szl : Int) := by have e2 : (szl : Int) = 16777216 := by decide
                                        omega
  simp [runBody_eq, b__law_deep, hm, e1, e2]
  omega
/-- the pairs of a row -/
def pairsOf (r : List Int) : List PV := r.zipIdx.map fun p => .tup [.int (p.2 : Int), .int p.1]
omit G in
theorem at_sorted (s : Int) (r : List Int) : (at_ s r).Pairwise (· ≤ ·) := List.Pairwise.imp (fun h => Int.le_of_lt h) (zipIdx_asc (fun p => decide (p.1 = s)) r 0).1
theorem l20 (hw : Store.wf st) {i : Nat} {r : List Int} (hx : st[i]? = some (.lst (pairsOf r))) : S.fn 20 [.ref i] st = .ok (lotOf r) st := by
  refine G.e20.ok ?_ (Nat.le_refl _) hw (by simp [lotOf, PV.bel, PV.bels])
  have hs : srcOf st (.ref i) = some ⟨pairsOf r, [(i, pairsOf r)]⟩ := by simp only [srcOf, hx]
  have hok : Src.ok [(i, pairsOf r)] st = true := by simp [Src.ok, hx]
  have k : ∀ (s : Int) (se : Ex) (a b c d : Option PV), (∀ ρ st, ev ⟨S, none, none, [], false, 0⟩ se ρ st = .ok (.int s) st) → lcLoop [(i, pairsOf r)] (lcF ⟨S, none, none, [], false, 0⟩ [2, 3] (.var 2) (.tup [.nm 2, .nm 3]) [.cmp .Eq (.var 3) se] [a, b, c, d]) (pairsOf r) [] st = .ok ((at_ s r).map .int) st := by
    intro s se a b c d hse
    unfold pairsOf at hok ⊢
    rw [lcLoop_map (g := fun (p : Int × Nat) => if (decide (p.1 = s)) = true then some (.int (p.2 : Int)) else none) hok _ [] (fun p hp => by
      simp [lcF, wipe, Cn.bare, hse]
      split <;> rfl)]
    simp only [filterMap_if, List.nil_append, at_]
  have k1 := k 1 (.lit (.int 1)) (some (.ref i)) none none none (fun ρ st => by simp)
  have k2 := k (-1) (.neg (.lit (.int 1))) (some (.ref i)) (some (tI (at_ 1 r))) none none (fun ρ st => by simp)
  simp [runBody_eq, b__law_signed, hs, k1, sortP_ints (at_sorted 1 r), blt1]
  simp [hs, k2, sortP_ints (at_sorted (-1) r), blt1, lotOf]
/-- the hand at the law's start -/
theorem l17 (ns : List Int) (hl : ns.length ≤ 63) (hb : ∀ x ∈ ns, x.natAbs.log2 ≤ 2000000) : ∃ st', S.fn 17 [.ref 0] [.frz (ns.map .int)] = .ok (.ref 3) st' ∧ HW 3 [.frz (ns.map .int)] st' 0 := by
  have hcut : cutP (ns.map .int) none (some 63) = ns.map .int := by
    simp only [cutP, sIx, List.drop_zero, List.length_map, Nat.sub_zero]
    rw [if_neg (by decide), List.take_of_length_le]
    simp
    omega
  have hlc : lcLoop [(1, ns.map PV.int)] (lcF ⟨S, none, none, [], false, 0⟩ [2] (.blt .abs [(.blt .int [(.var 2)])]) (.nm 2) [] [some (.ref 0), none, none]) (ns.map .int) [] [.frz (ns.map .int), .lst (ns.map .int)] = .ok ((ns.map fun x => (x.natAbs : Int)).map .int) [.frz (ns.map .int), .lst (ns.map .int)] := by
    rw [lcLoop_map (g := fun x => some (.int (x.natAbs : Int))) (by simp [Src.ok]) _ [] (fun x hx => by
      simp [lcF, wipe, Cn.bare, bltOp]
      omega)]
    rw [filterMap_int]
    simp
  have w : Store.wf [SO.frz (ns.map .int), .lst (ns.map .int), .lst ((ns.map fun x => (x.natAbs : Int)).map .int), hdO 2 0 0 (3911 + 7 * ((ns.map fun x => (x.natAbs : Int)).length : Int)) 0] := by
    intro o ho
    simp only [List.mem_cons, List.not_mem_nil, or_false] at ho
    rcases ho with rfl | rfl | rfl | rfl
    · exact bels_ints _
    · exact bels_ints _
    · exact bels_ints _
    · simp [SO.bel, hdO, PV.bels, PV.bel]
  refine ⟨_, G.e17.ok ?_ ?_ w rfl, ⟨2, 0, 0, _, 0, ns.map fun x => (x.natAbs : Int), ⟨rfl, rfl, by decide, by decide, ?_, ?_, by decide, ?_⟩, by decide⟩, w, ⟨by simp, fun i hi hn => ?_⟩⟩
  · simp [runBody_eq, b__law_hand, sliceOp, listAt, hcut, newL, srcOf]
    simp at hlc
    simp [hlc]
    have e : bltOp S .len [.ref 2] [SO.frz (ns.map .int), .lst (ns.map .int), .lst (ns.map (PV.int ∘ fun x => (x.natAbs : Int)))] = .ok (.int ns.length) [SO.frz (ns.map .int), .lst (ns.map .int), .lst (ns.map (PV.int ∘ fun x => (x.natAbs : Int)))] := by simp [bltOp]
    have e7 : binOp .Mult (.int 7) (.int ns.length) [SO.frz (ns.map .int), .lst (ns.map .int), .lst (ns.map (PV.int ∘ fun x => (x.natAbs : Int)))] = _ := mul_le (by decide) (Nat.lt_trans (show (ns.length : Int).natAbs < 100 by omega) (by decide)) _
    simp [e, e7, hdO]
  · simp
  · simp; omega
  · simp; omega
  · intro x hx
    obtain ⟨y, hy, rfl⟩ := List.mem_map.mp hx
    exact ⟨by omega, by simpa using hb y hy⟩
  · have : i = 0 := by simpa using hi
    subst this; rfl
end
end L_k11
set_option Elab.async false
set_option linter.all false
set_option maxRecDepth 100000
set_option maxHeartbeats 4000000
namespace L_k11
open PySem MP
theorem laid_assoc : ∀ (a b c : List Int), laid (laid a b) c = laid a (laid b c)
  | [], _, _ => rfl
  | _ :: _, [], _ => rfl
  | _ :: _, _ :: _, [] => rfl
  | x :: a, y :: b, z :: c => by
    have ih := laid_assoc a b c
    simp only [laid, List.zip_cons_cons, List.map_cons] at ih ⊢
    rw [ih]
    congr 1
    by_cases hx : x = 0 <;> simp [hx]
theorem laid_self : ∀ (a : List Int), laid a a = a
  | [] => rfl
  | x :: a => by
    have ih := laid_self a
    simp only [laid, List.zip_cons_cons, List.map_cons] at ih ⊢
    rw [ih]; simp
theorem pars_comm (s : Int) (a b : List Int) : pars s a b = pars s b a := by
  have key : ∀ (a b : List Int) (n : Nat), (((a.zip b).zipIdx n).filter fun p => decide (p.1.1 * p.1.2 = s)).map (fun p => (p.2 : Int)) = (((b.zip a).zipIdx n).filter fun p => decide (p.1.1 * p.1.2 = s)).map (fun p => (p.2 : Int)) := by
    intro a
    induction a with
    | nil => intro b n; simp
    | cons x a ih =>
      intro b n
      cases b with
      | nil => simp
      | cons y b =>
        simp only [List.zip_cons_cons, List.zipIdx_cons, List.filter_cons, Int.mul_comm y x]
        split
        · simp only [List.map_cons, ih b (n + 1)]
        · exact ih b (n + 1)
  exact key a b 0
theorem laid_row {m : Int} {a b : List Int} (ha : RowI m a) (hb : RowI m b) : RowI m (laid a b) := by
  refine ⟨?_, fun x hx => ?_⟩
  · have := ha.1; have := hb.1; simp only [laid, List.length_map, List.length_zip]; omega
  · obtain ⟨p, hp, rfl⟩ := List.mem_map.mp hx
    have hm := List.of_mem_zip hp
    split
    · exact hb.2 _ hm.2
    · exact ha.2 _ hm.1
theorem mem_at {s : Int} {r : List Int} {i : Int} : i ∈ at_ s r ↔ ∃ k : Nat, i = k ∧ r[k]? = some s := by
  simp only [at_, List.mem_map, List.mem_filter, decide_eq_true_eq]
  constructor
  · rintro ⟨⟨x, k⟩, ⟨h1, h2⟩, rfl⟩
    exact ⟨k, rfl, by rw [List.mem_zipIdx_iff_getElem?] at h1; rw [h1]; exact congrArg some h2⟩
  · rintro ⟨k, rfl, h⟩
    exact ⟨(s, k), ⟨by rw [List.mem_zipIdx_iff_getElem?]; exact h, rfl⟩, rfl⟩
theorem rowBy_at {m : Int} {r : List Int} (h : RowI m r) : rowBy m (at_ 1 r) (at_ (-1) r) = r := by
  have hl : m.toNat = r.length := by have := h.1; omega
  apply List.ext_getElem
  · simp [rowBy, hl]
  · intro k h1 h2
    have hk := h.2 _ (List.getElem_mem h2)
    simp only [rowBy, List.getElem_map, List.getElem_range]
    have e : ∀ s : Int, ((k : Int) ∈ at_ s r) ↔ r[k] = s := by
      intro s
      rw [mem_at]
      constructor
      · rintro ⟨j, hj, h⟩
        have : j = k := by omega
        subst this
        rw [List.getElem?_eq_getElem h2] at h
        exact Option.some.inj h
      · intro h
        exact ⟨k, rfl, by rw [List.getElem?_eq_getElem h2, h]⟩
    simp only [e]
    have : r[k] = -1 ∨ r[k] = 0 ∨ r[k] = 1 := by omega
    rcases this with h | h | h <;> rw [h] <;> decide
theorem incr_of : ∀ {l : List Int}, l.Pairwise (· < ·) → incr (l.map .int) = true
  | [], _ => rfl
  | [_], _ => rfl
  | x :: y :: r, h => by
    rw [List.pairwise_cons] at h
    simp only [List.map_cons, incr, ltP, Bool.and_eq_true, decide_eq_true_eq]
    exact ⟨h.1 y (List.mem_cons_self ..), incr_of h.2⟩
theorem isLot_at {m : Int} {r : List Int} (h : (r.length : Int) = m) (s : Int) : isLot m (tI (at_ s r)) = true := by
  simp only [isLot, Bool.and_eq_true, List.all_eq_true]
  refine ⟨fun x hx => ?_, incr_of (zipIdx_asc (fun p => decide (p.1 = s)) r 0).1⟩
  obtain ⟨i, hi, rfl⟩ := List.mem_map.mp hx
  obtain ⟨k, rfl, hk⟩ := mem_at.mp hi
  have := lt_of_getElem? hk
  simp only [btw, Bool.and_eq_true, decide_eq_true_eq]
  omega
theorem signed_at {m : Int} {r : List Int} (h : RowI m r) (hn : (r.any fun x => !decide (x = 0)) = true) : isSigned m (lotOf r) = true := by
  unfold lotOf
  rw [isSigned_pair (isLot_at h.1 1) (isLot_at h.1 (-1)), Bool.and_eq_true]
  constructor
  · rw [decide_eq_true_eq]
    obtain ⟨x, hx, h0⟩ := List.any_eq_true.mp hn
    have hx1 := h.2 x hx
    have h0 : x ≠ 0 := by simpa using h0
    obtain ⟨k, hk, rfl⟩ := List.mem_iff_getElem.mp hx
    have hk2 : r[k]? = some r[k] := List.getElem?_eq_getElem hk
    have : r[k] = -1 ∨ r[k] = 1 := by omega
    rcases this with e | e
    · have := List.length_pos_of_mem (mem_at.mpr ⟨k, rfl, hk2.trans (congrArg some e)⟩)
      omega
    · have := List.length_pos_of_mem (mem_at.mpr ⟨k, rfl, hk2.trans (congrArg some e)⟩)
      omega
  · simp only [Bool.not_eq_true', List.any_eq_false, decide_eq_true_eq]
    intro i hi hj
    obtain ⟨k, rfl, h1⟩ := mem_at.mp hi
    obtain ⟨k', e, h2⟩ := mem_at.mp hj
    have : k = k' := by omega
    subst this
    rw [h1] at h2
    cases h2
theorem isRow_row {m : Int} {r : List Int} (h : RowI m r) (h0 : 1 ≤ m) (h8 : m ≤ 8) : isRow (tI r) = true := by
  have := h.1
  simp only [isRow, List.length_map, Bool.and_eq_true, decide_eq_true_eq, List.all_eq_true]
  refine ⟨⟨by omega, by omega⟩, fun x hx => ?_⟩
  obtain ⟨i, hi, rfl⟩ := List.mem_map.mp hx
  have := h.2 i hi
  simp only [btw, Bool.and_eq_true, decide_eq_true_eq]
  omega
theorem okAll_tI {st : Store} {r : List Int} (h : r.length ≤ 1000) : okAll st (tI r) = true := by
  have : (1000 : Nat) ≤ szl := by decide
  simp only [okAll, List.length_map, Bool.and_eq_true, decide_eq_true_eq, List.all_eq_true]
  refine ⟨fun x hx => ?_, by omega⟩
  obtain ⟨i, hi, rfl⟩ := List.mem_map.mp hx
  rfl
theorem okAll2_pair {st : Store} {a b : List Int} (h : a.length ≤ 1000) (h' : b.length ≤ 1000) : okAll2 st (.tup [tI a, tI b]) = true := by
  simp only [okAll2, List.all_cons, List.all_nil, okAll_tI h, okAll_tI h', Bool.and_true, Bool.and_self, Bool.true_and]
  exact decide_eq_true (show (2 : Nat) ≤ szl by decide)
end L_k11
set_option Elab.async false
set_option linter.all false
set_option exponentiation.threshold 2000
set_option maxRecDepth 100000
set_option maxHeartbeats 4000000
namespace L_k11
open PySem MP
structure GoodI (S : Sig) : Prop extends GoodD S where
  e23 : Self S 23 11 false 7 b__law_is_right
section
variable {S : Sig} {st0 st : Store} {h n : Nat} (G : GoodI S)
include G
abbrev CI (S : Sig) : Cn := ⟨S, none, none, [], false, 7⟩
theorem i_draw (H : HW h st0 st n) (hn : n < 2 ^ 57) (r : MP.Env) (hr : r.length = 9) : ∃ m st', 1 ≤ m ∧ m ≤ 8 ∧ HW h st0 st' (n + 1) ∧ exS (CI S) (.asg (.nm 1) (.bin .Add (.lit (.int 1)) (.call 18 [(.var 0), (.lit (.int 8))]))) (some (.ref h) :: none :: r) st = .nx (some (.ref h) :: some (.int m) :: r) st' := by
  obtain ⟨d, st1, e, d0, d1, H1⟩ := l18 G.toGoodD H (by omega) (show (0 : Int) < 8 by decide) (by decide)
  refine ⟨1 + d, st1, by omega, by omega, H1, ?_⟩
  simp [e]
theorem i_rows (H : HW h st0 st n) (hn : n < 2 ^ 57) {m : Int} (h0 : 1 ≤ m) (h8 : m ≤ 8) (r : MP.Env) (hr : r.length = 6) : ∃ a b c st', RowI m a ∧ RowI m b ∧ RowI m c ∧ HW h st0 st' (n + 24) ∧ exS (CI S) (.asg (.tup [(.nm 2), (.nm 3), (.nm 4)]) (.tup [(.call 22 [(.var 0), (.var 1)]), (.call 22 [(.var 0), (.var 1)]), (.call 22 [(.var 0), (.var 1)])])) (some (.ref h) :: some (.int m) :: none :: none :: none :: r) st = .nx (some (.ref h) :: some (.int m) :: some (tI a) :: some (tI b) :: some (tI c) :: r) st' := by
  obtain ⟨a, st1, e1, ha, H1⟩ := l22 G.toGoodD H (by omega) (show 0 ≤ m by omega) h8
  obtain ⟨b, st2, e2, hb, H2⟩ := l22 G.toGoodD H1 (by omega) (show 0 ≤ m by omega) h8
  obtain ⟨c, st3, e3, hc, H3⟩ := l22 G.toGoodD H2 (by omega) (show 0 ≤ m by omega) h8
  refine ⟨a, b, c, st3, ha, hb, hc, H3, ?_⟩
  simp [e1, e2, e3]
theorem i_lot (H : HW h st0 st n) (m : PV) (a : List Int) (b c : PV) : ∃ st', HW h st0 st' n ∧ exS (CI S) (.asg (.nm 5) (.call 20 [(.lx (.lc [6, 7] (.tup [(.var 6), (.var 7)]) (.tup [(.nm 6), (.nm 7)]) (.enum (.var 2)) []))])) [some (.ref h), some m, some (tI a), some b, some c, none, none, none, none, none, none] st = .nx [some (.ref h), some m, some (tI a), some b, some c, some (lotOf a), none, none, none, none, none] st' := by
  have H1 := H.push (o := .lst (pairsOf a)) (by
    have : PV.bels (st.length + 1) (pairsOf a) = true := bels_map _ (fun x => by simp [PV.bel, PV.bels]) _
    exact this)
  have hx : (st ++ [SO.lst (pairsOf a)])[st.length]? = some (.lst (pairsOf a)) := by simp
  have e := l20 G.toGoodD H1.wf hx
  refine ⟨_, H1, ?_⟩
  have hlc : lcLoop [] (lcF (CI S) [6, 7] (.tup [(.var 6), (.var 7)]) (.tup [(.nm 6), (.nm 7)]) [] [some (.ref h), some m, some (tI a), some b, some c, none, none, none, none, none, none]) (enumFrom 0 (a.map .int)) [] st = .ok (pairsOf a) st := by
    rw [enumFrom_map, lcLoop_map (g := fun (p : Int × Nat) => some (.tup [.int (p.2 : Int), .int p.1])) rfl _ [] (fun p hp => by
      simp [lcF, wipe, Cn.bare])]
    rw [filterMap_some']
    rfl
  simp [hlc, newL, e]
omit G in
theorem repr_tI {st : Store} {a : List Int} (h : SmallRow a) : ∃ x, bltOp S .repr [tI a] st = .ok (.str x) st := by
  have e : bltOp S .repr [tI a] st = (match dataIn st (tI a) with
    | some d => if reprOk d then .ok (.str d.shown) st else .bad
    | none => .bad) := rfl
  rw [e, data_tI]
  exact ⟨PyData.shown (.tuple (a.map .int)), by simp only [reprOk_ints h.1 h.2, if_true]⟩
omit G in
theorem repr_rows {st : Store} {xs : List (List Int)} (h : ∀ a ∈ xs, SmallRow a) (hl : xs.length ≤ 100) : ∃ x, bltOp S .repr [.tup (xs.map tI)] st = .ok (.str x) st := by
  have e : bltOp S .repr [.tup (xs.map tI)] st = (match dataIn st (.tup (xs.map tI)) with
    | some d => if reprOk d then .ok (.str d.shown) st else .bad
    | none => .bad) := rfl
  have e2 : dataIn st (.tup (xs.map tI)) = some (.tuple (xs.map rowD)) := by
    simp only [dataIn, PV.data, data_rows, Option.map_some]
  rw [e, e2]
  exact ⟨PyData.shown (.tuple (xs.map rowD)), by simp only [(reprOk_rows h hl).1, if_true]⟩
omit G in
theorem row_small {m : Int} {a : List Int} (h : RowI m a) (h8 : m ≤ 8) : SmallRow a := by
  refine ⟨fun x hx => ?_, by have := h.1; omega⟩
  have := h.2 x hx
  show x.natAbs < 2 ^ 64
  omega
omit G in
theorem at_small {m : Int} {a : List Int} (h : RowI m a) (h8 : m ≤ 8) (s : Int) : SmallRow (at_ s a) := by
  have hl := h.1
  refine ⟨fun x hx => ?_, ?_⟩
  · obtain ⟨k, rfl, hk⟩ := mem_at.mp hx
    have := lt_of_getElem? hk
    show (k : Int).natAbs < 2 ^ 64
    omega
  · have : (at_ s a).length ≤ a.length := by
      simp only [at_, List.length_map]
      exact Nat.le_trans (List.length_filter_le _ _) (by simp)
    omega
theorem i_check1 (hw : Store.wf st) {m : Int} {a : List Int} (h0 : 1 ≤ m) (h8 : m ≤ 8) (ha : RowI m a) (hd b c : PV) (r : MP.Env) (hr : r.length = 5) : exS (CI S) (.ife (.or (.cmp .NotEq (.blt .repr [(.call 9 [(.var 2)])]) (.blt .repr [(.var 5)])) (.and (.blt1 .any (.lc [7] (.cmp .NotEq (.var 7) (.lit (.int 0))) (.nm 7) (.ex (.var 2)) [])) (.cmp .NotEq (.blt .repr [(.call 6 [(.var 1), (.var 5)])]) (.blt .repr [(.var 2)])))) [(.ret (.lit (.bl false)))] []) (some hd :: some (.int m) :: some (tI a) :: some b :: some c :: some (lotOf a) :: r) st = .nx (some hd :: some (.int m) :: some (tI a) :: some b :: some c :: some (lotOf a) :: r) st := by
  have hl := ha.1
  have e9 := l9 G.toGood hw (okAll_tI (st := st) (r := a) (by omega)) (isRow_row ha h0 h8)
  obtain ⟨x, hx⟩ := repr_rows (S := S) (st := st) (xs := [at_ 1 a, at_ (-1) a]) (by
    intro y hy
    rcases List.mem_cons.mp hy with rfl | hy
    · exact at_small ha h8 1
    · rcases List.mem_cons.mp hy with rfl | hy
      · exact at_small ha h8 (-1)
      · cases hy) (show (2 : Nat) ≤ 100 by decide)
  have hx : bltOp S .repr [lotOf a] st = .ok (.str x) st := hx
  obtain ⟨y, hy⟩ := repr_tI (S := S) (st := st) (row_small ha h8)
  match r, hr with
  | [r1, r2, r3, r4, r5], _ =>
  have hlc : lcLoop [] (lcF (CI S) [7] (.cmp .NotEq (.var 7) (.lit (.int 0))) (.nm 7) [] [some hd, some (.int m), some (tI a), some b, some c, some (lotOf a), r1, r2, r3, r4, r5]) (a.map .int) [] st = .ok (a.map fun z => .bl (!decide (z = 0))) st := by
    rw [lcLoop_map (g := fun z => some (.bl (!decide (z = 0)))) rfl _ [] (fun p hp => by
      simp [lcF, wipe, Cn.bare])]
    rw [filterMap_some']
    rfl
  have hany : blt1 S .any (a.map fun z => .bl (!decide (z = 0))) st = .ok (.bl (a.any fun z => !decide (z = 0))) st := by
    simp only [blt1, anyB_map, ofOptB_some]
  by_cases hn : (a.any fun z => !decide (z = 0)) = true
  · have hs := signed_at ha hn
    have hm : btw (.int m) 1 8 = true := by simp [btw]; omega
    have e6 := l6 G.toGood hw hm (okAll2_pair (st := st) (at_small ha h8 1).2 (at_small ha h8 (-1)).2) hs
    rw [rowBy_at ha] at e6
    have e6 : S.fn 6 [.int m, lotOf a] st = .ok (tI a) st := e6
    simp [e9, hx, hlc, hany, hn, e6, hy]
  · simp [e9, hx, hlc, hany, hn]
omit G in
/-- the law's own way to a parting -/
theorem pars_range {m : Int} {a b : List Int} (ha : RowI m a) (hb : RowI m b) (s : Int) : (((List.range m.toNat).filter fun k => decide (a.getD k 0 * b.getD k 0 = s)).map fun (k : Nat) => (k : Int)) = pars s a b := by
  have la := ha.1
  have lb := hb.1
  have key : ∀ (a b : List Int) (n : Nat), a.length = b.length → (((List.range' n a.length).filter fun k => decide (a.getD (k - n) 0 * b.getD (k - n) 0 = s)).map fun (k : Nat) => (k : Int)) = (((a.zip b).zipIdx n).filter fun p => decide (p.1.1 * p.1.2 = s)).map fun p => (p.2 : Int) := by
    intro a
    induction a with
    | nil => intro b n _; simp
    | cons x a ih =>
      intro b n hl
      cases b with
      | nil => cases hl
      | cons y b =>
        have ih := ih b (n + 1) (by simpa using hl)
        simp only [List.length_cons, List.range'_succ, List.zip_cons_cons, List.zipIdx_cons, List.filter_cons, Nat.sub_self, List.getD_cons_zero]
        have e : ((List.range' (n + 1) a.length).filter fun k => decide ((x :: a).getD (k - n) 0 * (y :: b).getD (k - n) 0 = s)) = ((List.range' (n + 1) a.length).filter fun k => decide (a.getD (k - (n + 1)) 0 * b.getD (k - (n + 1)) 0 = s)) := by
          apply List.filter_congr
          intro k hk
          have := (List.mem_range'_1.mp hk).1
          have e : k - n = (k - (n + 1)) + 1 := by omega
          rw [e, List.getD_cons_succ, List.getD_cons_succ]
        rw [e]
        split
        · simp only [List.map_cons, ih]
        · exact ih
  have := key a b 0 (by omega)
  simp only [Nat.sub_zero, ← List.range_eq_range'] at this
  have e : m.toNat = a.length := by omega
  rw [e]
  exact this
/-- the first of what is due -/
theorem i_due (H : HW h st0 st n) (m : PV) (a b : List Int) (c lot : PV) : ∃ st', HW h st0 st' n ∧ st'[st.length]? = some (.lst [tI (laid a b)]) ∧ st.length ≠ h ∧ exS (CI S) (.asg (.nm 8) (.lx (.lst [(.blt1 .tuple (.lc [9, 10] (.ife (.cmp .NotEq (.var 9) (.lit (.int 0))) (.var 9) (.var 10)) (.tup [(.nm 9), (.nm 10)]) (.zip (.var 2) (.var 3)) []))]))) [some (.ref h), some m, some (tI a), some (tI b), some c, some lot, none, none, none, none, none] st = .nx [some (.ref h), some m, some (tI a), some (tI b), some c, some lot, none, none, some (.ref st.length), none, none] st' := by
  have H1 := H.push (o := .lst [tI (laid a b)]) (by simp [SO.bel, PV.bels])
  refine ⟨_, H1, by simp, by have := H.lt; omega, ?_⟩
  have hlc : lcLoop [] (lcF (CI S) [9, 10] (.ife (.cmp .NotEq (.var 9) (.lit (.int 0))) (.var 9) (.var 10)) (.tup [(.nm 9), (.nm 10)]) [] [some (.ref h), some m, some (tI a), some (tI b), some c, some lot, none, none, none, none, none]) (zipP (a.map .int) (b.map .int)) [] st = .ok ((laid a b).map .int) st := by
    rw [zipP_map, lcLoop_map (g := fun (p : Int × Int) => some (.int (if p.1 = 0 then p.2 else p.1))) rfl _ [] (fun p hp => by
      simp [lcF, wipe, Cn.bare]
      split <;> simp_all)]
    rw [filterMap_int]
    rfl
  simp [hlc, newL, blt1]
omit G in
theorem HW_set {i : Nat} {ys xs : List PV} {o : SO} (H : HW h st0 st n) (hi : st[i]? = some (.lst (.tup ys :: xs))) (hge : st0.length ≤ i) (hn : i ≠ h) (ho : SO.bel st.length o = true) : HW h st0 (st.set i o) n where
  hand := by
    obtain ⟨q, p, b, s, c, cells, K, hc⟩ := H.hand
    have hq : i ≠ q := by
      rintro rfl
      have := K.cl
      rw [hi] at this
      have e := SO.lst.inj (Option.some.inj this)
      cases cells <;> cases e
    exact ⟨q, p, b, s, c, cells, ⟨by rw [List.getElem?_set_ne hn]; exact K.at_, by rw [List.getElem?_set_ne hq]; exact K.cl, K.ne, K.b0, K.s0, K.s1, K.c0, K.cs⟩, hc⟩
  wf := wf_set H.wf ho
  fr := ⟨by rw [List.length_set]; exact H.fr.len, fun j hj hne => by rw [List.getElem?_set_ne (by omega)]; exact H.fr.at_ j hj hne⟩
omit G in
theorem i_app {i : Nat} {m : Int} {a b : List Int} (h0 : 1 ≤ m) (h8 : m ≤ 8) (ha : RowI m a) (hb : RowI m b) {ys xs : List PV} (hi : st[i]? = some (.lst (.tup ys :: xs))) (hx : xs.length ≤ 100) (s : Int) (se : Ex) (hse : ∀ ρ st, ev (CI S) se ρ st = .ok (.int s) st) (hd c lot : PV) : exS (CI S) (.expr (.meth .append (.var 8) [(.blt1 .tuple (.lc [6] (.var 6) (.nm 6) (.range1 (.var 1)) [(.cmp .Eq (.bin .Mult (.idx (.var 2) (.var 6)) (.idx (.var 3) (.var 6))) se)]))])) [some hd, some (.int m), some (tI a), some (tI b), some c, some lot, none, none, some (.ref i), none, none] st = .nx [some hd, some (.int m), some (tI a), some (tI b), some c, some lot, none, none, some (.ref i), none, none] (st.set i (.lst ((.tup ys :: xs) ++ [tI (pars s a b)]))) := by
  have la := ha.1
  have lb := hb.1
  have hlc : lcLoop [] (lcF (CI S) [6] (.var 6) (.nm 6) [(.cmp .Eq (.bin .Mult (.idx (.var 2) (.var 6)) (.idx (.var 3) (.var 6))) se)] [some hd, some (.int m), some (tI a), some (tI b), some c, some lot, none, none, some (.ref i), none, none]) (rangeP 0 m.toNat) [] st = .ok ((pars s a b).map .int) st := by
    unfold rangeP
    rw [lcLoop_map (g := fun (k : Nat) => if (decide (a.getD k 0 * b.getD k 0 = s)) = true then some (.int (k : Int)) else none) rfl _ [] (fun k hk => by
      have hk := List.mem_range.mp hk
      have ka : k < a.length := by omega
      have kb : k < b.length := by omega
      have ea := idx_tup (xs := a.map .int) (i := (k : Int)) (j := k) (st := st) (by rw [List.length_map]; exact ixOf_nat ka) (by rw [List.getElem?_map, List.getElem?_eq_getElem ka]; rfl)
      have eb := idx_tup (xs := b.map .int) (i := (k : Int)) (j := k) (st := st) (by rw [List.length_map]; exact ixOf_nat kb) (by rw [List.getElem?_map, List.getElem?_eq_getElem kb]; rfl)
      have em := mul_small ((row_small ha h8).1 _ (List.getElem_mem ka)) ((row_small hb h8).1 _ (List.getElem_mem kb)) st
      simp [lcF, wipe, Cn.bare, hse, ea, eb, em, List.getElem?_eq_getElem ka, List.getElem?_eq_getElem kb]
      split <;> rfl)]
    rw [filterMap_if, pars_range ha hb]
    rfl
  have hm : m ≤ (szl : Int) := by have e2 : (szl : Int) = 16777216 := by decide
                                  omega
  have hm2 : (-4611686018427387904 : Int) ≤ m := by omega
  have hm3 : m ≤ 16777216 := by omega
  have hz : xs.length + 1 < szl := by have : (1000 : Nat) ≤ szl := by decide
                                      omega
  simp [lstAt, hi, hm, hm2, hm3, hlc, blt1, mthOp, hz]
omit G in
theorem pars_small {m : Int} {a b : List Int} (ha : RowI m a) (hb : RowI m b) (h8 : m ≤ 8) (s : Int) : SmallRow (pars s a b) := by
  have la := ha.1
  rw [← pars_range ha hb]
  refine ⟨fun x hx => ?_, ?_⟩
  · obtain ⟨k, hk, rfl⟩ := List.mem_map.mp hx
    have := List.mem_range.mp (List.mem_filter.mp hk).1
    show (k : Int).natAbs < 2 ^ 64
    omega
  · rw [List.length_map]
    have := List.length_filter_le (fun k => decide (a.getD k 0 * b.getD k 0 = s)) (List.range m.toNat)
    rw [List.length_range] at this
    omega
theorem i_check2 (H : HW h st0 st n) {i : Nat} {m : Int} {a b : List Int} (h0 : 1 ≤ m) (h8 : m ≤ 8) (ha : RowI m a) (hb : RowI m b) (hi : st[i]? = some (.lst [tI (laid a b), tI (pars (-1) a b), tI (pars 1 a b)])) (c lot : PV) : ∃ st', HW h st0 st' n ∧ st'[i]? = some (.lst [tI (laid a b), tI (pars (-1) a b), tI (pars 1 a b)]) ∧ exS (CI S) (.ife (.cmp .NotEq (.blt .repr [(.lx (.lst [(.call 12 [(.var 2), (.var 3)]), (.call 14 [(.var 2), (.var 3)]), (.call 16 [(.var 2), (.var 3)])]))]) (.blt .repr [(.var 8)])) [(.ret (.lit (.bl false)))] []) [some (.ref h), some (.int m), some (tI a), some (tI b), some c, some lot, none, none, some (.ref i), none, none] st = .nx [some (.ref h), some (.int m), some (tI a), some (tI b), some c, some lot, none, none, some (.ref i), none, none] st' := by
  have la := ha.1
  have lb := hb.1
  have sa := row_small ha h8
  have sb := row_small hb h8
  have oa := okAll_tI (st := st) (r := a) (by omega)
  have ob := okAll_tI (st := st) (r := b) (by omega)
  have ra := isRow_row ha h0 h8
  have rb := isRow_row hb h0 h8
  have e12 := l12 G.toGood H.wf sa.1 sb.1 oa ra ob rb (by omega)
  have e14 := l14 G.toGood H.wf sa.1 sb.1 oa ra ob rb (by omega)
  have e16 := l16 G.toGood H.wf sa.1 sb.1 oa ra ob rb (by omega)
  have H1 := H.push (o := .lst [tI (laid a b), tI (pars (-1) a b), tI (pars 1 a b)]) (by simp [SO.bel, PV.bels])
  have hlt := lt_of_getElem? hi
  have hi2 : (st ++ [SO.lst [tI (laid a b), tI (pars (-1) a b), tI (pars 1 a b)]])[i]? = some (.lst [tI (laid a b), tI (pars (-1) a b), tI (pars 1 a b)]) := by rw [List.getElem?_append_left hlt]; exact hi
  have hj2 : (st ++ [SO.lst [tI (laid a b), tI (pars (-1) a b), tI (pars 1 a b)]])[st.length]? = some (.lst [tI (laid a b), tI (pars (-1) a b), tI (pars 1 a b)]) := by simp
  have sm : ∀ x ∈ [laid a b, pars (-1) a b, pars 1 a b], SmallRow x := by
    intro x hx
    simp only [List.mem_cons, List.not_mem_nil, or_false] at hx
    rcases hx with rfl | rfl | rfl
    · exact row_small (laid_row ha hb) h8
    · exact pars_small ha hb h8 _
    · exact pars_small ha hb h8 _
  have r1 := repr_list (S := S) (xs := [laid a b, pars (-1) a b, pars 1 a b]) hi2 sm (show (3 : Nat) ≤ 100 by decide)
  have r2 := repr_list (S := S) (xs := [laid a b, pars (-1) a b, pars 1 a b]) hj2 sm (show (3 : Nat) ≤ 100 by decide)
  refine ⟨_, H1, hi2, ?_⟩
  simp [e12, e14, e16, newL, r1, r2]
theorem i_check3 (hw : Store.wf st) {m : Int} {a b c : List Int} (h0 : 1 ≤ m) (h8 : m ≤ 8) (ha : RowI m a) (hb : RowI m b) (hc : RowI m c) (hd lot r1 r2 r3 r4 r5 : Option PV) : exS (CI S) (.ife (.or (.cmp .NotEq (.call 12 [(.call 12 [(.var 2), (.var 3)]), (.var 4)]) (.call 12 [(.var 2), (.call 12 [(.var 3), (.var 4)])])) (.cmp .NotEq (.call 12 [(.var 2), (.var 2)]) (.var 2))) [(.ret (.lit (.bl false)))] []) [hd, some (.int m), some (tI a), some (tI b), some (tI c), lot, r1, r2, r3, r4, r5] st = .nx [hd, some (.int m), some (tI a), some (tI b), some (tI c), lot, r1, r2, r3, r4, r5] st := by
  have put : ∀ {x y : List Int}, RowI m x → RowI m y → S.fn 12 [tI x, tI y] st = .ok (tI (laid x y)) st := by
    intro x y hx hy
    have lx := hx.1
    have ly := hy.1
    exact l12 G.toGood hw (row_small hx h8).1 (row_small hy h8).1 (okAll_tI (by omega)) (isRow_row hx h0 h8) (okAll_tI (by omega)) (isRow_row hy h0 h8) (by omega)
  have e1 := put ha hb
  have e2 := put (laid_row ha hb) hc
  have e3 := put hb hc
  have e4 := put ha (laid_row hb hc)
  have e5 := put ha ha
  have n1 : cmpOp .NotEq (tI (laid (laid a b) c)) (tI (laid a (laid b c))) st = .ok (.bl false) st := by
    simp [cmpOp, laid_assoc]
  have n2 : cmpOp .NotEq (tI (laid a a)) (tI a) st = .ok (.bl false) st := by
    simp [cmpOp, laid_self]
  simp [e1, e2, e3, e4, e5, n1, n2]
theorem i_last (H : HW h st0 st n) {i : Nat} {m : Int} {a b : List Int} (h0 : 1 ≤ m) (h8 : m ≤ 8) (ha : RowI m a) (hb : RowI m b) (hi : st[i]? = some (.lst [tI (laid a b), tI (pars (-1) a b), tI (pars 1 a b)])) (hd c lot r6 r7 r9 r10 : Option PV) : ∃ st', HW h st0 st' n ∧ exS (CI S) (.ret (.cmp .Eq (.lx (.lst [(.call 14 [(.var 3), (.var 2)]), (.call 16 [(.var 3), (.var 2)])])) (.slice (.var 8) (some (.lit (.int 1))) none))) [hd, some (.int m), some (tI a), some (tI b), c, lot, r6, r7, some (.ref i), r9, r10] st = .rt (.bl true) st' := by
  have la := ha.1
  have lb := hb.1
  have sa := row_small ha h8
  have sb := row_small hb h8
  have e14 := l14 G.toGood H.wf sb.1 sa.1 (okAll_tI (by omega)) (isRow_row hb h0 h8) (okAll_tI (by omega)) (isRow_row ha h0 h8) (by omega)
  have e16 := l16 G.toGood H.wf sb.1 sa.1 (okAll_tI (by omega)) (isRow_row hb h0 h8) (okAll_tI (by omega)) (isRow_row ha h0 h8) (by omega)
  rw [pars_comm] at e14 e16
  have H1 := H.push (o := .lst [tI (pars (-1) a b), tI (pars 1 a b)]) (by simp [SO.bel, PV.bels])
  have H2 := H1.push (o := .lst [tI (pars (-1) a b), tI (pars 1 a b)]) (by simp [SO.bel, PV.bels])
  have hlt := lt_of_getElem? hi
  refine ⟨_, H2, ?_⟩
  have hcut : cutP [tI (laid a b), tI (pars (-1) a b), tI (pars 1 a b)] (some 1) none = [tI (pars (-1) a b), tI (pars 1 a b)] := rfl
  simp [e14, e16, newL, sliceOp, listAt, List.getElem?_append_left hlt, hi, hcut]
  have q : eqPV (st ++ [SO.lst [tI (pars (-1) a b), tI (pars 1 a b)], SO.lst [tI (pars (-1) a b), tI (pars 1 a b)]]) (.ref st.length) (.ref (st.length + 1)) = some (decide ([pars (-1) a b, pars 1 a b] = [pars (-1) a b, pars 1 a b])) := eq_lists (by simp) (by simp)
  simp [cmpOp, q]
end
end L_k11
set_option Elab.async false
set_option linter.all false
set_option exponentiation.threshold 2000
set_option maxRecDepth 100000
set_option maxHeartbeats 4000000
namespace L_k11
open PySem MP
theorem l23 {S : Sig} {st0 st : Store} {h n : Nat} (G : GoodI S) (H : HW h st0 st n) (hn : n < 2 ^ 56) : ∃ st', S.fn 23 [.ref h] st = .ok (.bl true) st' ∧ HW h st0 st' (n + 25) := by
  obtain ⟨m, st1, h0, h8, H1, e1⟩ := i_draw G H.refl (by omega) [none, none, none, none, none, none, none, none, none] rfl
  obtain ⟨a, b, c, st2, ha, hb, hc, H2, e2⟩ := i_rows G H1 (by omega) h0 h8 [none, none, none, none, none, none] rfl
  obtain ⟨st3, H3, e3⟩ := i_lot G H2 (.int m) a (tI b) (tI c)
  have e4 := i_check1 G H3.wf h0 h8 ha (.ref h) (tI b) (tI c) [none, none, none, none, none] rfl
  obtain ⟨st5, H5, hi5, hne, e5⟩ := i_due G H3 (.int m) a b (tI c) (lotOf a)
  have hge : st.length ≤ st3.length := H3.fr.len
  have e6 := i_app (S := S) h0 h8 ha hb hi5 (by simp) (-1) (.neg (.lit (.int 1))) (fun ρ st => by simp) (.ref h) (tI c) (lotOf a)
  have H6 := HW_set H5 hi5 hge hne (o := .lst ([tI (laid a b)] ++ [tI (pars (-1) a b)])) (by simp [SO.bel, PV.bels])
  have hi6 : (st5.set st3.length (.lst ([tI (laid a b)] ++ [tI (pars (-1) a b)])))[st3.length]? = some (.lst ([tI (laid a b)] ++ [tI (pars (-1) a b)])) := List.getElem?_set_self (lt_of_getElem? hi5)
  have e7 := i_app (S := S) h0 h8 ha hb (st := st5.set st3.length (.lst ([tI (laid a b)] ++ [tI (pars (-1) a b)]))) (ys := (laid a b).map .int) (xs := [tI (pars (-1) a b)]) hi6 (by simp) 1 (.lit (.int 1)) (fun ρ st => by simp) (.ref h) (tI c) (lotOf a)
  have H7 := HW_set H6 (ys := (laid a b).map .int) (xs := [tI (pars (-1) a b)]) hi6 hge hne (o := .lst ([tI (laid a b), tI (pars (-1) a b)] ++ [tI (pars 1 a b)])) (by simp [SO.bel, PV.bels])
  have hi7 : ((st5.set st3.length (.lst ([tI (laid a b)] ++ [tI (pars (-1) a b)]))).set st3.length (.lst ([tI (laid a b), tI (pars (-1) a b)] ++ [tI (pars 1 a b)])))[st3.length]? = some (.lst [tI (laid a b), tI (pars (-1) a b), tI (pars 1 a b)]) := List.getElem?_set_self (lt_of_getElem? hi6)
  obtain ⟨st8, H8, hi8, e8⟩ := i_check2 G H7 h0 h8 ha hb hi7 (tI c) (lotOf a)
  have e9 := i_check3 G H8.wf h0 h8 ha hb hc (some (.ref h)) (some (lotOf a)) none none (some (.ref st3.length)) none none
  obtain ⟨st10, H10, e10⟩ := i_last G H8 h0 h8 ha hb hi8 (some (.ref h)) (some (tI c)) (some (lotOf a)) none none none none
  refine ⟨st10, ?_, H.trans (H10.mono (by omega))⟩
  refine G.e23.ok ?_ H10.fr.len H10.wf rfl
  rw [runBody_eq]
  have e0 : ([.ref h] : List PV).map some ++ List.replicate (11 - ([.ref h] : List PV).length) none = [some (.ref h), none, none, none, none, none, none, none, none, none, none] := rfl
  rw [e0]
  unfold b__law_is_right
  rw [exs_cons, e1, Fl.seq_nx, exs_cons, e2, Fl.seq_nx, exs_cons, e3, Fl.seq_nx, exs_cons, e4, Fl.seq_nx, exs_cons, e5, Fl.seq_nx, exs_cons, e6, Fl.seq_nx, exs_cons]
  erw [e7, Fl.seq_nx]
  rw [exs_cons]
  erw [e8, Fl.seq_nx]
  rw [exs_cons, e9, Fl.seq_nx, exs_cons, e10]
  rfl
end L_k11
set_option Elab.async false
set_option linter.all false
set_option exponentiation.threshold 2000
set_option maxRecDepth 100000
set_option maxHeartbeats 4000000
namespace L_k11
open PySem MP
structure GoodL (S : Sig) : Prop extends GoodI S where
  e24 : Self S 24 10 true 9 b__law_are_refused
  el : ∃ S' : Sig, S'.ise = S.ise ∧ S'.sub = S.sub ∧ ∀ r st, S.lam 0 r st = runThunk S' 0 4 b__law_word r st
  i0 : S.ise 0 = true
  sub : ∀ c k, S.sub c k = T.sub c k
  ar : S.ar 12 = some (2, 7) ∧ S.ar 14 = some (2, 7) ∧ S.ar 16 = some (2, 7)
def wordOf : Nat → Str
  | 1 => "number"
  | 2 => "lot"
  | 3 => "row"
  | _ => "unlike"
section
variable {S : Sig} {st0 st : Store} {h n : Nat} (G : GoodL S)
include G
theorem word_exc {c : Nat} (hc : c = 1 ∨ c = 2 ∨ c = 3 ∨ c = 4) (r : Store → Res PV) (st : Store) (hr : r st = .exc c [] st) : ∃ a b : List PV, (∀ k, PV.bels k a = true) ∧ (∀ k, PV.bels k b = true) ∧ S.lam 0 r st = .ok (.str (wordOf c)) ((st ++ [.lst a]) ++ [.lst b]) := by
  obtain ⟨S', h1, h2, h3⟩ := G.el
  have i0 := G.i0
  have i1 := G.i1
  have i2 := G.i2
  have i3 := G.i3
  have i4 := G.i4
  have sb := G.sub
  have hz : (3 : Nat) < szl := by decide
  rcases hc with rfl | rfl | rfl | rfl
  · refine ⟨[.bl true, .bl false, .bl false, .bl false], [.str "number", .str "row", .str "lot", .str "unlike"], fun k => rfl, fun k => rfl, ?_⟩
    rw [h3]
    simp [runThunk, b__law_word, hr, errOk, h1, h2, i0, i1, i2, i3, i4, sb, T, subB, newL, lstAt, mthOp, countP, indexP, PV.data, dataIn, PV.datas, PyData.eqv, SeqAt.shaped, PyData.canLay0, PyData.canLayAll0, PyData.depth, PyData.depthAll, idxOp, seqOf, listAt, ixOf, wordOf, Tg.vars, hz, List.findIdx?_cons]
  · refine ⟨[.bl false, .bl false, .bl true, .bl false], [.str "number", .str "row", .str "lot", .str "unlike"], fun k => rfl, fun k => rfl, ?_⟩
    rw [h3]
    simp [runThunk, b__law_word, hr, errOk, h1, h2, i0, i1, i2, i3, i4, sb, T, subB, newL, lstAt, mthOp, countP, indexP, PV.data, dataIn, PV.datas, PyData.eqv, SeqAt.shaped, PyData.canLay0, PyData.canLayAll0, PyData.depth, PyData.depthAll, idxOp, seqOf, listAt, ixOf, wordOf, Tg.vars, hz, List.findIdx?_cons]
  · refine ⟨[.bl false, .bl true, .bl false, .bl false], [.str "number", .str "row", .str "lot", .str "unlike"], fun k => rfl, fun k => rfl, ?_⟩
    rw [h3]
    simp [runThunk, b__law_word, hr, errOk, h1, h2, i0, i1, i2, i3, i4, sb, T, subB, newL, lstAt, mthOp, countP, indexP, PV.data, dataIn, PV.datas, PyData.eqv, SeqAt.shaped, PyData.canLay0, PyData.canLayAll0, PyData.depth, PyData.depthAll, idxOp, seqOf, listAt, ixOf, wordOf, Tg.vars, hz, List.findIdx?_cons]
  · refine ⟨[.bl false, .bl false, .bl false, .bl true], [.str "number", .str "row", .str "lot", .str "unlike"], fun k => rfl, fun k => rfl, ?_⟩
    rw [h3]
    simp [runThunk, b__law_word, hr, errOk, h1, h2, i0, i1, i2, i3, i4, sb, T, subB, newL, lstAt, mthOp, countP, indexP, PV.data, dataIn, PV.datas, PyData.eqv, SeqAt.shaped, PyData.canLay0, PyData.canLayAll0, PyData.depth, PyData.depthAll, idxOp, seqOf, listAt, ixOf, wordOf, Tg.vars, hz, List.findIdx?_cons]
end
end L_k11
set_option Elab.async false
set_option linter.all false
set_option exponentiation.threshold 2000
set_option maxRecDepth 100000
set_option maxHeartbeats 4000000
namespace L_k11
open PySem MP
theorem okAll_hw {h n : Nat} {st st' : Store} (H : HW h st st' n) {v : PV} (ho : okAll st v = true) (hb : PV.bel st.length v = true) : okAll st' v = true := by
  cases v <;> try (have k := fun z => kind_hw H z hb; exact k ho)
  rename_i xs
  simp only [okAll, Bool.and_eq_true, List.all_eq_true] at ho ⊢
  exact ⟨fun x hx => kind_hw H (ho.1 x hx) (bels_mem hb hx), ho.2⟩
theorem okAll2_hw {h n : Nat} {st st' : Store} (H : HW h st st' n) {v : PV} (ho : okAll2 st v = true) (hb : PV.bel st.length v = true) : okAll2 st' v = true := by
  cases v <;> try (have k := fun z => kind_hw H z hb; exact k ho)
  rename_i xs
  simp only [okAll2, Bool.and_eq_true, List.all_eq_true] at ho ⊢
  exact ⟨fun x hx => okAll_hw H (ho.1 x hx) (bels_mem hb hx), ho.2⟩
structure BadP (st : Store) (v : PV) : Prop where
  ok : okAll st v = true
  bel : PV.bel st.length v = true
  no : isRow v = false
structure NonP (st : Store) (v : PV) : Prop where
  ok : kindOk st v = true
  bel : PV.bel st.length v = true
  no : btw v 1 8 = false
structure LotP (m : Int) (st : Store) (v : PV) : Prop where
  ok : okAll2 st v = true
  bel : PV.bel st.length v = true
  no : isSigned m v = false
theorem BadP.hw {h n : Nat} {st st' : Store} (H : HW h st st' n) {v : PV} (b : BadP st v) : BadP st' v := ⟨okAll_hw H b.ok b.bel, bel_le H.fr.len v b.bel, b.no⟩
theorem NonP.hw {h n : Nat} {st st' : Store} (H : HW h st st' n) {v : PV} (b : NonP st v) : NonP st' v := ⟨kind_hw H b.ok b.bel, bel_le H.fr.len v b.bel, b.no⟩
theorem LotP.hw {m : Int} {h n : Nat} {st st' : Store} (H : HW h st st' n) {v : PV} (b : LotP m st v) : LotP m st' v := ⟨okAll2_hw H b.ok b.bel, bel_le H.fr.len v b.bel, b.no⟩
theorem btw_noI {v : PV} {lo hi : Int} (h : isIntV v = false) : btw v lo hi = false := by
  cases v <;> first | rfl | cases h
theorem D2.nonP {st : Store} {v : PV} (d : D2 st v) : NonP st v := ⟨d.d.kind, d.d.bel, btw_noI d.d.noI⟩
theorem D2.badP {st : Store} {v : PV} (d : D2 st v) : BadP st v := by
  refine ⟨?_, d.d.bel, ?_⟩
  · cases v <;> try exact d.d.kind
    rename_i xs
    obtain ⟨w, rfl, k⟩ := d.one xs rfl
    have : (1 : Nat) ≤ szl := by decide
    simp only [okAll, List.all_cons, List.all_nil, k.d.kind, Bool.and_true, Bool.true_and, List.length_cons, List.length_nil, decide_eq_true_eq]
    exact this
  · cases v <;> try rfl
    rename_i xs
    obtain ⟨w, rfl, k⟩ := d.one xs rfl
    simp [isRow, btw_noI k.d.noI]
theorem D2.lotP {m : Int} {st : Store} {v : PV} (d : D2 st v) : LotP m st v := by
  refine ⟨?_, d.d.bel, ?_⟩
  · cases v <;> try exact d.d.kind
    rename_i xs
    obtain ⟨w, rfl, k⟩ := d.one xs rfl
    have : (1 : Nat) ≤ szl := by decide
    simp only [okAll2, List.all_cons, List.all_nil, Bool.and_true, Bool.and_eq_true, decide_eq_true_eq]
    refine ⟨?_, this⟩
    cases w <;> try exact k.d.kind
    rename_i ys
    obtain ⟨u, rfl, k2⟩ := k.one ys rfl
    simp only [okAll, List.all_cons, List.all_nil, k2.kind, Bool.and_true, Bool.and_eq_true, decide_eq_true_eq, true_and]
    exact this
  · cases v <;> try rfl
    rename_i xs
    obtain ⟨w, rfl, k⟩ := d.one xs rfl
    rfl
theorem hw_i {h n : Nat} {st0 st : Store} (H : HW h st0 st n) {i : Nat} {o : SO} (hi : st0[i]? = some o) (hn : i ≠ h) : st[i]? = some o := by
  rw [H.fr.at_ i (lt_of_getElem? hi) hn]; exact hi
section
variable {S : Sig} {st0 st : Store} {h n : Nat} (G : GoodL S)
include G
abbrev CR (S : Sig) : Cn := ⟨S, none, none, [], true, 9⟩
/-- one of a list at hand, or a deep thing -/
theorem r_pick {P : Store → PV → Prop} (hP : ∀ {st st' : Store} {v : PV} {n : Nat}, HW h st st' n → P st v → P st' v) (hD : ∀ {st : Store} {v : PV}, D2 st v → P st v) (H : HW h st0 st n) (hn : n < 2 ^ 56) {ρ : MP.Env} {j i : Nat} {bs : List PV} (h0 : ρ[0]? = some (some (.ref h))) (hj : ρ[j]? = some (some (.ref i))) (hi : st[i]? = some (.lst bs)) (hih : i ≠ h) (hl : bs.length ≤ 100) (hb : ∀ w ∈ bs, P st w) :
    ∃ w st', ev (CR S) (.call 19 [(.var 0), (.bin .Add (.var j) (.lx (.lst [(.call 21 [(.var 0)])])))]) ρ st = .ok w st' ∧ P st' w ∧ HW h st0 st' (n + 42) := by
  obtain ⟨v, st1, e1, D, H1⟩ := l21 G.toGoodD H.refl (by omega)
  have hi1 := hw_i H1 hi hih
  have H2 := H1.push (o := .lst [v]) (by simp [SO.bel, PV.bels, bel_le (Nat.le_add_right _ 1) v D.d.bel])
  have hlt := lt_of_getElem? hi1
  have hi2 : (st1 ++ [SO.lst [v]])[i]? = some (.lst bs) := by rw [List.getElem?_append_left hlt]; exact hi1
  have H3 := H2.push (o := .lst (bs ++ [v])) (by
    have h1 := bels_le (Nat.le_add_right _ 1) bs (wf_lst H2.wf hi2)
    have h2 : PV.bel (st1.length + 1 + 1) v = true := bel_le (Nat.le_add_right _ 2) v D.d.bel
    simp only [SO.bel, List.length_append, List.length_cons, List.length_nil, Nat.zero_add] at h1 ⊢
    have key : ∀ (xs : List PV), PV.bels (st1.length + 1 + 1) xs = true → PV.bels (st1.length + 1 + 1) (xs ++ [v]) = true := by
      intro xs
      induction xs with
      | nil => intro _; simp [PV.bels, h2]
      | cons x xs ih => intro hx; simp only [PV.bels, List.cons_append, Bool.and_eq_true] at hx ⊢; exact ⟨hx.1, ih hx.2⟩
    exact key bs h1)
  have hk : ((st1 ++ [SO.lst [v]]) ++ [SO.lst (bs ++ [v])])[st1.length + 1]? = some (.lst (bs ++ [v])) := by simp
  have hkh : st1.length + 1 ≠ h := by have := H1.lt; omega
  obtain ⟨w, st4, e4, hw, H4⟩ := l19 G.toGoodD H3 (by omega) hk hkh (by simp) (by simp; omega)
  have hz : bs.length + 1 ≤ szl := by have : (1000 : Nat) ≤ szl := by decide
                                      omega
  have Hz : HW h (st1 ++ [SO.lst [v]] ++ [SO.lst (bs ++ [v])]) st4 (n + 41 + 1) := by
    obtain ⟨d, st5, e5, hw5, H5⟩ := l19 G.toGoodD H3.refl (by omega) hk hkh (by simp) (by simp; omega)
    rw [e5] at e4
    cases e4
    exact H5
  refine ⟨w, st4, ?_, ?_, H.trans (H4.mono (by omega))⟩
  · have e2 : binOp .Add (.ref i) (.ref st1.length) (st1 ++ [SO.lst [v]]) = newL (bs ++ [v]) (st1 ++ [SO.lst [v]]) := by
      simp [binOp, hi2, hz]
    have e4' : S.fn 19 [.ref h, .ref (st1.length + 1)] (st1 ++ [SO.lst [v], SO.lst (bs ++ [v])]) = .ok w st4 := by
      rw [← e4]; simp
    simp [h0, hj, e1, newL, e2, e4']
  · rcases List.mem_append.mp hw with hw | hw
    · exact hP Hz (hP (H3.trans H3.refl |> fun _ => H2.refl.push (o := .lst (bs ++ [v])) (by
        have h1 := H3.wf (.lst (bs ++ [v])) (by simp)
        simpa using h1)) (hP (H1.refl.push (o := .lst [v]) (by simp [SO.bel, PV.bels, bel_le (Nat.le_add_right _ 1) v D.d.bel])) (hP H1 (hb w hw))))
    · cases List.mem_singleton.mp hw
      refine hP (n := n + 42) ?_ (hD D)
      exact ((H1.refl.push (o := .lst [v]) (by simp [SO.bel, PV.bels, bel_le (Nat.le_add_right _ 1) v D.d.bel])).trans (H2.refl.push (o := .lst (bs ++ [v])) (by
        have h1 := H3.wf (.lst (bs ++ [v])) (by simp)
        simpa using h1))).trans (Hz.mono (by omega))
end
end L_k11
set_option Elab.async false
set_option linter.all false
set_option exponentiation.threshold 2000
set_option maxRecDepth 100000
set_option maxHeartbeats 4000000
namespace L_k11
open PySem MP
/-- a row but for its last sign -/
def cutR (r : List Int) : List Int := r.dropLast
theorem cut_row {m : Int} {r : List Int} (hr : RowI m r) (h0 : 1 ≤ m) : cutP (r.map .int) none (some (-1)) = (cutR r).map .int := by
  have hl := hr.1
  simp only [cutP, sIx, List.drop_zero, List.length_map, Nat.sub_zero, cutR]
  rw [if_pos (by decide), List.dropLast_eq_take, List.map_take]
  congr 1
  omega
theorem isRow_last {q : List PV} {x : PV} (hx : btw x (-1) 1 = false) : isRow (.tup (q ++ [x])) = false := by
  simp [isRow, hx]
theorem okAll_app {st : Store} {q : List Int} {x : PV} (hq : q.length ≤ 100) (hx : kindOk st x = true) : okAll st (.tup (q.map .int ++ [x])) = true := by
  have : (1000 : Nat) ≤ szl := by decide
  simp only [okAll, List.all_append, List.all_cons, List.all_nil, hx, List.length_append, List.length_map, List.length_cons, List.length_nil, Bool.and_true, Bool.and_eq_true, List.all_eq_true, decide_eq_true_eq]
  refine ⟨fun y hy => ?_, by omega⟩
  obtain ⟨i, _, rfl⟩ := List.mem_map.mp hy
  rfl
theorem bels_app {k : Nat} {q : List PV} {x : PV} (h1 : PV.bels k q = true) (h2 : PV.bel k x = true) : PV.bels k (q ++ [x]) = true := by
  induction q with
  | nil => simp [PV.bels, h2]
  | cons y q ih => simp only [PV.bels, List.cons_append, Bool.and_eq_true] at h1 ⊢; exact ⟨h1.1, ih h1.2⟩
section
variable {S : Sig} {st0 st : Store} {h n : Nat} (G : GoodL S)
include G
theorem r_draw (H : HW h st0 st n) (hn : n < 2 ^ 57) (r : MP.Env) : ∃ m st', 1 ≤ m ∧ m ≤ 8 ∧ HW h st0 st' (n + 1) ∧ exS (CR S) (.asg (.nm 1) (.bin .Add (.lit (.int 1)) (.call 18 [(.var 0), (.lit (.int 8))]))) (some (.ref h) :: none :: r) st = .nx (some (.ref h) :: some (.int m) :: r) st' := by
  obtain ⟨d, st1, e, d0, d1, H1⟩ := l18 G.toGoodD H (by omega) (show (0 : Int) < 8 by decide) (by decide)
  refine ⟨1 + d, st1, by omega, by omega, H1, ?_⟩
  simp [e]
theorem r_row (H : HW h st0 st n) (hn : n < 2 ^ 57) {m : Int} (h0 : 1 ≤ m) (h8 : m ≤ 8) (r : MP.Env) : ∃ a st', RowI m a ∧ HW h st0 st' (n + 8) ∧ exS (CR S) (.asg (.nm 2) (.call 22 [(.var 0), (.var 1)])) (some (.ref h) :: some (.int m) :: none :: r) st = .nx (some (.ref h) :: some (.int m) :: some (tI a) :: r) st' := by
  obtain ⟨a, st1, e1, ha, H1⟩ := l22 G.toGoodD H (by omega) (show 0 ≤ m by omega) h8
  refine ⟨a, st1, ha, H1, ?_⟩
  simp [e1]
theorem r_bad (H : HW h st0 st n) {m : Int} (h0 : 1 ≤ m) (h8 : m ≤ 8) {a : List Int} (ha : RowI m a) (r : MP.Env) : ∃ i bs st', HW h st0 st' n ∧ st'[i]? = some (.lst bs) ∧ i ≠ h ∧ bs.length ≤ 100 ∧ (∀ w ∈ bs, BadP st' w) ∧
    exS (CR S) (.asg (.nm 3) (.lx (.lst [(.lit .non), (.tup []), (.blt .list [(.var 2)]), (.bin .Add (.slice (.var 2) none (some (.neg (.lit (.int 1))))) (.tup [(.lit (.int 2))])), (.bin .Add (.slice (.var 2) none (some (.neg (.lit (.int 1))))) (.tup [(.lit (.bl true))])), (.bin .Add (.slice (.var 2) none (some (.neg (.lit (.int 1))))) (.tup [(.lit .non)])), (.bin .Mult (.tup [(.lit (.int 0))]) (.lit (.int 9))), (.lit (.int 0)), (.lit (.str "0")), .emp]))) (some (.ref h) :: some (.int m) :: some (tI a) :: none :: r) st = .nx (some (.ref h) :: some (.int m) :: some (tI a) :: some (.ref i) :: r) st' := by
  have la := ha.1
  have hz : (1000 : Nat) ≤ szl := by decide
  have H1 := H.push (o := .lst (a.map .int)) (bels_ints a)
  have H2 := H1.push (o := .dic []) rfl
  have lq : (cutR a).length ≤ 100 := by simp [cutR]; omega
  let bs : List PV := [.non, .tup [], .ref st.length, .tup ((cutR a).map .int ++ [.int 2]), .tup ((cutR a).map .int ++ [.bl true]), .tup ((cutR a).map .int ++ [.non]), .tup (List.replicate 9 (.int 0)), .int 0, .str "0", .ref (st.length + 1)]
  have hb : PV.bels (st ++ [SO.lst (a.map .int)] ++ [SO.dic []]).length bs = true := by
    simp only [bs, PV.bels, PV.bel, List.length_append, List.length_cons, List.length_nil, Bool.and_eq_true, Bool.true_and, bels_app (bels_ints (cutR a)) (show PV.bel _ (.int 2) = true from rfl), bels_app (bels_ints (cutR a)) (show PV.bel _ (.bl true) = true from rfl), bels_app (bels_ints (cutR a)) (show PV.bel _ .non = true from rfl)]
    refine ⟨decide_eq_true (by omega), ?_, decide_eq_true (by omega), trivial⟩
    exact bels_map (α := Int) (fun _ => .int 0) (fun _ => rfl) (List.replicate 9 0)
  have H3 := H2.push (o := .lst bs) (bels_le (Nat.le_add_right _ 1) bs hb)
  refine ⟨st.length + 2, bs, _, H3, by simp, by have := H.lt; omega, by simp [bs], ?_, ?_⟩
  · intro w hw
    have hw' := bels_mem hb hw
    have hbel : PV.bel (st ++ [SO.lst (a.map .int)] ++ [SO.dic []] ++ [SO.lst bs]).length w = true := by rw [List.length_append]; exact bel_le (Nat.le_add_right _ 1) w hw'
    simp only [bs, List.mem_cons, List.not_mem_nil, or_false] at hw
    rcases hw with rfl | rfl | rfl | rfl | rfl | rfl | rfl | rfl | rfl | rfl
    · exact ⟨rfl, hbel, rfl⟩
    · exact ⟨by simp [okAll], hbel, rfl⟩
    · exact ⟨by simp [okAll, kindOk], hbel, rfl⟩
    · exact ⟨okAll_app lq rfl, hbel, isRow_last rfl⟩
    · exact ⟨okAll_app lq rfl, hbel, isRow_last rfl⟩
    · exact ⟨okAll_app lq rfl, hbel, isRow_last rfl⟩
    · refine ⟨?_, hbel, rfl⟩
      have : (9 : Nat) ≤ szl := by omega
      simp [okAll, kindOk, this]
    · exact ⟨rfl, hbel, rfl⟩
    · exact ⟨rfl, hbel, rfl⟩
    · exact ⟨by simp [okAll, kindOk], hbel, rfl⟩
  · have e1 : ∀ st : Store, bltOp S .list [tI a] st = newL (a.map .int) st := fun _ => rfl
    have e2 : ∀ st : Store, sliceOp (tI a) none (some (-1)) st = .ok (tI (cutR a)) st := fun st => by
      show Res.ok (PV.tup (cutP (a.map .int) none (some (-1)))) st = _
      rw [cut_row ha h0]
    have e3 : ∀ (x : PV) (st : Store), binOp .Add (tI (cutR a)) (.tup [x]) st = .ok (.tup ((cutR a).map .int ++ [x])) st := fun x st => by
      show (if ((cutR a).map PV.int).length + 1 ≤ szl then Res.ok (PV.tup ((cutR a).map .int ++ [x])) st else .bad) = _
      rw [if_pos (by rw [List.length_map]; omega)]
    have e4 : ∀ st : Store, binOp .Mult (.tup [.int 0]) (.int 9) st = .ok (.tup (List.replicate 9 (.int 0))) st := fun st => rfl
    simp [e1, e2, e3, e4, newL, bs]
theorem r_pickB (H : HW h st0 st n) (hn : n < 2 ^ 56) {i : Nat} {bs : List PV} (hi : st[i]? = some (.lst bs)) (hih : i ≠ h) (hl : bs.length ≤ 100) (hb : ∀ w ∈ bs, BadP st w) (a b : Option PV) (r : MP.Env) : ∃ w st', BadP st' w ∧ HW h st0 st' (n + 42) ∧
    exS (CR S) (.asg (.nm 3) (.call 19 [(.var 0), (.bin .Add (.var 3) (.lx (.lst [(.call 21 [(.var 0)])])))])) (some (.ref h) :: a :: b :: some (.ref i) :: r) st = .nx (some (.ref h) :: a :: b :: some w :: r) st' := by
  obtain ⟨w, st', e, hw, H1⟩ := r_pick G (P := BadP) (fun H b => b.hw H) (fun d => D2.badP d) H hn (ρ := some (.ref h) :: a :: b :: some (.ref i) :: r) (j := 3) rfl rfl hi hih hl hb
  refine ⟨w, st', hw, H1, ?_⟩
  rw [R.exS_asg, e]
  simp
theorem r_none (H : HW h st0 st n) (hn : n < 2 ^ 56) (a b : Option PV) (c : Option PV) (r : MP.Env) : ∃ w st', NonP st' w ∧ HW h st0 st' (n + 42) ∧
    exS (CR S) (.asg (.nm 4) (.call 19 [(.var 0), (.lx (.lst [(.lit (.int 0)), (.lit (.int 9)), (.neg (.lit (.int 1))), (.lit .non), (.lit (.bl true)), (.lit (.str "1")), (.tup [(.lit (.int 1))]), (.call 21 [(.var 0)])]))])) (some (.ref h) :: a :: b :: c :: none :: r) st = .nx (some (.ref h) :: a :: b :: c :: some w :: r) st' := by
  obtain ⟨v, st1, e1, D, H1⟩ := l21 G.toGoodD H.refl (by omega)
  have ho : SO.bel (st1.length + 1) (.lst [.int 0, .int 9, .int (-1), .non, .bl true, .str "1", .tup [.int 1], v]) = true := by simp [SO.bel, PV.bels, PV.bel, bel_le (Nat.le_add_right _ 1) v D.d.bel]
  have H2 := H1.push ho
  have hk : (st1 ++ [SO.lst [.int 0, .int 9, .int (-1), .non, .bl true, .str "1", .tup [.int 1], v]])[st1.length]? = some (.lst [.int 0, .int 9, .int (-1), .non, .bl true, .str "1", .tup [.int 1], v]) := by simp
  have hkh : st1.length ≠ h := by have := H1.lt; omega
  obtain ⟨w, st4, e4, hw, H4⟩ := l19 G.toGoodD H2.refl (by omega) hk hkh (by simp) (by simp)
  refine ⟨w, st4, ?_, H.trans (H2.trans (H4.mono (by omega))), ?_⟩
  · refine NonP.hw (n := n + 42) (H4.mono (by omega)) (NonP.hw (n := n + 42) (H2.refl.mono (by omega)) ?_)
    have hb : PV.bel (st1 ++ [SO.lst [.int 0, .int 9, .int (-1), .non, .bl true, .str "1", .tup [.int 1], v]]).length w = true := bels_mem (wf_lst H2.wf hk) hw
    simp only [List.mem_cons, List.not_mem_nil, or_false] at hw
    rcases hw with rfl | rfl | rfl | rfl | rfl | rfl | rfl | rfl
    · exact ⟨rfl, hb, rfl⟩
    · exact ⟨rfl, hb, rfl⟩
    · exact ⟨rfl, hb, rfl⟩
    · exact ⟨rfl, hb, rfl⟩
    · exact ⟨rfl, hb, rfl⟩
    · exact ⟨rfl, hb, rfl⟩
    · exact ⟨rfl, hb, rfl⟩
    · exact (D2.nonP D).hw (H1.refl.push ho)
  · simp [e1, newL, e4]
theorem r_lots (H : HW h st0 st n) {m : Int} (h0 : 1 ≤ m) (h8 : m ≤ 8) (b c d : Option PV) (r : MP.Env) : ∃ i bs st', HW h st0 st' n ∧ (∀ v, NonP st v → NonP st' v) ∧ (∀ v, BadP st v → BadP st' v) ∧ st'[i]? = some (.lst bs) ∧ i ≠ h ∧ bs.length ≤ 100 ∧ (∀ w ∈ bs, LotP m st' w) ∧
    exS (CR S) (.asg (.nm 5) (.lx (.lst [(.lit .non), (.tup [(.tup []), (.tup [])]), (.tup [(.tup [(.lit (.int 0))]), (.tup [(.lit (.int 0))])]), (.tup [(.tup [(.var 1)]), (.tup [])]), (.lx (.lst [(.tup [(.lit (.int 0))]), (.tup [])])), (.tup [(.tup [(.lit (.int 0))])]), (.tup [(.tup [(.lit (.int 0)), (.lit (.int 0))]), (.tup [])]), (.tup [(.tup [(.lit (.bl true))]), (.tup [])]), (.lit (.int 0)), .emp]))) (some (.ref h) :: some (.int m) :: b :: c :: d :: none :: r) st = .nx (some (.ref h) :: some (.int m) :: b :: c :: d :: some (.ref i) :: r) st' := by
  have hz : (1000 : Nat) ≤ szl := by decide
  have z2 : (2 : Nat) ≤ szl := by omega
  have z1 : (1 : Nat) ≤ szl := by omega
  have H1 := H.push (o := .lst [.tup [.int 0], .tup []]) rfl
  have H2 := H1.push (o := .dic []) rfl
  let bs : List PV := [.non, .tup [.tup [], .tup []], .tup [.tup [.int 0], .tup [.int 0]], .tup [.tup [.int m], .tup []], .ref st.length, .tup [.tup [.int 0]], .tup [.tup [.int 0, .int 0], .tup []], .tup [.tup [.bl true], .tup []], .int 0, .ref (st.length + 1)]
  have hb : PV.bels (st ++ [SO.lst [.tup [.int 0], .tup []]] ++ [SO.dic []]).length bs = true := by
    simp [bs, PV.bels, PV.bel]
  have H3 := H2.push (o := .lst bs) (bels_le (Nat.le_add_right _ 1) bs hb)
  have K := (H.refl.push (o := .lst [.tup [.int 0], .tup []]) rfl).push (o := .dic []) rfl |>.push (o := .lst bs) (bels_le (Nat.le_add_right _ 1) bs hb)
  refine ⟨st.length + 2, bs, _, H3, fun v hv => hv.hw K, fun v hv => hv.hw K, by simp, by have := H.lt; omega, by simp [bs], ?_, ?_⟩
  · intro w hw
    have hw' := bels_mem hb hw
    have hbel : PV.bel (st ++ [SO.lst [.tup [.int 0], .tup []]] ++ [SO.dic []] ++ [SO.lst bs]).length w = true := by rw [List.length_append]; exact bel_le (Nat.le_add_right _ 1) w hw'
    simp only [bs, List.mem_cons, List.not_mem_nil, or_false] at hw
    rcases hw with rfl | rfl | rfl | rfl | rfl | rfl | rfl | rfl | rfl | rfl
    · exact ⟨rfl, hbel, rfl⟩
    · exact ⟨by simp [okAll2, okAll, z2], hbel, by simp [isSigned, elems]⟩
    · exact ⟨by simp [okAll2, okAll, z2, z1, kindOk], hbel, by simp [isSigned, elems, intOf]⟩
    · refine ⟨by simp [okAll2, okAll, z2, z1, kindOk], hbel, ?_⟩
      have : ¬ m ≤ m - 1 := by omega
      simp [isSigned, isLot, btw, this]
    · exact ⟨by simp [okAll2, kindOk], hbel, rfl⟩
    · exact ⟨by simp [okAll2, okAll, z2, z1, kindOk], hbel, rfl⟩
    · exact ⟨by simp [okAll2, okAll, z2, z1, kindOk], hbel, by simp [isSigned, isLot, incr, ltP]⟩
    · exact ⟨by simp [okAll2, okAll, z2, z1, kindOk], hbel, by simp [isSigned, isLot, btw]⟩
    · exact ⟨rfl, hbel, rfl⟩
    · exact ⟨by simp [okAll2, kindOk], hbel, rfl⟩
  · simp [newL, bs]
theorem r_lot (H : HW h st0 st n) (hn : n < 2 ^ 56) {m : Int} (h0 : 1 ≤ m) (h8 : m ≤ 8) {a : List Int} (ha : RowI m a) {i : Nat} {bs : List PV} (hi : st[i]? = some (.lst bs)) (hih : i ≠ h) (hl : bs.length ≤ 100) (hb : ∀ w ∈ bs, LotP m st w) (c d : Option PV) (r : MP.Env) : ∃ w q k st', LotP m st' w ∧ RowI k q ∧ 1 ≤ k ∧ k ≤ 8 ∧ k ≠ m ∧ HW h st0 st' (n + 42) ∧ HW h st st' (n + 42) ∧
    exS (CR S) (.asg (.tup [(.nm 6), (.nm 7)]) (.tup [(.call 19 [(.var 0), (.bin .Add (.var 5) (.lx (.lst [(.call 21 [(.var 0)])])))]), (.ife (.cmp .Lt (.var 1) (.lit (.int 8))) (.bin .Add (.var 2) (.tup [(.lit (.int 0))])) (.slice (.var 2) none (some (.neg (.lit (.int 1))))))])) (some (.ref h) :: some (.int m) :: some (tI a) :: c :: d :: some (.ref i) :: none :: none :: r) st = .nx (some (.ref h) :: some (.int m) :: some (tI a) :: c :: d :: some (.ref i) :: some w :: some (tI q) :: r) st' := by
  have la := ha.1
  have hz : (1000 : Nat) ≤ szl := by decide
  obtain ⟨w, st', e, hw, H1⟩ := r_pick G (P := LotP m) (fun H b => b.hw H) (fun d => D2.lotP d) H.refl hn (ρ := some (.ref h) :: some (.int m) :: some (tI a) :: c :: d :: some (.ref i) :: none :: none :: r) (j := 5) rfl rfl hi hih hl hb
  by_cases hm : m < 8
  · refine ⟨w, a ++ [0], m + 1, st', hw, ⟨by rw [List.length_append]; simp; omega, fun x hx => ?_⟩, by omega, by omega, by omega, H.trans H1, H1, ?_⟩
    · rcases List.mem_append.mp hx with hx | hx
      · exact ha.2 x hx
      · cases List.mem_singleton.mp hx; decide
    · have e3 : ∀ (st : Store), binOp .Add (tI a) (.tup [.int 0]) st = .ok (tI (a ++ [0])) st := fun st => by
        show (if (a.map PV.int).length + 1 ≤ szl then Res.ok (PV.tup (a.map .int ++ [.int 0])) st else .bad) = _
        rw [if_pos (by rw [List.length_map]; omega)]
        simp
      rw [R.exS_asg, R.ev_tup, R.evs_1, e]
      simp [hm, e3]
  · have hm8 : m = 8 := by omega
    refine ⟨w, cutR a, 7, st', hw, ⟨by simp [cutR]; omega, fun x hx => ha.2 x (List.dropLast_subset _ hx)⟩, by omega, by omega, by omega, H.trans H1, H1, ?_⟩
    have e2 : ∀ st : Store, sliceOp (tI a) none (some (-1)) st = .ok (tI (cutR a)) st := fun st => by
      show Res.ok (PV.tup (cutP (a.map .int) none (some (-1)))) st = _
      rw [cut_row ha h0]
    rw [R.exS_asg, R.ev_tup, R.evs_1, e]
    simp [hm, e2]
end
end L_k11
set_option Elab.async false
set_option linter.all false
set_option exponentiation.threshold 2000
set_option maxRecDepth 100000
set_option maxHeartbeats 4000000
namespace L_k11
open PySem MP
theorem HW_setS {h n : Nat} {st0 st : Store} {i : Nat} {x : Str} {xs : List PV} {o : SO} (H : HW h st0 st n) (hi : st[i]? = some (.lst (.str x :: xs))) (hge : st0.length ≤ i) (hn : i ≠ h) (ho : SO.bel st.length o = true) : HW h st0 (st.set i o) n where
  hand := by
    obtain ⟨q, p, b, s, c, cells, K, hc⟩ := H.hand
    have hq : i ≠ q := by
      rintro rfl
      have := K.cl
      rw [hi] at this
      have e := SO.lst.inj (Option.some.inj this)
      cases cells <;> cases e
    exact ⟨q, p, b, s, c, cells, ⟨by rw [List.getElem?_set_ne hn]; exact K.at_, by rw [List.getElem?_set_ne hq]; exact K.cl, K.ne, K.b0, K.s0, K.s1, K.c0, K.cs⟩, hc⟩
  wf := wf_set H.wf ho
  fr := ⟨by rw [List.length_set]; exact H.fr.len, fun j hj hne => by rw [List.getElem?_set_ne (by omega)]; exact H.fr.at_ j hj hne⟩
section
variable {S : Sig} {st0 st st1 : Store} {h n : Nat} (G : GoodL S)
include G
theorem w_lam {ρ : MP.Env} {body : Ex} {c : Nat} (hc : c = 1 ∨ c = 2 ∨ c = 3 ∨ c = 4) (H : HW h st st1 n) (he : ev (CR S).inLam body ρ st1 = .exc c [] st1) : ∃ a b, HW h st ((st1 ++ [SO.lst a]) ++ [SO.lst b]) n ∧ ev (CR S) (.lam 0 body) ρ st1 = .ok (.str (wordOf c)) ((st1 ++ [SO.lst a]) ++ [SO.lst b]) := by
  obtain ⟨a, b, ha, hb, e⟩ := word_exc G hc (fun st' => ev (CR S).inLam body ρ st') st1 he
  refine ⟨a, b, (H.push (o := .lst a) (ha _)).push (o := .lst b) (hb _), ?_⟩
  rw [R.ev_lam]
  show (if true = true then (S.lam 0 (fun st' => ev (CR S).inLam body ρ st') st1).calm else .bad) = _
  rw [if_pos rfl, e]
  rfl
theorem w_step {ρ : MP.Env} {body : Ex} {c i : Nat} {w0 : Str} {ws : List Str} (hc : c = 1 ∨ c = 2 ∨ c = 3 ∨ c = 4) (H : HW h st st1 n) (he : ev (CR S).inLam body ρ st1 = .exc c [] st1) (hi : st1[i]? = some (.lst ((w0 :: ws).map .str))) (hge : st.length ≤ i) (hih : i ≠ h) (hl : ws.length ≤ 50) (h8 : ρ[8]? = some (some (.ref i))) :
    ∃ st2, HW h st st2 n ∧ st2[i]? = some (.lst ((w0 :: (ws ++ [wordOf c])).map .str)) ∧ exS (CR S) (.expr (.meth .append (.var 8) [(.lam 0 body)])) ρ st1 = .nx ρ st2 := by
  obtain ⟨a, b, H2, e⟩ := w_lam G hc H he
  have hlt := lt_of_getElem? hi
  have hi2 : ((st1 ++ [SO.lst a]) ++ [SO.lst b])[i]? = some (.lst ((w0 :: ws).map .str)) := by rw [List.getElem?_append_left (by simp; omega), List.getElem?_append_left hlt]; exact hi
  have hz : (ws.map PV.str).length + 1 < szl := by have : (1000 : Nat) ≤ szl := by decide
                                                   rw [List.length_map]; omega
  refine ⟨((st1 ++ [SO.lst a]) ++ [SO.lst b]).set i (.lst ((w0 :: (ws ++ [wordOf c])).map .str)), HW_setS H2 hi2 hge hih (bels_map _ (fun _ => rfl) _), List.getElem?_set_self (lt_of_getElem? hi2), ?_⟩
  rw [R.exS_expr, R.ev_meth, R.ev_var, h8]
  have hls : lstAt st1 (.ref i) = some ((w0 :: ws).map .str) := by simp only [lstAt, hi]
  simp only [Res.bind_ok, hls, R.evs_1, R.evs_0, e]
  simp only [mthOp, hi2, List.map_cons, List.length_cons, hz, if_true, Res.fl_ok, List.map_append, List.map_nil, List.cons_append]
/-- what one of the asking defs does -/
structure Asks (S : Sig) (k : Nat) : Prop where
  ar : S.ar k = some (2, 7)
  a : ∀ {st : Store} {v w : PV}, Store.wf st → okAll st v = true → isRow v = false → S.fn k [v, w] st = .exc 3 [] st
  b : ∀ {st : Store} {v w : PV}, Store.wf st → okAll st v = true → isRow v = true → okAll st w = true → isRow w = false → S.fn k [v, w] st = .exc 3 [] st
  c : ∀ {st : Store} {a b : List PV}, Store.wf st → okAll st (.tup a) = true → isRow (.tup a) = true → okAll st (.tup b) = true → isRow (.tup b) = true → a.length ≠ b.length → S.fn k [.tup a, .tup b] st = .exc 4 [] st
theorem asks12 : Asks S 12 := ⟨G.ar.1, fun hw ho h => l12a G.toGood hw ho h, fun hw ho h ho' h' => l12b G.toGood hw ho h ho' h', fun hw ho h ho' h' hl => l12c G.toGood hw ho h ho' h' hl⟩
theorem asks14 : Asks S 14 := ⟨G.ar.2.1, fun hw ho h => l14a G.toGood hw ho h, fun hw ho h ho' h' => l14b G.toGood hw ho h ho' h', fun hw ho h ho' h' hl => l14c G.toGood hw ho h ho' h' hl⟩
theorem asks16 : Asks S 16 := ⟨G.ar.2.2, fun hw ho h => l16a G.toGood hw ho h, fun hw ho h ho' h' => l16b G.toGood hw ho h ho' h', fun hw ho h ho' h' hl => l16c G.toGood hw ho h ho' h' hl⟩
abbrev askBody : List MP.St := [(.expr (.meth .append (.var 8) [(.lam 0 (.callV 9 [(.var 3), (.lit .non)]))])), (.expr (.meth .append (.var 8) [(.lam 0 (.callV 9 [(.var 2), (.var 3)]))])), (.expr (.meth .append (.var 8) [(.lam 0 (.callV 9 [(.var 2), (.var 7)]))]))]
theorem r_ask {k : Nat} (A : Asks S k) {m k' : Int} {a q : List Int} (h0 : 1 ≤ m) (h8 : m ≤ 8) (ha : RowI m a) (h0' : 1 ≤ k') (h8' : k' ≤ 8) (hk : k' ≠ m) (hq : RowI k' q) {bad : PV} (hb : BadP st bad) {v0 v1 v4 v5 v6 : Option PV} (H : HW h st st1 n) {i : Nat} {w0 : Str} {ws : List Str} (hi : st1[i]? = some (.lst ((w0 :: ws).map .str))) (hge : st.length ≤ i) (hih : i ≠ h) (hl : ws.length ≤ 40) :
    ∃ st2, HW h st st2 n ∧ st2[i]? = some (.lst ((w0 :: (ws ++ ([wordOf 3, wordOf 3, wordOf 4] : List Str))).map .str)) ∧ exs (CR S) askBody [v0, v1, some (tI a), some bad, v4, v5, v6, some (tI q), some (.ref i), some (.fn k)] st1 = .nx [v0, v1, some (tI a), some bad, v4, v5, v6, some (tI q), some (.ref i), some (.fn k)] st2 := by
  have la := ha.1
  have lq := hq.1
  have ra := isRow_row ha h0 h8
  have rq := isRow_row hq h0' h8'
  obtain ⟨s2, H2, i2, e2⟩ := w_step G (ρ := [v0, v1, some (tI a), some bad, v4, v5, v6, some (tI q), some (.ref i), some (.fn k)]) (body := .callV 9 [(.var 3), (.lit .non)]) (c := 3) (by simp) H (by
    simp [Cn.inLam, A.ar, A.a H.wf (hb.hw H).ok hb.no]) hi hge hih (by omega) rfl
  obtain ⟨s3, H3, i3, e3⟩ := w_step G (ρ := [v0, v1, some (tI a), some bad, v4, v5, v6, some (tI q), some (.ref i), some (.fn k)]) (body := .callV 9 [(.var 2), (.var 3)]) (c := 3) (by simp) H2 (by
    simp [Cn.inLam, A.ar, A.b H2.wf (okAll_tI (r := a) (by omega)) ra (hb.hw H2).ok hb.no]) i2 hge hih (by simp; omega) rfl
  obtain ⟨s4, H4, i4, e4⟩ := w_step G (ρ := [v0, v1, some (tI a), some bad, v4, v5, v6, some (tI q), some (.ref i), some (.fn k)]) (body := .callV 9 [(.var 2), (.var 7)]) (c := 4) (by simp) H3 (by
    simp [Cn.inLam, A.ar, A.c H3.wf (okAll_tI (r := a) (by omega)) ra (okAll_tI (r := q) (by omega)) rq (by simp; omega)]) i3 hge hih (by simp; omega) rfl
  refine ⟨s4, H4, ?_, ?_⟩
  · rw [i4]; simp
  · rw [exs_cons, e2, Fl.seq_nx, exs_cons, e3, Fl.seq_nx, exs_cons, e4, Fl.seq_nx, exs_nil]
end
end L_k11
set_option Elab.async false
set_option linter.all false
set_option exponentiation.threshold 2000
set_option maxRecDepth 100000
set_option maxHeartbeats 4000000
namespace L_k11
open PySem MP
theorem strs_data {g : Nat → Option PyData} (ws : List Str) : PV.datas g (ws.map .str) = some (ws.map .str) := datas_map (f := PV.str) (d := PyData.str) (fun x => by simp only [PV.data]) ws
theorem strs_lay : ∀ ws : List Str, (∀ x ∈ ws, PyData.strOk x = true) → PyData.canLayAll0 (ws.map .str) = true
  | [], _ => rfl
  | x :: xs, h => by simp only [List.map_cons, PyData.canLayAll0, PyData.canLay0, h x (List.mem_cons_self ..), strs_lay xs fun y hy => h y (List.mem_cons_of_mem _ hy), Bool.and_self]
theorem strs_depth : ∀ ws : List Str, PyData.depthAll (ws.map .str) = 0
  | [] => rfl
  | x :: xs => by simp only [List.map_cons, PyData.depthAll, PyData.depth, strs_depth xs]; rfl
theorem strs_eqv : ∀ (a b : List Str), PyData.eqvAll (a.map .str) (b.map .str) = decide (a = b)
  | [], [] => rfl
  | [], _ :: _ => rfl
  | _ :: _, [] => rfl
  | x :: xs, y :: ys => by
    simp only [List.map_cons, PyData.eqvAll, PyData.eqv, strs_eqv xs ys]
    by_cases h : x = y <;> simp [h]
theorem eq_strs {st : Store} {i j : Nat} {xs ys : List Str} (hi : st[i]? = some (.lst (xs.map .str))) (hj : st[j]? = some (.lst (ys.map .str))) (hx : ∀ x ∈ xs, PyData.strOk x = true) (hy : ∀ x ∈ ys, PyData.strOk x = true) : eqPV st (.ref i) (.ref j) = some (decide (xs = ys)) := by
  have e : eqPV st (.ref i) (.ref j) = (match dataIn st (.ref i), dataIn st (.ref j) with
    | some d, some e => if SeqAt.shaped d && SeqAt.shaped e then some (PyData.eqv d e) else none
    | _, _ => none) := rfl
  have f : ∀ {k : Nat} {zs : List Str}, st[k]? = some (.lst (zs.map .str)) → dataIn st (.ref k) = some (.list (zs.map .str)) := by
    intro k zs hk
    have e : dataIn st (.ref k) = rdL st 64 k := by simp only [dataIn, PV.data]
    rw [e]
    simp only [rdL, hk, strs_data, Option.map_some]
  have sh : ∀ zs : List Str, (∀ x ∈ zs, PyData.strOk x = true) → SeqAt.shaped (.list (zs.map .str)) = true := fun zs hz => by simp [SeqAt.shaped, PyData.canLay0, PyData.depth, strs_lay zs hz, strs_depth]
  rw [e, f hi, f hj]
  simp only [sh xs hx, sh ys hy, Bool.and_self, if_true, PyData.eqv, strs_eqv]
theorem l24 {S : Sig} {st0 st : Store} {h n : Nat} (G : GoodL S) (H : HW h st0 st n) (hn : n < 2 ^ 55) : ∃ st', S.fn 24 [.ref h] st = .ok (.bl true) st' ∧ HW h st0 st' (n + 200) := by
  obtain ⟨m, st1, h0, h8, H1, e1⟩ := r_draw G H.refl (by omega) [none, none, none, none, none, none, none, none]
  obtain ⟨a, st2, ha, H2, e2⟩ := r_row G H1 (by omega) h0 h8 [none, none, none, none, none, none, none]
  obtain ⟨i3, bs3, st3, H3, hi3, hih3, hl3, hb3, e3⟩ := r_bad G H2 h0 h8 ha [none, none, none, none, none, none]
  obtain ⟨bad, st4, hb4, H4, e4⟩ := r_pickB G H3 (by omega) hi3 hih3 hl3 hb3 (some (.int m)) (some (tI a)) [none, none, none, none, none, none]
  obtain ⟨nn, st5, hn5, H5, e5⟩ := r_none G H4.refl (by omega) (some (.int m)) (some (tI a)) (some bad) [none, none, none, none, none]
  have hb5 := hb4.hw H5
  obtain ⟨i6, bs6, st6, H6, kn6, kb6, hi6, hih6, hl6, hl6b, e6⟩ := r_lots G H5.refl h0 h8 (some (tI a)) (some bad) (some nn) [none, none, none, none]
  have hb6 := kb6 _ hb5
  have hn6 := kn6 _ hn5
  obtain ⟨lot, q, k, st7, hlot, hq, k0, k8, hk, H7, H7', e7⟩ := r_lot G H6.refl (by omega) h0 h8 ha hi6 hih6 hl6 hl6b (some bad) (some nn) [none, none]
  have hb7 := hb6.hw H7'
  have hn7 := hn6.hw H7'
  have HH : HW h st st7 (n + 1 + 8 + 42 + 42 + 42) := ((H4.trans H5).trans H6).trans H7
  -- the words
  have R7 := HH.refl
  have la := ha.1
  obtain ⟨wa, wb, H8, e8⟩ := w_lam G (ρ := [some (.ref h), some (.int m), some (tI a), some bad, some nn, some (.ref i6), some lot, some (tI q), none, none]) (body := .call 6 [(.var 4), (.var 6)]) (c := 1) (by simp) R7 (by
    simp [Cn.inLam, l6n G.toGood R7.wf hn7.ok hn7.no])
  have H8' := H8.push (o := .lst [.str (wordOf 1)]) rfl
  have i8 : ((st7 ++ [SO.lst wa]) ++ [SO.lst wb] ++ [SO.lst [.str (wordOf 1)]])[st7.length + 2]? = some (.lst ((wordOf 1 :: []).map .str)) := by simp
  have hge : st7.length ≤ st7.length + 2 := by omega
  have hih : st7.length + 2 ≠ h := by have := R7.lt; omega
  obtain ⟨st9, H9, i9, e9⟩ := w_step G (ρ := [some (.ref h), some (.int m), some (tI a), some bad, some nn, some (.ref i6), some lot, some (tI q), some (.ref (st7.length + 2)), none]) (body := .call 6 [(.var 1), (.var 6)]) (c := 2) (by simp) H8' (by
    have hm : btw (.int m) 1 8 = true := by simp [btw]; omega
    simp [Cn.inLam]
    have := l6l G.toGood H8'.wf hm (hlot.hw H8').ok (hlot.hw H8').no
    simp at this
    rw [this]) i8 hge hih (by simp) rfl
  obtain ⟨st10, H10, i10, e10⟩ := w_step G (ρ := [some (.ref h), some (.int m), some (tI a), some bad, some nn, some (.ref i6), some lot, some (tI q), some (.ref (st7.length + 2)), none]) (body := .call 9 [(.var 3)]) (c := 3) (by simp) H9 (by
    simp [Cn.inLam, l9' G.toGood H9.wf (hb7.hw H9).ok hb7.no]) i9 hge hih (by simp) rfl
  obtain ⟨st11, H11, i11, e11⟩ := r_ask G (asks12 G) h0 h8 ha k0 k8 hk hq hb7 (v0 := some (.ref h)) (v1 := some (.int m)) (v4 := some nn) (v5 := some (.ref i6)) (v6 := some lot) H10 i10 hge hih (by simp)
  obtain ⟨st12, H12, i12, e12⟩ := r_ask G (asks14 G) h0 h8 ha k0 k8 hk hq hb7 (v0 := some (.ref h)) (v1 := some (.int m)) (v4 := some nn) (v5 := some (.ref i6)) (v6 := some lot) H11 i11 hge hih (by simp)
  obtain ⟨st13, H13, i13, e13⟩ := r_ask G (asks16 G) h0 h8 ha k0 k8 hk hq hb7 (v0 := some (.ref h)) (v1 := some (.int m)) (v4 := some nn) (v5 := some (.ref i6)) (v6 := some lot) H12 i12 hge hih (by simp)
  have H14 := H13.push (o := .lst [.str (wordOf 3), .str (wordOf 3), .str (wordOf 4)]) rfl
  have H15 := H14.push (o := .lst ([wordOf 3, wordOf 3, wordOf 4, wordOf 3, wordOf 3, wordOf 4, wordOf 3, wordOf 3, wordOf 4].map .str)) rfl
  have H16 := H15.push (o := .lst ([wordOf 1, wordOf 2, wordOf 3, wordOf 3, wordOf 3, wordOf 4, wordOf 3, wordOf 3, wordOf 4, wordOf 3, wordOf 3, wordOf 4].map .str)) rfl
  refine ⟨_, ?_, H.trans ((HH.trans H16).mono (show n + 1 + 8 + 42 + 42 + 42 ≤ n + 200 by omega))⟩
  refine G.e24.ok ?_ (HH.trans H16).fr.len H16.wf rfl
  rw [runBody_eq]
  have e0 : ([.ref h] : List PV).map some ++ List.replicate (10 - ([.ref h] : List PV).length) none = [some (.ref h), none, none, none, none, none, none, none, none, none] := rfl
  rw [e0]
  unfold b__law_are_refused
  rw [exs_cons, e1, Fl.seq_nx, exs_cons, e2, Fl.seq_nx, exs_cons, e3, Fl.seq_nx, exs_cons, e4, Fl.seq_nx, exs_cons, e5, Fl.seq_nx, exs_cons, e6, Fl.seq_nx, exs_cons, e7, Fl.seq_nx, exs_cons]
  have e8' : exS (CR S) (.asg (.nm 8) (.lx (.lst [(.lam 0 (.call 6 [(.var 4), (.var 6)]))]))) [some (.ref h), some (.int m), some (tI a), some bad, some nn, some (.ref i6), some lot, some (tI q), none, none] st7 = .nx [some (.ref h), some (.int m), some (tI a), some bad, some nn, some (.ref i6), some lot, some (tI q), some (.ref (st7.length + 2)), none] ((st7 ++ [SO.lst wa]) ++ [SO.lst wb] ++ [SO.lst [.str (wordOf 1)]]) := by
    rw [R.exS_asg, R.ev_lx, R.evL_lst, R.evs_1, e8]
    simp [newL]
  rw [e8', Fl.seq_nx, exs_cons, e9, Fl.seq_nx, exs_cons, e10, Fl.seq_nx, exs_cons]
  have ef : exS (CR S) (.for_ (.nm 9) (.ex (.tup [(.lit (.fn 12)), (.lit (.fn 14)), (.lit (.fn 16))])) askBody) [some (.ref h), some (.int m), some (tI a), some bad, some nn, some (.ref i6), some lot, some (tI q), some (.ref (st7.length + 2)), none] st10 = .nx [some (.ref h), some (.int m), some (tI a), some bad, some nn, some (.ref i6), some lot, some (tI q), some (.ref (st7.length + 2)), some (.fn 16)] st13 := by
    rw [R.exS_for_]
    simp only [List.any_nil, Bool.false_eq_true, if_false, R.evI_ex, R.ev_tup, R.evs_1, R.evs_0, R.ev_lit, Res.bind_ok, srcOf_tup, ofOpt_some, Res.fl_ok]
    have p : ∀ (k : Nat) (v9 : Option PV), putF (.nm 9) (.fn k) [some (.ref h), some (.int m), some (tI a), some bad, some nn, some (.ref i6), some lot, some (tI q), some (.ref (st7.length + 2)), v9] = some [some (.ref h), some (.int m), some (tI a), some bad, some nn, some (.ref i6), some lot, some (tI q), some (.ref (st7.length + 2)), some (.fn k)] := fun k v9 => by simp [putF]
    simp only [forLoop, src_ok_nil, if_true, p, forF, e11, e12, e13]
  rw [ef, Fl.seq_nx, exs_cons]
  have hlt := lt_of_getElem? i13
  have hle : (9 : Nat) ≤ szl := by decide
  have hle2 : (12 : Nat) ≤ szl := by decide
  have hmul : binOp .Mult (.ref st13.length) (.int 3) (st13 ++ [SO.lst [.str (wordOf 3), .str (wordOf 3), .str (wordOf 4)]]) = newL ([wordOf 3, wordOf 3, wordOf 4, wordOf 3, wordOf 3, wordOf 4, wordOf 3, wordOf 3, wordOf 4].map .str) (st13 ++ [SO.lst [.str (wordOf 3), .str (wordOf 3), .str (wordOf 4)]]) := by
    simp [binOp, hle]
  have q13 : st13[st7.length + 2]? = some (.lst ([wordOf 1, wordOf 2, wordOf 3, wordOf 3, wordOf 3, wordOf 4, wordOf 3, wordOf 3, wordOf 4, wordOf 3, wordOf 3, wordOf 4].map .str)) := by rw [i13]; rfl
  have hok : ∀ x ∈ ([wordOf 1, wordOf 2, wordOf 3, wordOf 3, wordOf 3, wordOf 4, wordOf 3, wordOf 3, wordOf 4, wordOf 3, wordOf 3, wordOf 4] : List Str), PyData.strOk x = true := by decide +kernel
  have heq : eqPV (st13 ++ [SO.lst [.str (wordOf 3), .str (wordOf 3), .str (wordOf 4)], SO.lst ([wordOf 3, wordOf 3, wordOf 4, wordOf 3, wordOf 3, wordOf 4, wordOf 3, wordOf 3, wordOf 4].map .str), SO.lst ([wordOf 1, wordOf 2, wordOf 3, wordOf 3, wordOf 3, wordOf 4, wordOf 3, wordOf 3, wordOf 4, wordOf 3, wordOf 3, wordOf 4].map .str)]) (.ref (st7.length + 2)) (.ref (st13.length + 1 + 1)) = some (decide (([wordOf 1, wordOf 2, wordOf 3, wordOf 3, wordOf 3, wordOf 4, wordOf 3, wordOf 3, wordOf 4, wordOf 3, wordOf 3, wordOf 4] : List Str) = [wordOf 1, wordOf 2, wordOf 3, wordOf 3, wordOf 3, wordOf 4, wordOf 3, wordOf 3, wordOf 4, wordOf 3, wordOf 3, wordOf 4])) := eq_strs (by rw [List.getElem?_append_left hlt]; exact q13) (by rw [List.getElem?_append_right (by omega), show st13.length + 1 + 1 - st13.length = 2 by omega]; rfl) hok hok
  have hw1 : ("number" : Str) = wordOf 1 := rfl
  have hw2 : ("lot" : Str) = wordOf 2 := rfl
  have hw3 : ("row" : Str) = wordOf 3 := rfl
  have hw4 : ("unlike" : Str) = wordOf 4 := rfl
  simp only [List.map_cons, List.map_nil] at heq hmul
  simp [hw1, hw2, hw3, hw4, newL, hmul, lstAt, hle2, cmpOp, heq]
end L_k11
set_option Elab.async false
set_option linter.all false
set_option exponentiation.threshold 2000
set_option maxRecDepth 100000
set_option maxHeartbeats 4000000
namespace L_k11
open PySem MP
theorem l25 {S : Sig} (G : GoodL S) (e25 : Self S 25 3 false 10 b_law) (ns : List Int) (hl : ns.length ≤ 63) (hb : ∀ x ∈ ns, x.natAbs.log2 ≤ 2000000) : ∃ st', S.fn 25 [.ref 0] [.frz (ns.map .int)] = .ok (.bl true) st' := by
  obtain ⟨st1, e17, H⟩ := l17 G.toGoodD ns hl hb
  have hw := H.wf
  have q6 := l6 G.toGood hw (m := 3) (a := [0]) (b := [2]) (by decide) (okAll2_pair (by decide) (by decide)) (by simp [isSigned, isLot, elems, intOf, btw, incr])
  have q9 := l9 G.toGood hw (r := [0, 0]) (okAll_tI (by decide)) (by simp [isRow, btw])
  have sm : ∀ (r : List Int), (∀ x ∈ r, -1 ≤ x ∧ x ≤ 1) → ∀ x ∈ r, smallI x := fun r h x hx => by have := h x hx; show x.natAbs < 2 ^ 64; omega
  have q12 := l12 G.toGood hw (a := [1, 0, 0]) (b := [-1, -1, 0]) (sm _ (by decide)) (sm _ (by decide)) (okAll_tI (by decide)) (by simp [isRow, btw]) (okAll_tI (by decide)) (by simp [isRow, btw]) rfl
  have q14 := l14 G.toGood hw (a := [1, -1, 0]) (b := [-1, -1, 1]) (sm _ (by decide)) (sm _ (by decide)) (okAll_tI (by decide)) (by simp [isRow, btw]) (okAll_tI (by decide)) (by simp [isRow, btw]) rfl
  have q16 := l16 G.toGood hw (a := [1, -1, 0]) (b := [-1, -1, 1]) (sm _ (by decide)) (sm _ (by decide)) (okAll_tI (by decide)) (by simp [isRow, btw]) (okAll_tI (by decide)) (by simp [isRow, btw]) rfl
  rw [show rowBy 3 [0] [2] = [1, 0, -1] by decide] at q6
  rw [show laid [1, 0, 0] [-1, -1, 0] = [1, -1, 0] by decide] at q12
  rw [show pars (-1) [1, -1, 0] [-1, -1, 1] = [0] by decide] at q14
  rw [show pars 1 [1, -1, 0] [-1, -1, 1] = [1] by decide] at q16
  rw [show lotOf [0, 0] = .tup [.tup [], .tup []] by decide] at q9
  simp only [tI, List.map_cons, List.map_nil] at q6 q9 q12 q14 q16
  obtain ⟨ds, st2, e2, _, hd, H2⟩ := lcLoop_inv (f := lcF ⟨S, none, none, [], false, 10⟩ [2] (.and (.call 23 [(.var 1)]) (.call 24 [(.var 1)])) (.nm 2) [] [some (.ref 0), some (.ref 3), none]) (I := fun k st' => HW 3 [.frz (ns.map .int)] st' (300 * k)) (Q := fun d => d = .bl true) (N := 100) (rangeP 0 6) (fun x _ k st' hk Hk => by
    obtain ⟨s1, a1, H1⟩ := l23 G.toGoodI Hk (by omega)
    obtain ⟨s2, a2, H2⟩ := l24 G H1 (by omega)
    refine ⟨.bl true, s2, ?_, rfl, H2.mono (by omega)⟩
    simp [lcF, wipe, Cn.bare, a1, a2]) 0 st1 [] (by simp [rangeP]) (by simpa using H)
  refine ⟨st2, e25.ok ?_ H2.fr.len H2.wf rfl⟩
  have n1 : eqPV st1 (.tup [.tup [], .tup []]) (.tup [.tup [], .tup []]) = some true := rfl
  have n2 : ∀ (a : List Int), eqPV st1 (.tup (a.map .int)) (.tup (a.map .int)) = some true := fun a => by rw [eq_tI]; simp
  have n3 := n2 [1, 0, -1]
  have n4 := n2 [1, -1, 0]
  have n5 := n2 [0]
  have n6 := n2 [1]
  simp only [List.map_cons, List.map_nil] at n3 n4 n5 n6
  have hz : (6 : Int) ≤ (szl : Nat) := by decide
  simp [runBody_eq, b_law, e17, q6, q9, q12, q14, q16, cmpOp, n1, n3, n4, n5, n6, e2, blt1, allB_true hd]
end L_k11
set_option Elab.async false
set_option linter.all false
set_option maxRecDepth 100000
set_option maxHeartbeats 4000000
namespace L_k11
open PySem PySem.Spec PyProof.Rows L2 LamX MP
def D_is_integer : DC := ⟨"is_integer", ["thing"], ["thing"], defArgs (top 8), defBody (top 8), defScope (top 8), false, 0, b_is_integer⟩
theorem ok_is_integer : D_is_integer.Ok T fn tf := ⟨List.mem_of_getElem? (i := 0) rfl, s_is_integer, (fun h => nomatch h), c_is_integer, bd_is_integer⟩
def D_is_between : DC := ⟨"is_between", ["thing", "low", "high"], ["thing", "low", "high"], defArgs (top 9), defBody (top 9), defScope (top 9), false, 1, b_is_between⟩
theorem ok_is_between : D_is_between.Ok T fn tf := ⟨List.mem_of_getElem? (i := 1) rfl, s_is_between, (fun h => nomatch h), c_is_between, bd_is_between⟩
def D_is_lot : DC := ⟨"is_lot", ["limit", "thing"], ["limit", "thing", "one", "at"], defArgs (top 10), defBody (top 10), defScope (top 10), false, 2, b_is_lot⟩
theorem ok_is_lot : D_is_lot.Ok T fn tf := ⟨List.mem_of_getElem? (i := 2) rfl, s_is_lot, (fun h => nomatch h), c_is_lot, bd_is_lot⟩
def D_are_signs : DC := ⟨"are_signs", ["many", "thing"], ["many", "thing", "one"], defArgs (top 11), defBody (top 11), defScope (top 11), false, 2, b_are_signs⟩
theorem ok_are_signs : D_are_signs.Ok T fn tf := ⟨List.mem_of_getElem? (i := 3) rfl, s_are_signs, (fun h => nomatch h), c_are_signs, bd_are_signs⟩
def D_is_signed : DC := ⟨"is_signed", ["many", "thing"], ["many", "thing", "lot", "one"], defArgs (top 13), defBody (top 13), defScope (top 13), false, 3, b_is_signed⟩
theorem ok_is_signed : D_is_signed.Ok T fn tf := ⟨List.mem_of_getElem? (i := 4) rfl, s_is_signed, (fun h => nomatch h), c_is_signed, bd_is_signed⟩
def D_row_by : DC := ⟨"row_by", ["many", "lot"], ["many", "lot", "thing"], defArgs (top 15), defBody (top 15), defScope (top 15), false, 0, b_row_by⟩
theorem ok_row_by : D_row_by.Ok T fn tf := ⟨List.mem_of_getElem? (i := 5) rfl, s_row_by, (fun h => nomatch h), c_row_by, bd_row_by⟩
def D_row_of : DC := ⟨"row_of", ["many", "lot"], ["many", "lot"], defArgs (top 16), defBody (top 16), defScope (top 16), false, 4, b_row_of⟩
theorem ok_row_of : D_row_of.Ok T fn tf := ⟨List.mem_of_getElem? (i := 6) rfl, s_row_of, (fun h => nomatch h), c_row_of, bd_row_of⟩
def D_is_row : DC := ⟨"is_row", ["thing"], ["thing"], defArgs (top 17), defBody (top 17), defScope (top 17), false, 3, b_is_row⟩
theorem ok_is_row : D_is_row.Ok T fn tf := ⟨List.mem_of_getElem? (i := 7) rfl, s_is_row, (fun h => nomatch h), c_is_row, bd_is_row⟩
def D_check_row : DC := ⟨"check_row", ["thing"], ["thing"], defArgs (top 18), defBody (top 18), defScope (top 18), false, 4, b_check_row⟩
theorem ok_check_row : D_check_row.Ok T fn tf := ⟨List.mem_of_getElem? (i := 8) rfl, s_check_row, (fun h => nomatch h), c_check_row, bd_check_row⟩
def D_lot_of : DC := ⟨"lot_of", ["row"], ["row", "plus", "thing", "sign"], defArgs (top 19), defBody (top 19), defScope (top 19), false, 5, b_lot_of⟩
theorem ok_lot_of : D_lot_of.Ok T fn tf := ⟨List.mem_of_getElem? (i := 9) rfl, s_lot_of, (fun h => nomatch h), c_lot_of, bd_lot_of⟩
def D_check_rows : DC := ⟨"check_rows", ["one", "other"], ["one", "other"], defArgs (top 20), defBody (top 20), defScope (top 20), false, 5, b_check_rows⟩
theorem ok_check_rows : D_check_rows.Ok T fn tf := ⟨List.mem_of_getElem? (i := 10) rfl, s_check_rows, (fun h => nomatch h), c_check_rows, bd_check_rows⟩
def D_laid_on : DC := ⟨"laid_on", ["one", "other"], ["one", "other", "first", "last"], defArgs (top 21), defBody (top 21), defScope (top 21), false, 0, b_laid_on⟩
theorem ok_laid_on : D_laid_on.Ok T fn tf := ⟨List.mem_of_getElem? (i := 11) rfl, s_laid_on, (fun h => nomatch h), c_laid_on, bd_laid_on⟩
def D_put_on : DC := ⟨"put_on", ["one", "other"], ["one", "other"], defArgs (top 22), defBody (top 22), defScope (top 22), false, 6, b_put_on⟩
theorem ok_put_on : D_put_on.Ok T fn tf := ⟨List.mem_of_getElem? (i := 12) rfl, s_put_on, (fun h => nomatch h), c_put_on, bd_put_on⟩
def D_parting : DC := ⟨"parting", ["one", "other"], ["one", "other", "thing", "first", "last"], defArgs (top 23), defBody (top 23), defScope (top 23), false, 0, b_parting⟩
theorem ok_parting : D_parting.Ok T fn tf := ⟨List.mem_of_getElem? (i := 13) rfl, s_parting, (fun h => nomatch h), c_parting, bd_parting⟩
def D_parted : DC := ⟨"parted", ["one", "other"], ["one", "other"], defArgs (top 24), defBody (top 24), defScope (top 24), false, 6, b_parted⟩
theorem ok_parted : D_parted.Ok T fn tf := ⟨List.mem_of_getElem? (i := 14) rfl, s_parted, (fun h => nomatch h), c_parted, bd_parted⟩
def D_alike_in : DC := ⟨"alike_in", ["one", "other"], ["one", "other", "thing", "first", "last"], defArgs (top 25), defBody (top 25), defScope (top 25), false, 0, b_alike_in⟩
theorem ok_alike_in : D_alike_in.Ok T fn tf := ⟨List.mem_of_getElem? (i := 15) rfl, s_alike_in, (fun h => nomatch h), c_alike_in, bd_alike_in⟩
def D_alike : DC := ⟨"alike", ["one", "other"], ["one", "other"], defArgs (top 26), defBody (top 26), defScope (top 26), false, 6, b_alike⟩
theorem ok_alike : D_alike.Ok T fn tf := ⟨List.mem_of_getElem? (i := 16) rfl, s_alike, (fun h => nomatch h), c_alike, bd_alike⟩
def D__law_hand : DC := ⟨"_law_hand", ["script"], ["script", "numbers_in", "cell"], defArgs (top 28), defBody (top 28), defScope (top 28), false, 0, b__law_hand⟩
theorem ok__law_hand : D__law_hand.Ok T fn tf := ⟨List.mem_of_getElem? (i := 17) rfl, s__law_hand, (fun h => nomatch h), c__law_hand, bd__law_hand⟩
def D__law_draw : DC := ⟨"_law_draw", ["hand", "limit"], ["hand", "limit", "cell", "digit", "number"], defArgs (top 29), defBody (top 29), defScope (top 29), false, 0, b__law_draw⟩
theorem ok__law_draw : D__law_draw.Ok T fn tf := ⟨List.mem_of_getElem? (i := 18) rfl, s__law_draw, (fun h => nomatch h), c__law_draw, bd__law_draw⟩
def D__law_any : DC := ⟨"_law_any", ["hand", "some"], ["hand", "some"], defArgs (top 30), defBody (top 30), defScope (top 30), false, 1, b__law_any⟩
theorem ok__law_any : D__law_any.Ok T fn tf := ⟨List.mem_of_getElem? (i := 19) rfl, s__law_any, (fun h => nomatch h), c__law_any, bd__law_any⟩
def D__law_signed : DC := ⟨"_law_signed", ["pairs"], ["pairs", "plus", "one", "sign"], defArgs (top 31), defBody (top 31), defScope (top 31), false, 0, b__law_signed⟩
theorem ok__law_signed : D__law_signed.Ok T fn tf := ⟨List.mem_of_getElem? (i := 20) rfl, s__law_signed, (fun h => nomatch h), c__law_signed, bd__law_signed⟩
def D__law_deep : DC := ⟨"_law_deep", ["hand"], ["hand", "thing", "lap"], defArgs (top 32), defBody (top 32), defScope (top 32), false, 1, b__law_deep⟩
theorem ok__law_deep : D__law_deep.Ok T fn tf := ⟨List.mem_of_getElem? (i := 21) rfl, s__law_deep, (fun h => nomatch h), c__law_deep, bd__law_deep⟩
def D__law_row : DC := ⟨"_law_row", ["hand", "many"], ["hand", "many", "one"], defArgs (top 34), defBody (top 34), defScope (top 34), false, 1, b__law_row⟩
theorem ok__law_row : D__law_row.Ok T fn tf := ⟨List.mem_of_getElem? (i := 23) rfl, s__law_row, (fun h => nomatch h), c__law_row, bd__law_row⟩
def D__law_is_right : DC := ⟨"_law_is_right", ["hand"], ["hand", "many", "one", "other", "third", "lot", "thing", "sign", "due", "mine", "its"], defArgs (top 35), defBody (top 35), defScope (top 35), false, 7, b__law_is_right⟩
theorem ok__law_is_right : D__law_is_right.Ok T fn tf := ⟨List.mem_of_getElem? (i := 24) rfl, s__law_is_right, (fun h => nomatch h), c__law_is_right, bd__law_is_right⟩
def D__law_are_refused : DC := ⟨"_law_are_refused", ["hand"], ["hand", "many", "row", "bad", "none", "lots", "lot", "longer", "words", "ask"], defArgs (top 36), defBody (top 36), defScope (top 36), true, 9, b__law_are_refused⟩
theorem ok__law_are_refused : D__law_are_refused.Ok T fn tf := ⟨List.mem_of_getElem? (i := 25) rfl, s__law_are_refused, (fun _ => ⟨List.mem_of_getElem? (i := 0) rfl, List.mem_of_getElem? (i := 0) rfl⟩), c__law_are_refused, bd__law_are_refused⟩
def D_law : DC := ⟨"law", ["script"], ["script", "hand", "lap"], defArgs (top 37), defBody (top 37), defScope (top 37), false, 10, b_law⟩
theorem ok_law : D_law.Ok T fn tf := ⟨List.mem_of_getElem? (i := 26) rfl, s_law, (fun h => nomatch h), c_law, bd_law⟩
def ds : List DC := [D_is_integer, D_is_between, D_is_lot, D_are_signs, D_is_signed, D_row_by, D_row_of, D_is_row, D_check_row, D_lot_of, D_check_rows, D_laid_on, D_put_on, D_parting, D_parted, D_alike_in, D_alike, D__law_hand, D__law_draw, D__law_any, D__law_signed, D__law_deep, D__law_row, D__law_is_right, D__law_are_refused, D_law]
theorem okD : ∀ d ∈ ds, d.Ok T fn tf := okD_cons ok_is_integer <| okD_cons ok_is_between <| okD_cons ok_is_lot <| okD_cons ok_are_signs <| okD_cons ok_is_signed <| okD_cons ok_row_by <| okD_cons ok_row_of <| okD_cons ok_is_row <| okD_cons ok_check_row <| okD_cons ok_lot_of <| okD_cons ok_check_rows <| okD_cons ok_laid_on <| okD_cons ok_put_on <| okD_cons ok_parting <| okD_cons ok_parted <| okD_cons ok_alike_in <| okD_cons ok_alike <| okD_cons ok__law_hand <| okD_cons ok__law_draw <| okD_cons ok__law_any <| okD_cons ok__law_signed <| okD_cons ok__law_deep <| okD_cons ok__law_row <| okD_cons ok__law_is_right <| okD_cons ok__law_are_refused <| okD_cons ok_law <| okD_nil
def H__law_word : HC := ⟨"_law_word", "call", ["call", "word", "error", "flags"], defArgs (top 33), defBody (top 33), defScope (top 33), 0, b__law_word⟩
theorem hok__law_word : H__law_word.Ok T fn := ⟨List.mem_of_getElem? (i := 22) rfl, s__law_word, rfl, .inl (by decide +kernel), ⟨by decide +kernel, by decide +kernel⟩, c__law_word, bd__law_word⟩
def hs : List HC := [H__law_word]
theorem okH : ∀ d ∈ hs, d.Ok T fn := okH_cons hok__law_word <| okH_nil
theorem eT : T.fns = ds.map fun d => (d.x, d.ps.length, d.lv + 1) := rfl
theorem eH : T.lams = hs.map fun d => (d.x, d.lv + 1) := rfl
def ov (k : Nat) : Option (List PV → Store → Res PV) := match k with
  | 0 => some f0
  | 1 => some f1
  | 2 => some f2
  | 3 => some f3
  | 4 => some f4
  | _ => none
noncomputable abbrev S0 : Sig := sigL (txb T ds hs ov) 30
theorem hB : (txb T ds hs ov).ok = true := by decide +kernel
theorem hA : (txb T ds hs ov).Ar := txb_ar eT
theorem okO : OvOk T ds hs ov 30 := by
  intro k d f hd ho args st h1 h2 h3
  match k, hd, ho with
  | 0, hd, ho => cases hd; cases ho; exact g0 h1 h2 h3
  | 1, hd, ho => cases hd; cases ho; exact g1 (sigL_ov (txb T ds hs ov) (k := 0) rfl 30) h1 h2 h3
  | 2, hd, ho => cases hd; cases ho; exact g2 (sigL_ov (txb T ds hs ov) (k := 1) rfl 30) h1 h2 h3
  | 3, hd, ho => cases hd; cases ho; exact g3 (sigL_ov (txb T ds hs ov) (k := 1) rfl 30) h1 h2 h3
  | 4, hd, ho => cases hd; cases ho; exact g4 (sigL_ov (txb T ds hs ov) (k := 2) rfl 30) h1 h2 h3
  | k + 5, hd, ho => cases ho
theorem self {k : Nat} {d : DefB} (hd : (txb T ds hs ov).ds[k]? = some d) (ho : ov k = none) (hl : d.lv ≤ 29) : Self S0 k d.n d.tb d.lv d.body := sigL_self (txb T ds hs ov) hB hA hd ho hl
theorem ises (c : Nat) (h : c < 5) : S0.ise c = true := by
  rw [(sigL_fields (txb T ds hs ov) 30).2.2.1]
  exact decide_eq_true h
theorem good : GoodL S0 where
  e0 := sigL_ov (txb T ds hs ov) (k := 0) rfl 30
  e1 := sigL_ov (txb T ds hs ov) (k := 1) rfl 30
  e2 := sigL_ov (txb T ds hs ov) (k := 2) rfl 30
  e3 := sigL_ov (txb T ds hs ov) (k := 3) rfl 30
  e4 := sigL_ov (txb T ds hs ov) (k := 4) rfl 30
  e5 := self (k := 5) rfl rfl (by decide)
  e6 := self (k := 6) rfl rfl (by decide)
  e7 := self (k := 7) rfl rfl (by decide)
  e8 := self (k := 8) rfl rfl (by decide)
  e9 := self (k := 9) rfl rfl (by decide)
  e10 := self (k := 10) rfl rfl (by decide)
  e11 := self (k := 11) rfl rfl (by decide)
  e12 := self (k := 12) rfl rfl (by decide)
  e13 := self (k := 13) rfl rfl (by decide)
  e14 := self (k := 14) rfl rfl (by decide)
  e15 := self (k := 15) rfl rfl (by decide)
  e16 := self (k := 16) rfl rfl (by decide)
  e17 := self (k := 17) rfl rfl (by decide)
  e18 := self (k := 18) rfl rfl (by decide)
  e19 := self (k := 19) rfl rfl (by decide)
  e20 := self (k := 20) rfl rfl (by decide)
  e21 := self (k := 21) rfl rfl (by decide)
  e22 := self (k := 22) rfl rfl (by decide)
  e23 := self (k := 23) rfl rfl (by decide)
  e24 := self (k := 24) rfl rfl (by decide)
  i1 := ises 1 (by decide)
  i2 := ises 2 (by decide)
  i3 := ises 3 (by decide)
  i4 := ises 4 (by decide)
  el := ⟨sigL (txb T ds hs ov) 29, rfl, rfl, fun r st => sigL_lamE (txb T ds hs ov) (d := H__law_word.toB) rfl r st⟩
  i0 := ises 0 (by decide)
  sub := fun c k => rfl
  ar := ⟨rfl, rfl, rfl⟩
theorem fin (ns : List Int) (h1 : ns.length ≤ 63) (h2 : ∀ z ∈ ns, Builtin.Int.intBits z ≤ 1048576) : ∃ st, S0.fn 25 [.ref 0] [.frz (ns.map PV.int)] = .ok (.bl true) st :=
  l25 good (self (k := 25) rfl rfl (by decide)) ns h1 fun z hz => bits_log (h2 z hz)
end L_k11
open PySem PySem.W PySem.Calls PyProof.Rows
theorem PySem.Challenge.cw_signlots_k11_whole_rows_of_signs_holds : PySem.Challenge.rw_signlots_k11_whole_rows_of_signs.Holds := by
  w_on; o_law
  refine HandSHeadRun.head_any (r := OpenLaw.row PySem.Challenge.rw_signlots_k11_whole_rows_of_signs) (q := view (OpenLaw.row PySem.Challenge.rw_signlots_k11_whole_rows_of_signs).prog [37]) (H := L_k11.hk) (ob := L_k11.ob) (M := 3000) (loose := L_k11.names) (d := HandSHeadRun.topDef (OpenLaw.row PySem.Challenge.rw_signlots_k11_whole_rows_of_signs).prog 37) (kwd := []) L_k11.ob_eq
    (by kernel_rfl) (fun s => by kernel_rfl) L_k11.run (by kernel_rfl) (by kernel_rfl) (by kernel_rfl) (by rfl) (by first | assumption | decide +kernel) (by decide +kernel) ⟨rfl, rfl, rfl, rfl, rfl, by decide +kernel⟩ ?hw ?hc
  case hw => w_witness2
  case hc =>
    refine MP.walk_ofG (l := PySem.Challenge.rw_signlots_k11_whole_rows_of_signs) (n := 63) (k := 11) (x := "script") rfl (by decide) (by kernel_rfl) ⟨rfl, by decide, by decide⟩ ?F
    intro w mg fa h Y G hmg0
    obtain ⟨K, KX, c⟩ := Y
    have hmg : mg ("law" : PySem.Str) = some (.ref fa) := by
      have e : (HandSHeadRun.topDef (OpenLaw.row PySem.Challenge.rw_signlots_k11_whole_rows_of_signs).prog 37).name = ("law" : PySem.Str) := by kernel_rfl
      rw [← e]
      exact hmg0
    exact MP.law_all (T := L_k11.T) (fn := L_k11.fn) (tf := L_k11.tf) (ds := L_k11.ds) (hs := L_k11.hs) (ov := L_k11.ov) (L := 29) (k := 25) (d := L_k11.D_law) (y := "script") KX G c hmg (by decide)
      (fun x hx y hy _ => (List.mem_singleton.mp hy).trans (List.mem_singleton.mp hx).symm) (fun x hx => by cases List.mem_singleton.mp hx; exact List.mem_cons_self ..) L_k11.eT L_k11.eH L_k11.okD L_k11.okH L_k11.okO rfl rfl L_k11.fin
